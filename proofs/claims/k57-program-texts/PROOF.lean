import PyProof.Rows.All
import Wide.All
import OpenK.AllK
import Wide.FinOn
import HandS.Base
import HandS.Call
import HandS.List
import HandS.Comp
import HandS.Ends
import HandS.Text
import HandS.TupAny
import HandS.Wide
import HandS.Words
import HandS.WordsList
import HandS.Exc
import HandS.ExcOwn
import HandS.WordsExc
import HandS.Style
import HandS.Deep
import HandS.IsInst
import HandS.FStr
import HandS.RaiseMore
import HandS.Flow
import HandS.WordsDict
import HandS.Iter
import HandS.Walk
import HandS.More
import HandS.Zip
import KE.GoesEnum
import KE.GoesMore
import HandS.Defaults
import HandS.HeadHook1
import HandS.HeadHook2
import HandS.HeadEnd
import HandS.Head2
import Lean
import PySem.Challenge.RW_shallowsums_k57_program_texts
set_option Elab.async false
set_option linter.all false
set_option maxRecDepth 100000
set_option maxHeartbeats 2000000
/-! VsD: data by value, and what Python's operations do with them; no heap here. -/
namespace Vs
open PySem L2

/-- data by value; the flag of a list, dict, instance: true where it is owned (may be changed), false where it is shared -/
inductive D where
  | non | bl (b : Bool) | int (i : Int) | str (x : Str)
  | tup (xs : List D)
  | lst (o : Bool) (xs : List D)
  | dic (o : Bool) (ks : List Key) (vs : List D)
  | dit (o : Bool) (ks : List (List Key)) (vs : List D)
  | obj (o : Bool) (c : Str) (ns : List Str) (vs : List D)
  | scr (ns : List Int)
  | ty (n : String) | cls (c : Str)
deriving Inhabited

/-- an answer: a value, an error of an own class with its fields, or no answer -/
inductive R (α : Type) where
  | ok (a : α) | exc (c : Str) (fs : List (Str × D)) | stk
namespace R
def bind {α β : Type} (x : R α) (f : α → R β) : R β := match x with
  | .ok a => f a
  | .exc c fs => .exc c fs
  | .stk => .stk
instance : Monad R where
  pure := .ok
  bind := R.bind
end R
theorem bind_ok {α β : Type} (a : α) (f : α → R β) : (R.ok a >>= f) = f a := rfl
theorem bind_exc {α β : Type} (c : Str) (fs : List (Str × D)) (f : α → R β) : ((R.exc c fs : R α) >>= f) = .exc c fs := rfl
theorem bind_stk {α β : Type} (f : α → R β) : ((R.stk : R α) >>= f) = .stk := rfl
theorem bind_eq {α β : Type} (x : R α) (f : α → R β) : (x >>= f) = R.bind x f := rfl
theorem pure_eq {α : Type} (x : α) : (pure x : R α) = .ok x := rfl

mutual
def frz : D → D
  | .tup xs => .tup (frzs xs)
  | .lst _ xs => .lst false (frzs xs)
  | .dic _ ks vs => .dic false ks (frzs vs)
  | .dit _ ks vs => .dit false ks (frzs vs)
  | .obj _ c ns vs => .obj false c ns (frzs vs)
  | d => d
def frzs : List D → List D
  | [] => []
  | d :: ds => frz d :: frzs ds
end
mutual
/-- is there a shared list, dict, instance in it -/
def hasFz : D → Bool
  | .scr _ => true
  | .tup xs => hasFzs xs
  | .lst o xs => !o || hasFzs xs
  | .dic o _ vs => !o || hasFzs vs
  | .dit o _ vs => !o || hasFzs vs
  | .obj o _ _ vs => !o || hasFzs vs
  | _ => false
def hasFzs : List D → Bool
  | [] => false
  | d :: ds => hasFz d || hasFzs ds
end

abbrev Env := List (Option D)

/-! ### sizes -/
def SZ : Nat := 100000
/-! ### displays -/
def mkTup (ds : List D) : R D := if ds.length ≤ SZ then .ok (.tup ds) else .stk
def mkLst (ds : List D) : R D := if ds.length ≤ SZ then .ok (.lst true ds) else .stk
def ld (i : Nat) : Env → R D := fun env => match env[i]? with
  | some (some d) => .ok (frz d)
  | _ => .stk
/-! ### numbers -/
def dAdd : D → D → R D
  | .int i, .int j => .ok (.int (i + j))
  | .str a, .str b => if a.length + b.length ≤ SZ then .ok (.str (a ++ b)) else .stk
  | .lst _ xs, .lst _ ys => if xs.length + ys.length ≤ SZ then .ok (.lst true (xs ++ ys)) else .stk
  | .tup xs, .tup ys => if xs.length + ys.length ≤ SZ then .ok (.tup (xs ++ ys)) else .stk
  | _, _ => .stk
def dSub : D → D → R D
  | .int i, .int j => .ok (.int (i - j))
  | _, _ => .stk
/-- both below 2 ^ 4000, or one of them below 2 ^ 64 -/
def mulOk (i j : Int) : Prop := (i.natAbs < 2 ^ 4000 ∧ j.natAbs < 2 ^ 4000)
instance (i j : Int) : Decidable (mulOk i j) := by unfold mulOk; infer_instance
def dMul : D → D → R D
  | .int i, .int j => if mulOk i j then .ok (.int (i * j)) else .stk
  | .lst _ xs, .int k => if 0 ≤ k ∧ k ≤ 1000 ∧ xs.length * k.toNat ≤ SZ then .ok (.lst true (frzs (List.replicate k.toNat xs).flatten)) else .stk
  | _, _ => .stk
/-- // and % by a positive divisor below 2 ^ 8000 -/
def dDiv : D → D → R D
  | .int i, .int j => if 0 < j ∧ j.natAbs < 2 ^ 8000 then .ok (.int (i / j)) else .stk
  | _, _ => .stk
def dMod : D → D → R D
  | .int i, .int j => if 0 < j then .ok (.int (i % j)) else .stk
  | _, _ => .stk
def dPow : D → D → R D
  | .int i, .int j => if 0 ≤ j ∧ j ≤ 1000 ∧ i.natAbs < 2 ^ 64 then .ok (.int (i ^ j.toNat)) else .stk
  | _, _ => .stk
def dNeg : D → R D
  | .int i => .ok (.int (-i))
  | _ => .stk
/-! ### comparisons -/
def dLt : D → D → R D
  | .int i, .int j => .ok (.bl (decide (i < j)))
  | _, _ => .stk
def dLe : D → D → R D
  | .int i, .int j => .ok (.bl (decide (i ≤ j)))
  | _, _ => .stk
def dGt : D → D → R D
  | .int i, .int j => .ok (.bl (decide (j < i)))
  | _, _ => .stk
def dGe : D → D → R D
  | .int i, .int j => .ok (.bl (decide (j ≤ i)))
  | _, _ => .stk
mutual
/-- plain data, for == -/
def pd : D → Option PyData
  | .non => some .none
  | .bl b => some (.bool b)
  | .int i => some (.int i)
  | .str x => some (.str x)
  | .tup xs => (pds xs).map .tuple
  | .lst _ xs => (pds xs).map .list
  | _ => none
def pds : List D → Option (List PyData)
  | [] => some []
  | d :: ds => match pd d, pds ds with
    | some x, some xs => some (x :: xs)
    | _, _ => none
end
def dEqv (x y : D) : Option Bool := match pd x, pd y with
  | some a, some b => if SeqAt.shaped a = true ∧ SeqAt.shaped b = true then some (PyData.eqv a b) else none
  | _, _ => none
def dEq : D → D → R D
  | .int i, .int j => .ok (.bl (decide (i = j)))
  | .str x, .str y => .ok (.bl (decide (x = y)))
  | x, y => match dEqv x y with
    | some b => .ok (.bl b)
    | none => .stk
def dNe : D → D → R D
  | .int i, .int j => .ok (.bl (!decide (i = j)))
  | .str x, .str y => .ok (.bl (!decide (x = y)))
  | x, y => match dEqv x y with
    | some b => .ok (.bl (!b))
    | none => .stk
def isNon : D → Bool
  | .non => true
  | _ => false
def isBl (b : Bool) : D → Bool
  | .bl c => c == b
  | _ => false
/-- x is None, x is True -/
def dIs : D → D → R D
  | x, .non => .ok (.bl (isNon x))
  | x, .bl b => .ok (.bl (isBl b x))
  | _, _ => .stk
def dIsNot : D → D → R D
  | x, .non => .ok (.bl (!isNon x))
  | x, .bl b => .ok (.bl (!isBl b x))
  | _, _ => .stk
def fl : D → Option V
  | .non => some .non
  | .bl b => some (.bl b)
  | .int i => some (.int i)
  | .str x => some (.str x)
  | _ => none
def fls : List D → Option (List V)
  | [] => some []
  | d :: ds => match fl d, fls ds with
    | some x, some xs => some (x :: xs)
    | _, _ => none
def anyEqv (d : PyData) (ds : List PyData) : Bool := ds.any fun z => PyData.eqv z d
/-- a number or text in a list, a text in a text -/
def dIn : D → D → R D
  | .str x, .str y => .ok (.bl (!(Builtin.Str.occurrences y x 0 y.length 1).isEmpty))
  | x, .lst _ ys => match pd x, pds ys with
    | some d, some ds => if SeqAt.shaped d = true ∧ SeqAt.shaped (.list ds) = true then .ok (.bl (anyEqv d ds)) else .stk
    | _, _ => .stk
  | x, .tup ys => match fl x, fls ys with
    | some d, some ds => .ok (.bl (inV d ds))
    | _, _ => .stk
  | _, _ => .stk
def dNotIn (x y : D) : R D := match dIn x y with
  | .ok (.bl b) => .ok (.bl (!b))
  | _ => .stk
def asB : D → R Bool
  | .bl b => .ok b
  | _ => .stk
def dNot : D → R D
  | .bl b => .ok (.bl (!b))
  | _ => .stk
/-- the truth of a value -/
def dTru : D → R Bool
  | .non => .ok false
  | .bl b => .ok b
  | .int i => .ok (i != 0)
  | .str x => if x.length ≤ SZ then .ok ((x.length : Int) != 0) else .stk
  | .lst _ xs => .ok (!xs.isEmpty)
  | .tup xs => .ok (!xs.isEmpty)
  | .dic _ ks _ => .ok (!ks.isEmpty)
  | _ => .stk
/-! ### items, slices -/
def dIx : D → D → R D
  | .lst _ xs, .int i => match atI xs i with
    | some d => .ok d
    | none => .stk
  | .tup xs, .int i => match atI xs i with
    | some d => .ok d
    | none => .stk
  | .scr ns, .int i => match atI ns i with
    | some n => .ok (.int n)
    | none => .stk
  | .str z, .int i => if z.length ≤ SZ then (match atI z.cps.toList i with
    | some c => .ok (.str ⟨#[c]⟩)
    | none => .stk) else .stk
  | _, _ => .stk
def cut {α : Type} (xs : List α) (lo hi : Option Int) : List α := (xs.drop (HT.sIx xs.length 0 lo)).take (HT.sIx xs.length xs.length hi - HT.sIx xs.length 0 lo)
def dSl (d : D) (lo hi : Option Int) : R D := match d with
  | .lst _ xs => .ok (.lst true (cut xs lo hi))
  | .tup xs => .ok (.tup (cut xs lo hi))
  | .str z => if z.length ≤ SZ then .ok (.str (cutS z lo hi)) else .stk
  | _ => .stk
def asI : D → R (Option Int)
  | .int i => .ok (some i)
  | _ => .stk
/-! ### built-in functions -/
def dLen : List D → R D
  | [.lst _ xs] => .ok (.int xs.length)
  | [.tup xs] => .ok (.int xs.length)
  | [.scr xs] => .ok (.int xs.length)
  | [.str z] => if z.length ≤ SZ then .ok (.int z.length) else .stk
  | [.dic _ ks _] => .ok (.int ks.length)
  | _ => .stk
def dInt : List D → R D
  | [.int i] => .ok (.int i)
  | [.bl b] => .ok (.int (if b then 1 else 0))
  | [.str z] => if z.length ≤ 640 then (match PySem.intText? z with
    | some n => .ok (.int n)
    | none => .stk) else .stk
  | _ => .stk
def strI (i : Int) : Str := toString i
def dStr : List D → R D
  | [.int i] => if i.natAbs.log2 < 1920 then .ok (.str (strI i)) else .stk
  | [.str z] => if z.length ≤ SZ then .ok (.str z) else .stk
  | _ => .stk
def dListOf : List D → R D
  | [.lst _ xs] => .ok (.lst true xs)
  | [.tup xs] => .ok (.lst true xs)
  | [.scr ns] => .ok (.lst true (ns.map .int))
  | _ => .stk
def dTupleOf : List D → R D
  | [.lst _ xs] => .ok (.tup xs)
  | [.tup xs] => .ok (.tup xs)
  | [.scr ns] => .ok (.tup (ns.map .int))
  | _ => .stk
def dMax2 : List D → R D
  | [.int i, .int j] => .ok (.int (if j > i then j else i))
  | _ => .stk
def dMin2 : List D → R D
  | [.int i, .int j] => .ok (.int (if j < i then j else i))
  | _ => .stk
def dAbs : List D → R D
  | [.int i] => .ok (.int (if i < 0 then -i else i))
  | _ => .stk
def bools? : List D → Option (List Bool)
  | [] => some []
  | .bl b :: ds => (bools? ds).map (b :: ·)
  | _ => none
def dAll : List D → R D
  | [.lst _ xs] => match bools? xs with
    | some bs => .ok (.bl (bs.all id))
    | none => .stk
  | _ => .stk
def dAny : List D → R D
  | [.lst _ xs] => match bools? xs with
    | some bs => .ok (.bl (bs.any id))
    | none => .stk
  | _ => .stk
def ints? : List D → Option (List Int)
  | [] => some []
  | .int b :: ds => (ints? ds).map (b :: ·)
  | _ => none
def strs? : List D → Option (List Str)
  | [] => some []
  | .str b :: ds => (strs? ds).map (b :: ·)
  | _ => none
def dSum : List D → R D
  | [.lst _ xs] => match ints? xs with
    | some ns => .ok (.int ns.sum)
    | none => .stk
  | _ => .stk
def tyN : D → Option String
  | .non => some "NoneType"
  | .bl _ => some "bool"
  | .int _ => some "int"
  | .str _ => some "str"
  | .tup _ => some "tuple"
  | .lst _ _ => some "list"
  | .scr _ => some "list"
  | .dic _ _ _ => some "dict"
  | .dit _ _ _ => some "dict"
  | _ => none
def kitN (a b : String) : Option Bool := if (Value.type a == Value.type b) = true then some true else if PySem.W.kitMeta b = true then (PySem.fastBuiltinMro a).map (·.contains (Value.type b)) else none
def dIsi (cl : List Str) : List D → R D
  | [.obj _ c _ _, .cls c'] => if c = c' ∧ c ∈ cl then .ok (.bl true) else .stk
  | [x, .ty T] => match tyN x with
    | some n => (match kitN n T with
      | some b => .ok (.bl b)
      | none => .stk)
    | none => .stk
  | _ => .stk
/-! ### methods of texts -/
def dJoin : D → List D → R D
  | .str a, [.lst _ xs] => match strs? xs with
    | some ys => if (ys.map (·.length)).sum + ys.length * a.length ≤ SZ then .ok (.str (Txt.join a ys)) else .stk
    | none => .stk
  | .str a, [.tup xs] => match strs? xs with
    | some ys => if (ys.map (·.length)).sum + ys.length * a.length ≤ SZ then .ok (.str (Txt.join a ys)) else .stk
    | none => .stk
  | _, _ => .stk
def dSplit : D → List D → R D
  | .str a, [.str b] => if (b.length == 0) = false ∧ a.length + 2 ≤ SZ then .ok (.lst true ((Txt.split a b).map .str)) else .stk
  | _, _ => .stk
/-- f-strings: the text of a value -/
def dFmt : D → R Str
  | .str y => if y.length ≤ SZ then .ok y else .stk
  | .int i => if i.natAbs.log2 < 1920 then .ok (strI i) else .stk
  | _ => .stk
end Vs
set_option maxHeartbeats 2000000
/-! Vs0: data by value over the hand layer: what a value of the heap stands for (Rep), who owns which list. -/
namespace Vs
open PySem L2

/-- where the module stands -/
structure Wd where
  K : PySem.W.Frag
  mg : Str → Option Value

def kvK (ks : List Key) (vs : List V) : List (Key × V) := ks.zip vs
def kvT (ks : List (List Key)) (vs : List V) : List (List Key × V) := ks.zip vs

def Sc (K : PySem.W.Frag) (H : Hp) (Z : Addr → Prop) (a : Addr) (xs : List V) : Prop :=
  (Z a ∧ H a = some (.lst xs)) ∨ (∃ o, H a = some (.frz o (.lst xs))) ∨
  (∃ (o : Obj) (its : Array Value) (n : Nat), K.lookup a = some o ∧ o.cls = .type "list" ∧ o.dict = none ∧ o.data = .seq its n ∧ its.size ≤ sizeLine ∧ Vals xs its.toList)

mutual
/-- v stands for d in the heap H; Z: what is shared and stays; F: what it owns -/
def Rep (w : Wd) (H : Hp) (Z : Addr → Prop) : D → V → List Addr → Prop
  | .non, v, F => v = .non ∧ F = []
  | .bl b, v, F => v = .bl b ∧ F = []
  | .int i, v, F => v = .int i ∧ F = []
  | .str x, v, F => v = .str x ∧ F = []
  | .tup ds, v, F => ∃ a vs, v = .ref a ∧ SqT w.K H a vs ∧ Reps w H Z ds vs F
  | .lst o ds, v, F => ∃ a vs F', v = .ref a ∧ H a = some (.lst vs) ∧ (if o then F = a :: F' else (Z a ∧ F = [] ∧ F' = [])) ∧ Reps w H Z ds vs F'
  | .dic o ks ds, v, F => ∃ a vs F', v = .ref a ∧ H a = some (.dK (kvK ks vs)) ∧ ks.length = ds.length ∧ (if o then F = a :: F' else (Z a ∧ F = [] ∧ F' = [])) ∧ Reps w H Z ds vs F'
  | .dit o ks ds, v, F => ∃ a vs F', v = .ref a ∧ H a = some (.dT (kvT ks vs)) ∧ ks.length = ds.length ∧ (if o then F = a :: F' else (Z a ∧ F = [] ∧ F' = [])) ∧ Reps w H Z ds vs F'
  | .obj o c ns ds, v, F => ∃ a C dx vs F', v = .ref a ∧ w.mg c = some (.ref C) ∧ H a = some (.ins C dx (ns.zip vs)) ∧ H dx = some (.own a) ∧ ns.length = ds.length ∧
      (if o then F = a :: dx :: F' else (Z a ∧ Z dx ∧ F = [] ∧ F' = [])) ∧ Reps w H Z ds vs F'
  | .scr ns, v, F => ∃ a, v = .ref a ∧ F = [] ∧ Sc w.K H Z a (ns.map V.int)
  | .ty n, v, F => v = .ty n ∧ F = []
  | .cls c, v, F => (∃ C, w.mg c = some (.ref C) ∧ v = .ref C) ∧ F = []
def Reps (w : Wd) (H : Hp) (Z : Addr → Prop) : List D → List V → List Addr → Prop
  | [], vs, F => vs = [] ∧ F = []
  | d :: ds, vs, F => ∃ v r F1 F2, vs = v :: r ∧ F = F1 ++ F2 ∧ Rep w H Z d v F1 ∧ Reps w H Z ds r F2
end

def Ex (H H' : Hp) : Prop := ∀ a o, H a = some o → H' a = some o
theorem Ex.refl (H : Hp) : Ex H H := fun _ _ h => h
theorem Ex.trans {H H1 H2 : Hp} (a : Ex H H1) (b : Ex H1 H2) : Ex H H2 := fun x o h => b x o (a x o h)
theorem Ex.new {H : Hp} {p : Addr} {o : HO} (h : H p = none) : Ex H (upd H p o) := fun a u e => by
  rw [upd_ne (ne_of_none e h)]
  exact e
theorem Ex.back {H H' : Hp} (e : Ex H H') {p : Addr} (h : H' p = none) : H p = none := by
  cases h1 : H p with
  | none => rfl
  | some o =>
    rw [e p o h1] at h
    cases h
theorem Ex.some {H H' : Hp} (e : Ex H H') {p : Addr} (h : H p ≠ none) : H' p ≠ none := fun z => h (e.back z)
/-- an object that H does not know may change -/
theorem Ex.mut {H H' : Hp} {p : Addr} {o : HO} (e : Ex H H') (h : H p = none) : Ex H (upd H' p o) := fun a u ha => by
  rw [upd_ne (ne_of_none ha h)]
  exact e a u ha

/-- what stays where owned things change: all but what may be changed -/
def Tu : HO → Prop
  | .tup _ => True
  | .frz _ _ => True
  | _ => False

theorem sqT_stay {K : PySem.W.Frag} {H H' : Hp} {a : Addr} {xs : List V} (h : SqT K H a xs) (k : ∀ o, H a = some o → Tu o → H' a = some o) : SqT K H' a xs := by
  rcases h with (h | ⟨o, h⟩) | h
  · exact .inl (.inl (k _ h trivial))
  · exact .inl (.inr ⟨o, k _ h trivial⟩)
  · exact .inr h

mutual
theorem Rep.stay {w : Wd} {H H' : Hp} {Z Z' : Addr → Prop} : ∀ {d : D} {v : V} {F : List Addr}, Rep w H Z d v F → (∀ a, Z a → Z' a) → (∀ a o, H a = some o → (Z a ∨ a ∈ F ∨ Tu o) → H' a = some o) → Rep w H' Z' d v F
  | .non, _, _, h, _, _ => h
  | .bl _, _, _, h, _, _ => h
  | .int _, _, _, h, _, _ => h
  | .str _, _, _, h, _, _ => h
  | .ty _, _, _, h, _, _ => h
  | .cls _, _, _, h, _, _ => h
  | .tup ds, v, F, ⟨a, vs, e, s, r⟩, z, k => ⟨a, vs, e, sqT_stay s fun o q t => k a o q (.inr (.inr t)), Reps.stay r z k⟩
  | .lst o ds, v, F, ⟨a, vs, F', e, s, f, r⟩, z, k => by
    cases o with
    | true =>
      obtain rfl : F = a :: F' := f
      exact ⟨a, vs, F', e, k a _ s (.inr (.inl (List.mem_cons_self ..))), rfl, Reps.stay r z fun b o q t => k b o q (t.imp id (Or.imp (List.mem_cons_of_mem _) id))⟩
    | false =>
      obtain ⟨f1, rfl, rfl⟩ : Z a ∧ F = [] ∧ F' = [] := f
      exact ⟨a, vs, [], e, k a _ s (.inl f1), ⟨z _ f1, rfl, rfl⟩, Reps.stay r z k⟩
  | .dic o ks ds, v, F, ⟨a, vs, F', e, s, l, f, r⟩, z, k => by
    cases o with
    | true =>
      obtain rfl : F = a :: F' := f
      exact ⟨a, vs, F', e, k a _ s (.inr (.inl (List.mem_cons_self ..))), l, rfl, Reps.stay r z fun b o q t => k b o q (t.imp id (Or.imp (List.mem_cons_of_mem _) id))⟩
    | false =>
      obtain ⟨f1, rfl, rfl⟩ : Z a ∧ F = [] ∧ F' = [] := f
      exact ⟨a, vs, [], e, k a _ s (.inl f1), l, ⟨z _ f1, rfl, rfl⟩, Reps.stay r z k⟩
  | .dit o ks ds, v, F, ⟨a, vs, F', e, s, l, f, r⟩, z, k => by
    cases o with
    | true =>
      obtain rfl : F = a :: F' := f
      exact ⟨a, vs, F', e, k a _ s (.inr (.inl (List.mem_cons_self ..))), l, rfl, Reps.stay r z fun b o q t => k b o q (t.imp id (Or.imp (List.mem_cons_of_mem _) id))⟩
    | false =>
      obtain ⟨f1, rfl, rfl⟩ : Z a ∧ F = [] ∧ F' = [] := f
      exact ⟨a, vs, [], e, k a _ s (.inl f1), l, ⟨z _ f1, rfl, rfl⟩, Reps.stay r z k⟩
  | .obj o c ns ds, v, F, ⟨a, C, dx, vs, F', e, m, s, s2, l, f, r⟩, z, k => by
    cases o with
    | true =>
      obtain rfl : F = a :: dx :: F' := f
      exact ⟨a, C, dx, vs, F', e, m, k a _ s (.inr (.inl (List.mem_cons_self ..))), k dx _ s2 (.inr (.inl (List.mem_cons_of_mem _ (List.mem_cons_self ..)))), l, rfl,
        Reps.stay r z fun b o q t => k b o q (t.imp id (Or.imp (fun z => List.mem_cons_of_mem _ (List.mem_cons_of_mem _ z)) id))⟩
    | false =>
      obtain ⟨f1, f2, rfl, rfl⟩ : Z a ∧ Z dx ∧ F = [] ∧ F' = [] := f
      exact ⟨a, C, dx, vs, [], e, m, k a _ s (.inl f1), k dx _ s2 (.inl f2), l, ⟨z _ f1, z _ f2, rfl, rfl⟩, Reps.stay r z k⟩
  | .scr ns, v, F, ⟨a, e, f, s⟩, z, k => by
    refine ⟨a, e, f, ?_⟩
    rcases s with ⟨s1, s2⟩ | ⟨o, s⟩ | s
    · exact .inl ⟨z _ s1, k a _ s2 (.inl s1)⟩
    · exact .inr (.inl ⟨o, k a _ s (.inr (.inr trivial))⟩)
    · exact .inr (.inr s)
theorem Reps.stay {w : Wd} {H H' : Hp} {Z Z' : Addr → Prop} : ∀ {ds : List D} {vs : List V} {F : List Addr}, Reps w H Z ds vs F → (∀ a, Z a → Z' a) → (∀ a o, H a = some o → (Z a ∨ a ∈ F ∨ Tu o) → H' a = some o) → Reps w H' Z' ds vs F
  | [], _, _, h, _, _ => h
  | d :: ds, vs, F, ⟨v, r, F1, F2, e, f, h1, h2⟩, z, k => by
    subst f
    exact ⟨v, r, F1, F2, e, rfl, Rep.stay h1 z fun a o q t => k a o q (t.imp id (Or.imp (List.mem_append_left _) id)), Reps.stay h2 z fun a o q t => k a o q (t.imp id (Or.imp (List.mem_append_right _) id))⟩
end
section
variable {w : Wd} {H H' : Hp} {Z Z' : Addr → Prop} {d : D} {v : V} {F : List Addr} {ds : List D} {vs : List V}
theorem Rep.ex (h : Rep w H Z d v F) (e : Ex H H') : Rep w H' Z d v F := h.stay (fun _ z => z) fun a o q _ => e a o q
theorem Reps.ex (h : Reps w H Z ds vs F) (e : Ex H H') : Reps w H' Z ds vs F := h.stay (fun _ z => z) fun a o q _ => e a o q
theorem Rep.up (h : Rep w H Z d v F) (z : ∀ a, Z a → Z' a) : Rep w H Z' d v F := h.stay z fun a o q _ => q
theorem Reps.up (h : Reps w H Z ds vs F) (z : ∀ a, Z a → Z' a) : Reps w H Z' ds vs F := h.stay z fun a o q _ => q
end
mutual
/-- what it owns stands in the heap -/
theorem Rep.own {w : Wd} {H : Hp} {Z : Addr → Prop} : ∀ {d : D} {v : V} {F : List Addr}, Rep w H Z d v F → ∀ a ∈ F, ∃ o, H a = some o ∧ ¬ Tu o
  | .non, _, _, ⟨_, f⟩, a, m => by subst f; cases m
  | .bl _, _, _, ⟨_, f⟩, a, m => by subst f; cases m
  | .int _, _, _, ⟨_, f⟩, a, m => by subst f; cases m
  | .str _, _, _, ⟨_, f⟩, a, m => by subst f; cases m
  | .ty _, _, _, ⟨_, f⟩, a, m => by subst f; cases m
  | .cls _, _, _, ⟨_, f⟩, a, m => by subst f; cases m
  | .tup ds, v, F, ⟨_, vs, e, s, r⟩, a, m => Reps.own r a m
  | .lst o ds, v, F, ⟨p, vs, F', e, s, f, r⟩, a, m => by
    cases o with
    | true =>
      obtain rfl : F = p :: F' := f
      rcases List.mem_cons.mp m with rfl | m
      · exact ⟨_, s, fun t => t⟩
      · exact Reps.own r a m
    | false =>
      obtain ⟨f1, rfl, rfl⟩ : Z p ∧ F = [] ∧ F' = [] := f
      cases m
  | .dic o ks ds, v, F, ⟨p, vs, F', e, s, l, f, r⟩, a, m => by
    cases o with
    | true =>
      obtain rfl : F = p :: F' := f
      rcases List.mem_cons.mp m with rfl | m
      · exact ⟨_, s, fun t => t⟩
      · exact Reps.own r a m
    | false =>
      obtain ⟨f1, rfl, rfl⟩ : Z p ∧ F = [] ∧ F' = [] := f
      cases m
  | .dit o ks ds, v, F, ⟨p, vs, F', e, s, l, f, r⟩, a, m => by
    cases o with
    | true =>
      obtain rfl : F = p :: F' := f
      rcases List.mem_cons.mp m with rfl | m
      · exact ⟨_, s, fun t => t⟩
      · exact Reps.own r a m
    | false =>
      obtain ⟨f1, rfl, rfl⟩ : Z p ∧ F = [] ∧ F' = [] := f
      cases m
  | .obj o c ns ds, v, F, ⟨p, C, dx, vs, F', e, mg, s, s2, l, f, r⟩, a, m => by
    cases o with
    | true =>
      obtain rfl : F = p :: dx :: F' := f
      rcases List.mem_cons.mp m with rfl | m
      · exact ⟨_, s, fun t => t⟩
      · rcases List.mem_cons.mp m with rfl | m
        · exact ⟨_, s2, fun t => t⟩
        · exact Reps.own r a m
    | false =>
      obtain ⟨f1, f2, rfl, rfl⟩ : Z p ∧ Z dx ∧ F = [] ∧ F' = [] := f
      cases m
  | .scr ns, v, F, ⟨p, e, f, s⟩, a, m => by subst f; cases m
theorem Reps.own {w : Wd} {H : Hp} {Z : Addr → Prop} : ∀ {ds : List D} {vs : List V} {F : List Addr}, Reps w H Z ds vs F → ∀ a ∈ F, ∃ o, H a = some o ∧ ¬ Tu o
  | [], _, _, ⟨_, f⟩, a, m => by subst f; cases m
  | d :: ds, vs, F, ⟨v, r, F1, F2, e, f, h1, h2⟩, a, m => by
    subst f
    rcases List.mem_append.mp m with m | m
    · exact Rep.own h1 a m
    · exact Reps.own h2 a m
end
theorem Rep.dom {w : Wd} {H : Hp} {Z : Addr → Prop} {d : D} {v : V} {F : List Addr} (r : Rep w H Z d v F) : ∀ a ∈ F, H a ≠ none := fun a m z => by
  obtain ⟨o, h, _⟩ := r.own a m
  rw [z] at h
  cases h
theorem Reps.dom {w : Wd} {H : Hp} {Z : Addr → Prop} {d : List D} {v : List V} {F : List Addr} (r : Reps w H Z d v F) : ∀ a ∈ F, H a ≠ none := fun a m z => by
  obtain ⟨o, h, _⟩ := r.own a m
  rw [z] at h
  cases h
mutual
/-- shared from now on -/
theorem Rep.frz {w : Wd} {H : Hp} {Z Z' : Addr → Prop} : ∀ {d : D} {v : V} {F : List Addr}, Rep w H Z d v F → (∀ a, Z a → Z' a) → (∀ a ∈ F, Z' a) → Rep w H Z' (Vs.frz d) v []
  | .non, _, _, ⟨e, _⟩, _, _ => ⟨e, rfl⟩
  | .bl _, _, _, ⟨e, _⟩, _, _ => ⟨e, rfl⟩
  | .int _, _, _, ⟨e, _⟩, _, _ => ⟨e, rfl⟩
  | .str _, _, _, ⟨e, _⟩, _, _ => ⟨e, rfl⟩
  | .ty _, _, _, ⟨e, _⟩, _, _ => ⟨e, rfl⟩
  | .cls _, _, _, ⟨e, _⟩, _, _ => ⟨e, rfl⟩
  | .tup ds, v, F, ⟨a, vs, e, s, r⟩, z, k => ⟨a, vs, e, s, Reps.frz r z k⟩
  | .lst o ds, v, F, ⟨p, vs, F', e, s, f, r⟩, z, k => by
    cases o with
    | true =>
      obtain rfl : F = p :: F' := f
      exact ⟨p, vs, [], e, s, ⟨k p (List.mem_cons_self ..), rfl, rfl⟩, Reps.frz r z fun a m => k a (List.mem_cons_of_mem _ m)⟩
    | false =>
      obtain ⟨f1, rfl, rfl⟩ : Z p ∧ F = [] ∧ F' = [] := f
      exact ⟨p, vs, [], e, s, ⟨z p f1, rfl, rfl⟩, Reps.frz r z k⟩
  | .dic o ks ds, v, F, ⟨p, vs, F', e, s, l, f, r⟩, z, k => by
    have l' : ks.length = (frzs ds).length := by rw [frzs_length]; exact l
    cases o with
    | true =>
      obtain rfl : F = p :: F' := f
      exact ⟨p, vs, [], e, s, l', ⟨k p (List.mem_cons_self ..), rfl, rfl⟩, Reps.frz r z fun a m => k a (List.mem_cons_of_mem _ m)⟩
    | false =>
      obtain ⟨f1, rfl, rfl⟩ : Z p ∧ F = [] ∧ F' = [] := f
      exact ⟨p, vs, [], e, s, l', ⟨z p f1, rfl, rfl⟩, Reps.frz r z k⟩
  | .dit o ks ds, v, F, ⟨p, vs, F', e, s, l, f, r⟩, z, k => by
    have l' : ks.length = (frzs ds).length := by rw [frzs_length]; exact l
    cases o with
    | true =>
      obtain rfl : F = p :: F' := f
      exact ⟨p, vs, [], e, s, l', ⟨k p (List.mem_cons_self ..), rfl, rfl⟩, Reps.frz r z fun a m => k a (List.mem_cons_of_mem _ m)⟩
    | false =>
      obtain ⟨f1, rfl, rfl⟩ : Z p ∧ F = [] ∧ F' = [] := f
      exact ⟨p, vs, [], e, s, l', ⟨z p f1, rfl, rfl⟩, Reps.frz r z k⟩
  | .obj o c ns ds, v, F, ⟨p, C, dx, vs, F', e, mg, s, s2, l, f, r⟩, z, k => by
    have l' : ns.length = (frzs ds).length := by rw [frzs_length]; exact l
    cases o with
    | true =>
      obtain rfl : F = p :: dx :: F' := f
      exact ⟨p, C, dx, vs, [], e, mg, s, s2, l', ⟨k p (List.mem_cons_self ..), k dx (List.mem_cons_of_mem _ (List.mem_cons_self ..)), rfl, rfl⟩, Reps.frz r z fun a m => k a (List.mem_cons_of_mem _ (List.mem_cons_of_mem _ m))⟩
    | false =>
      obtain ⟨f1, f2, rfl, rfl⟩ : Z p ∧ Z dx ∧ F = [] ∧ F' = [] := f
      exact ⟨p, C, dx, vs, [], e, mg, s, s2, l', ⟨z p f1, z dx f2, rfl, rfl⟩, Reps.frz r z k⟩
  | .scr ns, v, F, ⟨p, e, f, s⟩, z, k => by
    refine ⟨p, e, rfl, ?_⟩
    rcases s with ⟨s1, s2⟩ | s
    · exact .inl ⟨z p s1, s2⟩
    · exact .inr s
theorem Reps.frz {w : Wd} {H : Hp} {Z Z' : Addr → Prop} : ∀ {ds : List D} {vs : List V} {F : List Addr}, Reps w H Z ds vs F → (∀ a, Z a → Z' a) → (∀ a ∈ F, Z' a) → Reps w H Z' (Vs.frzs ds) vs []
  | [], _, _, ⟨e, _⟩, _, _ => ⟨e, rfl⟩
  | d :: ds, vs, F, ⟨v, r, F1, F2, e, f, h1, h2⟩, z, k => by
    subst f
    exact ⟨v, r, [], [], e, rfl, Rep.frz h1 z fun a m => k a (List.mem_append_left _ m), Reps.frz h2 z fun a m => k a (List.mem_append_right _ m)⟩
theorem frzs_length : ∀ (ds : List D), (Vs.frzs ds).length = ds.length
  | [] => rfl
  | d :: ds => congrArg (· + 1) (frzs_length ds)
end
mutual
/-- where nothing is shared, Z does not matter -/
theorem Rep.any {w : Wd} {H : Hp} {Z Z' : Addr → Prop} : ∀ {d : D} {v : V} {F : List Addr}, Rep w H Z d v F → hasFz d = false → Rep w H Z' d v F
  | .non, _, _, h, _ => h
  | .bl _, _, _, h, _ => h
  | .int _, _, _, h, _ => h
  | .str _, _, _, h, _ => h
  | .ty _, _, _, h, _ => h
  | .cls _, _, _, h, _ => h
  | .tup ds, v, F, ⟨a, vs, e, s, r⟩, k => ⟨a, vs, e, s, Reps.any r k⟩
  | .lst true ds, v, F, ⟨p, vs, F', e, s, f, r⟩, k => ⟨p, vs, F', e, s, f, Reps.any r k⟩
  | .lst false ds, v, F, _, k => by cases k
  | .dic true ks ds, v, F, ⟨p, vs, F', e, s, l, f, r⟩, k => ⟨p, vs, F', e, s, l, f, Reps.any r k⟩
  | .dic false ks ds, v, F, _, k => by cases k
  | .dit true ks ds, v, F, ⟨p, vs, F', e, s, l, f, r⟩, k => ⟨p, vs, F', e, s, l, f, Reps.any r k⟩
  | .dit false ks ds, v, F, _, k => by cases k
  | .obj true c ns ds, v, F, ⟨p, C, dx, vs, F', e, mg, s, s2, l, f, r⟩, k => ⟨p, C, dx, vs, F', e, mg, s, s2, l, f, Reps.any r k⟩
  | .obj false c ns ds, v, F, _, k => by cases k
  | .scr ns, v, F, _, k => by cases k
theorem Reps.any {w : Wd} {H : Hp} {Z Z' : Addr → Prop} : ∀ {ds : List D} {vs : List V} {F : List Addr}, Reps w H Z ds vs F → hasFzs ds = false → Reps w H Z' ds vs F
  | [], _, _, h, _ => h
  | d :: ds, vs, F, ⟨v, r, F1, F2, e, f, h1, h2⟩, k => by
    have k' : (hasFz d || hasFzs ds) = false := k
    rw [Bool.or_eq_false_iff] at k'
    exact ⟨v, r, F1, F2, e, f, Rep.any h1 k'.1, Reps.any h2 k'.2⟩
end
end Vs
set_option maxHeartbeats 2000000
/-! Vs1: readings of expressions by data: from the slots' data to the value's data. -/
namespace Vs
open PySem L2

/-- the slots hold what env says; Fs i: what the i-th slot owns -/
structure EnvOk (w : Wd) (H : Hp) (Z : Addr → Prop) (σ : L2.St) (env : Env) (Fs : Nat → List Addr) : Prop where
  rep : ∀ i d, env[i]? = some (some d) → ∃ v, σ[i]? = some (some v) ∧ Rep w H Z d v (Fs i)
  len : env.length = σ.length
  zd : ∀ a, Z a → H a ≠ none
  fd : ∀ i a, a ∈ Fs i → H a ≠ none
  nz : ∀ i a, a ∈ Fs i → ¬ Z a
  nd : ∀ i, (Fs i).Nodup
  dj : ∀ i j a, a ∈ Fs i → a ∈ Fs j → i = j
  nt : ∀ i a o, a ∈ Fs i → H a = some o → ¬ Tu o
theorem EnvOk.ex {w : Wd} {H H' : Hp} {Z : Addr → Prop} {σ : L2.St} {env : Env} {Fs : Nat → List Addr} (h : EnvOk w H Z σ env Fs) (e : Ex H H') : EnvOk w H' Z σ env Fs :=
  ⟨fun i d q => let ⟨v, a, b⟩ := h.rep i d q; ⟨v, a, b.ex e⟩, h.len, fun a z => e.some (h.zd a z), fun i a z => e.some (h.fd i a z), h.nz, h.nd, h.dj, fun i a o m q => by
    cases hh : H a with
    | none => exact absurd hh (h.fd i a m)
    | some o' =>
      have := e a o' hh
      rw [q] at this
      cases this
      exact h.nt i a o m hh⟩
/-- what may be shared behind an expression that reads the slots us -/
def Zu (Z : Addr → Prop) (Fs : Nat → List Addr) (us : List Nat) : Addr → Prop := fun a => Z a ∨ ∃ i ∈ us, a ∈ Fs i
theorem Zu.left {Z : Addr → Prop} {Fs : Nat → List Addr} {us ws : List Nat} (a : Addr) (h : Zu Z Fs us a) : Zu Z Fs (us ++ ws) a := h.imp id fun ⟨i, m, q⟩ => ⟨i, List.mem_append_left _ m, q⟩
theorem Zu.right {Z : Addr → Prop} {Fs : Nat → List Addr} {us ws : List Nat} (a : Addr) (h : Zu Z Fs ws a) : Zu Z Fs (us ++ ws) a := h.imp id fun ⟨i, m, q⟩ => ⟨i, List.mem_append_right _ m, q⟩
theorem Zu.dom {w : Wd} {H : Hp} {Z : Addr → Prop} {σ : L2.St} {env : Env} {Fs : Nat → List Addr} {us : List Nat} (h : EnvOk w H Z σ env Fs) (a : Addr) (z : Zu Z Fs us a) : H a ≠ none := by
  rcases z with z | ⟨i, _, z⟩
  · exact h.zd a z
  · exact h.fd i a z
/-- behind H: the values stand in H2; A: what may be shared, F0: what may be taken over -/
def ResL (w : Wd) (H : Hp) (A : Addr → Prop) (F0 : List Addr) (H2 : Hp) (ds : List D) (vs : List V) : Prop :=
  ∃ (Z2 : Addr → Prop) (F : List Addr), Reps w H2 Z2 ds vs F ∧ F.Nodup ∧ (∀ a ∈ F, (H a = none ∨ a ∈ F0) ∧ ¬ Z2 a) ∧ (∀ a, Z2 a → (A a ∨ a ∈ F0 ∨ H a = none) ∧ H2 a ≠ none)
def Res (w : Wd) (H : Hp) (A : Addr → Prop) (F0 : List Addr) (H2 : Hp) (d : D) (v : V) : Prop :=
  ∃ (Z2 : Addr → Prop) (F : List Addr), Rep w H2 Z2 d v F ∧ F.Nodup ∧ (∀ a ∈ F, (H a = none ∨ a ∈ F0) ∧ ¬ Z2 a) ∧ (∀ a, Z2 a → (A a ∨ a ∈ F0 ∨ H a = none) ∧ H2 a ≠ none)
/-- data without objects -/
theorem Res.flat {w : Wd} {H H2 : Hp} {A : Addr → Prop} {F0 : List Addr} {d : D} {v : V} (h : Rep w H2 (fun _ => False) d v []) : Res w H A F0 H2 d v :=
  ⟨fun _ => False, [], h, List.nodup_nil, fun a m => (by cases m), fun a z => z.elim⟩

/-- what is wanted of an answer r at the heap H: of a value Q, of an error the wish W -/
def Pst (w : Wd) (W : WX) (σ : L2.St) (H : Hp) (A : Addr → Prop) {α : Type} (r : R α) (Q : α → Prop) : Prop :=
  match r with
  | .ok a => Q a
  | .exc c fs => ∀ C dd vs H2 Z2, w.mg c = some (.ref C) → Ex H H2 → H dd = none → H2 dd = some (.xd ((fs.map (·.1)).zip vs)) → Reps w H2 Z2 (fs.map (·.2)) vs [] → (∀ a, Z2 a → (A a ∨ H a = none) ∧ H2 a ≠ none ∧ a ≠ dd) → W (.ref C) (some dd) σ H2
  | .stk => False
theorem Pst.bind {w : Wd} {W : WX} {σ : L2.St} {H H1 : Hp} {A A1 : Addr → Prop} {α β : Type} {x : R α} {f : α → R β} {Q : β → Prop} (h : Pst w W σ H A (x >>= f) Q) (e : Ex H H1) (z : ∀ a, A1 a → A a) : Pst w W σ H1 A1 x fun a => Pst w W σ H A (f a) Q := by
  cases x with
  | ok a => exact h
  | exc c fs =>
    intro C dd vs H2 Z2 m e2 nd hd r zz
    exact h C dd vs H2 Z2 m (e.trans e2) (e.back nd) hd r fun a q => ⟨(zz a q).1.imp (z a) e.back, (zz a q).2⟩
  | stk => exact h
theorem Pst.imp {w : Wd} {W : WX} {σ : L2.St} {H H1 : Hp} {A A1 : Addr → Prop} {α : Type} {x : R α} {Q Q' : α → Prop} (h : Pst w W σ H A x Q) (e : Ex H H1) (z : ∀ a, A1 a → A a) (q : ∀ a, x = .ok a → Q a → Q' a) : Pst w W σ H1 A1 x Q' := by
  cases x with
  | ok a => exact q a rfl h
  | exc c fs =>
    intro C dd vs H2 Z2 m e2 nd hd r zz
    exact h C dd vs H2 Z2 m (e.trans e2) (e.back nd) hd r fun a q => ⟨(zz a q).1.imp (z a) e.back, (zz a q).2⟩
  | stk => exact h

/-! ### readings by data -/
def vE (w : Wd) (W : WX) (s : Env → R D) (us : List Nat) : TE := fun σ H Q =>
  ∃ (Z : Addr → Prop) (env : Env) (Fs : Nat → List Addr), EnvOk w H Z σ env Fs ∧ Pst w W σ H (Zu Z Fs us) (s env) fun d => ∀ v H2, Ex H H2 → Res w H (Zu Z Fs us) [] H2 d v → Q v H2
def vA (w : Wd) (W : WX) (s : Env → R (List D)) (us : List Nat) : TA := fun σ H Q =>
  ∃ (Z : Addr → Prop) (env : Env) (Fs : Nat → List Addr), EnvOk w H Z σ env Fs ∧ Pst w W σ H (Zu Z Fs us) (s env) fun ds => ∀ vs H2, Ex H H2 → ResL w H (Zu Z Fs us) [] H2 ds vs → Q vs H2
def vT (w : Wd) (W : WX) (s : Env → R Bool) (us : List Nat) : TT := fun σ H Q =>
  ∃ (Z : Addr → Prop) (env : Env) (Fs : Nat → List Addr), EnvOk w H Z σ env Fs ∧ Pst w W σ H (Zu Z Fs us) (s env) fun b => ∀ H2, Ex H H2 → Q b H2
abbrev wd (X : Cx) : Wd := ⟨X.K, X.mg⟩
def KE (X : Cx) (W : WX) (e : Expr) (s : Env → R D) (us : List Nat) : Prop := PE X e (vE (wd X) W s us)
def KA (X : Cx) (W : WX) (es : List Expr) (s : Env → R (List D)) (us : List Nat) : Prop := PA X es (vA (wd X) W s us)
def KT (X : Cx) (W : WX) (e : Expr) (s : Env → R Bool) (us : List Nat) : Prop := PT X e (vT (wd X) W s us)
def KW (X : Cx) (W : WX) (e : Expr) (s : Env → R Bool) (us : List Nat) : Prop := PW X e (vT (wd X) W s us)

theorem pe_imp {X : Cx} {e : Expr} {t u : TE} (h : PE X e t) (k : ∀ σ H Q, u σ H Q → t σ H Q) : PE X e u := ⟨fun pins s σ H Q I q => h.run pins s σ H Q I (k σ H Q q)⟩
theorem pa_imp {X : Cx} {e : List Expr} {t u : TA} (h : PA X e t) (k : ∀ σ H Q, u σ H Q → t σ H Q) : PA X e u := ⟨fun pos pins s σ H Q I q => h.run pos pins s σ H Q I (k σ H Q q)⟩
theorem pt_imp {X : Cx} {e : Expr} {t u : TT} (h : PT X e t) (k : ∀ σ H Q, u σ H Q → t σ H Q) : PT X e u := ⟨fun pins s σ H Q I q => h.run pins s σ H Q I (k σ H Q q)⟩
theorem pw_imp {X : Cx} {e : Expr} {t u : TT} (h : PW X e t) (k : ∀ σ H Q, u σ H Q → t σ H Q) : PW X e u := ⟨fun wh pins s σ H Q I q => h.run wh pins s σ H Q I (k σ H Q q)⟩
theorem ps_imp {X : Cx} {e : Stmt} {t u : TS} (h : PS X e t) (k : ∀ D σ H, u D σ H → t D σ H) : PS X e u := ⟨fun pins s σ H D I q => h.run pins s σ H D I (k D σ H q)⟩
theorem pss_imp {X : Cx} {e : List Stmt} {t u : TS} (h : PSs X e t) (k : ∀ D σ H, u D σ H → t D σ H) : PSs X e u := ⟨fun pins s σ H D I q => h.run pins s σ H D I (k D σ H q)⟩

section
variable {w : Wd} {H H1 H2 H3 : Hp} {A A' : Addr → Prop} {F0 F1 : List Addr} {d : D} {v : V} {ds : List D} {vs : List V}
theorem Res.one (h : Res w H A F0 H2 d v) : ResL w H A F0 H2 [d] [v] := by
  obtain ⟨Z2, F, r, nd, f, z⟩ := h
  exact ⟨Z2, F, ⟨v, [], F, [], rfl, (List.append_nil F).symm, r, rfl, rfl⟩, nd, f, z⟩
/-- one value more, reckoned behind it -/
theorem Res.cons (h : Res w H A [] H1 d v) (e : Ex H H1) (e2 : Ex H1 H2) (hr : ResL w H1 A' [] H2 ds vs) (za : ∀ a, A' a → A a ∧ H a ≠ none) : ResL w H A [] H2 (d :: ds) (v :: vs) := by
  obtain ⟨Z1, F1, r1, nd1, f1, z1⟩ := h
  obtain ⟨Z2, F2, r2, nd2, f2, z2⟩ := hr
  have n1 : ∀ a ∈ F1, H a = none := fun a m => (f1 a m).1.elim id fun z => (by cases z)
  have n2 : ∀ a ∈ F2, H1 a = none := fun a m => (f2 a m).1.elim id fun z => (by cases z)
  have d1 : ∀ a ∈ F1, H1 a ≠ none := fun a m => r1.dom a m
  refine ⟨fun a => Z1 a ∨ Z2 a, F1 ++ F2, ⟨v, vs, F1, F2, rfl, rfl, (r1.ex e2).up fun a => .inl, r2.up fun a => .inr⟩, List.nodup_append.mpr ⟨nd1, nd2, fun a m b m2 q => ?_⟩, fun a m => ?_, fun a z => ?_⟩
  · subst q
    exact d1 a m (n2 a m2)
  · rcases List.mem_append.mp m with m | m
    · refine ⟨.inl (n1 a m), fun z => z.elim (f1 a m).2 fun z => ?_⟩
      rcases (z2 a z).1 with q | q | q
      · exact (za a q).2 (n1 a m)
      · cases q
      · exact d1 a m q
    · refine ⟨.inl (e.back (n2 a m)), fun z => z.elim (fun z => ?_) (f2 a m).2⟩
      exact (z1 a z).2 (n2 a m)
  · rcases z with z | z
    · exact ⟨(z1 a z).1, e2.some (z1 a z).2⟩
    · refine ⟨?_, (z2 a z).2⟩
      rcases (z2 a z).1 with q | q | q
      · exact .inl (za a q).1
      · cases q
      · exact .inr (.inr (e.back q))
theorem Res.up (h : Res w H A F0 H2 d v) (z : ∀ a, A a → A' a) : Res w H A' F0 H2 d v := by
  obtain ⟨Z1, F1, r1, nd1, f1, z1⟩ := h
  exact ⟨Z1, F1, r1, nd1, f1, fun a q => ⟨(z1 a q).1.imp (z a) id, (z1 a q).2⟩⟩
theorem ResL.up (h : ResL w H A F0 H2 ds vs) (z : ∀ a, A a → A' a) : ResL w H A' F0 H2 ds vs := by
  obtain ⟨Z1, F1, r1, nd1, f1, z1⟩ := h
  exact ⟨Z1, F1, r1, nd1, f1, fun a q => ⟨(z1 a q).1.imp (z a) id, (z1 a q).2⟩⟩
/-- an operation behind the operands -/
theorem Res.behind {F : List Addr} {Z : Addr → Prop} (h : Res w H1 Z F H2 d v) (e : Ex H H1) (f : ∀ a ∈ F, H a = none) (z : ∀ a, Z a → A a ∨ H a = none) : Res w H A [] H2 d v := by
  obtain ⟨Z2, F2, r, nd, f2, z2⟩ := h
  refine ⟨Z2, F2, r, nd, fun a m => ⟨.inl ((f2 a m).1.elim e.back (f a)), (f2 a m).2⟩, fun a q => ⟨?_, (z2 a q).2⟩⟩
  rcases (z2 a q).1 with q | q | q
  · exact (z a q).elim .inl fun q => .inr (.inr q)
  · exact .inr (.inr (f a q))
  · exact .inr (.inr (e.back q))
theorem ResL.behind {F : List Addr} {Z : Addr → Prop} (h : ResL w H1 Z F H2 ds vs) (e : Ex H H1) (f : ∀ a ∈ F, H a = none) (z : ∀ a, Z a → A a ∨ H a = none) : ResL w H A [] H2 ds vs := by
  obtain ⟨Z2, F2, r, nd, f2, z2⟩ := h
  refine ⟨Z2, F2, r, nd, fun a m => ⟨.inl ((f2 a m).1.elim e.back (f a)), (f2 a m).2⟩, fun a q => ⟨?_, (z2 a q).2⟩⟩
  rcases (z2 a q).1 with q | q | q
  · exact (z a q).elim .inl fun q => .inr (.inr q)
  · exact .inr (.inr (f a q))
  · exact .inr (.inr (e.back q))
end

/-! ### operations on values, by data -/
/-- r does with the values what f does with their data -/
def OpS (w : Wd) (r : R2) (f : D → D → R D) : Prop := ∀ (H : Hp) (x y : V) (d1 d2 d : D) (Z : Addr → Prop) (F : List Addr) (Q : VK), Reps w H Z [d1, d2] [x, y] F → F.Nodup → (∀ a ∈ F, ¬ Z a) → (∀ a, Z a → H a ≠ none) → f d1 d2 = .ok d →
  (∀ v H2, Ex H H2 → Res w H Z F H2 d v → Q v H2) → r x y H Q
def CallS (w : Wd) (r : List V → Hp → VK → Prop) (f : List D → R D) : Prop := ∀ (H : Hp) (xs : List V) (ds : List D) (d : D) (Z : Addr → Prop) (F : List Addr) (Q : VK), Reps w H Z ds xs F → F.Nodup → (∀ a ∈ F, ¬ Z a) → (∀ a, Z a → H a ≠ none) → f ds = .ok d →
  (∀ v H2, Ex H H2 → Res w H Z F H2 d v → Q v H2) → r xs H Q
/-- f raises nothing -/
def NoX {α β : Type} (f : α → R β) : Prop := ∀ a c fs, f a ≠ .exc c fs
def NoX2 {α β γ : Type} (f : α → β → R γ) : Prop := ∀ a b c fs, f a b ≠ .exc c fs
theorem Pst.noX {w : Wd} {W : WX} {σ : L2.St} {H : Hp} {A : Addr → Prop} {α : Type} {x : R α} {Q : α → Prop} (h : Pst w W σ H A x Q) (nx : ∀ c fs, x ≠ .exc c fs) : ∃ a, x = .ok a ∧ Q a := by
  cases x with
  | ok a => exact ⟨a, rfl, h⟩
  | exc c fs => exact (nx c fs rfl).elim
  | stk => exact h.elim

section
variable {X : Cx} {W : WX} {a b c e : Expr} {es : List Expr} {pos : Pos} {sa sb sc : Env → R D} {ua ub uc : List Nat}
/-- two operands and an operation -/
theorem two {w : Wd} {r : R2} {f : D → D → R D} (hs : OpS w r f) (nx : NoX2 f) {σ : L2.St} {H : Hp} {Q : VK} (h : vE w W (fun env => sa env >>= fun x => sb env >>= fun y => f x y) (ua ++ ub) σ H Q) : tOp r (vE w W sa ua) (vE w W sb ub) σ H Q := by
  obtain ⟨Z, env, Fs, E, h⟩ := h
  refine ⟨Z, env, Fs, E, (h.bind (Ex.refl H) Zu.left).imp (Ex.refl H) (fun _ z => z) fun d1 _ h v1 H1 e1 r1 => ?_⟩
  refine ⟨Z, env, Fs, E.ex e1, (h.bind e1 Zu.right).imp (Ex.refl H1) (fun _ z => z) fun d2 _ h v2 H2 e2 r2 => ?_⟩
  obtain ⟨d, ed, h⟩ := h.noX fun c fs => nx d1 d2 c fs
  obtain ⟨Z2, F, rr, nd, f2, z2⟩ := Res.cons (r1.up Zu.left) e1 e2 r2.one fun a z => ⟨Zu.right a z, Zu.dom E a z⟩
  refine hs H2 v1 v2 d1 d2 d Z2 F Q rr nd (fun a m => (f2 a m).2) (fun a z => (z2 a z).2) ed fun v H3 e3 r3 => ?_
  exact h v H3 ((e1.trans e2).trans e3) (r3.behind (e1.trans e2) (fun a m => (f2 a m).1.elim id fun z => (by cases z)) fun a z => (z2 a z).1.imp id fun q => q.elim (fun z => (by cases z)) id)
theorem ke_op {op : Operator} {r : R2} {f : D → D → R D} (ho : OpR X (binaryOp op) r) (hs : OpS (wd X) r f) (nx : NoX2 f) (ha : KE X W a sa ua) (hb : KE X W b sb ub) : KE X W (.BinOp a op b pos) (fun env => sa env >>= fun x => sb env >>= fun y => f x y) (ua ++ ub) :=
  pe_imp (pe_op ho ha hb) fun _ _ _ h => two hs nx h
theorem ke_cmp {op : CmpOp} {r : R2} {f : D → D → R D} (ho : OpR X (compareOp op) r) (hs : OpS (wd X) r f) (nx : NoX2 f) (hm : behindInMarks op b = false) (ha : KE X W a sa ua) (hb : KE X W b sb ub) : KE X W (.Compare a [op] [b] pos) (fun env => sa env >>= fun x => sb env >>= fun y => f x y) (ua ++ ub) :=
  pe_imp (pe_cmpR ho ha hb hm) fun _ _ _ h => two hs nx h
theorem tt_of {w : Wd} {s : Env → R D} {us : List Nat} {σ : L2.St} {H : Hp} {Q : Bool → Hp → Prop} (h : vT w W (fun env => s env >>= asB) us σ H Q) : vE w W s us σ H fun x H' => ∃ k, x = .bl k ∧ Q k H' := by
  obtain ⟨Z, env, Fs, E, h⟩ := h
  refine ⟨Z, env, Fs, E, (h.bind (Ex.refl H) (fun _ z => z)).imp (Ex.refl H) (fun _ z => z) fun d _ h v H2 e r => ?_⟩
  obtain ⟨k, ek, h⟩ := h.noX fun c fs => by cases d <;> exact fun z => by cases z
  have ed : d = .bl k := by
    cases d with
    | bl b => cases ek; rfl
    | _ => cases ek
  subst ed
  obtain ⟨Z2, F, r, _⟩ := r
  exact ⟨k, r.1, h H2 e⟩
theorem kt_val (h : KE X W e sa ua) (he : ∀ whole, isTrue e X.env whole = (do let v ← whole; standAt e.pos; holding [v] (truthy v)) := by intro _; rfl) : KT X W e (fun env => sa env >>= asB) ua :=
  pt_imp (pt_val h he) fun _ _ _ h => tt_of h
theorem kt_cmp {op : CmpOp} {r : R2} {f : D → D → R D} (ho : OpR X (compareOp op) r) (hs : OpS (wd X) r f) (nx : NoX2 f) (hm : behindInMarks op b = false) (ha : KE X W a sa ua) (hb : KE X W b sb ub) : KT X W (.Compare a [op] [b] pos) (fun env => sa env >>= fun x => sb env >>= fun y => f x y >>= asB) (ua ++ ub) := by
  refine pt_imp (pt_cmpR ho ha hb hm) fun σ H Q h => two (Q := fun x H' => ∃ k, x = .bl k ∧ Q k H') hs nx (tt_of (s := fun env => sa env >>= fun x => sb env >>= fun y => f x y) ?_)
  have q : (fun env => (sa env >>= fun x => sb env >>= fun y => f x y) >>= asB) = fun env => sa env >>= fun x => sb env >>= fun y => f x y >>= asB := by
    funext env
    cases sa env with
    | ok x =>
      show ((sb env >>= fun y => f x y) >>= asB) = (sb env >>= fun y => f x y >>= asB)
      cases sb env <;> rfl
    | _ => rfl
  rw [q]
  exact h
end
end Vs
set_option maxHeartbeats 2000000
/-! Vs2: each operation on values does with the data what VsD says. -/
namespace Vs
open PySem L2

/-! ### lists of data -/
section
variable {w : Wd} {H : Hp} {Z : Addr → Prop}
theorem Reps.two {d1 d2 : D} {x y : V} {F : List Addr} (h : Reps w H Z [d1, d2] [x, y] F) : ∃ F1 F2, F = F1 ++ F2 ∧ Rep w H Z d1 x F1 ∧ Rep w H Z d2 y F2 := by
  obtain ⟨v, r, F1, F2, e, f, h1, v2, r2, F3, F4, e2, f2, h2, e3, f3⟩ := h
  cases e
  cases e2
  subst f3
  rw [List.append_nil] at f2
  subst f2
  exact ⟨F1, F2, f, h1, h2⟩
theorem Reps.one {d1 : D} {xs : List V} {F : List Addr} (h : Reps w H Z [d1] xs F) : ∃ x, xs = [x] ∧ Rep w H Z d1 x F := by
  obtain ⟨v, r, F1, F2, e, f, h1, e3, f3⟩ := h
  subst e3 f3
  rw [List.append_nil] at f
  subst f
  exact ⟨v, e, h1⟩
theorem Reps.length : ∀ {ds : List D} {vs : List V} {F : List Addr}, Reps w H Z ds vs F → vs.length = ds.length
  | [], _, _, ⟨e, _⟩ => by subst e; rfl
  | d :: ds, _, _, ⟨v, r, F1, F2, e, f, h1, h2⟩ => by
    subst e
    show r.length + 1 = ds.length + 1
    rw [Reps.length h2]
theorem Reps.append : ∀ {ds : List D} {vs : List V} {F : List Addr} {es : List D} {ws : List V} {G : List Addr}, Reps w H Z ds vs F → Reps w H Z es ws G → Reps w H Z (ds ++ es) (vs ++ ws) (F ++ G)
  | [], _, _, _, _, _, ⟨e, f⟩, h => by subst e f; exact h
  | d :: ds, _, _, es, ws, G, ⟨v, r, F1, F2, e, f, h1, h2⟩, h => by
    subst e f
    exact ⟨v, r ++ ws, F1, F2 ++ G, rfl, (List.append_assoc ..), h1, Reps.append h2 h⟩
theorem Reps.unappend : ∀ {ds es : List D} {vs : List V} {F : List Addr}, Reps w H Z (ds ++ es) vs F → ∃ vs1 vs2 F1 F2, vs = vs1 ++ vs2 ∧ F = F1 ++ F2 ∧ Reps w H Z ds vs1 F1 ∧ Reps w H Z es vs2 F2
  | [], es, vs, F, h => ⟨[], vs, [], F, rfl, rfl, ⟨rfl, rfl⟩, h⟩
  | d :: ds, es, _, _, ⟨v, r, F1, F2, e, f, h1, h2⟩ => by
    obtain ⟨vs1, vs2, G1, G2, e1, f1, r1, r2⟩ := Reps.unappend (ds := ds) h2
    subst e f e1 f1
    exact ⟨v :: vs1, vs2, F1 ++ G1, G2, rfl, (List.append_assoc ..).symm, ⟨v, vs1, F1, G1, rfl, rfl, h1, r1⟩, r2⟩
theorem Reps.get : ∀ {ds : List D} {vs : List V} {F : List Addr} {i : Nat} {d : D}, Reps w H Z ds vs F → ds[i]? = some d → ∃ v Fi, vs[i]? = some v ∧ Rep w H Z d v Fi ∧ List.Sublist Fi F
  | [], _, _, i, d, _, e => by simp at e
  | c :: ds, _, _, 0, d, ⟨v, r, F1, F2, e, f, h1, h2⟩, g => by
    subst e f
    cases (show c = d from Option.some.inj (by simpa using g))
    exact ⟨v, F1, rfl, h1, List.sublist_append_left ..⟩
  | c :: ds, _, _, i + 1, d, ⟨v, r, F1, F2, e, f, h1, h2⟩, g => by
    subst e f
    obtain ⟨u, Fi, a, b, c⟩ := Reps.get (i := i) h2 (by simpa using g)
    exact ⟨u, Fi, by simpa using a, b, c.trans (List.sublist_append_right ..)⟩
theorem Reps.take {vs : List V} {F : List Addr} {ds : List D} (n : Nat) (h : Reps w H Z ds vs F) : ∃ F', Reps w H Z (ds.take n) (vs.take n) F' ∧ List.Sublist F' F := by
  have h' := h
  rw [← List.take_append_drop n ds] at h
  obtain ⟨vs1, vs2, F1, F2, e, f, r1, r2⟩ := Reps.unappend h
  have l1 := r1.length
  have l := h'.length
  refine ⟨F1, ?_, by rw [f]; exact List.sublist_append_left ..⟩
  have q : vs.take n = vs1 := by
    rw [e]
    by_cases hn : n ≤ ds.length
    · have : vs1.length = n := by rw [l1, List.length_take]; omega
      rw [← this, List.take_left]
    · have hd : ds.drop n = [] := List.drop_eq_nil_of_le (by omega)
      rw [hd] at r2
      obtain ⟨e2, _⟩ := r2
      subst e2
      rw [List.append_nil]
      apply List.take_of_length_le
      rw [l1, List.length_take]
      omega
  rw [q]
  exact r1
theorem Reps.drop {vs : List V} {F : List Addr} {ds : List D} (n : Nat) (h : Reps w H Z ds vs F) : ∃ F', Reps w H Z (ds.drop n) (vs.drop n) F' ∧ List.Sublist F' F := by
  have h' := h
  rw [← List.take_append_drop n ds] at h
  obtain ⟨vs1, vs2, F1, F2, e, f, r1, r2⟩ := Reps.unappend h
  have l1 := r1.length
  have l := h'.length
  refine ⟨F2, ?_, by rw [f]; exact List.sublist_append_right ..⟩
  have q : vs.drop n = vs2 := by
    rw [e]
    by_cases hn : n ≤ ds.length
    · have : vs1.length = n := by rw [l1, List.length_take]; omega
      rw [← this, List.drop_left]
    · have hd : ds.drop n = [] := List.drop_eq_nil_of_le (by omega)
      rw [hd] at r2
      obtain ⟨e2, _⟩ := r2
      subst e2
      rw [List.append_nil]
      apply List.drop_eq_nil_of_le
      rw [l1, List.length_take]
      omega
  rw [q]
  exact r2
theorem Reps.cut {vs : List V} {F : List Addr} {ds : List D} (lo hi : Option Int) (h : Reps w H Z ds vs F) : ∃ F', Reps w H Z (Vs.cut ds lo hi) (cutV vs lo hi) F' ∧ List.Sublist F' F := by
  have l := h.length
  unfold Vs.cut cutV
  rw [l]
  obtain ⟨F1, r1, s1⟩ := h.drop (HT.sIx ds.length 0 lo)
  obtain ⟨F2, r2, s2⟩ := r1.take (HT.sIx ds.length ds.length hi - HT.sIx ds.length 0 lo)
  exact ⟨F2, r2, s2.trans s1⟩
theorem frzs_append : ∀ (xs ys : List D), frzs (xs ++ ys) = frzs xs ++ frzs ys
  | [], _ => rfl
  | x :: xs, ys => congrArg (frz x :: ·) (frzs_append xs ys)
theorem Reps.rep {vs : List V} {ds : List D} (h : Reps w H Z (frzs ds) vs []) : ∀ k : Nat, Reps w H Z (frzs (List.replicate k ds).flatten) (List.replicate k vs).flatten []
  | 0 => ⟨rfl, rfl⟩
  | k + 1 => by
    rw [List.replicate_succ, List.replicate_succ, List.flatten_cons, List.flatten_cons, frzs_append]
    exact Reps.append h (Reps.rep h k)
theorem Reps.atI {vs : List V} {F : List Addr} {ds : List D} {i : Int} {d : D} (h : Reps w H Z ds vs F) (e : L2.atI ds i = some d) : ∃ v Fi, L2.atI vs i = some v ∧ Rep w H Z d v Fi ∧ List.Sublist Fi F := by
  unfold L2.atI at e ⊢
  rw [h.length]
  cases hn : ixN ds.length i with
  | none => rw [hn] at e; cases e
  | some j =>
    rw [hn] at e
    exact h.get (i := j) e
theorem Reps.ints : ∀ {ds : List D} {vs : List V} {F : List Addr} {ns : List Int}, Reps w H Z ds vs F → ints? ds = some ns → vs = ns.map V.int
  | [], _, _, ns, ⟨e, _⟩, h => by
    subst e
    cases h
    rfl
  | d :: ds, _, _, ns, ⟨v, r, F1, F2, e, f, h1, h2⟩, h => by
    cases d with
    | int i =>
      have h : (ints? ds).map (i :: ·) = some ns := h
      cases hq : ints? ds with
      | none => rw [hq] at h; cases h
      | some ms =>
        rw [hq] at h
        cases h
        subst e
        rw [h1.1, Reps.ints h2 hq]
        rfl
    | _ => cases h
theorem Reps.strs : ∀ {ds : List D} {vs : List V} {F : List Addr} {ns : List Str}, Reps w H Z ds vs F → strs? ds = some ns → vs = ns.map V.str
  | [], _, _, ns, ⟨e, _⟩, h => by
    subst e
    cases h
    rfl
  | d :: ds, _, _, ns, ⟨v, r, F1, F2, e, f, h1, h2⟩, h => by
    cases d with
    | str i =>
      have h : (strs? ds).map (i :: ·) = some ns := h
      cases hq : strs? ds with
      | none => rw [hq] at h; cases h
      | some ms =>
        rw [hq] at h
        cases h
        subst e
        rw [h1.1, Reps.strs h2 hq]
        rfl
    | _ => cases h
theorem Reps.bools : ∀ {ds : List D} {vs : List V} {F : List Addr} {ns : List Bool}, Reps w H Z ds vs F → bools? ds = some ns → vs = ns.map V.bl
  | [], _, _, ns, ⟨e, _⟩, h => by
    subst e
    cases h
    rfl
  | d :: ds, _, _, ns, ⟨v, r, F1, F2, e, f, h1, h2⟩, h => by
    cases d with
    | bl i =>
      have h : (bools? ds).map (i :: ·) = some ns := h
      cases hq : bools? ds with
      | none => rw [hq] at h; cases h
      | some ms =>
        rw [hq] at h
        cases h
        subst e
        rw [h1.1, Reps.bools h2 hq]
        rfl
    | _ => cases h
theorem reps_ints (ns : List Int) : Reps w H Z (ns.map D.int) (ns.map V.int) [] := by
  induction ns with
  | nil => exact ⟨rfl, rfl⟩
  | cons n ns ih => exact ⟨_, _, [], [], rfl, rfl, ⟨rfl, rfl⟩, ih⟩
theorem reps_strs (ns : List Str) : Reps w H Z (ns.map D.str) (ns.map V.str) [] := by
  induction ns with
  | nil => exact ⟨rfl, rfl⟩
  | cons n ns ih => exact ⟨_, _, [], [], rfl, rfl, ⟨rfl, rfl⟩, ih⟩
variable {F G : List Addr} {es : List D} {zs : List V} {p : Addr}
/-- a new list, a new tuple -/
theorem Res.newL (hz : ∀ a, Z a → H a ≠ none) (r : Reps w H Z es zs G) (nd : G.Nodup) (sub : ∀ a ∈ G, a ∈ F) (nz : ∀ a ∈ G, ¬ Z a) (hp : H p = none) : Res w H Z F (upd H p (.lst zs)) (.lst true es) (.ref p) := by
  have e : Ex H (upd H p (.lst zs)) := Ex.new hp
  refine ⟨Z, p :: G, ⟨p, zs, G, rfl, upd_same, rfl, r.ex e⟩, List.nodup_cons.mpr ⟨fun m => r.dom p m hp, nd⟩, fun a m => ?_, fun a z => ⟨.inl z, e.some (hz a z)⟩⟩
  rcases List.mem_cons.mp m with rfl | m
  · exact ⟨.inl hp, fun z => hz _ z hp⟩
  · exact ⟨.inr (sub a m), nz a m⟩
theorem Res.newT (hz : ∀ a, Z a → H a ≠ none) (r : Reps w H Z es zs G) (nd : G.Nodup) (sub : ∀ a ∈ G, a ∈ F) (nz : ∀ a ∈ G, ¬ Z a) (hp : H p = none) : Res w H Z F (upd H p (.tup zs)) (.tup es) (.ref p) := by
  have e : Ex H (upd H p (.tup zs)) := Ex.new hp
  exact ⟨Z, G, ⟨p, zs, rfl, SqT.of upd_same, r.ex e⟩, nd, fun a m => ⟨.inr (sub a m), nz a m⟩, fun a z => ⟨.inl z, e.some (hz a z)⟩⟩
/-- a part of what there was -/
theorem Res.part {d : D} {v : V} (hz : ∀ a, Z a → H a ≠ none) (r : Rep w H Z d v G) (nd : G.Nodup) (sub : ∀ a ∈ G, a ∈ F) (nz : ∀ a ∈ G, ¬ Z a) : Res w H Z F H d v :=
  ⟨Z, G, r, nd, fun a m => ⟨.inr (sub a m), nz a m⟩, fun a z => ⟨.inl z, hz a z⟩⟩
theorem Rep.lstSq {o : Bool} {ds : List D} {v : V} {F : List Addr} (h : Rep w H Z (.lst o ds) v F) : ∃ a vs F', v = .ref a ∧ H a = some (.lst vs) ∧ Reps w H Z ds vs F' ∧ List.Sublist F' F := by
  obtain ⟨a, vs, F', e, s, f, r⟩ := h
  refine ⟨a, vs, F', e, s, r, ?_⟩
  cases o with
  | true =>
    obtain rfl : F = a :: F' := f
    exact List.sublist_cons_self ..
  | false =>
    obtain ⟨_, rfl, rfl⟩ : Z a ∧ F = [] ∧ F' = [] := f
    exact List.Sublist.refl _
theorem Sc.sq {K : PySem.W.Frag} {a : Addr} {xs : List V} (h : Sc K H Z a xs) : SqL K H a xs := by
  rcases h with ⟨_, h⟩ | h | h
  · exact .inl (.inl h)
  · exact .inl (.inr h)
  · exact .inr h
end

/-! ### or -/
theorem OpR.or {X : Cx} {f : Value → Value → Sem Value} {r r' : R2} (h : OpR X f r) (h' : OpR X f r') : OpR X f (fun x y H Q => r x y H Q ∨ r' x y H Q) := by
  intro pins s σ H x y v u Q I rx ry q
  rcases q with q | q
  · exact h pins s σ H x y v u Q I rx ry q
  · exact h' pins s σ H x y v u Q I rx ry q
theorem OpS.mk {w : Wd} {r : R2} {f : D → D → R D} (h : ∀ (H : Hp) (x y : V) (d1 d2 d : D) (Z : Addr → Prop) (F1 F2 : List Addr) (Q : VK), Rep w H Z d1 x F1 → Rep w H Z d2 y F2 → (F1 ++ F2).Nodup → (∀ a ∈ F1 ++ F2, ¬ Z a) → (∀ a, Z a → H a ≠ none) → f d1 d2 = .ok d →
    (∀ v H2, Ex H H2 → Res w H Z (F1 ++ F2) H2 d v → Q v H2) → r x y H Q) : OpS w r f := fun H x y d1 d2 d Z F Q rr nd nz zd e k => by
  obtain ⟨F1, F2, rfl, r1, r2⟩ := rr.two
  exact h H x y d1 d2 d Z F1 F2 Q r1 r2 nd nz zd e k

section
variable {X : Cx} {w : Wd}
/-! ### + -/
def rAddU (K : PySem.W.Frag) : R2 := fun x y H Q => rI0 (fun i j => .int (i + j)) x y H Q ∨ (∃ i j, x = .str i ∧ y = .str j ∧ i.length + j.length ≤ sizeLine ∧ Q (.str (i ++ j)) H) ∨ rCat x y H Q ∨ rCatA K x y H Q
theorem op_addU : OpR X (binaryOp .Add) (rAddU X.K) := OpR.or op_add (OpR.or op_add_str (OpR.or op_cat op_catA))
theorem sz_line {n : Nat} (h : n ≤ SZ) : n ≤ sizeLine := Nat.le_trans h (by decide)
theorem sz_lt {n : Nat} (h : n ≤ SZ) : n < sizeLine := Nat.lt_of_le_of_lt h (by decide)
theorem ops_add : OpS w (rAddU w.K) dAdd := OpS.mk fun H x y d1 d2 d Z F1 F2 Q r1 r2 nd nz zd e k => by
  unfold dAdd at e
  split at e
  · cases e
    obtain ⟨rfl, rfl⟩ := r1
    obtain ⟨rfl, rfl⟩ := r2
    exact .inl ⟨_, _, rfl, rfl, k _ H (Ex.refl H) (Res.flat ⟨rfl, rfl⟩)⟩
  · split at e
    · rename_i hz
      cases e
      obtain ⟨rfl, rfl⟩ := r1
      obtain ⟨rfl, rfl⟩ := r2
      exact .inr (.inl ⟨_, _, rfl, rfl, sz_line hz, k _ H (Ex.refl H) (Res.flat ⟨rfl, rfl⟩)⟩)
    · cases e
  · split at e
    · rename_i hz
      cases e
      obtain ⟨a, vs, G1, rfl, s1, q1, b1⟩ := r1.lstSq
      obtain ⟨b, ws, G2, rfl, s2, q2, b2⟩ := r2.lstSq
      refine .inr (.inr (.inl ⟨a, b, vs, ws, rfl, rfl, s1, s2, by rw [q1.length, q2.length]; exact sz_line hz, fun p hp => k _ _ (Ex.new hp) ?_⟩))
      have sb := b1.append b2
      exact Res.newL zd (q1.append q2) (nd.sublist sb) (fun a m => sb.subset m) (fun a m => nz a (sb.subset m)) hp
    · cases e
  · split at e
    · rename_i hz
      cases e
      obtain ⟨a, vs, rfl, s1, q1⟩ := r1
      obtain ⟨b, ws, rfl, s2, q2⟩ := r2
      refine .inr (.inr (.inr ⟨a, b, vs, ws, rfl, rfl, s1, s2, by rw [q1.length, q2.length]; exact sz_line hz, fun h0 => ?_, fun _ h0 => ?_, fun _ _ p hp => k _ _ (Ex.new hp) (Res.newT zd (q1.append q2) nd (fun a m => m) nz hp)⟩))
      · subst h0
        have l := q1.length
        rename_i xs ys
        obtain rfl : xs = [] := by
          cases xs with
          | nil => rfl
          | cons _ _ => cases l
        obtain ⟨_, rfl⟩ := q1
        exact k _ H (Ex.refl H) (Res.part zd ⟨b, ws, rfl, s2, q2⟩ nd (fun a m => m) nz)
      · subst h0
        have l := q2.length
        rename_i xs ys _
        obtain rfl : ys = [] := by
          cases ys with
          | nil => rfl
          | cons _ _ => cases l
        obtain ⟨_, rfl⟩ := q2
        rw [List.append_nil] at *
        exact k _ H (Ex.refl H) (Res.part zd ⟨a, vs, rfl, s1, by rw [List.append_nil]; exact q1⟩ nd (fun a m => m) nz)
    · cases e
  · cases e
theorem nx_add : NoX2 dAdd := fun a b c fs h => by
  unfold dAdd at h
  split at h <;> (try split at h) <;> cases h

/-! ### ints -/
theorem ops_int {C : Int → Int → Prop} {g : Int → Int → V} {f : D → D → R D} (hf : ∀ d1 d2 d, f d1 d2 = .ok d → ∃ i j, d1 = .int i ∧ d2 = .int j ∧ C i j ∧ (∀ H Z, Rep w H Z d (g i j) [])) : OpS w (rI C g) f :=
  OpS.mk fun H x y d1 d2 d Z F1 F2 Q r1 r2 nd nz zd e k => by
    obtain ⟨i, j, rfl, rfl, c, hr⟩ := hf d1 d2 d e
    obtain ⟨rfl, rfl⟩ := r1
    obtain ⟨rfl, rfl⟩ := r2
    exact ⟨i, j, rfl, rfl, c, k _ H (Ex.refl H) (Res.flat (hr H _))⟩
theorem ops_int0 {g : Int → Int → V} {f : D → D → R D} (hf : ∀ d1 d2 d, f d1 d2 = .ok d → ∃ i j, d1 = .int i ∧ d2 = .int j ∧ (∀ H Z, Rep w H Z d (g i j) [])) : OpS w (rI0 g) f :=
  OpS.mk fun H x y d1 d2 d Z F1 F2 Q r1 r2 nd nz zd e k => by
    obtain ⟨i, j, rfl, rfl, hr⟩ := hf d1 d2 d e
    obtain ⟨rfl, rfl⟩ := r1
    obtain ⟨rfl, rfl⟩ := r2
    exact ⟨i, j, rfl, rfl, k _ H (Ex.refl H) (Res.flat (hr H _))⟩
theorem ops_sub : OpS w (rI0 fun i j => .int (i - j)) dSub := ops_int0 fun d1 d2 d e => by
  unfold dSub at e
  split at e
  · cases e
    exact ⟨_, _, rfl, rfl, fun H Z => ⟨rfl, rfl⟩⟩
  · cases e
theorem nx_sub : NoX2 dSub := fun a b c fs h => by
  unfold dSub at h
  split at h <;> cases h
def rMulU : R2 := fun x y H Q => rI CMulW (fun i j => .int (i * j)) x y H Q ∨ rRep x y H Q
theorem op_mulU : OpR X (binaryOp .Mult) rMulU := OpR.or op_mulW op_rep
theorem nx_mul : NoX2 dMul := fun a b c fs h => by
  unfold dMul at h
  split at h <;> (try split at h) <;> cases h
theorem ops_mul : OpS w rMulU dMul := OpS.mk fun H x y d1 d2 d Z F1 F2 Q r1 r2 nd nz zd e k => by
  unfold dMul at e
  split at e
  · split at e
    · rename_i hz
      cases e
      obtain ⟨rfl, rfl⟩ := r1
      obtain ⟨rfl, rfl⟩ := r2
      exact .inl ⟨_, _, rfl, rfl, wide_mul hz.1 hz.2 (by decide) (by decide) (by decide), k _ H (Ex.refl H) (Res.flat ⟨rfl, rfl⟩)⟩
    · cases e
  · split at e
    · rename_i hz
      cases e
      obtain ⟨h0, h1, hz⟩ := hz
      obtain ⟨a, vs, G1, rfl, s1, q1, b1⟩ := r1.lstSq
      obtain ⟨rfl, rfl⟩ := r2
      rw [List.append_nil] at *
      have r' : Reps w H (fun a => Z a ∨ a ∈ F1) (frzs _) vs [] := q1.frz (fun a z => .inl z) fun a m => .inr (b1.subset m)
      refine .inr ⟨a, _, vs, rfl, rfl, s1, by omega, by omega, by rw [q1.length]; exact sz_line hz, fun p hp => k _ _ (Ex.new hp) ?_⟩
      have e : ∀ o, Ex H (upd H p o) := fun o => Ex.new hp
      refine ⟨fun a => Z a ∨ a ∈ F1, [p], ⟨p, _, [], rfl, upd_same, rfl, (r'.rep _).ex (e _)⟩, List.nodup_cons.mpr ⟨fun m => (by cases m), List.nodup_nil⟩, fun a m => ?_, fun a z => ?_⟩
      · obtain rfl : a = p := by simpa using m
        refine ⟨.inl hp, fun z => z.elim (fun z => zd _ z hp) fun m => r1.dom _ m hp⟩
      · exact ⟨z.imp id .inl, (e _).some (z.elim (zd a) (r1.dom a))⟩
    · cases e
  · cases e
theorem ops_div : OpS w (rI CDivW fun i j => .int (i / j)) dDiv := ops_int fun d1 d2 d e => by
  unfold dDiv at e
  split at e
  · split at e
    · rename_i hz
      cases e
      exact ⟨_, _, rfl, rfl, wide_div hz.1 hz.2 (by decide) (by decide), fun H Z => ⟨rfl, rfl⟩⟩
    · cases e
  · cases e
theorem nx_div : NoX2 dDiv := fun a b c fs h => by
  unfold dDiv at h
  split at h <;> (try split at h) <;> cases h
theorem ops_mod : OpS w (rI (fun _ j => 0 < j) fun i j => .int (i % j)) dMod := ops_int fun d1 d2 d e => by
  unfold dMod at e
  split at e
  · split at e
    · rename_i hz
      cases e
      exact ⟨_, _, rfl, rfl, hz, fun H Z => ⟨rfl, rfl⟩⟩
    · cases e
  · cases e
theorem nx_mod : NoX2 dMod := fun a b c fs h => by
  unfold dMod at h
  split at h <;> (try split at h) <;> cases h
theorem ops_pow : OpS w (rI CPow fun i j => .int (i ^ j.toNat)) dPow := ops_int fun d1 d2 d e => by
  unfold dPow at e
  split at e
  · split at e
    · rename_i hz
      cases e
      exact ⟨_, _, rfl, rfl, ⟨hz.1, by omega, hz.2.2⟩, fun H Z => ⟨rfl, rfl⟩⟩
    · cases e
  · cases e
theorem nx_pow : NoX2 dPow := fun a b c fs h => by
  unfold dPow at h
  split at h <;> (try split at h) <;> cases h
theorem ops_lt : OpS w (rI0 fun i j => .bl (decide (i < j))) dLt := ops_int0 fun d1 d2 d e => by
  unfold dLt at e
  split at e
  · cases e
    exact ⟨_, _, rfl, rfl, fun H Z => ⟨rfl, rfl⟩⟩
  · cases e
theorem ops_le : OpS w (rI0 fun i j => .bl (decide (i ≤ j))) dLe := ops_int0 fun d1 d2 d e => by
  unfold dLe at e
  split at e
  · cases e
    exact ⟨_, _, rfl, rfl, fun H Z => ⟨rfl, rfl⟩⟩
  · cases e
theorem ops_gt : OpS w (rI0 fun i j => .bl (decide (j < i))) dGt := ops_int0 fun d1 d2 d e => by
  unfold dGt at e
  split at e
  · cases e
    exact ⟨_, _, rfl, rfl, fun H Z => ⟨rfl, rfl⟩⟩
  · cases e
theorem ops_ge : OpS w (rI0 fun i j => .bl (decide (j ≤ i))) dGe := ops_int0 fun d1 d2 d e => by
  unfold dGe at e
  split at e
  · cases e
    exact ⟨_, _, rfl, rfl, fun H Z => ⟨rfl, rfl⟩⟩
  · cases e
theorem nx_lt : NoX2 dLt := fun a b c fs h => by
  unfold dLt at h
  split at h <;> cases h
theorem nx_le : NoX2 dLe := fun a b c fs h => by
  unfold dLe at h
  split at h <;> cases h
theorem nx_gt : NoX2 dGt := fun a b c fs h => by
  unfold dGt at h
  split at h <;> cases h
theorem nx_ge : NoX2 dGe := fun a b c fs h => by
  unfold dGe at h
  split at h <;> cases h

/-! ### ==, !=, is -/
mutual
theorem Rep.dp {H : Hp} {Z : Addr → Prop} : ∀ {d : D} {v : V} {F : List Addr} {p : PyData}, Rep w H Z d v F → pd d = some p → Dp w.K H v p
  | .non, _, _, _, ⟨e, _⟩, h => by cases h; subst e; exact .non
  | .bl b, _, _, _, ⟨e, _⟩, h => by cases h; subst e; exact .bl b
  | .int b, _, _, _, ⟨e, _⟩, h => by cases h; subst e; exact .int b
  | .str b, _, _, _, ⟨e, _⟩, h => by cases h; subst e; exact .str b
  | .tup ds, _, _, p, ⟨a, vs, e, s, r⟩, h => by
    have h : (pds ds).map PyData.tuple = some p := h
    cases hq : pds ds with
    | none => rw [hq] at h; cases h
    | some ps =>
      rw [hq] at h
      cases h
      subst e
      exact .tup s (Reps.dp r hq)
  | .lst o ds, _, _, p, ⟨a, vs, F', e, s, f, r⟩, h => by
    have h : (pds ds).map PyData.list = some p := h
    cases hq : pds ds with
    | none => rw [hq] at h; cases h
    | some ps =>
      rw [hq] at h
      cases h
      subst e
      exact .lst (SqL.of s) (Reps.dp r hq)
  | .dic .., _, _, _, _, h => by cases h
  | .dit .., _, _, _, _, h => by cases h
  | .obj .., _, _, _, _, h => by cases h
  | .scr .., _, _, _, _, h => by cases h
  | .ty .., _, _, _, _, h => by cases h
  | .cls .., _, _, _, _, h => by cases h
theorem Reps.dp {H : Hp} {Z : Addr → Prop} : ∀ {ds : List D} {vs : List V} {F : List Addr} {ps : List PyData}, Reps w H Z ds vs F → pds ds = some ps → DpAll w.K H vs ps
  | [], _, _, _, ⟨e, _⟩, h => by cases h; subst e; exact .nil
  | d :: ds, _, _, ps, ⟨v, r, F1, F2, e, f, h1, h2⟩, h => by
    have h : (match pd d, pds ds with | some x, some xs => some (x :: xs) | _, _ => none) = some ps := h
    cases hq : pd d with
    | none => rw [hq] at h; cases h
    | some x =>
      cases hs : pds ds with
      | none => rw [hq, hs] at h; cases h
      | some xs =>
        rw [hq, hs] at h
        cases h
        subst e
        exact .cons (Rep.dp h1 hq) (Reps.dp h2 hs)
end
def rEqU (K : PySem.W.Frag) : R2 := fun x y H Q => rEq x y H Q ∨ rEqD K x y H Q
def rNeU (K : PySem.W.Frag) : R2 := fun x y H Q => rNe x y H Q ∨ rNeD K x y H Q
theorem op_eqU (hu : X.A.units + 64 < cLine) : OpR X (compareOp .Eq) (rEqU X.K) := OpR.or op_eq (op_eqD hu)
theorem op_neU (hu : X.A.units + 64 < cLine) : OpR X (compareOp .NotEq) (rNeU X.K) := OpR.or op_ne (op_neD hu)
theorem dEqv_dp {H : Hp} {Z : Addr → Prop} {d1 d2 : D} {x y : V} {F1 F2 : List Addr} {b : Bool} (h : dEqv d1 d2 = some b) (r1 : Rep w H Z d1 x F1) (r2 : Rep w H Z d2 y F2) :
    ∃ p q, Dp w.K H x p ∧ Dp w.K H y q ∧ SeqAt.shaped p = true ∧ SeqAt.shaped q = true ∧ b = PyData.eqv p q := by
  unfold dEqv at h
  cases h1 : pd d1 with
  | none => rw [h1] at h; cases h
  | some p =>
    cases h2 : pd d2 with
    | none => rw [h1, h2] at h; cases h
    | some q =>
      rw [h1, h2] at h
      have h : (if SeqAt.shaped p = true ∧ SeqAt.shaped q = true then some (PyData.eqv p q) else none) = some b := h
      split at h
      · rename_i hs
        cases h
        exact ⟨p, q, r1.dp h1, r2.dp h2, hs.1, hs.2, rfl⟩
      · cases h
theorem str_eq_iff {x y : Str} : decide (V.str x = V.str y) = decide (x = y) := by
  by_cases e : x = y
  · subst e; simp
  · rw [decide_eq_false e, decide_eq_false fun z => e (V.str.inj z)]
theorem int_eq_iff {x y : Int} : decide (V.int x = V.int y) = decide (x = y) := by
  by_cases e : x = y
  · subst e; simp
  · rw [decide_eq_false e, decide_eq_false fun z => e (V.int.inj z)]
theorem ops_eq : OpS w (rEqU w.K) dEq := OpS.mk fun H x y d1 d2 d Z F1 F2 Q r1 r2 nd nz zd e k => by
  unfold dEq at e
  split at e
  · cases e
    obtain ⟨rfl, rfl⟩ := r1
    obtain ⟨rfl, rfl⟩ := r2
    exact .inl ⟨rfl, by rw [int_eq_iff]; exact k _ H (Ex.refl H) (Res.flat ⟨rfl, rfl⟩)⟩
  · cases e
    obtain ⟨rfl, rfl⟩ := r1
    obtain ⟨rfl, rfl⟩ := r2
    exact .inl ⟨rfl, by rw [str_eq_iff]; exact k _ H (Ex.refl H) (Res.flat ⟨rfl, rfl⟩)⟩
  · split at e
    · rename_i b hb
      cases e
      obtain ⟨p, q, h1, h2, h3, h4, rfl⟩ := dEqv_dp hb r1 r2
      exact .inr ⟨p, q, h1, h2, h3, h4, k _ H (Ex.refl H) (Res.flat ⟨rfl, rfl⟩)⟩
    · cases e
theorem ops_ne : OpS w (rNeU w.K) dNe := OpS.mk fun H x y d1 d2 d Z F1 F2 Q r1 r2 nd nz zd e k => by
  unfold dNe at e
  split at e
  · cases e
    obtain ⟨rfl, rfl⟩ := r1
    obtain ⟨rfl, rfl⟩ := r2
    exact .inl ⟨rfl, by rw [int_eq_iff]; exact k _ H (Ex.refl H) (Res.flat ⟨rfl, rfl⟩)⟩
  · cases e
    obtain ⟨rfl, rfl⟩ := r1
    obtain ⟨rfl, rfl⟩ := r2
    exact .inl ⟨rfl, by rw [str_eq_iff]; exact k _ H (Ex.refl H) (Res.flat ⟨rfl, rfl⟩)⟩
  · split at e
    · rename_i b hb
      cases e
      obtain ⟨p, q, h1, h2, h3, h4, rfl⟩ := dEqv_dp hb r1 r2
      exact .inr ⟨p, q, h1, h2, h3, h4, k _ H (Ex.refl H) (Res.flat ⟨rfl, rfl⟩)⟩
    · cases e
theorem nx_eq : NoX2 dEq := fun a b c fs h => by
  unfold dEq at h
  split at h <;> (try split at h) <;> cases h
theorem nx_ne : NoX2 dNe := fun a b c fs h => by
  unfold dNe at h
  split at h <;> (try split at h) <;> cases h
def vIs (x y : V) : Bool := match y with
  | .non => decide (x = .non)
  | .bl b => decide (x = .bl b)
  | _ => false
def rIsU : R2 := fun x y H Q => (y = .non ∨ ∃ b, y = .bl b) ∧ Q (.bl (vIs x y)) H
def rNotU : R2 := fun x y H Q => (y = .non ∨ ∃ b, y = .bl b) ∧ Q (.bl (!vIs x y)) H
theorem relV_bool {x : V} {v : Value} {b : Bool} (r : RelV x v) : (v == Value.bool b) = decide (x = .bl b) := by
  cases x with
  | non => cases r; rfl
  | bl c =>
    cases r
    cases b <;> cases c <;> rfl
  | int _ => obtain ⟨t, rfl⟩ := r; rfl
  | str _ => obtain ⟨t, rfl⟩ := r; rfl
  | byt _ => obtain ⟨t, rfl⟩ := r; rfl
  | flt _ => obtain ⟨t, rfl⟩ := r; rfl
  | ref _ => cases r; rfl
  | ty _ => cases r; rfl
theorem is_bool_gen {M : Model} {A : Around} {E : Value → Shared → Prop} {s : Shared} {Q : Value → Shared → Prop} {x : V} {v : Value} {b : Bool} (r : RelV x v) (h : Q (.bool (v == .bool b)) s) : wpAny M A (compareOp .Is v (.bool b)) Q E s := by
  cases x with
  | non => cases r; exact wpAny_pure h
  | bl c => cases r; exact wpAny_pure h
  | int _ => obtain ⟨t, rfl⟩ := r; exact wpAny_pure h
  | str _ => obtain ⟨t, rfl⟩ := r; exact wpAny_pure h
  | byt _ => obtain ⟨t, rfl⟩ := r; exact wpAny_pure h
  | flt _ => obtain ⟨t, rfl⟩ := r; exact wpAny_pure h
  | ref _ => cases r; exact wpAny_pure h
  | ty _ => cases r; exact wpAny_pure h
theorem isnot_bool_gen {M : Model} {A : Around} {E : Value → Shared → Prop} {s : Shared} {Q : Value → Shared → Prop} {x : V} {v : Value} {b : Bool} (r : RelV x v) (h : Q (.bool (!(v == .bool b))) s) : wpAny M A (compareOp .IsNot v (.bool b)) Q E s := by
  cases x with
  | non => cases r; exact wpAny_pure h
  | bl c => cases r; exact wpAny_pure h
  | int _ => obtain ⟨t, rfl⟩ := r; exact wpAny_pure h
  | str _ => obtain ⟨t, rfl⟩ := r; exact wpAny_pure h
  | byt _ => obtain ⟨t, rfl⟩ := r; exact wpAny_pure h
  | flt _ => obtain ⟨t, rfl⟩ := r; exact wpAny_pure h
  | ref _ => cases r; exact wpAny_pure h
  | ty _ => cases r; exact wpAny_pure h
theorem op_isU : OpR X (compareOp .Is) rIsU := by
  intro pins s σ H x y v u Q I rx ry h
  obtain ⟨hy, q⟩ := h
  rcases hy with rfl | ⟨b, rfl⟩
  · cases ry
    exact PyProof.Rows.is_none_gen ⟨.bl _, H, I, by rw [rx.none_iff]; rfl, q⟩
  · cases ry
    exact is_bool_gen rx ⟨.bl _, H, I, by rw [relV_bool rx]; rfl, q⟩
theorem op_isNotU : OpR X (compareOp .IsNot) rNotU := by
  intro pins s σ H x y v u Q I rx ry h
  obtain ⟨hy, q⟩ := h
  rcases hy with rfl | ⟨b, rfl⟩
  · cases ry
    exact PyProof.Rows.isnot_none_gen ⟨.bl _, H, I, by rw [rx.none_iff]; rfl, q⟩
  · cases ry
    exact isnot_bool_gen rx ⟨.bl _, H, I, by rw [relV_bool rx]; rfl, q⟩
theorem rep_non {H : Hp} {Z : Addr → Prop} : ∀ {d : D} {x : V} {F : List Addr}, Rep w H Z d x F → decide (x = .non) = isNon d
  | .non, _, _, ⟨e, _⟩ => by subst e; rfl
  | .bl b, _, _, ⟨e, _⟩ => by subst e; rfl
  | .int b, _, _, ⟨e, _⟩ => by subst e; rfl
  | .str b, _, _, ⟨e, _⟩ => by subst e; rfl
  | .ty b, _, _, ⟨e, _⟩ => by subst e; rfl
  | .cls b, _, _, ⟨⟨C, _, e⟩, _⟩ => by subst e; rfl
  | .tup ds, _, _, ⟨a, vs, e, _⟩ => by subst e; rfl
  | .lst o ds, _, _, ⟨a, vs, F', e, _⟩ => by subst e; rfl
  | .dic .., _, _, ⟨a, vs, F', e, _⟩ => by subst e; rfl
  | .dit .., _, _, ⟨a, vs, F', e, _⟩ => by subst e; rfl
  | .obj .., _, _, ⟨a, C, dx, vs, F', e, _⟩ => by subst e; rfl
  | .scr .., _, _, ⟨a, e, _⟩ => by subst e; rfl
theorem rep_bl {H : Hp} {Z : Addr → Prop} {b : Bool} : ∀ {d : D} {x : V} {F : List Addr}, Rep w H Z d x F → decide (x = .bl b) = isBl b d
  | .non, _, _, ⟨e, _⟩ => by subst e; rfl
  | .bl c, _, _, ⟨e, _⟩ => by subst e; cases b <;> cases c <;> rfl
  | .int b, _, _, ⟨e, _⟩ => by subst e; rfl
  | .str b, _, _, ⟨e, _⟩ => by subst e; rfl
  | .ty b, _, _, ⟨e, _⟩ => by subst e; rfl
  | .cls b, _, _, ⟨⟨C, _, e⟩, _⟩ => by subst e; rfl
  | .tup ds, _, _, ⟨a, vs, e, _⟩ => by subst e; rfl
  | .lst o ds, _, _, ⟨a, vs, F', e, _⟩ => by subst e; rfl
  | .dic .., _, _, ⟨a, vs, F', e, _⟩ => by subst e; rfl
  | .dit .., _, _, ⟨a, vs, F', e, _⟩ => by subst e; rfl
  | .obj .., _, _, ⟨a, C, dx, vs, F', e, _⟩ => by subst e; rfl
  | .scr .., _, _, ⟨a, e, _⟩ => by subst e; rfl
theorem ops_is : OpS w rIsU dIs := OpS.mk fun H x y d1 d2 d Z F1 F2 Q r1 r2 nd nz zd e k => by
  unfold dIs at e
  split at e
  · cases e
    obtain ⟨rfl, rfl⟩ := r2
    exact ⟨.inl rfl, k _ H (Ex.refl H) (Res.flat ⟨congrArg V.bl (rep_non r1), rfl⟩)⟩
  · cases e
    obtain ⟨rfl, rfl⟩ := r2
    exact ⟨.inr ⟨_, rfl⟩, k _ H (Ex.refl H) (Res.flat ⟨congrArg V.bl (rep_bl r1), rfl⟩)⟩
  · cases e
theorem ops_isNot : OpS w rNotU dIsNot := OpS.mk fun H x y d1 d2 d Z F1 F2 Q r1 r2 nd nz zd e k => by
  unfold dIsNot at e
  split at e
  · cases e
    obtain ⟨rfl, rfl⟩ := r2
    exact ⟨.inl rfl, k _ H (Ex.refl H) (Res.flat ⟨congrArg (fun b => V.bl (!b)) (rep_non r1), rfl⟩)⟩
  · cases e
    obtain ⟨rfl, rfl⟩ := r2
    exact ⟨.inr ⟨_, rfl⟩, k _ H (Ex.refl H) (Res.flat ⟨congrArg (fun b => V.bl (!b)) (rep_bl r1), rfl⟩)⟩
  · cases e
theorem nx_is : NoX2 dIs := fun a b c fs h => by
  unfold dIs at h
  split at h <;> cases h
theorem nx_isNot : NoX2 dIsNot := fun a b c fs h => by
  unfold dIsNot at h
  split at h <;> cases h
end
end Vs
set_option maxHeartbeats 2000000
/-! Vs3: expressions: names, constants, displays, tests, subscripts, built-in functions, methods of texts. -/
namespace Vs
open PySem L2

section
variable {X : Cx} {w : Wd}
/-! ### in -/
theorem Rep.fl {H : Hp} {Z : Addr → Prop} : ∀ {d : D} {v u : V} {F : List Addr}, Rep w H Z d v F → Vs.fl d = some u → v = u ∧ flatV u = true
  | .non, _, _, _, ⟨e, _⟩, h => by cases h; exact ⟨e, rfl⟩
  | .bl _, _, _, _, ⟨e, _⟩, h => by cases h; exact ⟨e, rfl⟩
  | .int _, _, _, _, ⟨e, _⟩, h => by cases h; exact ⟨e, rfl⟩
  | .str _, _, _, _, ⟨e, _⟩, h => by cases h; exact ⟨e, rfl⟩
  | .tup .., _, _, _, _, h => by cases h
  | .lst .., _, _, _, _, h => by cases h
  | .dic .., _, _, _, _, h => by cases h
  | .dit .., _, _, _, _, h => by cases h
  | .obj .., _, _, _, _, h => by cases h
  | .scr .., _, _, _, _, h => by cases h
  | .ty .., _, _, _, _, h => by cases h
  | .cls .., _, _, _, _, h => by cases h
theorem Reps.fls {H : Hp} {Z : Addr → Prop} : ∀ {ds : List D} {vs us : List V} {F : List Addr}, Reps w H Z ds vs F → Vs.fls ds = some us → vs = us ∧ us.all flatV = true
  | [], _, _, _, ⟨e, _⟩, h => by cases h; subst e; exact ⟨rfl, rfl⟩
  | d :: ds, _, us, _, ⟨v, r, F1, F2, e, f, h1, h2⟩, h => by
    have h : (match Vs.fl d, Vs.fls ds with | some x, some xs => some (x :: xs) | _, _ => none) = some us := h
    cases hq : Vs.fl d with
    | none => rw [hq] at h; cases h
    | some x =>
      cases hs : Vs.fls ds with
      | none => rw [hq, hs] at h; cases h
      | some xs =>
        rw [hq, hs] at h
        cases h
        obtain ⟨e1, f1⟩ := h1.fl hq
        obtain ⟨e2, f2⟩ := Reps.fls h2 hs
        subst e e1 e2
        exact ⟨rfl, by rw [List.all_cons, f1, f2]; rfl⟩
def rInU (K : PySem.W.Frag) : R2 := fun x y H Q => (∃ i j, x = .str i ∧ y = .str j ∧ Q (.bl (!(Builtin.Str.occurrences j i 0 j.length 1).isEmpty)) H) ∨ rInD K x y H Q ∨ rIn K false x y H Q
def rNotInU (K : PySem.W.Frag) : R2 := fun x y H Q => (∃ i j, x = .str i ∧ y = .str j ∧ Q (.bl (!(!(Builtin.Str.occurrences j i 0 j.length 1).isEmpty))) H) ∨ rNotInD K x y H Q ∨ rIn K true x y H Q
theorem op_inU (hu : X.A.units + 65 < cLine) : OpR X (compareOp .In) (rInU X.K) := OpR.or op_in_str (OpR.or (op_inD hu) op_in_seq)
theorem op_notInU (hu : X.A.units + 65 < cLine) : OpR X (compareOp .NotIn) (rNotInU X.K) := OpR.or op_notIn_str (OpR.or (op_notInD hu) op_notIn_seq)
theorem nx_in : NoX2 dIn := fun a b c fs h => by
  unfold dIn at h
  split at h <;> (try split at h) <;> (try split at h) <;> cases h
theorem nx_notIn : NoX2 dNotIn := fun a b c fs h => by
  unfold dNotIn at h
  split at h <;> cases h
theorem rep_list {H : Hp} {Z : Addr → Prop} {o : Bool} {ys : List D} {v : V} {F : List Addr} {ps : List PyData} (r : Rep w H Z (.lst o ys) v F) (h : pds ys = some ps) : Dp w.K H v (.list ps) :=
  r.dp (by show (pds ys).map PyData.list = _; rw [h]; rfl)
theorem ops_in : OpS w (rInU w.K) dIn := OpS.mk fun H x y d1 d2 d Z F1 F2 Q r1 r2 nd nz zd e k => by
  unfold dIn at e
  split at e
  · cases e
    obtain ⟨rfl, rfl⟩ := r1
    obtain ⟨rfl, rfl⟩ := r2
    exact .inl ⟨_, _, rfl, rfl, k _ H (Ex.refl H) (Res.flat ⟨rfl, rfl⟩)⟩
  · split at e
    · split at e
      · rename_i p ps h1 h2 hs
        cases e
        exact .inr (.inl ⟨p, ps, r1.dp h1, rep_list r2 h2, hs.1, hs.2, k _ H (Ex.refl H) (Res.flat ⟨rfl, rfl⟩)⟩)
      · cases e
    · cases e
  · split at e
    · rename_i p ps h1 h2
      cases e
      obtain ⟨e1, f1⟩ := r1.fl h1
      obtain ⟨a, vs, e2, s, r⟩ := r2
      obtain ⟨e3, f3⟩ := r.fls h2
      subst e1 e2 e3
      exact .inr (.inr ⟨a, _, rfl, .inr s, f1, f3, k _ H (Ex.refl H) (Res.flat ⟨rfl, rfl⟩)⟩)
    · cases e
  · cases e
theorem ops_notIn : OpS w (rNotInU w.K) dNotIn := OpS.mk fun H x y d1 d2 d Z F1 F2 Q r1 r2 nd nz zd e k => by
  unfold dNotIn at e
  split at e
  · rename_i b e0
    cases e
    unfold dIn at e0
    split at e0
    · cases e0
      obtain ⟨rfl, rfl⟩ := r1
      obtain ⟨rfl, rfl⟩ := r2
      exact .inl ⟨_, _, rfl, rfl, k _ H (Ex.refl H) (Res.flat ⟨rfl, rfl⟩)⟩
    · split at e0
      · split at e0
        · rename_i p ps h1 h2 hs
          cases e0
          exact .inr (.inl ⟨p, ps, r1.dp h1, rep_list r2 h2, hs.1, hs.2, k _ H (Ex.refl H) (Res.flat ⟨rfl, rfl⟩)⟩)
        · cases e0
      · cases e0
    · split at e0
      · rename_i p ps h1 h2
        cases e0
        obtain ⟨e1, f1⟩ := r1.fl h1
        obtain ⟨a, vs, e2, s, r⟩ := r2
        obtain ⟨e3, f3⟩ := r.fls h2
        subst e1 e2 e3
        exact .inr (.inr ⟨a, _, rfl, .inr s, f1, f3, k _ H (Ex.refl H) (Res.flat ⟨rfl, rfl⟩)⟩)
      · cases e0
    · cases e0
  · cases e

/-! ### truth -/
theorem emp {xs : List D} {vs : List V} (h : vs.length = xs.length) : (!vs.isEmpty) = !xs.isEmpty := by
  cases xs <;> cases vs <;> first | rfl | cases h
theorem tru_of {H : Hp} {Z : Addr → Prop} {d : D} {v : V} {F : List Addr} {b : Bool} (r : Rep w H Z d v F) (h : dTru d = .ok b) : TruV w.K v H b := by
  cases d with
  | non => cases h; obtain ⟨rfl, _⟩ := r; rfl
  | bl b => cases h; obtain ⟨rfl, _⟩ := r; rfl
  | int b => cases h; obtain ⟨rfl, _⟩ := r; rfl
  | str z =>
    obtain ⟨rfl, _⟩ := r
    have h : (if z.length ≤ SZ then R.ok ((z.length : Int) != 0) else .stk) = .ok b := h
    split at h
    · rename_i hz
      cases h
      exact ⟨sz_line hz, rfl⟩
    · cases h
  | lst o xs =>
    cases h
    obtain ⟨a, vs, G, rfl, s, q, _⟩ := r.lstSq
    exact .inl ⟨vs, SqL.of s, (emp q.length).symm⟩
  | tup xs =>
    cases h
    obtain ⟨a, vs, rfl, s, q⟩ := r
    exact .inr (.inl ⟨vs, s, (emp q.length).symm⟩)
  | dic o ks xs =>
    cases h
    obtain ⟨a, vs, F', rfl, s, l, f, q⟩ := r
    refine .inr (.inr ⟨_, s, ?_⟩)
    have e := q.length
    rw [← l] at e
    cases ks <;> cases vs <;> first | rfl | cases e
  | _ => cases h

/-! ### subscripts -/
theorem ops_ix : OpS w (rIx w.K) dIx := OpS.mk fun H x y d1 d2 d Z F1 F2 Q r1 r2 nd nz zd e k => by
  unfold dIx at e
  split at e
  · split at e
    · rename_i g
      cases e
      obtain ⟨a, vs, G, rfl, s, q, sb⟩ := r1.lstSq
      obtain ⟨rfl, rfl⟩ := r2
      rw [List.append_nil] at *
      obtain ⟨v, Fi, hv, rv, si⟩ := q.atI g
      have ss := si.trans sb
      exact .inl ⟨a, vs, _, v, rfl, rfl, SqL.of s, hv, k _ H (Ex.refl H) (Res.part zd rv (nd.sublist ss) (fun a m => ss.subset m) fun a m => nz a (ss.subset m))⟩
    · cases e
  · split at e
    · rename_i g
      cases e
      obtain ⟨a, vs, rfl, s, q⟩ := r1
      obtain ⟨rfl, rfl⟩ := r2
      rw [List.append_nil] at *
      obtain ⟨v, Fi, hv, rv, ss⟩ := q.atI g
      exact .inr (.inl ⟨a, vs, _, v, rfl, rfl, s, hv, k _ H (Ex.refl H) (Res.part zd rv (nd.sublist ss) (fun a m => ss.subset m) fun a m => nz a (ss.subset m))⟩)
    · cases e
  · split at e
    · rename_i n g
      cases e
      obtain ⟨a, rfl, rfl, s⟩ := r1
      obtain ⟨rfl, rfl⟩ := r2
      refine .inl ⟨a, _, _, .int n, rfl, rfl, s.sq, ?_, k _ H (Ex.refl H) (Res.flat ⟨rfl, rfl⟩)⟩
      unfold atI at g ⊢
      rw [List.length_map]
      revert g
      cases ixN (List.length _) _ with
      | none => exact fun g => by cases g
      | some j =>
        intro g
        show (List.map V.int _)[j]? = _
        rw [List.getElem?_map, show (_ : List Int)[j]? = some n from g]
        rfl
    · cases e
  · split at e
    · split at e
      · rename_i hz _ c g
        cases e
        obtain ⟨rfl, rfl⟩ := r1
        obtain ⟨rfl, rfl⟩ := r2
        exact .inr (.inr ⟨_, _, c, rfl, rfl, sz_line hz, g, k _ H (Ex.refl H) (Res.flat ⟨rfl, rfl⟩)⟩)
      · cases e
    · cases e
  · cases e
theorem nx_ix : NoX2 dIx := fun a b c fs h => by
  unfold dIx at h
  split at h <;> (try split at h) <;> (try split at h) <;> cases h
/-- a slice, by values -/
def rSlU (K : PySem.W.Frag) : V → Option Int → Option Int → Hp → VK → Prop := fun x lo hi H Q => rSlL K x lo hi H Q ∨ rSlA K x lo hi H Q ∨ rSlS x lo hi H Q
theorem sl_U : SlR X (rSlU X.K) := SlR.or sl_list (SlR.or sl_tupA sl_str)
theorem cut_all {xs : List D} {lo hi : Option Int} (h : HT.sIx xs.length 0 lo = 0 ∧ HT.sIx xs.length xs.length hi = xs.length) : cut xs lo hi = xs := by
  unfold cut
  rw [h.1, h.2, List.drop_zero, Nat.sub_zero, List.take_length]
theorem sls {H : Hp} {x : V} {d1 d : D} {Z : Addr → Prop} {F : List Addr} {lo hi : Option Int} {Q : VK} (r1 : Rep w H Z d1 x F) (nd : F.Nodup) (nz : ∀ a ∈ F, ¬ Z a) (zd : ∀ a, Z a → H a ≠ none) (e : dSl d1 lo hi = .ok d)
    (k : ∀ v H2, Ex H H2 → Res w H Z F H2 d v → Q v H2) : rSlU w.K x lo hi H Q := by
  unfold dSl at e
  split at e
  · cases e
    obtain ⟨a, vs, G, rfl, s, q, sb⟩ := r1.lstSq
    obtain ⟨G2, q2, sb2⟩ := q.cut lo hi
    have ss := sb2.trans sb
    exact .inl ⟨a, vs, rfl, SqL.of s, fun p hp => k _ _ (Ex.new hp) (Res.newL zd q2 (nd.sublist ss) (fun a m => ss.subset m) (fun a m => nz a (ss.subset m)) hp)⟩
  · cases e
    obtain ⟨a, vs, rfl, s, q⟩ := r1
    obtain ⟨G2, q2, ss⟩ := q.cut lo hi
    refine .inr (.inl ⟨a, vs, rfl, s, fun hw => ?_, fun _ p hp => k _ _ (Ex.new hp) (Res.newT zd q2 (nd.sublist ss) (fun a m => ss.subset m) (fun a m => nz a (ss.subset m)) hp)⟩)
    rw [q.length] at hw
    rw [cut_all hw] at *
    exact k _ H (Ex.refl H) (Res.part zd ⟨a, vs, rfl, s, q⟩ nd (fun a m => m) nz)
  · split at e
    · rename_i hz
      cases e
      obtain ⟨rfl, rfl⟩ := r1
      exact .inr (.inr ⟨_, rfl, sz_line hz, k _ H (Ex.refl H) (Res.flat ⟨rfl, rfl⟩)⟩)
    · cases e
  · cases e
theorem nx_sl {d : D} {lo hi : Option Int} (c : Str) (fs : List (Str × D)) : dSl d lo hi ≠ .exc c fs := fun h => by
  unfold dSl at h
  split at h <;> (try split at h) <;> cases h

/-! ### built-in functions -/
theorem kvK_len {ks : List Key} {ds : List D} {vs : List V} (l : ks.length = ds.length) (q : vs.length = ds.length) : (kvK ks vs).length = ks.length := by
  unfold kvK
  rw [List.length_zip]
  omega
theorem CallS.mk1 {r : List V → Hp → VK → Prop} {f : List D → R D} (hf : ∀ ds d, f ds = .ok d → ∃ d1, ds = [d1]) (h : ∀ (H : Hp) (x : V) (d1 d : D) (Z : Addr → Prop) (F : List Addr) (Q : VK), Rep w H Z d1 x F → F.Nodup → (∀ a ∈ F, ¬ Z a) → (∀ a, Z a → H a ≠ none) → f [d1] = .ok d →
    (∀ v H2, Ex H H2 → Res w H Z F H2 d v → Q v H2) → r [x] H Q) : CallS w r f := fun H xs ds d Z F Q rr nd nz zd e k => by
  obtain ⟨d1, rfl⟩ := hf ds d e
  obtain ⟨x, rfl, r1⟩ := rr.one
  exact h H x d1 d Z F Q r1 nd nz zd e k
def rLenU (K : PySem.W.Frag) : List V → Hp → VK → Prop := fun xs H Q => (∃ x n, xs = [x] ∧ LenV K x H n ∧ Q (.int n) H) ∨ (∃ a kvs, xs = [V.ref a] ∧ H a = some (.dK kvs) ∧ Q (.int kvs.length) H)
theorem call_lenU : CallR X (.builtin "len") (rLenU X.K) := CallR.or call_len call_lenD
theorem one_of {f : List D → R D} (h0 : ∀ d, f [] ≠ .ok d) (h2 : ∀ a b r d, f (a :: b :: r) ≠ .ok d) : ∀ ds d, f ds = .ok d → ∃ d1, ds = [d1]
  | [], d, e => absurd e (h0 d)
  | [a], _, _ => ⟨a, rfl⟩
  | a :: b :: r, d, e => absurd e (h2 a b r d)
theorem calls_len : CallS w (rLenU w.K) dLen := CallS.mk1 (one_of (fun _ h => by cases h) (fun a _ _ _ h => by cases a <;> cases h)) fun H x d1 d Z F Q r1 nd nz zd e k => by
  unfold dLen at e
  split at e
  · rename_i h; cases h; cases e
    obtain ⟨a, vs, G, rfl, s, q, sb⟩ := r1.lstSq
    exact .inl ⟨_, _, rfl, .inl ⟨vs, SqL.of s, q.length.symm⟩, k _ H (Ex.refl H) (Res.flat ⟨rfl, rfl⟩)⟩
  · rename_i h; cases h; cases e
    obtain ⟨a, vs, rfl, s, q⟩ := r1
    exact .inl ⟨_, _, rfl, .inr ⟨vs, s, q.length.symm⟩, k _ H (Ex.refl H) (Res.flat ⟨rfl, rfl⟩)⟩
  · rename_i h; cases h; cases e
    obtain ⟨a, rfl, rfl, s⟩ := r1
    exact .inl ⟨_, _, rfl, .inl ⟨_, s.sq, (List.length_map ..).symm⟩, k _ H (Ex.refl H) (Res.flat ⟨rfl, rfl⟩)⟩
  · rename_i h; cases h
    split at e
    · rename_i hz
      cases e
      obtain ⟨rfl, rfl⟩ := r1
      exact .inl ⟨_, _, rfl, ⟨sz_line hz, rfl⟩, k _ H (Ex.refl H) (Res.flat ⟨rfl, rfl⟩)⟩
    · cases e
  · rename_i h; cases h; cases e
    obtain ⟨a, vs, F', rfl, s, l, f, q⟩ := r1
    refine .inr ⟨a, _, rfl, s, ?_⟩
    rw [kvK_len l q.length]
    exact k _ H (Ex.refl H) (Res.flat ⟨rfl, rfl⟩)
  · cases e
theorem noX_of {α β : Type} {f : α → R β} (h : ∀ a, (∃ b, f a = .ok b) ∨ f a = .stk) : NoX f := fun a c fs e => by
  rcases h a with ⟨b, q⟩ | q <;> (rw [q] at e; cases e)
theorem nx_len : NoX dLen := fun a c fs h => by
  unfold dLen at h
  split at h <;> (try split at h) <;> cases h
def rIntU : List V → Hp → VK → Prop := fun xs H Q => ((∃ i, xs = [.int i] ∧ Q (.int i) H) ∨ ∃ k, xs = [.bl k] ∧ Q (.int (if k then 1 else 0)) H) ∨ (∃ a n, xs = [.str a] ∧ PySem.intText? a = some n ∧ a.length ≤ 640 ∧ Q (.int n) H)
theorem call_intU : CallR X (.type "int") rIntU := CallR.or call_int1 call_int_str
theorem calls_int : CallS w rIntU dInt := CallS.mk1 (one_of (fun _ h => by cases h) (fun a _ _ _ h => by cases a <;> cases h)) fun H x d1 d Z F Q r1 nd nz zd e k => by
  unfold dInt at e
  split at e
  · rename_i h; cases h; cases e
    obtain ⟨rfl, rfl⟩ := r1
    exact .inl (.inl ⟨_, rfl, k _ H (Ex.refl H) (Res.flat ⟨rfl, rfl⟩)⟩)
  · rename_i h; cases h; cases e
    obtain ⟨rfl, rfl⟩ := r1
    exact .inl (.inr ⟨_, rfl, k _ H (Ex.refl H) (Res.flat ⟨rfl, rfl⟩)⟩)
  · rename_i h; cases h
    split at e
    · rename_i hz
      split at e
      · rename_i n hn
        cases e
        obtain ⟨rfl, rfl⟩ := r1
        exact .inr ⟨_, n, rfl, hn, hz, k _ H (Ex.refl H) (Res.flat ⟨rfl, rfl⟩)⟩
      · cases e
    · cases e
  · cases e
theorem nx_int : NoX dInt := fun a c fs h => by
  unfold dInt at h
  split at h <;> (try split at h) <;> (try split at h) <;> cases h
def rStrU : List V → Hp → VK → Prop := fun xs H Q => (∃ i : Int, xs = [.int i] ∧ i.natAbs.log2 < 1920 ∧ Q (.str (toString i)) H) ∨ (∃ a, xs = [.str a] ∧ Q (.str a) H)
theorem call_strU : CallR X (.type "str") rStrU := CallR.or call_str_int SkE.call_str_str
theorem calls_str : CallS w rStrU dStr := CallS.mk1 (one_of (fun _ h => by cases h) (fun a _ _ _ h => by cases a <;> cases h)) fun H x d1 d Z F Q r1 nd nz zd e k => by
  unfold dStr at e
  split at e
  · rename_i h; cases h
    split at e
    · rename_i hz
      cases e
      obtain ⟨rfl, rfl⟩ := r1
      exact .inl ⟨_, rfl, hz, k _ H (Ex.refl H) (Res.flat ⟨rfl, rfl⟩)⟩
    · cases e
  · rename_i h; cases h
    split at e
    · cases e
      obtain ⟨rfl, rfl⟩ := r1
      exact .inr ⟨_, rfl, k _ H (Ex.refl H) (Res.flat ⟨rfl, rfl⟩)⟩
    · cases e
  · cases e
theorem nx_str : NoX dStr := fun a c fs h => by
  unfold dStr at h
  split at h <;> (try split at h) <;> cases h
def rListU (K : PySem.W.Frag) : List V → Hp → VK → Prop := fun xs H Q => ∃ p ys, xs = [.ref p] ∧ (SqL K H p ys ∨ SqT K H p ys) ∧ ∀ l, H l = none → Q (.ref l) (upd H l (.lst ys))
theorem calls_list : CallS w (rListU w.K) dListOf := CallS.mk1 (one_of (fun _ h => by cases h) (fun a _ _ _ h => by cases a <;> cases h)) fun H x d1 d Z F Q r1 nd nz zd e k => by
  unfold dListOf at e
  split at e
  · rename_i h; cases h; cases e
    obtain ⟨a, vs, G, rfl, s, q, ss⟩ := r1.lstSq
    exact ⟨a, vs, rfl, .inl (SqL.of s), fun l hl => k _ _ (Ex.new hl) (Res.newL zd q (nd.sublist ss) (fun a m => ss.subset m) (fun a m => nz a (ss.subset m)) hl)⟩
  · rename_i h; cases h; cases e
    obtain ⟨a, vs, rfl, s, q⟩ := r1
    exact ⟨a, vs, rfl, .inr s, fun l hl => k _ _ (Ex.new hl) (Res.newL zd q nd (fun a m => m) nz hl)⟩
  · rename_i h; cases h; cases e
    obtain ⟨a, rfl, rfl, s⟩ := r1
    exact ⟨a, _, rfl, .inl s.sq, fun l hl => k _ _ (Ex.new hl) (Res.newL zd (reps_ints _) nd (fun a m => m) nz hl)⟩
  · cases e
theorem nx_list : NoX dListOf := fun a c fs h => by
  unfold dListOf at h
  split at h <;> cases h
def rTupleU (K : PySem.W.Frag) : List V → Hp → VK → Prop := fun xs H Q => ∃ p ys, xs = [.ref p] ∧ ((SqL K H p ys ∧ ∀ l, H l = none → Q (.ref l) (upd H l (.tup ys))) ∨ (SqT K H p ys ∧ Q (.ref p) H))
theorem calls_tuple : CallS w (rTupleU w.K) dTupleOf := CallS.mk1 (one_of (fun _ h => by cases h) (fun a _ _ _ h => by cases a <;> cases h)) fun H x d1 d Z F Q r1 nd nz zd e k => by
  unfold dTupleOf at e
  split at e
  · rename_i h; cases h; cases e
    obtain ⟨a, vs, G, rfl, s, q, ss⟩ := r1.lstSq
    exact ⟨a, vs, rfl, .inl ⟨SqL.of s, fun l hl => k _ _ (Ex.new hl) (Res.newT zd q (nd.sublist ss) (fun a m => ss.subset m) (fun a m => nz a (ss.subset m)) hl)⟩⟩
  · rename_i h; cases h; cases e
    obtain ⟨a, vs, rfl, s, q⟩ := r1
    exact ⟨a, vs, rfl, .inr ⟨s, k _ H (Ex.refl H) (Res.part zd ⟨a, vs, rfl, s, q⟩ nd (fun a m => m) nz)⟩⟩
  · rename_i h; cases h; cases e
    obtain ⟨a, rfl, rfl, s⟩ := r1
    exact ⟨a, _, rfl, .inl ⟨s.sq, fun l hl => k _ _ (Ex.new hl) (Res.newT zd (reps_ints _) nd (fun a m => m) nz hl)⟩⟩
  · cases e
theorem nx_tuple : NoX dTupleOf := fun a c fs h => by
  unfold dTupleOf at h
  split at h <;> cases h
theorem two_ints {H : Hp} {Z : Addr → Prop} {xs : List V} {i j : Int} {F : List Addr} (h : Reps w H Z [.int i, .int j] xs F) : xs = [.int i, .int j] := by
  obtain ⟨v, r, F1, F2, e, f, ⟨h1, _⟩, v2, r2, F3, F4, e2, f2, ⟨h2, _⟩, e3, f3⟩ := h
  subst e h1 e2 h2 e3
  rfl
theorem calls_max2 : CallS w (fun xs H Q => ∃ i j : Int, xs = [.int i, .int j] ∧ Q (.int (if j > i then j else i)) H) dMax2 := fun H xs ds d Z F Q rr nd nz zd e k => by
  unfold dMax2 at e
  split at e
  · cases e
    obtain rfl := two_ints rr
    exact ⟨_, _, rfl, k _ H (Ex.refl H) (Res.flat ⟨rfl, rfl⟩)⟩
  · cases e
theorem nx_max2 : NoX dMax2 := fun a c fs h => by
  unfold dMax2 at h
  split at h <;> cases h
theorem calls_min2 : CallS w (fun xs H Q => ∃ i j : Int, xs = [.int i, .int j] ∧ Q (.int (if j < i then j else i)) H) dMin2 := fun H xs ds d Z F Q rr nd nz zd e k => by
  unfold dMin2 at e
  split at e
  · cases e
    obtain rfl := two_ints rr
    exact ⟨_, _, rfl, k _ H (Ex.refl H) (Res.flat ⟨rfl, rfl⟩)⟩
  · cases e
theorem nx_min2 : NoX dMin2 := fun a c fs h => by
  unfold dMin2 at h
  split at h <;> cases h
theorem calls_abs : CallS w (fun xs H Q => ∃ i : Int, xs = [.int i] ∧ Q (.int (if i < 0 then -i else i)) H) dAbs := CallS.mk1 (one_of (fun _ h => by cases h) (fun a _ _ _ h => by cases a <;> cases h)) fun H x d1 d Z F Q r1 nd nz zd e k => by
  unfold dAbs at e
  split at e
  · rename_i h; cases h; cases e
    obtain ⟨rfl, rfl⟩ := r1
    exact ⟨_, rfl, k _ H (Ex.refl H) (Res.flat ⟨rfl, rfl⟩)⟩
  · cases e
theorem nx_abs : NoX dAbs := fun a c fs h => by
  unfold dAbs at h
  split at h <;> cases h
theorem calls_all : CallS w (rAll w.K) dAll := CallS.mk1 (one_of (fun _ h => by cases h) (fun a _ _ _ h => by cases a <;> cases h)) fun H x d1 d Z F Q r1 nd nz zd e k => by
  unfold dAll at e
  split at e
  · rename_i h; cases h
    split at e
    · rename_i bs hb
      cases e
      obtain ⟨a, vs, G, rfl, s, q, ss⟩ := r1.lstSq
      obtain rfl := q.bools hb
      exact ⟨a, bs, rfl, SqL.of s, k _ H (Ex.refl H) (Res.flat ⟨rfl, rfl⟩)⟩
    · cases e
  · cases e
theorem nx_all : NoX dAll := fun a c fs h => by
  unfold dAll at h
  split at h <;> (try split at h) <;> cases h
theorem calls_any : CallS w (rAny w.K) dAny := CallS.mk1 (one_of (fun _ h => by cases h) (fun a _ _ _ h => by cases a <;> cases h)) fun H x d1 d Z F Q r1 nd nz zd e k => by
  unfold dAny at e
  split at e
  · rename_i h; cases h
    split at e
    · rename_i bs hb
      cases e
      obtain ⟨a, vs, G, rfl, s, q, ss⟩ := r1.lstSq
      obtain rfl := q.bools hb
      exact ⟨a, bs, rfl, SqL.of s, k _ H (Ex.refl H) (Res.flat ⟨rfl, rfl⟩)⟩
    · cases e
  · cases e
theorem nx_any : NoX dAny := fun a c fs h => by
  unfold dAny at h
  split at h <;> (try split at h) <;> cases h
theorem calls_sum : CallS w (rSum w.K) dSum := CallS.mk1 (one_of (fun _ h => by cases h) (fun a _ _ _ h => by cases a <;> cases h)) fun H x d1 d Z F Q r1 nd nz zd e k => by
  unfold dSum at e
  split at e
  · rename_i h; cases h
    split at e
    · rename_i bs hb
      cases e
      obtain ⟨a, vs, G, rfl, s, q, ss⟩ := r1.lstSq
      obtain rfl := q.ints hb
      exact ⟨a, bs, rfl, SqL.of s, k _ H (Ex.refl H) (Res.flat ⟨rfl, rfl⟩)⟩
    · cases e
  · cases e
theorem nx_sum : NoX dSum := fun a c fs h => by
  unfold dSum at h
  split at h <;> (try split at h) <;> cases h

/-! ### isinstance -/
/-- what the written part says of a class of one's own, for isinstance -/
structure IsaOk (K : PySem.W.Frag) (C : Addr) : Prop where
  cl : Cls K C
  ha : PySem.W.findIn K (.ref C) "__class__" = some (some (.builtin "object.__class__"))
  hn : PySem.W.specialIn K (.builtin "object.__class__") "__get__" = some (some (.builtin "getset_descriptor.__get__"))
  htk : PySem.W.takesIn K (.builtin "object.__class__") = some true
  hm : PySem.W.mroIn K C (.type "object") = some true
theorem tyX_of {H : Hp} {Z : Addr → Prop} {d : D} {v : V} {F : List Addr} {n : String} (r : Rep w H Z d v F) (h : tyN d = some n) : TyX w.K H v (.type n) := by
  cases d with
  | non => cases h; obtain ⟨rfl, _⟩ := r; exact .base .non
  | bl b => cases h; obtain ⟨rfl, _⟩ := r; exact .base (.bl b)
  | int b => cases h; obtain ⟨rfl, _⟩ := r; exact .base (.int b)
  | str b => cases h; obtain ⟨rfl, _⟩ := r; exact .base (.str b)
  | tup ds =>
    cases h
    obtain ⟨a, vs, rfl, s, _⟩ := r
    rcases s with (s | ⟨o, s⟩) | ⟨o, its, n, hk, hc, hs, hz, rv⟩
    · exact .base (.tup s)
    · exact .fTuple s
    · exact .kTuple hk hc
  | lst o ds =>
    cases h
    obtain ⟨a, vs, G, rfl, s, _⟩ := r.lstSq
    exact .base (.lst s)
  | scr ns =>
    cases h
    obtain ⟨a, rfl, rfl, s⟩ := r
    rcases s with ⟨_, s⟩ | ⟨o, s⟩ | ⟨o, its, n, hk, hc, _⟩
    · exact .base (.lst s)
    · exact .base (.frz s)
    · exact .kList hk hc
  | dic o ks ds =>
    cases h
    obtain ⟨a, vs, F', rfl, s, _⟩ := r
    exact .base (.dK s)
  | dit o ks ds =>
    cases h
    obtain ⟨a, vs, F', rfl, s, _⟩ := r
    exact .base (.dT s)
  | _ => cases h
theorem calls_isi {cl : List Str} (hcl : ∀ c ∈ cl, ∀ C, w.mg c = some (.ref C) → IsaOk w.K C) : CallS w (rIsi w.K) (dIsi cl) := fun H xs ds d Z F Q rr nd nz zd e k => by
  unfold dIsi at e
  split at e
  · rename_i o c ns vs c'
    split at e
    · rename_i hc
      cases e
      obtain ⟨rfl, hm⟩ := hc
      obtain ⟨v, r, F1, F2, e1, f1, ⟨a, C, dx, vs, F', e2, m, s, _⟩, v2, r2, F3, F4, e3, f3, ⟨⟨C', m', e4⟩, _⟩, e5, _⟩ := rr
      subst e1 e2 e3 e4 e5
      obtain rfl : C = C' := by
        rw [m] at m'
        cases m'
        rfl
      have q := hcl c hm C m
      refine ⟨.ref a, .ref C, .ref C, .ref C, true, rfl, .own C, .base (.ins s q.cl q.ha q.hn q.htk q.hm), ?_, k _ H (Ex.refl H) (Res.flat ⟨rfl, rfl⟩)⟩
      unfold PySem.W.kitOne
      rw [if_pos (beq_self_eq_true _)]
    · cases e
  · split at e
    · split at e
      · rename_i n hn _ b hb
        cases e
        obtain ⟨v, r, F1, F2, e1, f1, r1, v2, r2, F3, F4, e3, f3, ⟨e4, _⟩, e5, _⟩ := rr
        subst e1 e3 e4 e5
        exact ⟨v, .ty _, .type n, .type _, b, rfl, .ty _, tyX_of r1 hn, kit_ty hb, k _ H (Ex.refl H) (Res.flat ⟨rfl, rfl⟩)⟩
      · cases e
    · cases e
  · cases e
theorem nx_isi {cl : List Str} : NoX (dIsi cl) := fun a c fs h => by
  unfold dIsi at h
  split at h <;> (try split at h) <;> (try split at h) <;> cases h
end
end Vs
set_option maxHeartbeats 2000000
/-! Vs4: the judgements of expressions. -/
namespace Vs
open PySem L2

section
variable {X : Cx} {W : WX} {w : Wd} {a b c e : Expr} {es : List Expr} {pos : Pos} {s sa sb sc : Env → R D} {ss : Env → R (List D)} {t ta tb : Env → R Bool} {u ua ub uc : List Nat}
/-! ### names, constants -/
theorem ke_var {i : Nat} (h : PE X e (tVar i)) : KE X W e (ld i) [i] := pe_imp h fun σ H Q q => by
  obtain ⟨Z, env, Fs, E, q⟩ := q
  obtain ⟨d, ed, q⟩ := q.noX fun c fs z => by
    unfold ld at z
    split at z <;> cases z
  unfold ld at ed
  split at ed
  · rename_i d0 hd
    cases ed
    obtain ⟨v, hv, r⟩ := E.rep i d0 hd
    refine ⟨v, hv, q v H (Ex.refl H) ⟨Zu Z Fs [i], [], r.frz (fun a z => .inl z) (fun a m => .inr ⟨i, List.mem_singleton.mpr rfl, m⟩), List.nodup_nil, fun a m => (by cases m), fun a z => ⟨.inl z, Zu.dom E a z⟩⟩⟩
  · cases ed
theorem ke_c {v : V} {d : D} (h : PE X e (tC v)) (r : ∀ H Z, Rep (wd X) H Z d v []) : KE X W e (fun _ => .ok d) [] := pe_imp h fun σ H Q q => by
  obtain ⟨Z, env, Fs, E, q⟩ := q
  exact q v H (Ex.refl H) (Res.flat (r H _))
theorem ke_int {i : Int} {j pos} : KE X W (.Constant (.int i) j pos) (fun _ => .ok (.int i)) [] := ke_c pe_int fun _ _ => ⟨rfl, rfl⟩
theorem ke_bl {i : Bool} {j pos} : KE X W (.Constant (.bool i) j pos) (fun _ => .ok (.bl i)) [] := ke_c pe_bl fun _ _ => ⟨rfl, rfl⟩
theorem ke_non {j pos} : KE X W (.Constant .none j pos) (fun _ => .ok .non) [] := ke_c pe_non fun _ _ => ⟨rfl, rfl⟩
theorem ke_str {i : Str} {j pos} : KE X W (.Constant (.str i) j pos) (fun _ => .ok (.str i)) [] := ke_c pe_str fun _ _ => ⟨rfl, rfl⟩
/-- a built-in class as a value -/
theorem ke_ty {x : Str} {n : String} {pos : Pos} (hg : Gl X x) (hm : X.mg x = none) (hv : bootBuiltins x = some (.type n)) (hn : x ≠ "__name__" := by decide) (hd : (x == ("__debug__" : Str)) = false := by decide) : KE X W (.Name x pos) (fun _ => .ok (.ty n)) [] :=
  ke_c (pe_bltn hg hm hv (v := .ty n) rfl hn hd) fun _ _ => ⟨rfl, rfl⟩
theorem ke_cls {x : Str} {C : Addr} {pos : Pos} (hg : Gl X x) (hm : X.mg x = some (.ref C)) (hd : (x == ("__debug__" : Str)) = false := by decide) : KE X W (.Name x pos) (fun _ => .ok (.cls x)) [] :=
  ke_c (pe_glob hg hm (v := .ref C) rfl hd) fun _ _ => ⟨⟨C, hm, rfl⟩, rfl⟩
/-! ### lists of arguments -/
theorem ka_nil : KA X W [] (fun _ => .ok []) [] := pa_imp pa_nil fun σ H Q q => by
  obtain ⟨Z, env, Fs, E, q⟩ := q
  exact q [] H (Ex.refl H) ⟨fun _ => False, [], ⟨rfl, rfl⟩, List.nodup_nil, fun a m => (by cases m), fun a z => z.elim⟩
theorem ka_cons (h : KE X W e s u) (hr : KA X W es ss ua) (hs : starEach (e :: es) X.env = (false, eval e X.env) :: starEach es X.env := by rfl) : KA X W (e :: es) (fun env => s env >>= fun d => ss env >>= fun ds => .ok (d :: ds)) (u ++ ua) :=
  pa_imp (pa_cons h hr hs) fun σ H Q q => by
    obtain ⟨Z, env, Fs, E, q⟩ := q
    refine ⟨Z, env, Fs, E, (q.bind (Ex.refl H) Zu.left).imp (Ex.refl H) (fun _ z => z) fun d1 _ q v1 H1 e1 r1 => ?_⟩
    refine ⟨Z, env, Fs, E.ex e1, (q.bind e1 Zu.right).imp (Ex.refl H1) (fun _ z => z) fun d2 _ q v2 H2 e2 r2 => ?_⟩
    exact q _ H2 (e1.trans e2) ((r1.up Zu.left).cons e1 e2 r2 fun a z => ⟨Zu.right a z, Zu.dom E a z⟩)
/-- what follows the arguments -/
theorem args_then {f : List D → R D} (nx : NoX f) {σ : L2.St} {H : Hp} {Q : VK} (h : vE w W (fun env => ss env >>= f) u σ H Q) :
    vA w W ss u σ H fun vs H1 => ∃ ds d Z F, Reps w H1 Z ds vs F ∧ F.Nodup ∧ (∀ a ∈ F, ¬ Z a) ∧ (∀ a, Z a → H1 a ≠ none) ∧ f ds = .ok d ∧ ∀ v H2, Ex H1 H2 → Res w H1 Z F H2 d v → Q v H2 := by
  obtain ⟨Z, env, Fs, E, h⟩ := h
  refine ⟨Z, env, Fs, E, (h.bind (Ex.refl H) (fun _ z => z)).imp (Ex.refl H) (fun _ z => z) fun ds _ h vs H1 e1 r1 => ?_⟩
  obtain ⟨d, ed, h⟩ := h.noX fun c fs => nx ds c fs
  obtain ⟨Z2, F, rr, nd, f2, z2⟩ := r1
  refine ⟨ds, d, Z2, F, rr, nd, fun a m => (f2 a m).2, fun a z => (z2 a z).2, ed, fun v H3 e3 r3 => ?_⟩
  exact h v H3 (e1.trans e3) (r3.behind e1 (fun a m => (f2 a m).1.elim id fun z => (by cases z)) fun a z => (z2 a z).1.imp id fun q => q.elim (fun z => (by cases z)) id)
theorem ke_callB {id : String} {x : Str} {p : Pos} {r : List V → Hp → VK → Prop} {f : List D → R D} (hc : CallR X (.builtin id) r) (hs : CallS (wd X) r f) (nx : NoX f) (hg : Gl X x) (hm : X.mg x = none) (hv : bootBuiltins x = some (.builtin id)) (ha : KA X W (e :: es) ss u) (hn : x ≠ "__name__" := by decide) (hdb : (x == ("__debug__" : Str)) = false := by decide)
    (he : starEach (e :: es) X.env = (false, eval e X.env) :: starEach es X.env := by rfl) (hpl : (backTo pos (starEach es X.env)).any (·.1) = false := by rfl) : KE X W (.Call (.Name x p) (e :: es) [] pos) (fun env => ss env >>= f) u :=
  pe_imp (pe_callB hc hg hm hv ha hn hdb he hpl) fun σ H Q q => by
    have q := args_then nx q
    obtain ⟨Z, env, Fs, E, q⟩ := q
    exact ⟨Z, env, Fs, E, q.imp (Ex.refl H) (fun _ z => z) fun ds0 _ q vs H1 e1 r1 => by
      obtain ⟨ds, d, Z, F, rr, nd, nz, zd, ed, k⟩ := q vs H1 e1 r1
      exact hs H1 vs ds d Z F Q rr nd nz zd ed k⟩
theorem ke_callTy {T : String} {x : Str} {p : Pos} {r : List V → Hp → VK → Prop} {f : List D → R D} (hc : CallR X (.type T) r) (hs : CallS (wd X) r f) (nx : NoX f) (hg : Gl X x) (hm : X.mg x = none) (hv : bootBuiltins x = some (.type T)) (ha : KA X W (e :: es) ss u) (hn : x ≠ "__name__" := by decide) (hdb : (x == ("__debug__" : Str)) = false := by decide)
    (he : starEach (e :: es) X.env = (false, eval e X.env) :: starEach es X.env := by rfl) (hpl : (backTo pos (starEach es X.env)).any (·.1) = false := by rfl) : KE X W (.Call (.Name x p) (e :: es) [] pos) (fun env => ss env >>= f) u :=
  pe_imp (pe_callTy hc hg hm hv ha hn hdb he hpl) fun σ H Q q => by
    have q := args_then nx q
    obtain ⟨Z, env, Fs, E, q⟩ := q
    exact ⟨Z, env, Fs, E, q.imp (Ex.refl H) (fun _ z => z) fun ds0 _ q vs H1 e1 r1 => by
      obtain ⟨ds, d, Z, F, rr, nd, nz, zd, ed, k⟩ := q vs H1 e1 r1
      exact hs H1 vs ds d Z F Q rr nd nz zd ed k⟩
/-! ### displays -/
theorem mk_ok {ds : List D} {d : D} (h : mkTup ds = .ok d) : d = .tup ds ∧ ds.length ≤ SZ := by
  unfold mkTup at h
  split at h
  · cases h
    exact ⟨rfl, by assumption⟩
  · cases h
theorem mkl_ok {ds : List D} {d : D} (h : mkLst ds = .ok d) : d = .lst true ds ∧ ds.length ≤ SZ := by
  unfold mkLst at h
  split at h
  · cases h
    exact ⟨rfl, by assumption⟩
  · cases h
theorem nx_mkTup : NoX mkTup := fun a c fs h => by
  unfold mkTup at h
  split at h <;> cases h
theorem nx_mkLst : NoX mkLst := fun a c fs h => by
  unfold mkLst at h
  split at h <;> cases h
theorem vA_mono {σ : L2.St} {H : Hp} {Q Q' : List V → Hp → Prop} (h : vA w W ss u σ H Q) (k : ∀ vs H', Q vs H' → Q' vs H') : vA w W ss u σ H Q' := by
  obtain ⟨Z, env, Fs, E, q⟩ := h
  exact ⟨Z, env, Fs, E, q.imp (Ex.refl H) (fun _ z => z) fun ds0 _ q vs H1 e1 r1 => k _ _ (q vs H1 e1 r1)⟩
theorem vE_mono {σ : L2.St} {H : Hp} {Q Q' : VK} (h : vE w W s u σ H Q) (k : ∀ vs H', Q vs H' → Q' vs H') : vE w W s u σ H Q' := by
  obtain ⟨Z, env, Fs, E, q⟩ := h
  exact ⟨Z, env, Fs, E, q.imp (Ex.refl H) (fun _ z => z) fun ds0 _ q vs H1 e1 r1 => k _ _ (q vs H1 e1 r1)⟩
theorem ke_tup {x1} (h : KA X W es ss u) : KE X W (.Tuple es x1 pos) (fun env => ss env >>= mkTup) u := pe_imp (pe_tup h) fun σ H Q q =>
  vA_mono (args_then nx_mkTup q) fun vs H1 ⟨ds, d, Z, F, rr, nd, nz, zd, ed, k⟩ => by
    obtain ⟨rfl, hz⟩ := mk_ok ed
    exact ⟨by rw [rr.length]; exact sz_line hz, fun p hp => k _ _ (Ex.new hp) (Res.newT zd rr nd (fun a m => m) nz hp)⟩
theorem ke_lst (h : KA X W es ss u) : KE X W (.List es pos) (fun env => ss env >>= mkLst) u := pe_imp (pe_lst h) fun σ H Q q =>
  vA_mono (args_then nx_mkLst q) fun vs H1 ⟨ds, d, Z, F, rr, nd, nz, zd, ed, k⟩ => by
    obtain ⟨rfl, hz⟩ := mkl_ok ed
    exact ⟨by rw [rr.length]; exact sz_line hz, fun p hp => k _ _ (Ex.new hp) (Res.newL zd rr nd (fun a m => m) nz hp)⟩
/-! ### one operand -/
theorem one_then {f : D → R D} (nx : NoX f) {σ : L2.St} {H : Hp} {Q : VK} (h : vE w W (fun env => s env >>= f) u σ H Q) :
    vE w W s u σ H fun v H1 => ∃ d0 d Z F, Rep w H1 Z d0 v F ∧ F.Nodup ∧ (∀ a ∈ F, ¬ Z a) ∧ (∀ a, Z a → H1 a ≠ none) ∧ f d0 = .ok d ∧ ∀ v H2, Ex H1 H2 → Res w H1 Z F H2 d v → Q v H2 := by
  obtain ⟨Z, env, Fs, E, h⟩ := h
  refine ⟨Z, env, Fs, E, (h.bind (Ex.refl H) (fun _ z => z)).imp (Ex.refl H) (fun _ z => z) fun ds _ h vs H1 e1 r1 => ?_⟩
  obtain ⟨d, ed, h⟩ := h.noX fun c fs => nx ds c fs
  obtain ⟨Z2, F, rr, nd, f2, z2⟩ := r1
  refine ⟨ds, d, Z2, F, rr, nd, fun a m => (f2 a m).2, fun a z => (z2 a z).2, ed, fun v H3 e3 r3 => ?_⟩
  exact h v H3 (e1.trans e3) (r3.behind e1 (fun a m => (f2 a m).1.elim id fun z => (by cases z)) fun a z => (z2 a z).1.imp id fun q => q.elim (fun z => (by cases z)) id)
theorem nx_neg : NoX dNeg := fun a c fs h => by
  unfold dNeg at h
  split at h <;> cases h
theorem ke_neg (ha : KE X W a sa ua) : KE X W (.UnaryOp .USub a pos) (fun env => sa env >>= dNeg) ua := pe_imp (pe_un un_neg ha) fun σ H Q q =>
  vE_mono (one_then nx_neg q) fun v H1 ⟨d0, d, Z, F, rr, nd, nz, zd, ed, k⟩ => by
    unfold dNeg at ed
    split at ed
    · cases ed
      obtain ⟨rfl, rfl⟩ := rr
      exact ⟨_, rfl, k _ H1 (Ex.refl H1) (Res.flat ⟨rfl, rfl⟩)⟩
    · cases ed
/-! ### tests -/
theorem vT_mono {σ : L2.St} {H : Hp} {Q Q' : Bool → Hp → Prop} (h : vT w W t u σ H Q) (k : ∀ vs H', Q vs H' → Q' vs H') : vT w W t u σ H Q' := by
  obtain ⟨Z, env, Fs, E, q⟩ := h
  exact ⟨Z, env, Fs, E, q.imp (Ex.refl H) (fun _ z => z) fun ds0 _ q H1 e1 => k _ _ (q H1 e1)⟩
theorem nx_tru : NoX dTru := fun a c fs h => by
  unfold dTru at h
  split at h <;> (try split at h) <;> cases h
theorem tru_then {σ : L2.St} {H : Hp} {Q : Bool → Hp → Prop} (h : vT w W (fun env => s env >>= dTru) u σ H Q) : vE w W s u σ H fun x H' => ∃ k, TruV w.K x H' k ∧ Q k H' := by
  obtain ⟨Z, env, Fs, E, h⟩ := h
  refine ⟨Z, env, Fs, E, (h.bind (Ex.refl H) (fun _ z => z)).imp (Ex.refl H) (fun _ z => z) fun d _ h v H1 e1 r1 => ?_⟩
  obtain ⟨b, eb, h⟩ := h.noX fun c fs => nx_tru d c fs
  obtain ⟨Z2, F, rr, _⟩ := r1
  exact ⟨b, tru_of rr eb, h H1 e1⟩
theorem kt_tru (h : KE X W e s u) (he : ∀ whole, isTrue e X.env whole = (do let v ← whole; standAt e.pos; holding [v] (truthy v)) := by intro _; rfl) : KT X W e (fun env => s env >>= dTru) u :=
  pt_imp (pt_truth h he) fun _ _ _ q => tru_then q
theorem kt_not (h : KT X W a t u) : KT X W (.UnaryOp .Not a pos) (fun env => t env >>= fun b => .ok (!b)) u := pt_imp (pt_not h) fun σ H Q q => by
  obtain ⟨Z, env, Fs, E, q⟩ := q
  refine ⟨Z, env, Fs, E, (q.bind (Ex.refl H) (fun _ z => z)).imp (Ex.refl H) (fun _ z => z) fun b _ q H1 e1 => q H1 e1⟩
theorem kw_and1 (h : KT X W a t u) : KW X W (.BoolOp .And [a] pos) t u := pw_and1 h
theorem kw_or1 (h : KT X W a t u) : KW X W (.BoolOp .Or [a] pos) t u := pw_or1 h
theorem kw_and {rest : List Expr} (ha : KT X W a ta ua) (hb : KW X W (.BoolOp .And (b :: rest) pos) tb ub) : KW X W (.BoolOp .And (a :: b :: rest) pos) (fun env => ta env >>= fun k => if k = true then tb env else .ok false) (ua ++ ub) :=
  pw_imp (pw_and ha hb) fun σ H Q q => by
    obtain ⟨Z, env, Fs, E, q⟩ := q
    refine ⟨Z, env, Fs, E, (q.bind (Ex.refl H) Zu.left).imp (Ex.refl H) (fun _ z => z) fun k _ q H1 e1 => ?_⟩
    cases k with
    | true => exact ⟨Z, env, Fs, E.ex e1, Pst.imp (show Pst (wd X) W σ H (Zu Z Fs (ua ++ ub)) (tb env) _ from q) e1 Zu.right fun b _ q H2 e2 => q H2 (e1.trans e2)⟩
    | false => exact q H1 e1
theorem kw_or {rest : List Expr} (ha : KT X W a ta ua) (hb : KW X W (.BoolOp .Or (b :: rest) pos) tb ub) : KW X W (.BoolOp .Or (a :: b :: rest) pos) (fun env => ta env >>= fun k => if k = true then .ok true else tb env) (ua ++ ub) :=
  pw_imp (pw_or ha hb) fun σ H Q q => by
    obtain ⟨Z, env, Fs, E, q⟩ := q
    refine ⟨Z, env, Fs, E, (q.bind (Ex.refl H) Zu.left).imp (Ex.refl H) (fun _ z => z) fun k _ q H1 e1 => ?_⟩
    cases k with
    | false => exact ⟨Z, env, Fs, E.ex e1, Pst.imp (show Pst (wd X) W σ H (Zu Z Fs (ua ++ ub)) (tb env) _ from q) e1 Zu.right fun b _ q H2 e2 => q H2 (e1.trans e2)⟩
    | true => exact q H1 e1
theorem kt_w (h : KW X W e t u) : KT X W e t u := h.pt
/-- and, or as values, by truth -/
theorem ke_one {op} (h : KE X W a s u) : KE X W (.BoolOp op [a] pos) s u := pe_one h
theorem ke_and {rest : List Expr} (ha : KE X W a sa ua) (hb : KE X W (.BoolOp .And (b :: rest) pos) sb ub) : KE X W (.BoolOp .And (a :: b :: rest) pos) (fun env => sa env >>= fun x => dTru x >>= fun k => if k = true then sb env else .ok x) (ua ++ ub) :=
  pe_imp (pe_andT ha hb) fun σ H Q q => by
    obtain ⟨Z, env, Fs, E, q⟩ := q
    refine ⟨Z, env, Fs, E, (q.bind (Ex.refl H) Zu.left).imp (Ex.refl H) (fun _ z => z) fun x _ q v H1 e1 r1 => ?_⟩
    have q := q.bind (Ex.refl H) (fun _ z => z)
    obtain ⟨k, ek, q⟩ := q.noX fun c fs => nx_tru x c fs
    have r1' := r1
    obtain ⟨Z2, F, rr, _⟩ := r1
    refine ⟨k, tru_of rr ek, ?_⟩
    cases k with
    | true => exact ⟨Z, env, Fs, E.ex e1, Pst.imp (show Pst (wd X) W σ H (Zu Z Fs (ua ++ ub)) (sb env) _ from q) e1 Zu.right fun b _ q v2 H2 e2 r2 => q v2 H2 (e1.trans e2) (r2.behind e1 (fun a m => (by cases m)) fun a z => .inl (Zu.right a z))⟩
    | false => exact q v H1 e1 (r1'.up Zu.left)
theorem ke_or {rest : List Expr} (ha : KE X W a sa ua) (hb : KE X W (.BoolOp .Or (b :: rest) pos) sb ub) : KE X W (.BoolOp .Or (a :: b :: rest) pos) (fun env => sa env >>= fun x => dTru x >>= fun k => if k = true then .ok x else sb env) (ua ++ ub) :=
  pe_imp (pe_orT ha hb) fun σ H Q q => by
    obtain ⟨Z, env, Fs, E, q⟩ := q
    refine ⟨Z, env, Fs, E, (q.bind (Ex.refl H) Zu.left).imp (Ex.refl H) (fun _ z => z) fun x _ q v H1 e1 r1 => ?_⟩
    have q := q.bind (Ex.refl H) (fun _ z => z)
    obtain ⟨k, ek, q⟩ := q.noX fun c fs => nx_tru x c fs
    have r1' := r1
    obtain ⟨Z2, F, rr, _⟩ := r1
    refine ⟨k, tru_of rr ek, ?_⟩
    cases k with
    | false => exact ⟨Z, env, Fs, E.ex e1, Pst.imp (show Pst (wd X) W σ H (Zu Z Fs (ua ++ ub)) (sb env) _ from q) e1 Zu.right fun b _ q v2 H2 e2 r2 => q v2 H2 (e1.trans e2) (r2.behind e1 (fun a m => (by cases m)) fun a z => .inl (Zu.right a z))⟩
    | true => exact q v H1 e1 (r1'.up Zu.left)
/-- not as a value: the operand a bool -/
theorem nx_asB : NoX asB := fun a c fs h => by
  unfold asB at h
  split at h <;> cases h
theorem ke_not (ha : KE X W a sa ua) : KE X W (.UnaryOp .Not a pos) (fun env => sa env >>= asB >>= fun b => .ok (.bl (!b))) ua := pe_imp (pe_not ha) fun σ H Q q => by
  obtain ⟨Z, env, Fs, E, q⟩ := q
  refine ⟨Z, env, Fs, E, ((q.bind (Ex.refl H) (fun _ z => z)).bind (Ex.refl H) (fun _ z => z)).imp (Ex.refl H) (fun _ z => z) fun d _ q v H1 e1 r1 => ?_⟩
  obtain ⟨b, eb, q⟩ := q.noX fun c fs => nx_asB d c fs
  cases d with
  | bl b' =>
    cases eb
    obtain ⟨Z2, F, rr, _⟩ := r1
    exact ⟨b, rr.1, q _ H1 e1 (Res.flat ⟨rfl, rfl⟩)⟩
  | _ => cases eb
theorem ke_if {ce : Expr} (hc : KT X W ce t uc) (ha : KE X W a sa ua) (hb : KE X W b sb ub) : KE X W (.IfExp ce a b pos) (fun env => t env >>= fun k => if k = true then sa env else sb env) (uc ++ (ua ++ ub)) :=
  pe_imp (pe_ifExp hc ha hb) fun σ H Q q => by
    obtain ⟨Z, env, Fs, E, q⟩ := q
    refine ⟨Z, env, Fs, E, (q.bind (Ex.refl H) Zu.left).imp (Ex.refl H) (fun _ z => z) fun k _ q H1 e1 => ?_⟩
    cases k with
    | true => exact ⟨Z, env, Fs, E.ex e1, Pst.imp (show Pst (wd X) W σ H (Zu Z Fs (uc ++ (ua ++ ub))) (sa env) _ from q) e1 (fun a z => Zu.right a (Zu.left a z)) fun b _ q v2 H2 e2 r2 => q v2 H2 (e1.trans e2) (r2.behind e1 (fun a m => (by cases m)) fun a z => .inl (Zu.right a (Zu.left a z)))⟩
    | false => exact ⟨Z, env, Fs, E.ex e1, Pst.imp (show Pst (wd X) W σ H (Zu Z Fs (uc ++ (ua ++ ub))) (sb env) _ from q) e1 (fun a z => Zu.right a (Zu.right a z)) fun b _ q v2 H2 e2 r2 => q v2 H2 (e1.trans e2) (r2.behind e1 (fun a m => (by cases m)) fun a z => .inl (Zu.right a (Zu.right a z)))⟩
/-! ### comparisons, one behind the other -/
theorem chain_of {r r' : R2} {f f' : D → D → R D} (hs : OpS (wd X) r f) (nx : NoX2 f) (hs' : OpS (wd X) r' f') (nx' : NoX2 f') {σ : L2.St} {H : Hp} {Q : VK}
    (q : vE (wd X) W (fun env => sa env >>= fun x => sb env >>= fun y => f x y >>= asB >>= fun k => if k = true then sc env >>= fun z => f' y z else .ok (.bl false)) (ua ++ (ub ++ uc)) σ H Q) : tChain r r' (vE (wd X) W sa ua) (vE (wd X) W sb ub) (vE (wd X) W sc uc) σ H Q := by
    obtain ⟨Z, env, Fs, E, q⟩ := q
    refine ⟨Z, env, Fs, E, (q.bind (Ex.refl H) Zu.left).imp (Ex.refl H) (fun _ z => z) fun x _ q v1 H1 e1 r1 => ?_⟩
    refine ⟨Z, env, Fs, E.ex e1, (q.bind e1 (fun a z => Zu.right a (Zu.left a z))).imp (Ex.refl H1) (fun _ z => z) fun y _ q v2 H2 e2 r2 => ?_⟩
    have q := (q.bind (Ex.refl H) (fun _ z => z)).bind (Ex.refl H) (fun _ z => z)
    obtain ⟨d, ed, q⟩ := q.noX fun c fs => nx x y c fs
    obtain ⟨k, ek, q⟩ := q.noX fun c fs => nx_asB d c fs
    have r2s : Res (wd X) H1 (Zu Z Fs (ua ++ (ub ++ uc))) [] H2 y v2 := r2.up fun a z => Zu.right a (Zu.left a z)
    obtain ⟨Z2, F, rr, nd, f2, z2⟩ := Res.cons (r1.up Zu.left) e1 e2 r2s.one fun a z => ⟨z, Zu.dom E a z⟩
    refine hs H2 v1 v2 x y d Z2 F _ rr nd (fun a m => (f2 a m).2) (fun a z => (z2 a z).2) ed fun v H3 e3 r3 => ?_
    have edd : d = .bl k := by
      cases d with
      | bl b => cases ek; rfl
      | _ => cases ek
    subst edd
    obtain ⟨Z3, F3, rr3, _⟩ := r3
    refine ⟨k, rr3.1, ?_⟩
    cases k with
    | false => exact q _ H3 ((e1.trans e2).trans e3) (Res.flat ⟨rfl, rfl⟩)
    | true =>
      have q : Pst (wd X) W σ H (Zu Z Fs (ua ++ (ub ++ uc))) (sc env >>= fun z => f' y z) _ := q
      have e13 := (e1.trans e2).trans e3
      refine ⟨Z, env, Fs, E.ex e13, (q.bind e13 (fun a z => Zu.right a (Zu.right a z))).imp (Ex.refl H3) (fun _ z => z) fun z _ q v3 H4 e4 r4 => ?_⟩
      obtain ⟨d', ed', q⟩ := q.noX fun c fs => nx' y z c fs
      have r4s : Res (wd X) H3 (Zu Z Fs (ua ++ (ub ++ uc))) [] H4 z v3 := r4.up fun a z => Zu.right a (Zu.right a z)
      have r2' : Res (wd X) H (Zu Z Fs (ua ++ (ub ++ uc))) [] H3 y v2 := by
        obtain ⟨Z5, F5, q1, q2, q3, q4⟩ := r2s
        exact ⟨Z5, F5, q1.ex e3, q2, fun a m => ⟨(q3 a m).1.imp e1.back id, (q3 a m).2⟩, fun a z => ⟨(q4 a z).1.imp id (Or.imp id e1.back), e3.some (q4 a z).2⟩⟩
      obtain ⟨Z6, F6, q1, q2, q3, q4⟩ := Res.cons r2' e13 e4 r4s.one fun a z => ⟨z, Zu.dom E a z⟩
      refine hs' H4 v2 v3 y z d' Z6 F6 Q q1 q2 (fun a m => (q3 a m).2) (fun a z => (q4 a z).2) ed' fun v H5 e5 r5 => ?_
      exact q v H5 ((e13.trans e4).trans e5) (r5.behind (e13.trans e4) (fun a m => (q3 a m).1.elim id fun z => (by cases z)) fun a z => (q4 a z).1.imp id fun q => q.elim (fun z => (by cases z)) id)
theorem ke_chain {op op' : CmpOp} {r r' : R2} {f f' : D → D → R D} (ho : OpR X (compareOp op) r) (hs : OpS (wd X) r f) (nx : NoX2 f) (ho' : OpR X (compareOp op') r') (hs' : OpS (wd X) r' f') (nx' : NoX2 f') (ha : KE X W a sa ua) (hb : KE X W b sb ub) (hc : KE X W c sc uc)
    (hm : lastMarks [op, op'] [b, c] = false := by with_unfolding_all rfl) : KE X W (.Compare a [op, op'] [b, c] pos) (fun env => sa env >>= fun x => sb env >>= fun y => f x y >>= asB >>= fun k => if k = true then sc env >>= fun z => f' y z else .ok (.bl false)) (ua ++ (ub ++ uc)) :=
  pe_imp (pe_chain ho ho' ha hb hc hm) fun σ H Q q => chain_of hs nx hs' nx' q
theorem kt_chain {op op' : CmpOp} {r r' : R2} {f f' : D → D → R D} (ho : OpR X (compareOp op) r) (hs : OpS (wd X) r f) (nx : NoX2 f) (ho' : OpR X (compareOp op') r') (hs' : OpS (wd X) r' f') (nx' : NoX2 f') (ha : KE X W a sa ua) (hb : KE X W b sb ub) (hc : KE X W c sc uc)
    (hm : lastMarks [op, op'] [b, c] = false := by with_unfolding_all rfl) : KT X W (.Compare a [op, op'] [b, c] pos) (fun env => (sa env >>= fun x => sb env >>= fun y => f x y >>= asB >>= fun k => if k = true then sc env >>= fun z => f' y z else .ok (.bl false)) >>= asB) (ua ++ (ub ++ uc)) := by
  exact pt_imp (pt_chain ho ho' ha hb hc hm) fun σ H Q q => chain_of (Q := fun x H' => ∃ k, x = .bl k ∧ Q k H') hs nx hs' nx' (tt_of q)
/-! ### subscripts, slices -/
theorem ke_ix (ha : KE X W a sa ua) (hb : KE X W b sb ub) (hs : PlainIx b) : KE X W (.Subscript a b pos) (fun env => sa env >>= fun x => sb env >>= fun y => dIx x y) (ua ++ ub) :=
  pe_imp (pe_ix ix_seq ha hb hs) fun _ _ _ h => two ops_ix nx_ix h
def vO (w : Wd) (W : WX) (s : Env → R (Option Int)) (us : List Nat) : TO := fun σ H Q =>
  ∃ (Z : Addr → Prop) (env : Env) (Fs : Nat → List Addr), EnvOk w H Z σ env Fs ∧ Pst w W σ H (Zu Z Fs us) (s env) fun b => ∀ H2, Ex H H2 → Q b H2
def KO (X : Cx) (W : WX) (e : Option Expr) (s : Env → R (Option Int)) (us : List Nat) : Prop := PO X e (vO (wd X) W s us)
theorem ko_none : KO X W none (fun _ => .ok none) [] := ⟨fun pins s σ H Q I q => po_none.run pins s σ H Q I (by
  obtain ⟨Z, env, Fs, E, q⟩ := q
  exact q H (Ex.refl H))⟩
theorem nx_asI : NoX asI := fun a c fs h => by
  unfold asI at h
  split at h <;> cases h
theorem ko_some (h : KE X W e s u) : KO X W (some e) (fun env => s env >>= asI) u := ⟨fun pins st σ H Q I q => (po_some h).run pins st σ H Q I (by
  obtain ⟨Z, env, Fs, E, q⟩ := q
  refine ⟨Z, env, Fs, E, (q.bind (Ex.refl H) (fun _ z => z)).imp (Ex.refl H) (fun _ z => z) fun d _ q v H1 e1 r1 => ?_⟩
  obtain ⟨b, eb, q⟩ := q.noX fun c fs => nx_asI d c fs
  cases d with
  | int i =>
    cases eb
    obtain ⟨Z2, F, rr, _⟩ := r1
    exact ⟨i, rr.1, q H1 e1⟩
  | _ => cases eb)⟩
theorem ke_sl {lo hi : Option Expr} {p2 : Pos} {sl sh : Env → R (Option Int)} {ul uh : List Nat} (he : KE X W e s u) (hl : KO X W lo sl ul) (hh : KO X W hi sh uh) : KE X W (.Subscript e (.Slice lo hi none p2) pos) (fun env => s env >>= fun x => sl env >>= fun l => sh env >>= fun h => dSl x l h) (u ++ (ul ++ uh)) :=
  pe_imp (pe_slice sl_U he hl hh) fun σ H Q q => by
    obtain ⟨Z, env, Fs, E, q⟩ := q
    refine ⟨Z, env, Fs, E, (q.bind (Ex.refl H) Zu.left).imp (Ex.refl H) (fun _ z => z) fun x _ q v1 H1 e1 r1 => ?_⟩
    refine ⟨Z, env, Fs, E.ex e1, (q.bind e1 (fun a z => Zu.right a (Zu.left a z))).imp (Ex.refl H1) (fun _ z => z) fun l _ q H2 e2 => ?_⟩
    refine ⟨Z, env, Fs, E.ex (e1.trans e2), (q.bind (e1.trans e2) (fun a z => Zu.right a (Zu.right a z))).imp (Ex.refl H2) (fun _ z => z) fun h _ q H3 e3 => ?_⟩
    obtain ⟨d, ed, q⟩ := q.noX fun c fs => nx_sl c fs
    obtain ⟨Z2, F, rr, nd, f2, z2⟩ := r1
    refine sls (rr.ex (e2.trans e3)) nd (fun a m => (f2 a m).2) (fun a z => (e2.trans e3).some (z2 a z).2) ed fun v H4 e4 r4 => q v H4 (((e1.trans e2).trans e3).trans e4) ?_
    refine r4.behind ((e1.trans e2).trans e3) (fun a m => (f2 a m).1.elim id fun z => (by cases z)) fun a z => ?_
    exact (z2 a z).1.imp (fun z => Zu.left a z) fun q => q.elim (fun z => (by cases z)) id
/-! ### methods -/
/-- the receiver is of the type T (for its attributes) -/
def tyOf (T : String) : D → Bool
  | .str _ => T == "str"
  | .lst _ _ => T == "list"
  | .dic _ _ _ => T == "dict"
  | .dit _ _ _ => T == "dict"
  | _ => false
def chk (b : Bool) : R Unit := if b = true then .ok () else .stk
theorem tyV_of {T : String} {H : Hp} {Z : Addr → Prop} {d : D} {v : V} {F : List Addr} (r : Rep w H Z d v F) (h : tyOf T d = true) : tyV w.K T v H := by
  cases d with
  | str z => obtain ⟨rfl, _⟩ := r; exact eq_of_beq h
  | lst o xs =>
    obtain ⟨a, vs, G, rfl, s, _⟩ := r.lstSq
    exact .inl ⟨eq_of_beq h, vs, SqL.of s⟩
  | dic o ks xs =>
    obtain ⟨a, vs, F', rfl, s, _⟩ := r
    exact .inr (.inr (.inl ⟨eq_of_beq h, .inl ⟨_, s⟩⟩))
  | dit o ks xs =>
    obtain ⟨a, vs, F', rfl, s, _⟩ := r
    exact .inr (.inr (.inl ⟨eq_of_beq h, .inr ⟨_, s⟩⟩))
  | _ => cases h
def MtS (w : Wd) (r : V → List V → Hp → VK → Prop) (f : D → List D → R D) : Prop := ∀ (H : Hp) (x : V) (xs : List V) (d0 : D) (ds : List D) (d : D) (Z : Addr → Prop) (F : List Addr) (Q : VK), Reps w H Z (d0 :: ds) (x :: xs) F → F.Nodup → (∀ a ∈ F, ¬ Z a) → (∀ a, Z a → H a ≠ none) → f d0 ds = .ok d →
  (∀ v H2, Ex H H2 → Res w H Z F H2 d v → Q v H2) → r x xs H Q
theorem chk_ok {b : Bool} {w : Wd} {σ : L2.St} {H : Hp} {A : Addr → Prop} {α : Type} {y : R α} {Q : α → Prop} (h : Pst w W σ H A (chk b >>= fun _ => y) Q) : b = true ∧ Pst w W σ H A y Q := by
  cases b with
  | true => exact ⟨rfl, h⟩
  | false => exact h.elim
theorem ke_bm {T id : String} {name : Str} {apos cpos : Pos} {r : V → List V → Hp → VK → Prop} {f : D → List D → R D} (pa : PlainAttrs T) (slot : Slot T name id) (hty : typeOf (.builtin id) = pure (.type "method_descriptor")) (hm : MtR X id r) (hs : MtS (wd X) r f) (nx : NoX2 f) (ho : KE X W a s u) (ha : KA X W (e :: es) ss ua)
    (hbase : attributeBase a name X.env (eval a X.env) = eval a X.env := by rfl)
    (hfew : ((backTo cpos (starEach (e :: es) X.env)).all (fun x => !x.1) && (backToKw cpos (keywordEach [] X.env)).all (fun x => x.1.isSome)
      && decide ((e :: es).length + ([] : List Keyword).length + (if ([] : List Keyword).isEmpty then 0 else 1) < 30)) = true := by rfl)
    (hline : (apos.endLine == cpos.line) = true := by rfl) (hst : starEach (e :: es) X.env = (false, eval e X.env) :: starEach es X.env := by rfl) (hplain : (backTo cpos (starEach es X.env)).any (·.1) = false := by rfl) :
    KE X W (.Call (.Attribute a name apos) (e :: es) [] cpos) (fun env => s env >>= fun x => chk (tyOf T x) >>= fun _ => ss env >>= fun xs => f x xs) (u ++ ua) :=
  pe_imp (pe_bm pa slot hty hm ho ha hbase hfew hline hst hplain) fun σ H Q q => by
    obtain ⟨Z, env, Fs, E, q⟩ := q
    refine ⟨Z, env, Fs, E, (q.bind (Ex.refl H) Zu.left).imp (Ex.refl H) (fun _ z => z) fun x _ q v1 H1 e1 r1 => ?_⟩
    obtain ⟨ht, q⟩ := chk_ok q
    refine ⟨by obtain ⟨Z2, F, rr, _⟩ := r1; exact tyV_of rr ht, Z, env, Fs, E.ex e1, (q.bind e1 Zu.right).imp (Ex.refl H1) (fun _ z => z) fun ds _ q vs H2 e2 r2 => ?_⟩
    obtain ⟨d, ed, q⟩ := q.noX fun c fs => nx x ds c fs
    obtain ⟨Z2, F, rr, nd, f2, z2⟩ := (r1.up Zu.left).cons e1 e2 r2 fun a z => ⟨Zu.right a z, Zu.dom E a z⟩
    refine hs H2 v1 vs x ds d Z2 F Q rr nd (fun a m => (f2 a m).2) (fun a z => (z2 a z).2) ed fun v H3 e3 r3 => q v H3 ((e1.trans e2).trans e3) ?_
    exact r3.behind (e1.trans e2) (fun a m => (f2 a m).1.elim _root_.id fun z => (by cases z)) fun a z => (z2 a z).1.imp _root_.id fun q => q.elim (fun z => (by cases z)) _root_.id
theorem Reps.uncons {H : Hp} {Z : Addr → Prop} {d0 : D} {ds : List D} {x : V} {xs : List V} {F : List Addr} (rr : Reps w H Z (d0 :: ds) (x :: xs) F) : ∃ F1 F2, F = F1 ++ F2 ∧ Rep w H Z d0 x F1 ∧ Reps w H Z ds xs F2 := by
  obtain ⟨v, r, F1, F2, e1, e2, h1, h2⟩ := rr
  cases e1
  exact ⟨F1, F2, e2, h1, h2⟩
theorem mts_join : MtS w (fun x xs H Q => ∃ a p, ∃ ys : List Str, x = .str a ∧ xs = [.ref p] ∧ (SqL w.K H p (ys.map V.str) ∨ SqT w.K H p (ys.map V.str)) ∧ (ys.map (·.length)).sum + ys.length * a.length ≤ 16777216 ∧ Q (.str (Txt.join a ys)) H) dJoin :=
  fun H x xs d0 ds d Z F Q rr nd nz zd e k => by
    unfold dJoin at e
    split at e
    · split at e
      · split at e
        · rename_i ys hy hz
          cases e
          obtain ⟨F1, F2, e1, ⟨rfl, rfl⟩, r2⟩ := rr.uncons
          obtain ⟨y, rfl, r3⟩ := r2.one
          obtain ⟨a, vs, G, rfl, s, q, _⟩ := r3.lstSq
          obtain rfl := q.strs hy
          exact ⟨_, a, ys, rfl, rfl, .inl (SqL.of s), by have := show SZ = 100000 from rfl; omega, k _ H (Ex.refl H) (Res.flat ⟨rfl, rfl⟩)⟩
        · cases e
      · cases e
    · split at e
      · split at e
        · rename_i ys hy hz
          cases e
          obtain ⟨F1, F2, e1, ⟨rfl, rfl⟩, r2⟩ := rr.uncons
          obtain ⟨y, rfl, r3⟩ := r2.one
          obtain ⟨a, vs, rfl, s, q⟩ := r3
          obtain rfl := q.strs hy
          exact ⟨_, a, ys, rfl, rfl, .inr s, by have := show SZ = 100000 from rfl; omega, k _ H (Ex.refl H) (Res.flat ⟨rfl, rfl⟩)⟩
        · cases e
      · cases e
    · cases e
theorem nx_join : NoX2 dJoin := fun a b c fs h => by
  unfold dJoin at h
  split at h <;> (try split at h) <;> (try split at h) <;> cases h
theorem nx_split : NoX2 dSplit := fun a b c fs h => by
  unfold dSplit at h
  split at h <;> (try split at h) <;> cases h
theorem mts_split : MtS w (fun x xs H Q => ∃ a b, x = .str a ∧ xs = [.str b] ∧ (b.length == 0) = false ∧ a.length + 2 ≤ sizeLine ∧ rNewStrs (Txt.split a b) H Q) dSplit :=
  fun H x xs d0 ds d Z F Q rr nd nz zd e k => by
    unfold dSplit at e
    split at e
    · split at e
      · rename_i hz
        cases e
        obtain ⟨F1, F2, e1, ⟨rfl, rfl⟩, r2⟩ := rr.uncons
        obtain ⟨y, rfl, rfl, _⟩ := r2.one
        exact ⟨_, _, rfl, rfl, hz.1, sz_line hz.2, fun p hp => k _ _ (Ex.new hp) (Res.newL zd (reps_strs _) List.nodup_nil (fun a m => (by cases m)) (fun a m => (by cases m)) hp)⟩
      · cases e
    · cases e
/-! ### f-strings -/
def sJ (acc : Str) : List (Env → R Str) → Env → R D
  | [], _ => .ok (.str acc)
  | s :: ss, env => s env >>= fun y => if (acc ++ y).length ≤ SZ then sJ (acc ++ y) ss env else .stk
def KF (X : Cx) (W : WX) (e : Expr) (s : Env → R Str) (us : List Nat) : Prop := PE X e (vE (wd X) W (fun env => s env >>= fun y => .ok (.str y)) us)
inductive KJ (X : Cx) (W : WX) : List Expr → List (Env → R Str) → List Nat → Prop where
  | nil : KJ X W [] [] []
  | cons {e : Expr} {s : Env → R Str} {u : List Nat} {es : List Expr} {ss : List (Env → R Str)} {us : List Nat} (h : KF X W e s u) (r : KJ X W es ss us) : KJ X W (e :: es) (s :: ss) (u ++ us)
theorem kf_str {i : Str} {j pos} : KF X W (.Constant (.str i) j pos) (fun _ => .ok i) [] := ke_str
theorem nx_fmt : NoX dFmt := fun a c fs h => by
  unfold dFmt at h
  split at h <;> (try split at h) <;> cases h
theorem kf_fmt (h : KE X W e s u) : KF X W (.FormattedValue e (-1) none pos) (fun env => s env >>= dFmt) u := pe_imp (pe_fmt h) fun σ H Q q => by
  obtain ⟨Z, env, Fs, E, q⟩ := q
  refine ⟨Z, env, Fs, E, ((q.bind (Ex.refl H) (fun _ z => z)).bind (Ex.refl H) (fun _ z => z)).imp (Ex.refl H) (fun _ z => z) fun d _ q v H1 e1 r1 => ?_⟩
  obtain ⟨y, ey, q1⟩ := q.noX fun c fs => nx_fmt d c fs
  have q2 : ∀ v H2, Ex H H2 → Res (wd X) H (Zu Z Fs u) [] H2 (.str y) v → Q v H2 := q1
  clear q q1
  obtain ⟨Z2, F, rr, _⟩ := r1
  unfold dFmt at ey
  split at ey
  · split at ey
    · rename_i hz
      cases ey
      exact .inl ⟨_, rr.1, sz_line hz, q2 _ H1 e1 (Res.flat ⟨rfl, rfl⟩)⟩
    · cases ey
  · split at ey
    · rename_i hz
      cases ey
      exact .inr ⟨_, rr.1, hz, q2 _ H1 e1 (Res.flat ⟨rfl, rfl⟩)⟩
    · cases ey
  · cases ey
theorem kj_run {es : List Expr} {ss : List (Env → R Str)} {us : List Nat} (h : KJ X W es ss us) : ∃ ts, PJ X es ts ∧ ∀ (acc : Str) (σ : L2.St) (H : Hp) (Z : Addr → Prop) (env : Env) (Fs : Nat → List Addr) (Q : VK), EnvOk (wd X) H Z σ env Fs →
    Pst (wd X) W σ H (Zu Z Fs us) (sJ acc ss env) (fun d => ∀ v H2, Ex H H2 → Res (wd X) H (Zu Z Fs us) [] H2 d v → Q v H2) → tJs ts acc σ H fun out H1 => Q (.str out) H1 := by
  induction h with
  | nil => exact ⟨[], .nil, fun acc σ H Z env Fs Q E q => q _ H (Ex.refl H) (Res.flat ⟨rfl, rfl⟩)⟩
  | @cons e s u es ss us hs _ ih =>
    obtain ⟨ts, hp, hr⟩ := ih
    refine ⟨_, .cons hs hp, fun acc σ H Z env Fs Q E q => ?_⟩
    refine ⟨Z, env, Fs, E, ?_⟩
    have q := q.bind (Ex.refl H) (Zu.left (us := u))
    show Pst (wd X) W σ H (Zu Z Fs u) (s env >>= fun y => R.ok (D.str y)) _
    cases hy : s env with
    | ok y =>
      rw [hy] at q
      intro v H1 e1 r1
      obtain ⟨Z2, F, rr, _⟩ := r1
      have q : Pst (wd X) W σ H (Zu Z Fs (u ++ us)) (if (acc ++ y).length ≤ SZ then sJ (acc ++ y) ss env else .stk) _ := q
      split at q
      · rename_i hz
        exact ⟨y, rr.1, sz_line hz, hr (acc ++ y) σ H1 Z env Fs Q (E.ex e1) (q.imp e1 Zu.right fun d _ q v2 H2 e2 r2 => q v2 H2 (e1.trans e2) (r2.behind e1 (fun a m => (by cases m)) fun a z => .inl (Zu.right a z)))⟩
      · exact q.elim
    | exc c fs =>
      rw [hy] at q
      exact q
    | stk =>
      rw [hy] at q
      exact q
theorem ke_joined {v1 v2 : Expr} {rest : List Expr} {ts : List (Env → R Str)} (h : KJ X W (v1 :: v2 :: rest) ts u) : KE X W (.JoinedStr (v1 :: v2 :: rest) pos) (sJ Str.empty ts) u := by
  obtain ⟨tt, hp, hr⟩ := kj_run h
  refine pe_imp (pe_joined hp) fun σ H Q q => ?_
  obtain ⟨Z, env, Fs, E, q⟩ := q
  exact hr Str.empty σ H Z env Fs Q E q
theorem ke_joined1 (h : KF X W e (fun env => s env >>= dFmt) u) : KE X W (.JoinedStr [e] pos) (fun env => s env >>= dFmt >>= fun y => .ok (.str y)) u := pe_joined1 h
end
end Vs
set_option maxHeartbeats 2000000
/-! Vs5: targets, what is walked, comprehensions. -/
namespace Vs
open PySem L2

/-! ### the slots' data, changed -/
def frzAt (i : Nat) (env : Env) : Env := match env[i]? with
  | some (some d) => env.set i (some (frz d))
  | _ => env
def frzEnv : List Nat → Env → Env
  | [], env => env
  | i :: us, env => frzEnv us (frzAt i env)
def wipeE (env : Env) : List Nat → Env
  | [] => env
  | v :: vs => (wipeE env vs).set v none
def mask (keep : List Nat) (env : Env) : Env := env.mapIdx fun i o => if i ∈ keep then o else none
section
variable {w : Wd} {H : Hp} {Z : Addr → Prop} {σ : L2.St} {env : Env} {Fs : Nat → List Addr}
theorem EnvOk.frzAt {i : Nat} {Z' : Addr → Prop} (E : EnvOk w H Z σ env Fs) (hz : ∀ a, Z' a ↔ (Z a ∨ a ∈ Fs i)) : EnvOk w H Z' σ (Vs.frzAt i env) (fun k => if k = i then [] else Fs k) := by
  have zz : ∀ a, Z a → Z' a := fun a z => (hz a).mpr (.inl z)
  have base : ∀ k d, k ≠ i → env[k]? = some (some d) → ∃ v, σ[k]? = some (some v) ∧ Rep w H Z' d v (Fs k) := fun k d _ e => by
    obtain ⟨v, a, b⟩ := E.rep k d e
    exact ⟨v, a, b.up zz⟩
  refine ⟨fun k d e => ?_, ?_, fun a z => ?_, fun k a m => ?_, fun k a m z => ?_, fun k => ?_, fun k l a m n => ?_, fun k a o m q => ?_⟩
  · unfold Vs.frzAt at e
    by_cases hk : k = i
    · subst hk
      show ∃ v, σ[k]? = some (some v) ∧ Rep w H Z' d v (if k = k then [] else Fs k)
      rw [if_pos rfl]
      split at e
      · rename_i d0 h0
        rw [List.getElem?_set_self (List.getElem?_eq_some_iff.mp h0).1] at e
        cases e
        obtain ⟨v, a, b⟩ := E.rep k d0 h0
        exact ⟨v, a, b.frz zz fun a m => (hz a).mpr (.inr m)⟩
      · rename_i h0
        exact absurd e (h0 d)
    · show ∃ v, σ[k]? = some (some v) ∧ Rep w H Z' d v (if k = i then [] else Fs k)
      rw [if_neg hk]
      split at e
      · rw [List.getElem?_set_ne (Ne.symm hk)] at e
        exact base k d hk e
      · exact base k d hk e
  · unfold Vs.frzAt
    split
    · rw [List.length_set]; exact E.len
    · exact E.len
  · rcases (hz a).mp z with z | z
    · exact E.zd a z
    · exact E.fd i a z
  · by_cases hk : k = i
    · rw [if_pos hk] at m; cases m
    · rw [if_neg hk] at m; exact E.fd k a m
  · by_cases hk : k = i
    · rw [if_pos hk] at m; cases m
    · rw [if_neg hk] at m
      rcases (hz a).mp z with z | z
      · exact E.nz k a m z
      · exact hk (E.dj k i a m z)
  · show (if k = i then [] else Fs k).Nodup
    split
    · exact List.nodup_nil
    · exact E.nd k
  · by_cases hk : k = i
    · rw [if_pos hk] at m; cases m
    · by_cases hl : l = i
      · rw [if_pos hl] at n; cases n
      · rw [if_neg hk] at m
        rw [if_neg hl] at n
        exact E.dj k l a m n
  · by_cases hk : k = i
    · rw [if_pos hk] at m; cases m
    · rw [if_neg hk] at m; exact E.nt k a o m q
/-- slots shared from now on -/
theorem EnvOk.frz : ∀ {us : List Nat} {Z : Addr → Prop} {env : Env} {Fs : Nat → List Addr}, EnvOk w H Z σ env Fs → ∃ Fs', EnvOk w H (Zu Z Fs us) σ (frzEnv us env) Fs' ∧ ∀ k a, a ∈ Fs' k → a ∈ Fs k
  | [], Z, env, Fs, E => by
    have e : Zu Z Fs [] = Z := by
      funext a
      exact propext ⟨fun z => z.elim id fun ⟨i, m, _⟩ => (by cases m), .inl⟩
    rw [e]
    exact ⟨Fs, E, fun _ _ m => m⟩
  | i :: us, Z, env, Fs, E => by
    have E1 := E.frzAt (i := i) (Z' := fun a => Z a ∨ a ∈ Fs i) fun a => Iff.rfl
    obtain ⟨Fs', E2, s2⟩ := EnvOk.frz (us := us) E1
    have e : Zu (fun a => Z a ∨ a ∈ Fs i) (fun k => if k = i then [] else Fs k) us = Zu Z Fs (i :: us) := by
      funext a
      refine propext ⟨fun z => ?_, fun z => ?_⟩
      · rcases z with (z | z) | ⟨j, m, q⟩
        · exact .inl z
        · exact .inr ⟨i, List.mem_cons_self .., z⟩
        · by_cases hj : j = i
          · simp only [if_pos hj] at q; cases q
          · simp only [if_neg hj] at q
            exact .inr ⟨j, List.mem_cons_of_mem _ m, q⟩
      · rcases z with z | ⟨j, m, q⟩
        · exact .inl (.inl z)
        · by_cases hj : j = i
          · subst hj
            exact .inl (.inr q)
          · rcases List.mem_cons.mp m with m | m
            · exact absurd m hj
            · exact .inr ⟨j, m, by simp only [if_neg hj]; exact q⟩
    rw [e] at E2
    refine ⟨Fs', E2, fun k a m => ?_⟩
    have q := s2 k a m
    by_cases hk : k = i
    · simp only [if_pos hk] at q; cases q
    · simp only [if_neg hk] at q; exact q
/-- one slot more -/
theorem EnvOk.set {i : Nat} {d : D} {v : V} {F : List Addr} (E : EnvOk w H Z σ env Fs) (r : Rep w H Z d v F) (nd : F.Nodup) (nz : ∀ a ∈ F, ¬ Z a) (dj : ∀ k a, a ∈ F → k ≠ i → a ∉ Fs k) : EnvOk w H Z (σ.set i (some v)) (env.set i (some d)) (fun k => if k = i then F else Fs k) := by
  refine ⟨fun k d' e => ?_, by rw [List.length_set, List.length_set]; exact E.len, E.zd, fun k a m => ?_, fun k a m => ?_, fun k => ?_, fun k l a m n => ?_, fun k a o m q => ?_⟩
  · show ∃ v', (σ.set i (some v))[k]? = some (some v') ∧ Rep w H Z d' v' (if k = i then F else Fs k)
    by_cases hk : k = i
    · subst hk
      rw [if_pos rfl]
      have hl : k < env.length := by
        have := (List.getElem?_eq_some_iff.mp e).1
        rwa [List.length_set] at this
      rw [List.getElem?_set_self hl] at e
      cases e
      exact ⟨v, List.getElem?_set_self (by rw [← E.len]; exact hl), r⟩
    · rw [if_neg hk]
      rw [List.getElem?_set_ne (Ne.symm hk)] at e ⊢
      exact E.rep k d' e
  · by_cases hk : k = i
    · rw [if_pos hk] at m; exact r.dom a m
    · rw [if_neg hk] at m; exact E.fd k a m
  · by_cases hk : k = i
    · rw [if_pos hk] at m; exact nz a m
    · rw [if_neg hk] at m; exact E.nz k a m
  · show (if k = i then F else Fs k).Nodup
    split
    · exact nd
    · exact E.nd k
  · by_cases hk : k = i
    · by_cases hl : l = i
      · rw [hk, hl]
      · rw [if_pos hk] at m
        rw [if_neg hl] at n
        exact absurd n (dj l a m hl)
    · rw [if_neg hk] at m
      by_cases hl : l = i
      · rw [if_pos hl] at n
        exact absurd m (dj k a n hk)
      · rw [if_neg hl] at n
        exact E.dj k l a m n
  · by_cases hk : k = i
    · rw [if_pos hk] at m
      obtain ⟨o', h, t⟩ := r.own a m
      rw [q] at h
      cases h
      exact t
    · rw [if_neg hk] at m; exact E.nt k a o m q
/-- fewer slots are known -/
theorem EnvOk.less {env' : Env} (E : EnvOk w H Z σ env Fs) (l : env'.length = env.length) (k : ∀ (i : Nat) (d : D), env'[i]? = some (some d) → env[i]? = some (some d)) : EnvOk w H Z σ env' Fs :=
  ⟨fun i d e => E.rep i d (k i d e), l.trans E.len, E.zd, E.fd, E.nz, E.nd, E.dj, E.nt⟩
theorem mask_get {keep : List Nat} {i : Nat} {d : D} (h : (mask keep env)[i]? = some (some d)) : env[i]? = some (some d) := by
  unfold mask at h
  rw [List.getElem?_mapIdx] at h
  cases e : env[i]? with
  | none => rw [e] at h; cases h
  | some o =>
    rw [e] at h
    have h : (if i ∈ keep then o else none) = some d := Option.some.inj h
    split at h
    · rw [h]
    · cases h
theorem EnvOk.mask {keep : List Nat} (E : EnvOk w H Z σ env Fs) : EnvOk w H Z σ (Vs.mask keep env) Fs := E.less (by unfold Vs.mask; exact List.length_mapIdx) fun i d e => mask_get e
theorem wipeE_length (env : Env) : ∀ vs : List Nat, (wipeE env vs).length = env.length
  | [] => rfl
  | v :: vs => by unfold wipeE; rw [List.length_set, wipeE_length env vs]
theorem EnvOk.wipe (E : EnvOk w H Z σ env Fs) : ∀ vs : List Nat, EnvOk w H Z (L2.wipe σ vs) (wipeE env vs) Fs
  | [] => E
  | v :: vs => by
    have ih := EnvOk.wipe E vs
    refine ⟨fun i d e => ?_, by rw [wipeE_length, wipe_length]; exact E.len, E.zd, E.fd, E.nz, E.nd, E.dj, E.nt⟩
    unfold wipeE at e
    unfold L2.wipe
    by_cases hi : i = v
    · subst hi
      by_cases hl : i < (wipeE env vs).length
      · rw [List.getElem?_set_self hl] at e; cases e
      · rw [List.getElem?_eq_none (by rw [List.length_set]; omega)] at e; cases e
    · rw [List.getElem?_set_ne (Ne.symm hi)] at e ⊢
      exact ih.rep i d e
end

/-! ### targets -/
abbrev TgS := D → Env → R Env
abbrev TgsS := List D → Env → R Env
/-- the slots js alone have changed -/
def Only (js : List Nat) (σ σ' : L2.St) : Prop := ∀ vs : List Nat, (∀ j ∈ js, j ∈ vs) → L2.wipe σ' vs = L2.wipe σ vs
def vG (w : Wd) (t : TgS) (js : List Nat) : TG := fun v σ H Q =>
  ∃ (Z : Addr → Prop) (env env' : Env) (Fs : Nat → List Addr) (d : D) (F : List Addr), EnvOk w H Z σ env Fs ∧ Rep w H Z d v F ∧ F.Nodup ∧ (∀ a ∈ F, ¬ Z a) ∧ (∀ k a, a ∈ F → a ∉ Fs k) ∧ t d env = .ok env' ∧
    ∀ σ' Fs', EnvOk w H Z σ' env' Fs' → (∀ k a, a ∈ Fs' k → a ∈ Fs k ∨ a ∈ F) → Only js σ σ' → Q σ' H
def vGs (w : Wd) (t : TgsS) (js : List Nat) : TGs := fun vs σ H Q =>
  ∃ (Z : Addr → Prop) (env env' : Env) (Fs : Nat → List Addr) (ds : List D) (F : List Addr), EnvOk w H Z σ env Fs ∧ Reps w H Z ds vs F ∧ F.Nodup ∧ (∀ a ∈ F, ¬ Z a) ∧ (∀ k a, a ∈ F → a ∉ Fs k) ∧ t ds env = .ok env' ∧
    ∀ σ' Fs', EnvOk w H Z σ' env' Fs' → (∀ k a, a ∈ Fs' k → a ∈ Fs k ∨ a ∈ F) → Only js σ σ' → Q σ' H
def KG (X : Cx) (e : Expr) (t : TgS) (js : List Nat) : Prop := PG X e (vG (wd X) t js)
def KGs (X : Cx) (es : List Expr) (t : TgsS) (js : List Nat) : Prop := PGs X es (vGs (wd X) t js)
theorem pg_imp {X : Cx} {e : Expr} {t u : TG} (h : PG X e t) (k : ∀ v σ H Q, u v σ H Q → t v σ H Q) : PG X e u := ⟨fun pins s σ H v v' Q I r q => h.run pins s σ H v v' Q I r (k v σ H Q q)⟩
theorem pgs_imp {X : Cx} {e : List Expr} {t u : TGs} (h : PGs X e t) (k : ∀ v σ H Q, u v σ H Q → t v σ H Q) : PGs X e u := ⟨fun pins s σ H v v' Q I r q => h.run pins s σ H v v' Q I r (k v σ H Q q)⟩
def tgN (i : Nat) : TgS := fun d env => .ok (env.set i (some d))
theorem wipe_set {σ : L2.St} {i : Nat} {x : Option V} : ∀ {vs : List Nat}, i ∈ vs → L2.wipe (σ.set i x) vs = L2.wipe σ vs
  | [], h => by cases h
  | v :: vs, h => by
    unfold L2.wipe
    by_cases hi : i ∈ vs
    · rw [wipe_set hi]
    · have e : i = v := (List.mem_cons.mp h).elim id fun q => absurd q hi
      subst e
      have go : ∀ (us : List Nat), i ∉ us → L2.wipe (σ.set i x) us = (L2.wipe σ us).set i x := fun us => by
        induction us with
        | nil => exact fun _ => rfl
        | cons u us ih =>
          intro hn
          unfold L2.wipe
          rw [ih fun q => hn (List.mem_cons_of_mem _ q), List.set_comm _ _ (show i ≠ u from fun q => hn (by rw [q]; exact List.mem_cons_self ..))]
      rw [go vs hi, List.set_set]
theorem Only.refl {js : List Nat} {σ : L2.St} : Only js σ σ := fun _ _ => rfl
section
variable {X : Cx} {e : Expr} {es : List Expr} {pos : Pos} {i : Nat} {t : TgS} {ts : TgsS} {js js' : List Nat}
theorem kg_name (h : PG X e (gName i)) : KG X e (tgN i) [i] := pg_imp h fun v σ H Q q => by
  obtain ⟨Z, env, env', Fs, d, F, E, r, nd, nz, dj, ed, k⟩ := q
  cases ed
  refine k _ _ (E.set r nd nz fun k a m _ => dj k a m) (fun k a m => ?_) fun vs hv => wipe_set (hv i (List.mem_singleton.mpr rfl))
  by_cases hk : k = i
  · rw [if_pos hk] at m; exact .inr m
  · rw [if_neg hk] at m; exact .inl m
theorem kgs_nil : KGs X [] (fun ds env => match ds with | [] => .ok env | _ => .stk) [] := pgs_imp pgs_nil fun vs σ H Q q => by
  obtain ⟨Z, env, env', Fs, ds, F, E, r, nd, nz, dj, ed, k⟩ := q
  cases ds with
  | nil =>
    cases ed
    obtain ⟨rfl, rfl⟩ := r
    exact ⟨rfl, k σ Fs E (fun _ _ m => .inl m) Only.refl⟩
  | cons _ _ => cases ed
theorem kgs_cons (h : KG X e t js) (hr : KGs X es ts js') (hs : (assignEach (e :: es) X.env).map (·.2) = assign e X.env :: (assignEach es X.env).map (·.2) := by rfl) :
    KGs X (e :: es) (fun ds env => match ds with | d :: ds => t d env >>= fun env1 => ts ds env1 | [] => .stk) (js ++ js') := pgs_imp (pgs_cons h hr hs) fun vs σ H Q q => by
  obtain ⟨Z, env, env', Fs, ds, F, E, r, nd, nz, dj, ed, k⟩ := q
  cases ds with
  | nil => cases ed
  | cons d ds =>
    obtain ⟨v, vr, F1, F2, rfl, rfl, r1, r2⟩ := r
    have ed : (t d env >>= fun env1 => ts ds env1) = .ok env' := ed
    cases h1 : t d env with
    | ok env1 =>
      rw [h1] at ed
      have ed : ts ds env1 = .ok env' := ed
      obtain ⟨n1, n2, n3⟩ := List.nodup_append.mp nd
      refine ⟨v, vr, rfl, Z, env, env1, Fs, d, F1, E, r1, n1, fun a m => nz a (List.mem_append_left _ m), fun k a m => dj k a (List.mem_append_left _ m), h1, fun σ1 Fs1 E1 s1 o1 => ?_⟩
      refine ⟨Z, env1, env', Fs1, ds, F2, E1, r2, n2, fun a m => nz a (List.mem_append_right _ m), fun k a m m1 => ?_, ed, fun σ2 Fs2 E2 s2 o2 => k σ2 Fs2 E2 (fun k a m => ?_) fun vs hv => ?_⟩
      · rcases s1 k a m1 with q | q
        · exact dj k a (List.mem_append_right _ m) q
        · exact n3 a q a m rfl
      · rcases s2 k a m with q | q
        · exact (s1 k a q).imp id (List.mem_append_left _)
        · exact .inr (List.mem_append_right _ q)
      · rw [o2 vs fun j m => hv j (List.mem_append_right _ m), o1 vs fun j m => hv j (List.mem_append_left _ m)]
    | exc c fs => rw [h1] at ed; cases ed
    | stk => rw [h1] at ed; cases ed
/-- (a, b, ..) = a tuple -/
theorem kg_tup {k n : Nat} (hc : X.calm = true) (h : KGs X es ts js) (hn : (assignEach es X.env).length = n := by rfl) (hst : (assignEach es X.env).findIdx? (·.1) = none := by rfl) :
    KG X (.Tuple es k pos) (fun d env => match d with | .tup ds => if ds.length = n then ts ds env else .stk | _ => .stk) js := pg_imp (pg_tup hc h hn hst) fun v σ H Q q => by
  obtain ⟨Z, env, env', Fs, d, F, E, r, nd, nz, dj, ed, k⟩ := q
  cases d with
  | tup ds =>
    have ed : (if ds.length = n then ts ds env else .stk) = .ok env' := ed
    split at ed
    · rename_i hl
      obtain ⟨a, vs, rfl, s, r⟩ := r
      exact ⟨a, vs, rfl, s, r.length.trans hl, Z, env, env', Fs, ds, F, E, r, nd, nz, dj, ed, k⟩
    · cases ed
  | _ => cases ed
end

/-! ### what is walked -/
/-- what the walk leans on stands as it was -/
def Keeps (H1 : Hp) (Z1 : Addr → Prop) (H' : Hp) : Prop := ∀ a o, H1 a = some o → (Z1 a ∨ Tu o) → H' a = some o
/-- J gives ds, one after the other -/
def IterOk (w : Wd) (H : Hp) (A : Addr → Prop) (H1 : Hp) (J : It) (ds : List D) : Prop :=
  ∃ (Z1 : Addr → Prop) (G : Hp → Prop) (Y : Nat → Hp → V → Hp → Prop), Walk J ds.length G Y ∧ (∀ a, Z1 a → (A a ∨ H a = none) ∧ H1 a ≠ none) ∧ (∀ H', Keeps H1 Z1 H' → G H') ∧
    ∀ i H' x H'', i < ds.length → Keeps H1 Z1 H' → Y i H' x H'' → Ex H' H'' ∧ (∀ a, H' a = none → H'' a ≠ none → ∃ vs, H'' a = some (.tup vs)) ∧ ∃ d, ds[i]? = some d ∧ Rep w H'' Z1 d x []
def vI (w : Wd) (W : WX) (items : Env → R (List D)) (us : List Nat) : TI := fun σ H R =>
  ∃ (Z : Addr → Prop) (env : Env) (Fs : Nat → List Addr), EnvOk w H Z σ env Fs ∧ Pst w W σ H (Zu Z Fs us) (items env) fun ds => ∀ J H1, Ex H H1 → IterOk w H (Zu Z Fs us) H1 J ds → R J H1
def KI (X : Cx) (W : WX) (tg iter : Expr) (items : Env → R (List D)) (us : List Nat) : Prop := PI X tg iter (vI (wd X) W items us)
theorem pi_imp {X : Cx} {tg e : Expr} {t u : TI} (h : PI X tg e t) (k : ∀ σ H Q, u σ H Q → t σ H Q) : PI X tg e u := ⟨fun pins s σ H Q I q => h.run pins s σ H Q I (k σ H Q q)⟩
theorem PI.or {X : Cx} {tg e : Expr} {t u : TI} (h : PI X tg e t) (h' : PI X tg e u) : PI X tg e (fun σ H R => t σ H R ∨ u σ H R) := ⟨fun pins s σ H Q I q => q.elim (h.run pins s σ H Q I) (h'.run pins s σ H Q I)⟩
/-- a list, a tuple, a text as what is walked -/
def dItems : D → R (List D)
  | .lst _ xs => .ok (frzs xs)
  | .tup xs => .ok (frzs xs)
  | .scr ns => .ok (ns.map .int)
  | .str z => .ok (z.cps.toList.map fun c => .str ⟨#[c]⟩)
  | _ => .stk
theorem nx_items : NoX dItems := fun a c fs h => by
  unfold dItems at h
  split at h <;> cases h
theorem frzs_get : ∀ {xs : List D} {i : Nat} {d : D}, xs[i]? = some d → (frzs xs)[i]? = some (frz d)
  | [], i, d, h => by simp at h
  | x :: xs, 0, d, h => by
    have e : x = d := by simpa using h
    subst e
    rfl
  | x :: xs, i + 1, d, h => by
    show (frzs xs)[i]? = _
    exact frzs_get (by simpa using h)
theorem reps_items {w : Wd} {H : Hp} {Z : Addr → Prop} : ∀ {ds : List D} {vs : List V} {i : Nat} {x : V}, Reps w H Z ds vs [] → vs[i]? = some x → ∃ d, ds[i]? = some d ∧ Rep w H Z d x []
  | [], _, i, x, ⟨e, _⟩, h => by subst e; simp at h
  | d :: ds, _, i, x, ⟨v, r, F1, F2, e, f, h1, h2⟩, h => by
    obtain ⟨rfl, rfl⟩ := List.append_eq_nil_iff.mp f.symm
    subst e
    cases i with
    | zero =>
      have e : v = x := by simpa using h
      subst e
      exact ⟨d, rfl, h1⟩
    | succ i =>
      obtain ⟨d', a, b⟩ := reps_items (i := i) h2 (by simpa using h)
      exact ⟨d', by simpa using a, b⟩
section
variable {X : Cx} {W : WX} {tg e : Expr} {s : Env → R D} {u : List Nat}
theorem Keeps.stays {w : Wd} {H1 H' : Hp} {Z1 : Addr → Prop} {d : D} {v : V} (k : Keeps H1 Z1 H') (r : Rep w H1 Z1 d v []) : Rep w H' Z1 d v [] := r.stay (fun _ z => z) fun a o q t => k a o q (t.imp id fun t => t.elim (fun m => (by cases m)) id)
theorem Keeps.stayss {w : Wd} {H1 H' : Hp} {Z1 : Addr → Prop} {d : List D} {v : List V} (k : Keeps H1 Z1 H') (r : Reps w H1 Z1 d v []) : Reps w H' Z1 d v [] := r.stay (fun _ z => z) fun a o q t => k a o q (t.imp id fun t => t.elim (fun m => (by cases m)) id)
theorem iter_lst {w : Wd} {H H1 : Hp} {A : Addr → Prop} {o : Bool} {xs : List D} {v : V} (r : Res w H A [] H1 (.lst o xs) v) : ∃ a, v = .ref a ∧ (∃ xs, SqL w.K H1 a xs) ∧ IterOk w H A H1 (Itl w.K a) (frzs xs) := by
  obtain ⟨Z2, F, rr, nd, f2, z2⟩ := r
  have z1 : ∀ a, (Z2 a ∨ a ∈ F) → (A a ∨ H a = none) ∧ H1 a ≠ none := fun a z => by
    rcases z with z | z
    · exact ⟨(z2 a z).1.imp id fun q => q.elim (fun m => (by cases m)) id, (z2 a z).2⟩
    · exact ⟨.inr ((f2 a z).1.elim id fun m => (by cases m)), rr.dom a z⟩
  obtain ⟨a, vs, G, rfl, hs, q, ss⟩ := rr.lstSq
  have q' := q.frz (Z' := fun a => Z2 a ∨ a ∈ F) (fun a z => .inl z) fun a m => .inr (ss.subset m)
  have ha : Z2 a ∨ a ∈ F := by
    obtain ⟨a', vs', F', e, _, f, _⟩ := rr
    cases e
    cases o with
    | true =>
      obtain rfl : F = a :: F' := f
      exact .inr (List.mem_cons_self ..)
    | false => exact .inl f.1
  have hl : vs.length = (frzs xs).length := q'.length
  refine ⟨a, rfl, ⟨vs, SqL.of hs⟩, fun a => Z2 a ∨ a ∈ F, fun H' => SqL w.K H' a vs, YAt vs, by rw [← hl]; exact walk_list, z1, fun H' k => SqL.of (k a _ hs (.inl ha)), fun i H' x H'' hi k y => ?_⟩
  obtain ⟨rfl, hx⟩ := y
  exact ⟨Ex.refl _, fun a n1 n2 => absurd n1 n2, reps_items (k.stayss q') hx⟩
theorem iter_tup {w : Wd} {H H1 : Hp} {A : Addr → Prop} {xs : List D} {v : V} (r : Res w H A [] H1 (.tup xs) v) : ∃ a, v = .ref a ∧ (∃ xs, SqT w.K H1 a xs) ∧ IterOk w H A H1 (Itt w.K a) (frzs xs) := by
  obtain ⟨Z2, F, rr, nd, f2, z2⟩ := r
  have z1 : ∀ a, (Z2 a ∨ a ∈ F) → (A a ∨ H a = none) ∧ H1 a ≠ none := fun a z => by
    rcases z with z | z
    · exact ⟨(z2 a z).1.imp id fun q => q.elim (fun m => (by cases m)) id, (z2 a z).2⟩
    · exact ⟨.inr ((f2 a z).1.elim id fun m => (by cases m)), rr.dom a z⟩
  obtain ⟨a, vs, rfl, hs, q⟩ := rr
  have q' := q.frz (Z' := fun a => Z2 a ∨ a ∈ F) (fun a z => .inl z) fun a m => .inr m
  have hl : vs.length = (frzs xs).length := q'.length
  refine ⟨a, rfl, ⟨vs, hs⟩, fun a => Z2 a ∨ a ∈ F, fun H' => SqT w.K H' a vs, YAt vs, by rw [← hl]; exact walk_tup, z1, fun H' k => sqT_stay hs fun o q t => k a o q (.inr t), fun i H' x H'' hi k y => ?_⟩
  obtain ⟨rfl, hx⟩ := y
  exact ⟨Ex.refl _, fun a n1 n2 => absurd n1 n2, reps_items (k.stayss q') hx⟩
theorem iter_scr {w : Wd} {H H1 : Hp} {A : Addr → Prop} {ns : List Int} {v : V} (r : Res w H A [] H1 (.scr ns) v) : ∃ a, v = .ref a ∧ (∃ xs, SqL w.K H1 a xs) ∧ IterOk w H A H1 (Itl w.K a) (ns.map .int) := by
  obtain ⟨Z2, F, rr, nd, f2, z2⟩ := r
  have z1 : ∀ a, Z2 a → (A a ∨ H a = none) ∧ H1 a ≠ none := fun a z => ⟨(z2 a z).1.imp id fun q => q.elim (fun m => (by cases m)) id, (z2 a z).2⟩
  obtain ⟨a, rfl, rfl, hs⟩ := rr
  have hl : (List.map V.int ns).length = (List.map D.int ns).length := by rw [List.length_map, List.length_map]
  refine ⟨a, rfl, ⟨_, hs.sq⟩, Z2, fun H' => SqL w.K H' a _, YAt _, by rw [← hl]; exact walk_list, z1, fun H' k => ?_, fun i H' x H'' hi k y => ?_⟩
  · rcases hs with ⟨s1, s2⟩ | ⟨o, s⟩ | s
    · exact SqL.of (k a _ s2 (.inl s1))
    · exact .inl (.inr ⟨o, k a _ s (.inr trivial)⟩)
    · exact .inr s
  · obtain ⟨rfl, hx⟩ := y
    exact ⟨Ex.refl _, fun a n1 n2 => absurd n1 n2, reps_items (reps_ints _) hx⟩
theorem iter_str {w : Wd} {H H1 : Hp} {A : Addr → Prop} {z : Str} {v : V} (r : Res w H A [] H1 (.str z) v) : ∃ x, v = .str x ∧ IterOk w H A H1 (Its x) (z.cps.toList.map fun c => .str ⟨#[c]⟩) := by
  obtain ⟨Z2, F, ⟨rfl, rfl⟩, nd, f2, z2⟩ := r
  have hl : z.cps.size = (z.cps.toList.map fun c => D.str ⟨#[c]⟩).length := by rw [List.length_map, Array.length_toList]
  refine ⟨z, rfl, fun _ => False, fun _ => True, _, by rw [← hl]; exact walk_str, fun a z => z.elim, fun H' k => trivial, fun i H' x H'' hi k y => ?_⟩
  obtain ⟨rfl, c, hc, rfl⟩ := y
  refine ⟨Ex.refl _, fun a n1 n2 => absurd n1 n2, .str ⟨#[c]⟩, ?_, rfl, rfl⟩
  rw [List.getElem?_map, Array.getElem?_toList, hc]
  rfl
theorem ki_seq (h : KE X W e s u) : KI X W tg e (fun env => s env >>= dItems) u := by
  refine pi_imp (PI.or (pi_list h) (PI.or (pi_tup h) (pi_str h))) fun σ H R q => ?_
  obtain ⟨Z, env, Fs, E, q⟩ := q
  have q : Pst (wd X) W σ H (Zu Z Fs u) (s env >>= dItems) _ := q
  cases hs : s env with
  | ok d0 =>
    rw [hs] at q
    have emk : ∀ Q : VK, (∀ v H1, Ex H H1 → Res (wd X) H (Zu Z Fs u) [] H1 d0 v → Q v H1) → vE (wd X) W s u σ H Q := fun Q hq => ⟨Z, env, Fs, E, by rw [hs]; exact hq⟩
    cases d0 with
    | lst o xs =>
      refine .inl (emk _ fun v H1 e1 r1 => ?_)
      obtain ⟨a, rfl, hx, it⟩ := iter_lst r1
      exact ⟨a, rfl, hx, q _ _ e1 it⟩
    | tup xs =>
      refine .inr (.inl (emk _ fun v H1 e1 r1 => ?_))
      obtain ⟨a, rfl, hx, it⟩ := iter_tup r1
      exact ⟨a, rfl, hx, q _ _ e1 it⟩
    | scr xs =>
      refine .inl (emk _ fun v H1 e1 r1 => ?_)
      obtain ⟨a, rfl, hx, it⟩ := iter_scr r1
      exact ⟨a, rfl, hx, q _ _ e1 it⟩
    | str z =>
      refine .inr (.inr (emk _ fun v H1 e1 r1 => ?_))
      obtain ⟨x, rfl, it⟩ := iter_str r1
      exact ⟨x, rfl, q _ _ e1 it⟩
    | _ => exact q.elim
  | exc c fs =>
    rw [hs] at q
    exact .inl ⟨Z, env, Fs, E, by rw [hs]; exact q⟩
  | stk => rw [hs] at q; exact q.elim
/-! ### ranges -/
def nx {α : Type} (r : R α) : R α := match r with
  | .ok a => .ok a
  | _ => .stk
def rngOk (i : Int) : Bool := Nat.ble i.natAbs 1152921504606846975
theorem rngOk_to {i : Int} (h : rngOk i = true) : -(2 ^ 60) ≤ i ∧ i < 2 ^ 60 := by
  have := Nat.le_of_ble_eq_true h
  omega
theorem rngOk_of {i : Int} (h : -1000000 ≤ i) (h2 : i ≤ 1000000) : rngOk i = true := Nat.ble_eq_true_of_le (by omega)
def rngL (lo : Int) (n : Nat) : List D := (List.range n).map fun i => .int (lo + (i : Nat))
def dRng : List D → R (List D)
  | [.int j] => if rngOk j = true then .ok (rngL 0 j.toNat) else .stk
  | _ => .stk
def dRng2 : List D → R (List D)
  | [.int i, .int j] => if rngOk i = true ∧ rngOk j = true then .ok (rngL i (j - i).toNat) else .stk
  | _ => .stk
theorem iter_rng {w : Wd} {H H1 : Hp} {A : Addr → Prop} {lo : Int} {n : Nat} : IterOk w H A H1 (Itr lo n) (rngL lo n) := by
  have hl : n = (rngL lo n).length := by unfold rngL; rw [List.length_map, List.length_range]
  refine ⟨fun _ => False, fun _ => True, _, by rw [← hl]; exact walk_range, fun a z => z.elim, fun H' k => trivial, fun i H' x H'' hi k y => ?_⟩
  obtain ⟨rfl, rfl⟩ := y
  refine ⟨Ex.refl _, fun a n1 n2 => absurd n1 n2, .int (lo + (i : Nat)), ?_, rfl, rfl⟩
  unfold rngL at hi ⊢
  rw [List.length_map] at hi
  rw [List.getElem?_map, List.getElem?_eq_getElem hi, List.getElem_range]
  rfl
theorem pst_nx {w : Wd} {σ : L2.St} {H H1 : Hp} {A A1 : Addr → Prop} {α β : Type} {x : R α} {f : α → R β} {Q : β → Prop} (h : Pst w W σ H A (nx x >>= f) Q) : Pst w W σ H1 A1 x fun a => Pst w W σ H A (f a) Q := by
  cases x with
  | ok a => exact h
  | exc c fs => exact h.elim
  | stk => exact h.elim
variable {es : List Expr} {ss : Env → R (List D)} {p pos : Pos}
theorem nx_rng : NoX dRng := fun a c fs h => by
  unfold dRng at h
  split at h <;> (try split at h) <;> cases h
theorem nx_rng2 : NoX dRng2 := fun a c fs h => by
  unfold dRng2 at h
  split at h <;> (try split at h) <;> cases h
theorem ki_range1 {a : Expr} (hg : Gl X "range") (hm : X.mg "range" = none) (ha : KA X W [a] ss u) (hs : starEach [a] X.env = [(false, eval a X.env)] := by rfl) : KI X W tg (.Call (.Name "range" p) [a] [] pos) (fun env => nx (ss env) >>= dRng) [] :=
  pi_imp (pi_range1 hg hm ha hs) fun σ H R q => by
    obtain ⟨Z, env, Fs, E, q⟩ := q
    refine ⟨Z, env, Fs, E, (pst_nx q).imp (Ex.refl H) (fun _ z => z) fun ds _ q vs H1 e1 r1 => ?_⟩
    obtain ⟨its, ei, q⟩ := q.noX fun c fs => nx_rng ds c fs
    obtain ⟨Z2, F, rr, _⟩ := r1
    unfold dRng at ei
    split at ei
    · split at ei
      · rename_i hz
        cases ei
        have hz := rngOk_to hz
        obtain ⟨x, rfl, rfl, _⟩ := rr.one
        exact ⟨_, rfl, by omega, by omega, q _ H1 e1 iter_rng⟩
      · cases ei
    · cases ei
theorem ki_range2 {a b : Expr} (hg : Gl X "range") (hm : X.mg "range" = none) (ha : KA X W [a, b] ss u) (hs : starEach [a, b] X.env = [(false, eval a X.env), (false, eval b X.env)] := by rfl) (hs2 : starEach [b] X.env = [(false, eval b X.env)] := by rfl) :
    KI X W tg (.Call (.Name "range" p) [a, b] [] pos) (fun env => nx (ss env) >>= dRng2) [] :=
  pi_imp (pi_range2 hg hm ha hs hs2) fun σ H R q => by
    obtain ⟨Z, env, Fs, E, q⟩ := q
    refine ⟨Z, env, Fs, E, (pst_nx q).imp (Ex.refl H) (fun _ z => z) fun ds _ q vs H1 e1 r1 => ?_⟩
    obtain ⟨its, ei, q⟩ := q.noX fun c fs => nx_rng2 ds c fs
    obtain ⟨Z2, F, rr, _⟩ := r1
    unfold dRng2 at ei
    split at ei
    · split at ei
      · rename_i hz
        cases ei
        have h1 := rngOk_to hz.1
        have h2 := rngOk_to hz.2
        obtain rfl := two_ints rr
        exact ⟨_, _, rfl, by omega, q _ H1 e1 iter_rng⟩
      · cases ei
    · cases ei
end
end Vs
set_option maxHeartbeats 2000000
/-! Vs6: list comprehensions. -/
namespace Vs
open PySem L2

def lcGo (env : Env) (t : TgS) (cond : Env → R Bool) (elt : Env → R D) : List D → R (List D)
  | [] => .ok []
  | d :: ds => nx (t d env) >>= fun e1 => nx (cond e1) >>= fun b => if b = true then nx (elt e1) >>= fun y => lcGo env t cond elt ds >>= fun ys => .ok (y :: ys) else lcGo env t cond elt ds
def sLc (items : Env → R (List D)) (u0 vs : List Nat) (t : TgS) (cond : Env → R Bool) (elt : Env → R D) : Env → R D := fun env => items env >>= fun ds =>
  if ds.length ≤ SZ then lcGo (wipeE (if hasFzs ds = true then frzEnv u0 env else env) vs) t cond elt ds >>= fun ys => .ok (.lst true ys) else .stk
theorem nx_ok {α : Type} {x : R α} {a : α} (h : nx x = .ok a) : x = .ok a := by
  cases x with
  | ok b => exact h
  | _ => cases h
theorem bind_ok_inv {α β : Type} {x : R α} {f : α → R β} {b : β} (h : (x >>= f) = .ok b) : ∃ a, x = .ok a ∧ f a = .ok b := by
  cases x with
  | ok a => exact ⟨a, rfl, h⟩
  | _ => cases h
theorem nx_noexc {α β : Type} {x : R α} {f : α → R β} (hf : ∀ a c fs, f a ≠ .exc c fs) (c : Str) (fs : List (Str × D)) : (nx x >>= f) ≠ .exc c fs := fun h => by
  cases x with
  | ok a => exact hf a c fs h
  | exc _ _ => cases h
  | stk => cases h
theorem lcGo_noexc {env : Env} {t : TgS} {cond : Env → R Bool} {elt : Env → R D} : ∀ (ds : List D) (c : Str) (fs : List (Str × D)), lcGo env t cond elt ds ≠ .exc c fs
  | [], c, fs, h => by cases h
  | d :: ds, c, fs, h => by
    have ih := lcGo_noexc (env := env) (t := t) (cond := cond) (elt := elt) ds
    refine nx_noexc (fun e1 c fs => nx_noexc (fun b c fs => ?_) c fs) c fs h
    intro h
    split at h
    · refine nx_noexc (fun y c fs h => ?_) c fs h
      cases hl : lcGo env t cond elt ds with
      | ok ys => rw [hl] at h; cases h
      | exc c' fs' => exact ih c' fs' hl
      | stk => rw [hl] at h; cases h
    · exact ih c fs h
theorem wipe_idem {σ : L2.St} : ∀ {vs us : List Nat}, (∀ v ∈ vs, v ∈ us) → L2.wipe (L2.wipe σ vs) us = L2.wipe σ us
  | [], us, _ => rfl
  | v :: vs, us, h => by
    show L2.wipe ((L2.wipe σ vs).set v none) us = _
    rw [wipe_set (h v (List.mem_cons_self ..)), wipe_idem fun x m => h x (List.mem_cons_of_mem _ m)]
section
variable {w : Wd} {H : Hp} {Z Z' : Addr → Prop} {σ : L2.St} {env : Env} {Fs : Nat → List Addr}
theorem EnvOk.upZ (E : EnvOk w H Z σ env Fs) (z : ∀ a, Z a → Z' a) (zd : ∀ a, Z' a → H a ≠ none) (nz : ∀ i a, a ∈ Fs i → ¬ Z' a) : EnvOk w H Z' σ env Fs :=
  ⟨fun i d e => let ⟨v, a, b⟩ := E.rep i d e; ⟨v, a, b.up z⟩, E.len, zd, E.fd, nz, E.nd, E.dj, E.nt⟩
end
theorem hasFz_get : ∀ {ds : List D} {i : Nat} {d : D}, hasFzs ds = false → ds[i]? = some d → hasFz d = false
  | [], i, d, _, h => by simp at h
  | x :: xs, i, d, k, h => by
    have k' : (hasFz x || hasFzs xs) = false := k
    rw [Bool.or_eq_false_iff] at k'
    cases i with
    | zero =>
      have e : x = d := by simpa using h
      subst e
      exact k'.1
    | succ i => exact hasFz_get k'.2 (by simpa using h)
abbrev W0 : WX := fun _ _ _ _ => False
section
variable {w : Wd} {W : WX} {items : Env → R (List D)} {u0 uc ue vs js : List Nat} {t : TgS} {cond : Env → R Bool} {elt : Env → R D}
theorem lc_of (hj : ∀ j ∈ js, j ∈ vs) {σ : L2.St} {H : Hp} {Q : VK} (q : vE w W (sLc items u0 vs t cond elt) (u0 ++ ue) σ H Q) :
    tLc (vI w W items u0) (vG w t js) (vT w W0 cond uc) (vE w W0 elt ue) vs σ H Q := by
  obtain ⟨Z, env, Fs, E, q⟩ := q
  have q : Pst w W σ H (Zu Z Fs (u0 ++ ue)) (items env >>= fun ds => if ds.length ≤ SZ then lcGo (wipeE (if hasFzs ds = true then frzEnv u0 env else env) vs) t cond elt ds >>= fun ys => (R.ok (D.lst true ys) : R D) else R.stk) (fun d => ∀ v H2, Ex H H2 → Res w H (Zu Z Fs (u0 ++ ue)) [] H2 d v → Q v H2) := q
  refine ⟨Z, env, Fs, E, (q.bind (Ex.refl H) Zu.left).imp (Ex.refl H) (fun _ z => z) fun ds _ q J H1 e1 it Dl hD => ?_⟩
  split at q
  · rename_i hsz
    -- what the items come to
    obtain ⟨tot, et, q⟩ := (q.bind (Ex.refl H) (fun _ z => z)).noX fun c fs => lcGo_noexc ds c fs
    have q : ∀ v H2, Ex H H2 → Res w H (Zu Z Fs (u0 ++ ue)) [] H2 (.lst true tot) v → Q v H2 := q
    obtain ⟨Z1, G, Y, wk, z1, kp, yl⟩ := it
    -- the slots within
    obtain ⟨Zs, Fs0, E0, it0, zs, f0⟩ : ∃ (Zs : Addr → Prop) (Fs0 : Nat → List Addr), EnvOk w H1 Zs σ (if hasFzs ds = true then frzEnv u0 env else env) Fs0 ∧
        (∀ H'' x d i, ds[i]? = some d → Rep w H'' Z1 d x [] → Rep w H'' Zs d x []) ∧ (∀ a, Zs a → Zu Z Fs u0 a ∨ H a = none) ∧ ∀ k a, a ∈ Fs0 k → a ∈ Fs k := by
      by_cases hf : hasFzs ds = true
      · rw [if_pos hf]
        obtain ⟨Fs', E', s'⟩ := E.frz (us := u0)
        refine ⟨fun a => Zu Z Fs u0 a ∨ Z1 a, Fs', (E'.ex e1).upZ (fun a => .inl) (fun a z => z.elim (fun z => e1.some (Zu.dom E a z)) fun z => (z1 a z).2) (fun i a m z => ?_), fun H'' x d i _ r => r.up fun a => .inr, fun a z => z.elim .inl fun z => (z1 a z).1, s'⟩
        rcases z with z | z
        · exact E'.nz i a m z
        · rcases (z1 a z).1 with z | z
          · exact E'.nz i a m z
          · exact E.fd i a (s' i a m) z
      · have hf' : hasFzs ds = false := by simpa using hf
        rw [if_neg hf]
        exact ⟨Z, Fs, E.ex e1, fun H'' x d i hi r => r.any (hasFz_get hf' hi), fun a z => .inl (.inl z), fun _ _ m => m⟩
    have E1 := E0.wipe vs
    generalize hen : wipeE (if hasFzs ds = true then frzEnv u0 env else env) vs = envS at et E1
    have nZ : ∀ a, Zs a → H1 a ≠ none := E0.zd
    have nF : ∀ k a, a ∈ Fs0 k → H1 a ≠ none := E0.fd
    refine lc_it wk (fun i H' => Ex H1 H' ∧ ∃ (acc : List V) (ys : List D) (Za : Addr → Prop) (F : List Addr), H' Dl = some (.lst acc) ∧ Reps w H' Za ys acc F ∧ F.Nodup ∧ (∀ a ∈ F, H1 a = none ∧ ¬ Za a ∧ a ≠ Dl) ∧
      (∀ a, Za a → (Zu Z Fs (u0 ++ ue) a ∨ H a = none) ∧ H' a ≠ none ∧ a ≠ Dl) ∧ ys.length ≤ i ∧ ∃ rest, lcGo envS t cond elt (ds.drop i) = .ok rest ∧ ys ++ rest = tot) ?_ ?_ ?_ ?_
    · exact ⟨Ex.new hD, [], [], fun _ => False, [], upd_same, ⟨rfl, rfl⟩, List.nodup_nil, fun a m => (by cases m), fun a z => z.elim, Nat.le_refl _, tot, et, rfl⟩
    · exact fun i H' _ p => kp H' fun a o e _ => p.1 a o e
    · rintro i x H' H'' hi ⟨eh, acc, ys, Za, F, hDl, rr, nd, hF, hZ, hyl, rest, er, etot⟩ y
      obtain ⟨e2, _, d, hd, rd⟩ := yl i H' x H'' hi (fun a o e _ => eh a o e) y
      have hdr : ds.drop i = d :: ds.drop (i + 1) := by
        have hlt := (List.getElem?_eq_some_iff.mp hd)
        rw [List.drop_eq_getElem_cons hlt.1, hlt.2]
      rw [hdr] at er
      obtain ⟨en1, h1, er⟩ := bind_ok_inv er
      obtain ⟨b, h2, er⟩ := bind_ok_inv er
      have h1 := nx_ok h1
      have h2 := nx_ok h2
      have eh2 := eh.trans e2
      refine ⟨Zs, envS, en1, Fs0, d, [], E1.ex eh2, it0 H'' x d i hd rd, List.nodup_nil, fun a m => (by cases m), fun k a m => (by cases m), h1, fun σ2 Fs2 E2 s2 o2 => ⟨?_, ?_⟩⟩
      · rw [o2 vs hj]
        exact wipe_idem fun v m => m
      · have s2' : ∀ k a, a ∈ Fs2 k → a ∈ Fs0 k := fun k a m => (s2 k a m).elim id fun m => (by cases m)
        refine ⟨Zs, en1, Fs2, E2, ?_⟩
        rw [h2]
        intro H3 e3
        cases b with
        | false =>
          have er : lcGo envS t cond elt (ds.drop (i + 1)) = .ok rest := er
          exact ⟨(eh2.trans e3), acc, ys, Za, F, e3 _ _ (e2 _ _ hDl), rr.ex (e2.trans e3), nd, hF, fun a z => ⟨(hZ a z).1, (e2.trans e3).some (hZ a z).2.1, (hZ a z).2.2⟩, Nat.le_succ_of_le hyl, rest, er, etot⟩
        | true =>
          have er : (nx (elt en1) >>= fun y => lcGo envS t cond elt (ds.drop (i + 1)) >>= fun ys => .ok (y :: ys)) = .ok rest := er
          obtain ⟨yd, h3, er⟩ := bind_ok_inv er
          have h3 := nx_ok h3
          obtain ⟨rest', er', er⟩ := bind_ok_inv er
          cases er
          show vE w W0 elt ue σ2 H3 _
          refine ⟨Zs, en1, Fs2, E2.ex e3, ?_⟩
          rw [h3]
          intro yv H4 e4 r4
          obtain ⟨Zy, Fy, ry, ndy, fy, zy⟩ := r4
          have e04 : Ex H' H4 := (e2.trans e3).trans e4
          have e14 : Ex H1 H4 := eh.trans e04
          have hDl3 : H3 Dl = some (.lst acc) := e3 _ _ (e2 _ _ hDl)
          have hDl4 : H4 Dl = some (.lst acc) := e4 _ _ hDl3
          have noA : ∀ a, H1 a = none → ¬ Zu Zs Fs2 ue a := fun a hn z => by
            rcases z with z | ⟨k, _, m⟩
            · exact nZ a z hn
            · exact nF k a (s2' k a m) hn
          have zyD : ¬ Zy Dl := fun z => by
            rcases (zy Dl z).1 with q | q | q
            · exact noA Dl hD q
            · cases q
            · rw [hDl3] at q; cases q
          have fy3 : ∀ a ∈ Fy, H3 a = none := fun a m => (fy a m).1.elim id fun m => (by cases m)
          have fyD : Dl ∉ Fy := fun m => by
            have := fy3 Dl m
            rw [hDl3] at this; cases this
          have hF4 : ∀ a ∈ F, H3 a ≠ none := fun a m => (e2.trans e3).some (rr.dom a m)
          have hup : ∀ a o, H4 a = some o → a ≠ Dl → (upd H4 Dl (.lst (acc ++ [yv]))) a = some o := fun a o h n => by rw [upd_ne n]; exact h
          have ndl : ∀ a o, H4 a = some o → Tu o → a ≠ Dl := fun a o h tu n => by
            subst n
            rw [hDl4] at h
            cases h
            exact tu
          have e15 : Ex H1 (upd H4 Dl (.lst (acc ++ [yv]))) := e14.mut hD
          refine ⟨acc, hDl4, ?_, e15, acc ++ [yv], ys ++ [yd], fun a => Za a ∨ Zy a, F ++ Fy, upd_same, ?_, ?_, fun a m => ?_, fun a z => ?_, ?_, rest', er', ?_⟩
          · rw [rr.length]
            have hn : i < ds.length := hi
            exact Nat.lt_of_lt_of_le (by omega : ys.length < SZ) (by decide)
          · have r1 : Reps w (upd H4 Dl (.lst (acc ++ [yv]))) (fun a => Za a ∨ Zy a) ys acc F := (rr.ex e04).stay (fun a => .inl) fun a o h c => hup a o h (by
              rcases c with c | c | c
              · exact (hZ a c).2.2
              · exact (hF a c).2.2
              · exact ndl a o h c)
            have r2 : Rep w (upd H4 Dl (.lst (acc ++ [yv]))) (fun a => Za a ∨ Zy a) yd yv Fy := ry.stay (fun a => .inr) fun a o h c => hup a o h (by
              rcases c with c | c | c
              · exact fun n => zyD (n ▸ c)
              · exact fun n => fyD (n ▸ c)
              · exact ndl a o h c)
            exact r1.append ⟨yv, [], Fy, [], rfl, (List.append_nil _).symm, r2, rfl, rfl⟩
          · exact List.nodup_append.mpr ⟨nd, ndy, fun a m b m2 e => hF4 a m (e ▸ fy3 b m2)⟩
          · rcases List.mem_append.mp m with m | m
            · refine ⟨(hF a m).1, fun z => z.elim (hF a m).2.1 fun z => ?_, (hF a m).2.2⟩
              rcases (zy a z).1 with q | q | q
              · exact noA a (hF a m).1 q
              · cases q
              · exact hF4 a m q
            · refine ⟨(eh2.trans e3).back (fy3 a m), fun z => z.elim (fun z => ?_) (fy a m).2, fun n => fyD (n ▸ m)⟩
              exact (e2.trans e3).some (hZ a z).2.1 (fy3 a m)
          · rcases z with z | z
            · exact ⟨(hZ a z).1, by rw [upd_ne (hZ a z).2.2]; exact e04.some (hZ a z).2.1, (hZ a z).2.2⟩
            · have hn : a ≠ Dl := fun n => zyD (n ▸ z)
              refine ⟨?_, by rw [upd_ne hn]; exact (zy a z).2, hn⟩
              rcases (zy a z).1 with (q | ⟨k, hk, m⟩) | q | q
              · exact (zs a q).imp (Zu.left a) id
              · exact .inl (.inr ⟨k, List.mem_append_right _ hk, f0 k a (s2' k a m)⟩)
              · cases q
              · exact .inr ((e1.trans (eh2.trans e3)).back q)
          · rw [List.length_append]
            show ys.length + 1 ≤ i + 1
            omega
          · rw [List.append_assoc]
            exact etot
    · rintro H' ⟨eh, acc, ys, Za, F, hDl, rr, nd, hF, hZ, hyl, rest, er, etot⟩
      rw [List.drop_length] at er
      cases er
      rw [List.append_nil] at etot
      subst etot
      refine q _ _ (e1.trans eh) ⟨Za, Dl :: F, ⟨Dl, acc, F, rfl, hDl, rfl, rr⟩, List.nodup_cons.mpr ⟨fun m => (hF Dl m).2.2 rfl, nd⟩, fun a m => ?_, fun a z => ⟨(hZ a z).1.imp id .inr, (hZ a z).2.1⟩⟩
      rcases List.mem_cons.mp m with rfl | m
      · exact ⟨.inl (e1.back hD), fun z => (hZ _ z).2.2 rfl⟩
      · exact ⟨.inl (e1.back (hF a m).1), (hF a m).2.1⟩
  · exact q.elim
end
section
variable {X : Cx} {W : WX} {items : Env → R (List D)} {u0 uc ue : List Nat} {js : List Nat} {t : TgS} {cond : Env → R Bool} {elt : Env → R D}
def KTs (X : Cx) (W : WX) (es : List Expr) (s : Env → R Bool) (us : List Nat) : Prop := PTs X es (vT (wd X) W s us)
theorem kts_nil : KTs X W [] (fun _ => .ok true) [] := ⟨fun pins s σ H Q I q => pts_nil.run pins s σ H Q I (by
  obtain ⟨Z, env, Fs, E, q⟩ := q
  exact q H (Ex.refl H))⟩
theorem kts_one {c : Expr} {s : Env → R Bool} {u : List Nat} (h : KT X W c s u) : KTs X W [c] s u := pts_one h
theorem ke_lc {el tg iter : Expr} {ifs : List Expr} {scope : Scope} {own : List (Str × Nat)} {pos : Pos} (hc : X.calm = true) (hN : X.N.Nodup) (hi : KI X W tg iter items u0) (ok : BlkOk X.N X.env.scope scope own) (hj : ∀ j ∈ js, j ∈ own.map (·.2))
    (hg : ∀ (s : Shared) (H : Hp) (C : Addr) (cl : List (Str × Addr)) (fp : List Addr), KG (X.blk s H scope (compEnvC scope cl C X.env) fp) tg t js)
    (ht : ∀ (s : Shared) (H : Hp) (C : Addr) (cl : List (Str × Addr)) (fp : List Addr), KTs (X.blk s H scope (compEnvC scope cl C X.env) fp) W0 ifs cond uc)
    (he : ∀ (s : Shared) (H : Hp) (C : Addr) (cl : List (Str × Addr)) (fp : List Addr), KE (X.blk s H scope (compEnvC scope cl C X.env) fp) W0 el elt ue) (hs : ∀ x, foldedSetIterable iter X.env x = pure x := by intro _; rfl) :
    KE X W (.ListComp el [⟨tg, iter, ifs, 0⟩] scope pos) (sLc items u0 (own.map (·.2)) t cond elt) (u0 ++ ue) :=
  pe_imp (pe_lc (g := vG (wd X) t js) (tt := vT (wd X) W0 cond uc) (te := vE (wd X) W0 elt ue) hc hN hi ok hg ht he hs) fun σ H Q q => lc_of hj q
end
end Vs
set_option maxHeartbeats 2000000
/-! Vs7: statements. -/
namespace Vs
open PySem L2

/-- how a statement ends -/
inductive S where
  | nxt (e : Env) | ret (d : D) | brk (e : Env) | cnt (e : Env) | exc (c : Str) (fs : List (Str × D)) (e : Env) | stk
structure StOk (w : Wd) (H0 : Hp) (Z0 : Addr → Prop) (Z : Addr → Prop) (σ : L2.St) (H : Hp) (env : Env) (Fs : Nat → List Addr) : Prop where
  ok : EnvOk w H Z σ env Fs
  ex : Ex H0 H
  zb : ∀ a, Z a → Z0 a ∨ H0 a = none
  fb : ∀ i a, a ∈ Fs i → H0 a = none
/-- fx: slots that keep what they hold (pr) -/
def St1 (w : Wd) (fx : List Nat) (pr : Nat → V) (H0 : Hp) (Z0 : Addr → Prop) (σ : L2.St) (H : Hp) (env : Env) : Prop := (∀ i ∈ fx, σ[i]? = some (some (pr i))) ∧ ∃ Z Fs, StOk w H0 Z0 Z σ H env Fs
def SPst (w : Wd) (W : WX) (fx : List Nat) (pr : Nat → V) (H0 : Hp) (Z0 : Addr → Prop) (D : Ends) : S → Prop
  | .nxt e => ∀ σ H, St1 w fx pr H0 Z0 σ H e → D.nx σ H
  | .ret d => ∀ v H, Ex H0 H → Res w H0 Z0 [] H d v → D.rt v H
  | .brk e => ∀ σ H, St1 w fx pr H0 Z0 σ H e → D.bk σ H
  | .cnt e => ∀ σ H, St1 w fx pr H0 Z0 σ H e → D.ct σ H
  | .exc c fs e => ∀ σ H C dd vs Z Fs, w.mg c = some (.ref C) → StOk w H0 Z0 Z σ H e Fs → H0 dd = none → H dd = some (.xd ((fs.map (·.1)).zip vs)) → Reps w H Z (fs.map (·.2)) vs [] → ¬ Z dd → (∀ i, dd ∉ Fs i) → W (.ref C) (some dd) σ H
  | .stk => False
def vS (w : Wd) (W : WX) (fx : List Nat) (s : Env → S) : TS := fun D σ H => ∃ pr H0 Z0 env, St1 w fx pr H0 Z0 σ H env ∧ SPst w W fx pr H0 Z0 D (s env)
def KS (X : Cx) (W : WX) (fx : List Nat) (st : Stmt) (s : Env → S) : Prop := PS X st (vS (wd X) W fx s)
def KSs (X : Cx) (W : WX) (fx : List Nat) (st : List Stmt) (s : Env → S) : Prop := PSs X st (vS (wd X) W fx s)

def seqS (s t : Env → S) : Env → S := fun env => match s env with
  | .nxt e => t e
  | r => r
section
variable {X : Cx} {W : WX} {w : Wd} {fx : List Nat} {pr : Nat → V} {st : Stmt} {rest : List Stmt} {e a : Expr} {es : List Expr} {pos : Pos} {s t : Env → S} {se sa : Env → R D} {ss : Env → R (List D)} {sc : Env → R Bool} {u ua uc : List Nat}
theorem kss_nil : KSs X W fx [] .nxt := pss_imp pss_nil fun D σ H q => by
  obtain ⟨pr, H0, Z0, env, st, q⟩ := q
  exact q σ H st
theorem kss_cons (h : KS X W fx st s) (hr : KSs X W fx rest t) : KSs X W fx (st :: rest) (seqS s t) := pss_imp (pss_cons h hr) fun D σ H q => by
  obtain ⟨pr, H0, Z0, env, st, q⟩ := q
  refine ⟨pr, H0, Z0, env, st, ?_⟩
  have q : SPst (wd X) W fx pr H0 Z0 D (match s env with | .nxt e => t e | r => r) := q
  revert q
  cases s env with
  | nxt e => exact fun q σ' H' st' => ⟨pr, H0, Z0, e, st', q⟩
  | ret d => exact fun q => q
  | brk e => exact fun q => q
  | cnt e => exact fun q => q
  | exc c fs e => exact fun q => q
  | stk => exact fun q => q
theorem kss_one (h : KS X W fx st s) : KSs X W fx [st] s := pss_one h
theorem ks_pass : KS X W fx (.Pass pos) .nxt := ps_imp ps_pass fun D σ H q => by
  obtain ⟨pr, H0, Z0, env, st, q⟩ := q
  exact q σ H st
theorem ks_break : KS X W fx (.Break pos) .brk := ps_imp ps_break fun D σ H q => by
  obtain ⟨pr, H0, Z0, env, st, q⟩ := q
  exact q σ H st
theorem ks_continue : KS X W fx (.Continue pos) .cnt := ps_imp ps_continue fun D σ H q => by
  obtain ⟨pr, H0, Z0, env, st, q⟩ := q
  exact q σ H st
/-- code that is not come to -/
theorem ks_never : KS X W fx st (fun _ => .stk) := ps_imp ps_never fun D σ H q => by
  obtain ⟨pr, H0, Z0, env, st, q⟩ := q
  exact q
/-- an expression within a statement -/
theorem StOk.res {H0 H H2 : Hp} {Z0 Z : Addr → Prop} {σ : L2.St} {env : Env} {Fs : Nat → List Addr} (S : StOk w H0 Z0 Z σ H env Fs) {d : D} {v : V} (e : Ex H H2) (r : Res w H (Zu Z Fs u) [] H2 d v) : Ex H0 H2 ∧ Res w H0 Z0 [] H2 d v := by
  refine ⟨S.ex.trans e, r.behind S.ex (fun a m => (by cases m)) fun a z => ?_⟩
  rcases z with z | ⟨i, _, m⟩
  · exact S.zb a z
  · exact .inr (S.fb i a m)
/-- an error raised by an expression -/
theorem StOk.exc {H0 H : Hp} {Z0 Z : Addr → Prop} {σ : L2.St} {env : Env} {Fs : Nat → List Addr} {D : Ends} {c : Str} {fs : List (Str × Vs.D)} (S : StOk w H0 Z0 Z σ H env Fs) (q : SPst w W fx pr H0 Z0 D (.exc c fs (frzEnv u env))) {α : Type} {Q : α → Prop} : Pst w W σ H (Zu Z Fs u) (R.exc c fs : R α) Q := by
  intro C dd vs H2 Z2 m e2 nd hd r zz
  obtain ⟨Fs', E', s'⟩ := S.ok.frz (us := u)
  have zz' : ∀ a, Z2 a → (Zu Z Fs u a ∨ H a = none) := fun a z => (zz a z).1
  refine q σ H2 C dd vs (fun a => Zu Z Fs u a ∨ Z2 a) Fs' m ⟨(E'.ex e2).upZ (fun a => .inl) (fun a z => z.elim (fun z => e2.some (Zu.dom S.ok a z)) fun z => (zz a z).2.1) (fun i a m z => ?_), S.ex.trans e2, fun a z => ?_, fun i a m => S.fb i a (s' i a m)⟩ (S.ex.back nd) hd (r.up fun a => .inr) (fun z => ?_) fun i m => ?_
  · rcases z with z | z
    · exact E'.nz i a m z
    · rcases zz' a z with z | z
      · exact E'.nz i a m z
      · exact S.ok.fd i a (s' i a m) z
  · have go : Zu Z Fs u a → Z0 a ∨ H0 a = none := fun z => by
      rcases z with z | ⟨i, _, m⟩
      · exact S.zb a z
      · exact .inr (S.fb i a m)
    rcases z with z | z
    · exact go z
    · exact (zz' a z).elim go fun z => .inr (S.ex.back z)
  · rcases z with z | z
    · exact Zu.dom S.ok dd z nd
    · exact (zz dd z).2.2 rfl
  · exact S.ok.fd i dd (s' i dd m) nd
def dropS (s : Env → R D) (us : List Nat) : Env → S := fun env => match s env with
  | .ok _ => .nxt env
  | .exc c fs => .exc c fs (frzEnv us env)
  | .stk => .stk
theorem ks_expr (he : KE X W e se u) (hs : swapsWith e none pos.line X.env = pure false := by rfl) : KS X W fx (.Expr e pos) (dropS se u) := ps_imp (ps_expr he hs) fun D σ H q => by
  obtain ⟨pr, H0, Z0, env, ⟨hpr, Z, Fs, st⟩, q⟩ := q
  have q : SPst (wd X) W fx pr H0 Z0 D (match se env with | .ok _ => .nxt env | .exc c fs => .exc c fs (frzEnv u env) | .stk => .stk) := q
  refine ⟨Z, env, Fs, st.ok, ?_⟩
  revert q
  cases se env with
  | ok d => exact fun q v H2 e2 r => q σ H2 ⟨hpr, Z, Fs, st.ok.ex e2, st.ex.trans e2, st.zb, st.fb⟩
  | exc c fs => exact fun q => st.exc q
  | stk => exact fun q => q
def retS (s : Env → R D) (us : List Nat) : Env → S := fun env => match s env with
  | .ok d => .ret d
  | .exc c fs => .exc c fs (frzEnv us env)
  | .stk => .stk
theorem ks_ret (he : KE X W e se u) : KS X W fx (.Return (some e) pos) (retS se u) := ps_imp (ps_ret he) fun D σ H q => by
  obtain ⟨pr, H0, Z0, env, ⟨hpr, Z, Fs, st⟩, q⟩ := q
  have q : SPst (wd X) W fx pr H0 Z0 D (match se env with | .ok d => .ret d | .exc c fs => .exc c fs (frzEnv u env) | .stk => .stk) := q
  refine ⟨Z, env, Fs, st.ok, ?_⟩
  revert q
  cases se env with
  | ok d => exact fun q v H2 e2 r => q v H2 (st.res e2 r).1 (st.res e2 r).2
  | exc c fs => exact fun q => st.exc q
  | stk => exact fun q => q
/-- return name: the slot's own thing is handed over -/
def retV (i : Nat) : Env → S := fun env => match env[i]? with
  | some (some d) => .ret d
  | _ => .stk
theorem ks_retV {i : Nat} (he : PE X e (tVar i)) : KS X W fx (.Return (some e) pos) (retV i) := ps_imp (ps_ret he) fun D σ H q => by
  obtain ⟨pr, H0, Z0, env, ⟨hpr, Z, Fs, st⟩, q⟩ := q
  have q : SPst (wd X) W fx pr H0 Z0 D (match env[i]? with | some (some d) => .ret d | _ => .stk) := q
  split at q
  · rename_i d hd
    obtain ⟨v, hv, r⟩ := st.ok.rep i d hd
    exact ⟨v, hv, q v H st.ex ⟨Z, Fs i, r, st.ok.nd i, fun a m => ⟨.inl (st.fb i a m), st.ok.nz i a m⟩, fun a z => ⟨(st.zb a z).imp id .inr, st.ok.zd a z⟩⟩⟩
  · exact q.elim
theorem ks_retN : KS X W fx (.Return none pos) (fun _ => .ret .non) := ps_imp ps_retN fun D σ H q => by
  obtain ⟨pr, H0, Z0, env, ⟨hpr, Z, Fs, st⟩, q⟩ := q
  exact q .non H st.ex (Res.flat ⟨rfl, rfl⟩)
def ifS (c : Env → R Bool) (us : List Nat) (s t : Env → S) : Env → S := fun env => match c env with
  | .ok b => if b = true then s env else t env
  | .exc c fs => .exc c fs (frzEnv us env)
  | .stk => .stk
theorem ks_if {c : Expr} {xs ys : List Stmt} (hc : KT X W c sc uc) (ha : KSs X W fx xs s) (hb : KSs X W fx ys t) : KS X W fx (.If c xs ys pos) (ifS sc uc s t) := ps_imp (ps_if hc ha hb) fun D σ H q => by
  obtain ⟨pr, H0, Z0, env, ⟨hpr, Z, Fs, st⟩, q⟩ := q
  have q : SPst (wd X) W fx pr H0 Z0 D (match sc env with | .ok b => if b = true then s env else t env | .exc c fs => .exc c fs (frzEnv uc env) | .stk => .stk) := q
  refine ⟨Z, env, Fs, st.ok, ?_⟩
  revert q
  cases sc env with
  | ok b =>
    intro q H2 e2
    have st2 : St1 (wd X) fx pr H0 Z0 σ H2 env := ⟨hpr, Z, Fs, st.ok.ex e2, st.ex.trans e2, st.zb, st.fb⟩
    cases b with
    | true => exact ⟨pr, H0, Z0, env, st2, q⟩
    | false => exact ⟨pr, H0, Z0, env, st2, q⟩
  | exc c fs => exact fun q => st.exc q
  | stk => exact fun q => q
/-! ### storing -/
def asgE (d : D) (us : List Nat) (env : Env) : Env := if hasFz d = true then frzEnv us env else env
def asgS (t : TgS) (s : Env → R D) (us : List Nat) : Env → S := fun env => match s env with
  | .ok d => (match t d (asgE d us env) with
    | .ok e => .nxt e
    | _ => .stk)
  | .exc c fs => .exc c fs (frzEnv us env)
  | .stk => .stk
/-- the slots behind an expression whose value is to be kept -/
theorem StOk.keep {H0 H H2 : Hp} {Z0 Z : Addr → Prop} {σ : L2.St} {env : Env} {Fs : Nat → List Addr} {d : D} {v : V} (S : StOk w H0 Z0 Z σ H env Fs) (e : Ex H H2) (r : Res w H (Zu Z Fs u) [] H2 d v) :
    ∃ Z' Fs' F, StOk w H0 Z0 Z' σ H2 (asgE d u env) Fs' ∧ Rep w H2 Z' d v F ∧ F.Nodup ∧ (∀ a ∈ F, ¬ Z' a) ∧ (∀ k a, a ∈ F → a ∉ Fs' k) ∧ (∀ a ∈ F, H0 a = none) ∧ (∀ k a, a ∈ Fs' k → a ∈ Fs k) ∧ ∀ a ∈ F, H a = none := by
  obtain ⟨Z2, F, rr, nd, f2, z2⟩ := r
  have f3 : ∀ a ∈ F, H a = none := fun a m => (f2 a m).1.elim id fun m => (by cases m)
  have z3 : ∀ a, Z2 a → Zu Z Fs u a ∨ H a = none := fun a z => (z2 a z).1.imp id fun q => q.elim (fun m => (by cases m)) id
  unfold asgE
  by_cases hf : hasFz d = true
  · rw [if_pos hf]
    obtain ⟨Fs', E', s'⟩ := S.ok.frz (us := u)
    refine ⟨fun a => Zu Z Fs u a ∨ Z2 a, Fs', F, ⟨(E'.ex e).upZ (fun a => .inl) (fun a z => z.elim (fun z => e.some (Zu.dom S.ok a z)) fun z => (z2 a z).2) (fun i a m z => ?_), S.ex.trans e, fun a z => ?_, fun i a m => S.fb i a (s' i a m)⟩, rr.up fun a => .inr, nd, fun a m z => ?_, fun k a m m2 => ?_, fun a m => S.ex.back (f3 a m), s', f3⟩
    · rcases z with z | z
      · exact E'.nz i a m z
      · rcases z3 a z with z | z
        · exact E'.nz i a m z
        · exact S.ok.fd i a (s' i a m) z
    · have go : Zu Z Fs u a → Z0 a ∨ H0 a = none := fun z => by
        rcases z with z | ⟨i, _, m⟩
        · exact S.zb a z
        · exact .inr (S.fb i a m)
      rcases z with z | z
      · exact go z
      · exact (z3 a z).elim go fun z => .inr (S.ex.back z)
    · rcases z with z | z
      · exact Zu.dom S.ok a z (f3 a m)
      · exact (f2 a m).2 z
    · exact S.ok.fd k a (s' k a m2) (f3 a m)
  · have hf' : hasFz d = false := by simpa using hf
    rw [if_neg hf]
    exact ⟨Z, Fs, F, ⟨S.ok.ex e, S.ex.trans e, S.zb, S.fb⟩, rr.any hf', nd, fun a m z => S.ok.zd a z (f3 a m), fun k a m m2 => S.ok.fd k a m2 (f3 a m), fun a m => S.ex.back (f3 a m), fun _ _ m => m, f3⟩
theorem Only.keep {js : List Nat} {σ σ' : L2.St} (o : Only js σ σ') (hj : ∀ i ∈ fx, i ∉ js) (h : ∀ i ∈ fx, σ[i]? = some (some (pr i))) : ∀ i ∈ fx, σ'[i]? = some (some (pr i)) := fun i m => by
  have e := congrArg (fun l : L2.St => l[i]?) (o js fun j m => m)
  simp only [wipe_out (hj i m)] at e
  rw [e]
  exact h i m
theorem asg_of {tg : TgS} {js : List Nat} (hj : ∀ i ∈ fx, i ∉ js) {D : Ends} {σ : L2.St} {H : Hp} (q : vS w W fx (asgS tg se u) D σ H) : tAsg (vE w W se u) (vG w tg js) D σ H := by
  obtain ⟨pr, H0, Z0, env, ⟨hpr, Z, Fs, st⟩, q⟩ := q
  have q : SPst w W fx pr H0 Z0 D (match se env with | .ok d => (match tg d (asgE d u env) with | .ok e => .nxt e | _ => .stk) | .exc c fs => .exc c fs (frzEnv u env) | .stk => .stk) := q
  refine ⟨Z, env, Fs, st.ok, ?_⟩
  revert q
  cases se env with
  | ok d =>
    intro q v H2 e2 r
    obtain ⟨Z', Fs', F, st', rr, nd, nz, dj, f0, _, _⟩ := st.keep e2 r
    have q : SPst w W fx pr H0 Z0 D (match tg d (asgE d u env) with | .ok e => .nxt e | _ => .stk) := q
    split at q
    · rename_i en1 h1
      refine ⟨Z', _, en1, Fs', d, F, st'.ok, rr, nd, nz, dj, h1, fun σ' Fs2 E2 s2 o2 => q σ' H2 ⟨o2.keep hj hpr, Z', Fs2, E2, st'.ex, st'.zb, fun i a m => (s2 i a m).elim (st'.fb i a) (f0 a)⟩⟩
    · exact q.elim
  | exc c fs => exact fun q => st.exc q
  | stk => exact fun q => q
theorem ks_asg {tg : Expr} {t : TgS} {js : List Nat} (hj : ∀ i ∈ fx, i ∉ js) (he : KE X W e se u) (hg : KG X tg t js) (hs : swapsWithSole [tg] e pos.line X.env = pure false := by rfl) (hw : swappedStores [tg] e X.env = pure none := by rfl)
    (h1 : (assignEach [tg] X.env).map (·.2) = [assign tg X.env] := by rfl) : KS X W fx (.Assign [tg] e pos) (asgS t se u) := ps_imp (ps_asg he hg hs hw h1) fun D σ H q => asg_of hj q
/-- name = value -/
theorem gname_vG {i : Nat} {v : V} {σ : L2.St} {H : Hp} {Q : L2.St → Hp → Prop} (h : vG w (tgN i) [i] v σ H Q) : gName i v σ H Q := by
  obtain ⟨Z, env, env', Fs, d, F, E, r, nd, nz, dj, ed, k⟩ := h
  cases ed
  refine k _ _ (E.set r nd nz fun k a m _ => dj k a m) (fun k a m => ?_) fun vs hv => wipe_set (hv i (List.mem_singleton.mpr rfl))
  by_cases hk : k = i
  · rw [if_pos hk] at m; exact .inr m
  · rw [if_neg hk] at m; exact .inl m
theorem ks_set {i : Nat} {x : Str} {pos' : Pos} (hj : ∀ k ∈ fx, k ∉ [i]) (hN : X.N.Nodup) (hi : X.N[i]? = some x) (hx : Loc X.env.scope x) (he : KE X W e se u) (hs : swapsWith e (some (.Name x pos')) pos.line X.env = pure false := by rfl) (hf : X.fn x = true ∨ X.env.scope.names.lookup x = some .local := by first | exact .inl rfl | exact .inr rfl | assumption) :
    KS X W fx (.Assign [.Name x pos'] e pos) (asgS (tgN i) se u) := ps_imp (ps_set hN hi hx he hs hf) fun D σ H q => by
  have q := asg_of (js := [i]) hj q
  exact vE_mono q fun v H' q => gname_vG q
/-- name = [.. for ..] -/
theorem ks_setLc {items : Env → R (List D)} {u0 uc' ue : List Nat} {js : List Nat} {t : TgS} {cond : Env → R Bool} {elt : Env → R D} {i : Nat} {y : Str} {py : Pos} {el tg iter : Expr} {ifs : List Expr} {scope : Scope} {own : List (Str × Nat)} {pos spos : Pos} (hfx : ∀ k ∈ fx, k ∉ [i]) (hc : X.calm = true) (hN : X.N.Nodup) (hy : X.N[i]? = some y) (hyl : X.env.scope.names.lookup y = some .local)
    (hsw : swapsWith (.ListComp el [⟨tg, iter, ifs, 0⟩] scope pos) (some (.Name y py)) spos.line X.env = pure true) (hi : KI X W tg iter items u0) (ok : BlkOk X.N X.env.scope scope own) (hj : ∀ j ∈ js, j ∈ own.map (·.2))
    (hg : ∀ (s : Shared) (H : Hp) (C : Addr) (cl : List (Str × Addr)) (fp : List Addr), KG (X.blk s H scope (compEnvC scope cl C X.env) fp) tg t js)
    (ht : ∀ (s : Shared) (H : Hp) (C : Addr) (cl : List (Str × Addr)) (fp : List Addr), KTs (X.blk s H scope (compEnvC scope cl C X.env) fp) W0 ifs cond uc')
    (he : ∀ (s : Shared) (H : Hp) (C : Addr) (cl : List (Str × Addr)) (fp : List Addr), KE (X.blk s H scope (compEnvC scope cl C X.env) fp) W0 el elt ue) (hs : ∀ x, foldedSetIterable iter X.env x = pure x := by intro _; rfl) :
    KS X W fx (.Assign [.Name y py] (.ListComp el [⟨tg, iter, ifs, 0⟩] scope pos) spos) (asgS (tgN i) (sLc items u0 (own.map (·.2)) t cond elt) (u0 ++ ue)) :=
  ps_imp (ps_setLc (g := vG (wd X) t js) (tt := vT (wd X) W0 cond uc') (te := vE (wd X) W0 elt ue) hc hN hy hyl hsw hi ok hg ht he hs) fun D σ H q => by
    have q := asg_of (js := [i]) hfx q
    have q := vE_mono q fun v H' q => gname_vG q
    exact lc_of hj q
/-- name op= e, on ints, texts, lists made new -/
def augS (i : Nat) (s : Env → R D) (f : Int → Int → Int) : Env → S := fun env => match env[i]? with
  | some (some (.int x)) => (match s env with
    | .ok (.int y) => .nxt (env.set i (some (.int (f x y))))
    | _ => .stk)
  | _ => .stk
end
end Vs
set_option maxHeartbeats 2000000
/-! Vs8: loops, and what changes a list. -/
namespace Vs
open PySem L2

/-! ### for -/
def forGo (t : TgS) (body : Env → S) (keep : List Nat) : List D → Env → S
  | [], e => .nxt e
  | d :: ds, e => match t d e with
    | .ok e1 => (match body e1 with
      | .nxt e2 => forGo t body keep ds (mask keep e2)
      | .cnt e2 => forGo t body keep ds (mask keep e2)
      | .brk e2 => .nxt (mask keep e2)
      | r => r)
    | _ => .stk
def forS (items : Env → R (List D)) (us : List Nat) (t : TgS) (body : Env → S) (keep : List Nat) : Env → S := fun env => match items env with
  | .ok ds => forGo t body keep ds (mask keep (frzEnv us env))
  | .exc c fs => .exc c fs (frzEnv us env)
  | .stk => .stk
section
variable {X : Cx} {W : WX} {w : Wd} {fx : List Nat} {pr : Nat → V} {s : Env → S} {items : Env → R (List D)} {u js keep : List Nat} {tg : TgS}
theorem St1.mask {H0 : Hp} {Z0 : Addr → Prop} {σ : L2.St} {H : Hp} {env : Env} (h : St1 w fx pr H0 Z0 σ H env) : St1 w fx pr H0 Z0 σ H (Vs.mask keep env) :=
  let ⟨hp, Z, Fs, st⟩ := h
  ⟨hp, Z, Fs, st.ok.mask, st.ex, st.zb, st.fb⟩
theorem for_of (hj : ∀ i ∈ fx, i ∉ js) {D : Ends} {σ : L2.St} {H : Hp} (q : vS w W fx (forS items u tg s keep) D σ H) : tFor (vI w W items u) (vG w tg js) (vS w W fx s) D σ H := by
  obtain ⟨pr, H0, Z0, env, ⟨hpr, Z, Fs, st⟩, q⟩ := q
  have q : SPst w W fx pr H0 Z0 D (match items env with | .ok ds => forGo tg s keep ds (Vs.mask keep (frzEnv u env)) | .exc c fs => .exc c fs (frzEnv u env) | .stk => .stk) := q
  refine ⟨Z, env, Fs, st.ok, ?_⟩
  revert q
  cases items env with
  | exc c fs => exact fun q => st.exc q
  | stk => exact fun q => q
  | ok ds =>
    intro q J H1 e1 it
    obtain ⟨Z1, G, Y, wk, z1, kp, yl⟩ := it
    obtain ⟨Fs', E', s'⟩ := st.ok.frz (us := u)
    -- what is shared through the loop
    let Zl : Addr → Prop := fun a => Zu Z Fs u a ∨ Z1 a
    have zl : ∀ a, Zl a → Z0 a ∨ H0 a = none := fun a z => by
      have go : Zu Z Fs u a → Z0 a ∨ H0 a = none := fun z => by
        rcases z with z | ⟨i, _, m⟩
        · exact st.zb a z
        · exact .inr (st.fb i a m)
      rcases z with z | z
      · exact go z
      · exact (z1 a z).1.elim go fun z => .inr (st.ex.back z)
    have nF : ∀ i a, a ∈ Fs' i → ¬ Zl a := fun i a m z => by
      rcases z with z | z
      · exact E'.nz i a m z
      · rcases (z1 a z).1 with z | z
        · exact E'.nz i a m z
        · exact st.ok.fd i a (s' i a m) z
    have E1 : EnvOk w H1 Zl σ (frzEnv u env) Fs' := (E'.ex e1).upZ (fun a => .inl) (fun a z => z.elim (fun z => e1.some (Zu.dom st.ok a z)) fun z => (z1 a z).2) nF
    -- what stands through the loop: what stood at the entry, what is shared, tuples
    let H0' : Hp := fun a => if H0 a ≠ none then H0 a else (match H1 a with
      | some o => @ite (Option HO) (Zl a ∨ Tu o) (Classical.propDecidable _) (some o) none
      | none => none)
    have h0' : ∀ a o, H0' a = some o → H1 a = some o := fun a o h => by
      by_cases hn : H0 a ≠ none
      · have h : H0 a = some o := by have h' := h; simp only [H0', if_pos hn] at h'; exact h'
        exact e1 a o (st.ex a o h)
      · have h' := h
        simp only [H0', if_neg hn] at h'
        split at h'
        · rename_i o' ho'
          split at h'
          · cases h'; exact ho'
          · cases h'
        · cases h'
    have hlow : Ex H0 H0' := fun a o h => by
      have hn : H0 a ≠ none := by rw [h]; exact fun z => by cases z
      show H0' a = _
      simp only [H0', if_pos hn]
      exact h
    have hkeep : ∀ a o, H1 a = some o → (Zl a ∨ Tu o) → H0' a = some o := fun a o h c => by
      by_cases hn : H0 a ≠ none
      · simp only [H0', if_pos hn]
        cases hq : H0 a with
        | none => exact absurd hq hn
        | some o' =>
          have := e1 a o' (st.ex a o' hq)
          rw [h] at this
          exact this.symm
      · simp only [H0', if_neg hn, h]
        exact if_pos c
    have hnone : ∀ a, H0' a = none → H0 a = none := fun a h => hlow.back h
    let Z0' : Addr → Prop := fun a => Z0 a ∨ Zl a
    have toOut : ∀ {σ' H' e'}, St1 w fx pr H0' Z0' σ' H' e' → St1 w fx pr H0 Z0 σ' H' e' := fun {σ' H' e'} h => by
      obtain ⟨hp2, Z2, F2, k⟩ := h
      exact ⟨hp2, Z2, F2, k.ok, hlow.trans k.ex, fun a z => (k.zb a z).elim (fun z => z.elim .inl (zl a)) fun z => .inr (hnone a z), fun i a m => hnone a (k.fb i a m)⟩
    have resOut : ∀ {H' d v}, Res w H0' Z0' [] H' d v → Res w H0 Z0 [] H' d v := fun {H' d v} h => by
      obtain ⟨Z2, F2, r, nd, f2, z2⟩ := h
      exact ⟨Z2, F2, r, nd, fun a m => ⟨(f2 a m).1.imp (hnone a) id, (f2 a m).2⟩, fun a z => ⟨by
        rcases (z2 a z).1 with q | q | q
        · exact q.elim .inl fun q => (zl a q).imp id .inr
        · cases q
        · exact .inr (.inr (hnone a q)), (z2 a z).2⟩⟩
    have pstOut : ∀ r, SPst w W fx pr H0 Z0 D r → ∀ D' : Ends, D'.rt = D.rt → (∀ e', r = .nxt e' → ∀ σ' H', St1 w fx pr H0' Z0' σ' H' e' → D'.nx σ' H') → (∀ e', r = .cnt e' → ∀ σ' H', St1 w fx pr H0' Z0' σ' H' e' → D'.ct σ' H') → (∀ e', r = .brk e' → ∀ σ' H', St1 w fx pr H0' Z0' σ' H' e' → D'.bk σ' H') → SPst w W fx pr H0' Z0' D' r := fun r p D' hr h1 h2 h3 => by
      cases r with
      | nxt e' => exact h1 e' rfl
      | cnt e' => exact h2 e' rfl
      | brk e' => exact h3 e' rfl
      | ret d => exact fun v H' e2 r2 => by rw [hr]; exact p v H' (hlow.trans e2) (resOut r2)
      | exc c fs e' =>
        intro σ' H' C dd vs Z2 F2 m k nd hd rr nz nf
        exact p σ' H' C dd vs Z2 F2 m ⟨k.ok, hlow.trans k.ex, fun a z => (k.zb a z).elim (fun z => z.elim .inl (zl a)) fun z => .inr (hnone a z), fun i a m => hnone a (k.fb i a m)⟩ (hnone dd nd) hd rr nz nf
      | stk => exact p.elim
    have keepsOf : ∀ {H'}, Ex H0' H' → Keeps H1 Z1 H' := fun {H'} e2 a o h c => e2 a o (hkeep a o h (c.imp .inr id))
    refine for_it wk (fun i σ' H' => ∃ e', St1 w fx pr H0' Z0' σ' H' e' ∧ SPst w W fx pr H0 Z0 D (forGo tg s keep (ds.drop i) e')) ?_ ?_ ?_ ?_
    · refine ⟨Vs.mask keep (frzEnv u env), ⟨hpr, Zl, Fs', E1.mask, fun a o h => h0' a o h, fun a z => .inl (.inr z), fun i a m => ?_⟩, q⟩
      have hn0 : ¬ (H0 a ≠ none) := fun h => h (st.fb i a (s' i a m))
      show H0' a = none
      simp only [H0', if_neg hn0]
      split
      · rename_i o ho
        refine if_neg fun c => ?_
        rcases c with c | c
        · exact nF i a m c
        · -- an owned thing is no tuple
          have hne := st.ok.fd i a (s' i a m)
          cases hh : H a with
          | none => exact hne hh
          | some o' =>
            have := e1 a o' hh
            rw [ho] at this
            cases this
            exact st.ok.nt i a o (s' i a m) hh c
      · rfl
    · rintro i σ' H' _ ⟨e', ⟨_, Z2, F2, k⟩, _⟩
      exact kp H' (keepsOf k.ex)
    · rintro i x σ' H' H'' hi ⟨e', ⟨hp2, Z2, F2, k⟩, p⟩ y
      obtain ⟨e2, _, d, hd, rd⟩ := yl i H' x H'' hi (keepsOf k.ex) y
      have hdr : ds.drop i = d :: ds.drop (i + 1) := by
        have hlt := (List.getElem?_eq_some_iff.mp hd)
        rw [List.drop_eq_getElem_cons hlt.1, hlt.2]
      rw [hdr] at p
      have p : SPst w W fx pr H0 Z0 D (match tg d e' with
        | .ok e1 => (match s e1 with
          | .nxt e2 => forGo tg s keep (ds.drop (i + 1)) (Vs.mask keep e2)
          | .cnt e2 => forGo tg s keep (ds.drop (i + 1)) (Vs.mask keep e2)
          | .brk e2 => .nxt (Vs.mask keep e2)
          | r => r)
        | _ => .stk) := p
      split at p
      · rename_i en1 h1
        have E2 : EnvOk w H'' (fun a => Z2 a ∨ Z1 a) σ' e' F2 := (k.ok.ex e2).upZ (fun a => .inl) (fun a z => z.elim (fun z => e2.some (k.ok.zd a z)) fun z => ?_) fun j a m z => ?_
        · refine ⟨fun a => Z2 a ∨ Z1 a, e', en1, F2, d, [], E2, rd.up fun a => .inr, List.nodup_nil, fun a m => (by cases m), fun k a m => (by cases m), h1, fun σ2 Fs2 E3 s2 o2 => ?_⟩
          refine ⟨pr, H0', Z0', en1, ⟨o2.keep hj hp2, fun a => Z2 a ∨ Z1 a, Fs2, E3, k.ex.trans e2, fun a z => z.elim (k.zb a) fun z => .inl (.inr (.inr z)), fun j a m => k.fb j a ((s2 j a m).elim id fun m => (by cases m))⟩, ?_⟩
          revert p
          generalize s en1 = r
          intro p
          cases r with
          | nxt e3 => exact fun σ3 H3 st3 => ⟨_, st3.mask, p⟩
          | cnt e3 => exact fun σ3 H3 st3 => ⟨_, st3.mask, p⟩
          | brk e3 => exact fun σ3 H3 st3 => p σ3 H3 (toOut st3.mask)
          | ret d => exact pstOut _ p _ rfl (fun _ h => by cases h) (fun _ h => by cases h) (fun _ h => by cases h)
          | exc c fs e3 => exact pstOut _ p _ rfl (fun _ h => by cases h) (fun _ h => by cases h) (fun _ h => by cases h)
          | stk => exact p.elim
        · -- the shared things of the walk stand
          cases hz : H1 a with
          | none => exact absurd hz (z1 a z).2
          | some o =>
            have := e2 a o (k.ex a o (hkeep a o hz (.inl (.inr z))))
            rw [this]
            exact fun q => by cases q
        · rcases z with z | z
          · exact k.ok.nz j a m z
          · have hn := k.fb j a m
            cases hz : H1 a with
            | none => exact (z1 a z).2 hz
            | some o =>
              rw [hkeep a o hz (.inl (.inr z))] at hn
              cases hn
      · exact p.elim
    · rintro σ' H' ⟨e', k, p⟩
      rw [List.drop_length] at p
      exact p σ' H' (toOut k)
theorem ks_for {iter tgt : Expr} {body : List Stmt} {pos : Pos} (hj : ∀ i ∈ fx, i ∉ js) (hp : PassesOwn (model X.prog X.w) X.A X.env X.xe) (hc : X.calm = true) (hi : KI X W tgt iter items u) (hg : KG X tgt tg js) (hb : KSs X W fx body s)
    (keep : List Nat) (hs : ∀ x, foldedSetIterable iter X.env x = pure x := by intro _; rfl) : KS X W fx (.For tgt iter body [] pos) (forS items u tg s keep) := ps_imp (ps_for hp hc hi hg hb hs) fun D σ H q => for_of hj q
end
/-! ### while -/
def whileGo (c : Env → R Bool) (uc : List Nat) (body : Env → S) (keep : List Nat) : Nat → Env → S
  | 0, _ => .stk
  | n + 1, e => match c e with
    | .ok b => if b = true then (match body e with
      | .nxt e2 => whileGo c uc body keep n (mask keep e2)
      | .cnt e2 => whileGo c uc body keep n (mask keep e2)
      | .brk e2 => .nxt (mask keep e2)
      | r => r) else .nxt e
    | .exc c fs => .exc c fs (frzEnv uc e)
    | .stk => .stk
def whileS (fuel : Env → Nat) (c : Env → R Bool) (uc : List Nat) (body : Env → S) (keep : List Nat) : Env → S := fun env => whileGo c uc body keep (fuel env) (mask keep env)
section
variable {X : Cx} {W : WX} {w : Wd} {fx : List Nat} {pr : Nat → V} {s : Env → S} {sc : Env → R Bool} {u keep : List Nat}
theorem ks_while {c : Expr} {body : List Stmt} {pos : Pos} (hp : PassesOwn (model X.prog X.w) X.A X.env X.xe) (hc : KT X W c sc u) (hb : KSs X W fx body s) (fuel : Env → Nat) (keep : List Nat) : KS X W fx (.While c body [] pos) (whileS fuel sc u s keep) :=
  ps_imp (ps_while hp hc hb) fun D σ H q => by
    obtain ⟨pr, H0, Z0, env, st, q⟩ := q
    refine ⟨fun n σ' H' => ∃ e', St1 (wd X) fx pr H0 Z0 σ' H' e' ∧ SPst (wd X) W fx pr H0 Z0 D (whileGo sc u s keep n e'), ⟨fuel env, _, st.mask, q⟩, ?_⟩
    rintro n σ' H' ⟨e', ⟨hp2, Z, Fs, k⟩, p⟩
    cases n with
    | zero => exact p.elim
    | succ n =>
      have p : SPst (wd X) W fx pr H0 Z0 D (match sc e' with
        | .ok b => if b = true then (match s e' with
          | .nxt e2 => whileGo sc u s keep n (Vs.mask keep e2)
          | .cnt e2 => whileGo sc u s keep n (Vs.mask keep e2)
          | .brk e2 => .nxt (Vs.mask keep e2)
          | r => r) else .nxt e'
        | .exc c fs => .exc c fs (frzEnv u e')
        | .stk => .stk) := p
      refine ⟨Z, e', Fs, k.ok, ?_⟩
      revert p
      cases sc e' with
      | exc c fs => exact fun p => k.exc p
      | stk => exact fun p => p
      | ok b =>
        intro p H2 e2
        have st2 : St1 (wd X) fx pr H0 Z0 σ' H2 e' := ⟨hp2, Z, Fs, k.ok.ex e2, k.ex.trans e2, k.zb, k.fb⟩
        cases b with
        | false =>
          show D.nx σ' H2
          exact p σ' H2 st2
        | true =>
          rw [if_pos rfl]
          have p : SPst (wd X) W fx pr H0 Z0 D (match s e' with
            | .nxt e2 => whileGo sc u s keep n (Vs.mask keep e2)
            | .cnt e2 => whileGo sc u s keep n (Vs.mask keep e2)
            | .brk e2 => .nxt (Vs.mask keep e2)
            | r => r) := p
          refine ⟨fun σ3 H3 => ∃ e3, St1 (wd X) fx pr H0 Z0 σ3 H3 e3 ∧ SPst (wd X) W fx pr H0 Z0 D (whileGo sc u s keep n e3), fun σ3 H3 h => ⟨n, Nat.lt_succ_self n, h⟩, pr, H0, Z0, e', st2, ?_⟩
          revert p
          generalize s e' = r
          intro p
          cases r with
          | nxt e3 => exact fun σ3 H3 st3 => ⟨_, st3.mask, p⟩
          | cnt e3 => exact fun σ3 H3 st3 => ⟨_, st3.mask, p⟩
          | brk e3 => exact fun σ3 H3 st3 => p σ3 H3 st3.mask
          | ret d => exact p
          | exc c fs e3 => exact p
          | stk => exact p.elim
end
end Vs
set_option maxHeartbeats 2000000
/-! Vs9: what changes a list, a dict, an instance: places. -/
namespace Vs
open PySem L2

/-- the thing at a place within a datum: lists of one's own all the way -/
def getP : D → List Nat → Option D
  | d, [] => some d
  | .lst true xs, j :: js => (xs[j]?).bind fun d => getP d js
  | _, _ => none
def setP : D → List Nat → D → D
  | _, [], x => x
  | .lst true xs, j :: js, x => match xs[j]? with
    | some d => .lst true (xs.set j (setP d js x))
    | none => .lst true xs
  | d, _, _ => d
/-- from v by places to v' -/
def Nav (H : Hp) : V → List Nat → V → Prop
  | v, [], v' => v = v'
  | v, j :: js, v' => ∃ a vs x, v = .ref a ∧ H a = some (.lst vs) ∧ vs[j]? = some x ∧ Nav H x js v'
theorem Nav.ex {H H' : Hp} (e : Ex H H') : ∀ {js : List Nat} {v v' : V}, Nav H v js v' → Nav H' v js v'
  | [], _, _, h => h
  | j :: js, v, v', ⟨a, vs, x, h1, h2, h3, h4⟩ => ⟨a, vs, x, h1, e a _ h2, h3, Nav.ex e h4⟩
theorem Nav.inj {H : Hp} : ∀ {js : List Nat} {v v1 v2 : V}, Nav H v js v1 → Nav H v js v2 → v1 = v2
  | [], _, _, _, h, h' => h.symm.trans h'
  | j :: js, v, v1, v2, ⟨a, vs, x, h1, h2, h3, h4⟩, ⟨b, ws, y, k1, k2, k3, k4⟩ => by
    subst h1
    cases k1
    rw [h2] at k2
    cases k2
    rw [h3] at k3
    cases k3
    exact Nav.inj h4 k4
theorem Nav.snoc {H : Hp} {a : Addr} {vs : List V} {j : Nat} {x : V} (hs : H a = some (.lst vs)) (hx : vs[j]? = some x) : ∀ {js : List Nat} {v : V}, Nav H v js (.ref a) → Nav H v (js ++ [j]) x
  | [], v, h => ⟨a, vs, x, h, hs, hx, rfl⟩
  | i :: js, v, ⟨b, ws, y, h1, h2, h3, h4⟩ => ⟨b, ws, y, h1, h2, h3, Nav.snoc hs hx h4⟩
/-- the thing at a place: what it owns, and what comes of the whole where it changes -/
theorem Rep.path {w : Wd} {H : Hp} {Z : Addr → Prop} : ∀ {js : List Nat} {d d' : D} {v : V} {F : List Addr}, Rep w H Z d v F → F.Nodup → (∀ a ∈ F, ¬ Z a) → getP d js = some d' →
    ∃ v' F', Nav H v js v' ∧ Rep w H Z d' v' F' ∧ (∀ a ∈ F', a ∈ F) ∧ F'.Nodup ∧
      ∀ (H' : Hp) (d2 : D) (F2 : List Addr), (∀ a o, H a = some o → a ∉ F' → H' a = some o) → Rep w H' Z d2 v' F2 → F2.Nodup → (∀ a ∈ F2, a ∈ F' ∨ a ∉ F) → ∃ F3, Rep w H' Z (setP d js d2) v F3 ∧ F3.Nodup ∧ ∀ a ∈ F3, a ∈ F ∨ a ∈ F2
  | [], d, d', v, F, r, nd, nz, g => by
    cases g
    refine ⟨v, F, rfl, r, fun _ m => m, nd, fun H' d2 F2 k r2 n2 s2 => ⟨F2, ?_, n2, fun a m => .inr m⟩⟩
    have e : setP d [] d2 = d2 := by cases d <;> rfl
    rw [e]
    exact r2
  | j :: js, .lst true xs, d', v, F, ⟨a, vs, F0, e, hs, f, r⟩, nd, nz, g => by
    obtain rfl : F = a :: F0 := f
    have g : (xs[j]?).bind (fun d => getP d js) = some d' := g
    cases hx : xs[j]? with
    | none => rw [hx] at g; cases g
    | some d1 =>
      rw [hx] at g
      have g : getP d1 js = some d' := g
      obtain ⟨hlt, hxe⟩ := List.getElem?_eq_some_iff.mp hx
      have hsplit : xs = xs.take j ++ d1 :: xs.drop (j + 1) := by
        rw [← hxe, ← List.drop_eq_getElem_cons hlt, List.take_append_drop]
      have r0 := r
      rw [hsplit] at r
      obtain ⟨vs1, vs2, Fp, Fq0, ev, ef, rp, rq⟩ := Reps.unappend r
      obtain ⟨v1, vs3, Fj, Fq, ev2, ef2, rj, rr⟩ := rq
      subst ev2 ef2 ef
      have hj1 : vs1.length = j := by rw [rp.length, List.length_take]; omega
      obtain ⟨na, nd0⟩ := List.nodup_cons.mp nd
      obtain ⟨ndp, ndq, djp⟩ := List.nodup_append.mp nd0
      obtain ⟨ndj, ndr, djr⟩ := List.nodup_append.mp ndq
      obtain ⟨v', F', n', r', s', nd', fin⟩ := Rep.path (js := js) rj ndj (fun b m => nz b (List.mem_cons_of_mem _ (List.mem_append_right _ (List.mem_append_left _ m)))) g
      refine ⟨v', F', ⟨a, vs, v1, e, hs, by rw [ev, ← hj1, List.getElem?_append_right (Nat.le_refl _), Nat.sub_self]; rfl, n'⟩, r', fun b m => List.mem_cons_of_mem _ (List.mem_append_right _ (List.mem_append_left _ (s' b m))), nd', fun H' d2 F2 k r2 n2 s2 => ?_⟩
      have s2' : ∀ b ∈ F2, b ∈ F' ∨ b ∉ Fj := fun b m => (s2 b m).imp id fun q m2 => q (List.mem_cons_of_mem _ (List.mem_append_right _ (List.mem_append_left _ m2)))
      obtain ⟨F3, r3, n3, s3⟩ := fin H' d2 F2 k r2 n2 s2'
      -- who is in F3 is no neighbour
      have out : ∀ b ∈ F3, b ∉ Fp ∧ b ∉ Fq ∧ b ≠ a := fun b m => by
        rcases s3 b m with m | m
        · refine ⟨fun m2 => djp b m2 b (List.mem_append_left _ m) rfl, fun m2 => djr b m b m2 rfl, fun q => na (q ▸ List.mem_append_right _ (List.mem_append_left _ m))⟩
        · rcases s2 b m with m | m
          · have m := s' b m
            refine ⟨fun m2 => djp b m2 b (List.mem_append_left _ m) rfl, fun m2 => djr b m b m2 rfl, fun q => na (q ▸ List.mem_append_right _ (List.mem_append_left _ m))⟩
          · refine ⟨fun m2 => m (List.mem_cons_of_mem _ (List.mem_append_left _ m2)), fun m2 => m (List.mem_cons_of_mem _ (List.mem_append_right _ (List.mem_append_right _ m2))), fun q => m (q ▸ List.mem_cons_self ..)⟩
      have stay : ∀ {G : List Addr}, (∀ b ∈ G, b ∉ F') → ∀ b o, H b = some o → (Z b ∨ b ∈ G ∨ Tu o) → H' b = some o := fun {G} hG b o h c => k b o h (by
        rcases c with c | c | c
        · exact fun m => nz b (List.mem_cons_of_mem _ (List.mem_append_right _ (List.mem_append_left _ (s' b m)))) c
        · exact hG b c
        · intro m
          obtain ⟨o', h', t⟩ := r'.own b m
          rw [h] at h'
          cases h'
          exact t c)
      have rp' := rp.stay (fun _ z => z) (stay fun b m m2 => djp b m b (List.mem_append_left _ (s' b m2)) rfl)
      have rr' := rr.stay (fun _ z => z) (stay fun b m m2 => djr b (s' b m2) b m rfl)
      have ha' : H' a = some (.lst vs) := k a _ hs fun m => na (List.mem_append_right _ (List.mem_append_left _ (s' a m)))
      refine ⟨a :: (Fp ++ (F3 ++ Fq)), ?_, ?_, ?_⟩
      · have es : setP (.lst true xs) (j :: js) d2 = .lst true (xs.set j (setP d1 js d2)) := by
          show (match xs[j]? with | some d => D.lst true (xs.set j (setP d js d2)) | none => .lst true xs) = _
          rw [hx]
        rw [es]
        have es2 : xs.set j (setP d1 js d2) = xs.take j ++ setP d1 js d2 :: xs.drop (j + 1) := List.set_eq_take_append_cons_drop ▸ (if_pos hlt)
        rw [es2]
        refine ⟨a, vs, Fp ++ (F3 ++ Fq), e, ha', rfl, ?_⟩
        rw [ev]
        exact rp'.append ⟨v1, vs3, F3, Fq, rfl, rfl, r3, rr'⟩
      · refine List.nodup_cons.mpr ⟨fun m => ?_, List.nodup_append.mpr ⟨ndp, List.nodup_append.mpr ⟨n3, ndr, fun b m c m2 q => (out b m).2.1 (q ▸ m2)⟩, fun b m c m2 q => ?_⟩⟩
        · rcases List.mem_append.mp m with m | m
          · exact na (List.mem_append_left _ m)
          · rcases List.mem_append.mp m with m | m
            · exact (out a m).2.2 rfl
            · exact na (List.mem_append_right _ (List.mem_append_right _ m))
        · subst q
          rcases List.mem_append.mp m2 with m2 | m2
          · exact (out b m2).1 m
          · exact djp b m b (List.mem_append_right _ m2) rfl
      · intro b m
        rcases List.mem_cons.mp m with rfl | m
        · exact .inl (List.mem_cons_self ..)
        · rcases List.mem_append.mp m with m | m
          · exact .inl (List.mem_cons_of_mem _ (List.mem_append_left _ m))
          · rcases List.mem_append.mp m with m | m
            · exact (s3 b m).imp (fun m => List.mem_cons_of_mem _ (List.mem_append_right _ (List.mem_append_left _ m))) id
            · exact .inl (List.mem_cons_of_mem _ (List.mem_append_right _ (List.mem_append_right _ m)))
  | j :: js, .lst false xs, _, _, _, _, _, _, g => by cases g
  | j :: js, .non, _, _, _, _, _, _, g => by cases g
  | j :: js, .bl _, _, _, _, _, _, _, g => by cases g
  | j :: js, .int _, _, _, _, _, _, _, g => by cases g
  | j :: js, .str _, _, _, _, _, _, _, g => by cases g
  | j :: js, .tup _, _, _, _, _, _, _, g => by cases g
  | j :: js, .dic _ _ _, _, _, _, _, _, _, g => by cases g
  | j :: js, .dit _ _ _, _, _, _, _, _, _, g => by cases g
  | j :: js, .obj _ _ _ _, _, _, _, _, _, _, g => by cases g
  | j :: js, .scr _, _, _, _, _, _, _, g => by cases g
  | j :: js, .ty _, _, _, _, _, _, _, g => by cases g
  | j :: js, .cls _, _, _, _, _, _, _, g => by cases g
end Vs
set_option maxHeartbeats 2000000
/-! Vs10: statements that change a list, an instance. -/
namespace Vs
open PySem L2

abbrev PlS := Env → R (Nat × List Nat)
def placeAt (env : Env) (p : Nat × List Nat) : Option D := match env[p.1]? with
  | some (some d) => getP d p.2
  | _ => none
def putAt (env : Env) (p : Nat × List Nat) (x : D) : Env := match env[p.1]? with
  | some (some d) => env.set p.1 (some (setP d p.2 x))
  | _ => env
def plN (i : Nat) : PlS := fun env => match env[i]? with
  | some (some _) => .ok (i, [])
  | _ => .stk
def plIx (p : PlS) (sb : Env → R D) : PlS := fun env => p env >>= fun ij => match placeAt env ij with
  | some (.lst true xs) => nx (sb env) >>= fun k => (match k with
    | .int k => (match ixN xs.length k with
      | some j => .ok (ij.1, ij.2 ++ [j])
      | none => .stk)
    | _ => .stk)
  | _ => .stk
def vP (w : Wd) (p : PlS) : TE := fun σ H Q =>
  ∃ (Z : Addr → Prop) (env : Env) (Fs : Nat → List Addr), EnvOk w H Z σ env Fs ∧ ∃ ij, p env = .ok ij ∧ ∀ v H2, Ex H H2 → (∃ v0, σ[ij.1]? = some (some v0) ∧ Nav H2 v0 ij.2 v) → Q v H2
def KP (X : Cx) (e : Expr) (p : PlS) : Prop := PE X e (vP (wd X) p)
section
variable {w : Wd} {H : Hp} {Z : Addr → Prop} {σ : L2.St} {env : Env} {Fs : Nat → List Addr}
theorem EnvOk.path (E : EnvOk w H Z σ env Fs) {ij : Nat × List Nat} {d' : D} (h : placeAt env ij = some d') :
    ∃ d v0 v' F', env[ij.1]? = some (some d) ∧ σ[ij.1]? = some (some v0) ∧ Nav H v0 ij.2 v' ∧ Rep w H Z d' v' F' ∧ (∀ a ∈ F', a ∈ Fs ij.1) ∧ F'.Nodup ∧
      ∀ (H' : Hp) (d2 : D) (F2 : List Addr), (∀ a o, H a = some o → a ∉ F' → H' a = some o) → Rep w H' Z d2 v' F2 → F2.Nodup → (∀ a ∈ F2, a ∈ F' ∨ a ∉ Fs ij.1) → ∃ F3, Rep w H' Z (setP d ij.2 d2) v0 F3 ∧ F3.Nodup ∧ ∀ a ∈ F3, a ∈ Fs ij.1 ∨ a ∈ F2 := by
  unfold placeAt at h
  split at h
  · rename_i d hd
    obtain ⟨v0, hv, r⟩ := E.rep _ d hd
    obtain ⟨v', F', a1, a2, a3, a4, a5⟩ := r.path (E.nd _) (E.nz _) h
    exact ⟨d, v0, v', F', hd, hv, a1, a2, a3, a4, a5⟩
  · cases h
theorem EnvOk.drop {i : Nat} (E : EnvOk w H Z σ env Fs) : EnvOk w H Z σ (env.set i none) (fun k => if k = i then [] else Fs k) := by
  refine ⟨fun k d e => ?_, by rw [List.length_set]; exact E.len, E.zd, fun k a m => ?_, fun k a m => ?_, fun k => ?_, fun k l a m n => ?_, fun k a o m q => ?_⟩
  · by_cases hk : k = i
    · subst hk
      by_cases hl : k < env.length
      · rw [List.getElem?_set_self hl] at e; cases e
      · rw [List.getElem?_eq_none (by rw [List.length_set]; omega)] at e; cases e
    · show ∃ v, σ[k]? = some (some v) ∧ Rep w H Z d v (if k = i then [] else Fs k)
      rw [if_neg hk]
      rw [List.getElem?_set_ne (Ne.symm hk)] at e
      exact E.rep k d e
  · by_cases hk : k = i
    · rw [if_pos hk] at m; cases m
    · rw [if_neg hk] at m; exact E.fd k a m
  · by_cases hk : k = i
    · rw [if_pos hk] at m; cases m
    · rw [if_neg hk] at m; exact E.nz k a m
  · show (if k = i then [] else Fs k).Nodup
    split
    · exact List.nodup_nil
    · exact E.nd k
  · by_cases hk : k = i
    · rw [if_pos hk] at m; cases m
    · by_cases hl : l = i
      · rw [if_pos hl] at n; cases n
      · rw [if_neg hk] at m
        rw [if_neg hl] at n
        exact E.dj k l a m n
  · by_cases hk : k = i
    · rw [if_pos hk] at m; cases m
    · rw [if_neg hk] at m; exact E.nt k a o m q
theorem EnvOk.stay {H' : Hp} (E : EnvOk w H Z σ env Fs) (k : ∀ a o, H a = some o → (Z a ∨ (∃ i, a ∈ Fs i) ∨ Tu o) → H' a = some o) : EnvOk w H' Z σ env Fs := by
  have dm : ∀ a, (Z a ∨ ∃ i, a ∈ Fs i) → H a ≠ none → H' a ≠ none := fun a c h => by
    cases hh : H a with
    | none => exact absurd hh h
    | some o =>
      rw [k a o hh (c.imp id .inl)]
      exact fun z => by cases z
  refine ⟨fun i d e => ?_, E.len, fun a z => dm a (.inl z) (E.zd a z), fun i a m => dm a (.inr ⟨i, m⟩) (E.fd i a m), E.nz, E.nd, E.dj, fun i a o m q => ?_⟩
  · obtain ⟨v, hv, r⟩ := E.rep i d e
    exact ⟨v, hv, r.stay (fun _ z => z) fun a o h c => k a o h (c.imp id (Or.imp (fun m => ⟨i, m⟩) id))⟩
  · cases hh : H a with
    | none => exact absurd hh (E.fd i a m)
    | some o' =>
      rw [k a o' hh (.inr (.inl ⟨i, m⟩))] at q
      cases q
      exact E.nt i a _ m hh
end
section
variable {X : Cx} {W : WX} {w : Wd} {fx : List Nat} {pr : Nat → V} {e a b : Expr} {es : List Expr} {pos : Pos} {p : PlS} {se sb : Env → R D} {ss : Env → R (List D)} {u ub : List Nat}
theorem kp_name {i : Nat} (h : PE X e (tVar i)) : KP X e (plN i) := pe_imp h fun σ H Q q => by
  obtain ⟨Z, env, Fs, E, ij, hij, q⟩ := q
  unfold plN at hij
  split at hij
  · rename_i d hd
    cases hij
    obtain ⟨v, hv, r⟩ := E.rep i d hd
    exact ⟨v, hv, q v H (Ex.refl H) ⟨v, hv, rfl⟩⟩
  · cases hij
theorem kp_ix (ha : KP X a p) (hb : KE X W0 b sb ub) (hs : PlainIx b) : KP X (.Subscript a b pos) (plIx p sb) := pe_imp (pe_ix ix_list ha hb hs) fun σ H Q q => by
  obtain ⟨Z, env, Fs, E, ij, hij, q⟩ := q
  unfold plIx at hij
  obtain ⟨ij0, h0, hij⟩ := bind_ok_inv hij
  split at hij
  · rename_i xs hp
    obtain ⟨k, hk, hij⟩ := bind_ok_inv hij
    have hk := nx_ok hk
    split at hij
    · rename_i k _
      split at hij
      · rename_i j hj
        cases hij
        obtain ⟨d, v0, v', F', hd, hv, hn, hr, hF, hnd, _⟩ := E.path hp
        refine ⟨Z, env, Fs, E, ij0, h0, fun v H1 e1 hv1 => ⟨Z, env, Fs, E.ex e1, ?_⟩⟩
        rw [hk]
        intro kv H2 e2 r2
        obtain ⟨Z2, F2, ⟨rfl, _⟩, _⟩ := r2
        obtain ⟨v0', hv0, hn1⟩ := hv1
        rw [hv] at hv0
        cases hv0
        have hvv := Nav.inj (hn.ex e1) hn1
        obtain ⟨ad, vs, F3, e3, hs3, _, rr⟩ := hr
        subst e3
        subst hvv
        have hl := rr.length
        have hj' : j < vs.length := by
          have := (ixN_seq hj).2.1
          omega
        refine ⟨ad, vs, k, vs[j], rfl, rfl, SqL.of (e2 _ _ (e1 _ _ hs3)), ?_, q _ H2 (e1.trans e2) ⟨v0, hv, ?_⟩⟩
        · unfold atI
          rw [hl, hj]
          exact List.getElem?_eq_getElem hj'
        · exact Nav.snoc (e2 _ _ (e1 _ _ hs3)) (List.getElem?_eq_getElem hj') (hn1.ex e2)
      · cases hij
    · cases hij
  · cases hij
/-! ### an operation that changes the thing at a place -/
def OpM (w : Wd) (rd : V → List V → Hp → (Hp → Prop) → Prop) (f : D → List D → R D) : Prop := ∀ (H : Hp) (Z : Addr → Prop) (d1 : D) (ds : List D) (d2 : D) (v : V) (ys : List V) (F' Fy : List Addr) (Q : Hp → Prop), Rep w H Z d1 v F' → Reps w H Z ds ys Fy → (F' ++ Fy).Nodup →
  (∀ a ∈ F' ++ Fy, ¬ Z a) → (∀ a, Z a → H a ≠ none) → f d1 ds = .ok d2 → (∀ H' F2, (∀ a o, H a = some o → a ∉ F' → H' a = some o) → Rep w H' Z d2 v F2 → F2.Nodup → (∀ a ∈ F2, a ∈ F' ∨ a ∈ Fy) → Q H') → rd v ys H Q
def mutE (p : PlS) (ds : List D) (us : List Nat) (f : D → List D → R D) (env : Env) : S :=
  match p env with
  | .ok ij => (match placeAt (if hasFzs ds = true then frzEnv us env else env) ij with
    | some d1 => (match f d1 ds with
      | .ok d2 => .nxt (putAt (if hasFzs ds = true then frzEnv us env else env) ij d2)
      | _ => .stk)
    | none => .stk)
  | _ => .stk
def mutS (p : PlS) (ss : Env → R (List D)) (us : List Nat) (f : D → List D → R D) : Env → S := fun env => match ss env with
  | .ok ds => mutE p ds us f env
  | .exc c fs => .exc c fs (frzEnv us env)
  | .stk => .stk
/-- the slots behind expressions whose values are to be kept -/
theorem StOk.keepL {H0 H H2 : Hp} {Z0 Z : Addr → Prop} {σ : L2.St} {env : Env} {Fs : Nat → List Addr} {d : List D} {v : List V} (S : StOk w H0 Z0 Z σ H env Fs) (e : Ex H H2) (r : ResL w H (Zu Z Fs u) [] H2 d v) :
    ∃ Z' Fs' F, StOk w H0 Z0 Z' σ H2 (if hasFzs d = true then frzEnv u env else env) Fs' ∧ Reps w H2 Z' d v F ∧ F.Nodup ∧ (∀ a ∈ F, ¬ Z' a) ∧ (∀ k a, a ∈ F → a ∉ Fs' k) ∧ (∀ a ∈ F, H0 a = none) := by
  obtain ⟨Z2, F, rr, nd, f2, z2⟩ := r
  have f3 : ∀ a ∈ F, H a = none := fun a m => (f2 a m).1.elim id fun m => (by cases m)
  have z3 : ∀ a, Z2 a → Zu Z Fs u a ∨ H a = none := fun a z => (z2 a z).1.imp id fun q => q.elim (fun m => (by cases m)) id
  by_cases hf : hasFzs d = true
  · rw [if_pos hf]
    obtain ⟨Fs', E', s'⟩ := S.ok.frz (us := u)
    refine ⟨fun a => Zu Z Fs u a ∨ Z2 a, Fs', F, ⟨(E'.ex e).upZ (fun a => .inl) (fun a z => z.elim (fun z => e.some (Zu.dom S.ok a z)) fun z => (z2 a z).2) (fun i a m z => ?_), S.ex.trans e, fun a z => ?_, fun i a m => S.fb i a (s' i a m)⟩, rr.up fun a => .inr, nd, fun a m z => ?_, fun k a m m2 => ?_, fun a m => S.ex.back (f3 a m)⟩
    · rcases z with z | z
      · exact E'.nz i a m z
      · rcases z3 a z with z | z
        · exact E'.nz i a m z
        · exact S.ok.fd i a (s' i a m) z
    · have go : Zu Z Fs u a → Z0 a ∨ H0 a = none := fun z => by
        rcases z with z | ⟨i, _, m⟩
        · exact S.zb a z
        · exact .inr (S.fb i a m)
      rcases z with z | z
      · exact go z
      · exact (z3 a z).elim go fun z => .inr (S.ex.back z)
    · rcases z with z | z
      · exact Zu.dom S.ok a z (f3 a m)
      · exact (f2 a m).2 z
    · exact S.ok.fd k a (s' k a m2) (f3 a m)
  · have hf' : hasFzs d = false := by simpa using hf
    rw [if_neg hf]
    exact ⟨Z, Fs, F, ⟨S.ok.ex e, S.ex.trans e, S.zb, S.fb⟩, rr.any hf', nd, fun a m z => S.ok.zd a z (f3 a m), fun k a m m2 => S.ok.fd k a m2 (f3 a m), fun a m => S.ex.back (f3 a m)⟩
theorem mut_core {rd : V → List V → Hp → (Hp → Prop) → Prop} {f : D → List D → R D} (hm : OpM w rd f) {H0 H H2 : Hp} {Z0 Z : Addr → Prop} {σ : L2.St} {env : Env} {Fs : Nat → List Addr} {D : Ends} {ds : List Vs.D} {ys : List V} {ij : Nat × List Nat} {v v0 : V}
    (hpr : ∀ i ∈ fx, σ[i]? = some (some (pr i))) (S : StOk w H0 Z0 Z σ H env Fs) (hp : p env = .ok ij) (q : SPst w W fx pr H0 Z0 D (mutE p ds u f env)) (e : Ex H H2) (r : ResL w H (Zu Z Fs u) [] H2 ds ys) (hv : σ[ij.1]? = some (some v0)) (hn : Nav H2 v0 ij.2 v) : rd v ys H2 fun H3 => D.nx σ H3 := by
  unfold mutE at q
  rw [hp] at q
  simp only [] at q
  split at q
  · rename_i d1 hd1
    split at q
    · rename_i d2 hd2
      obtain ⟨Z', Fs', Fy, S', ry, ndy, nzy, djy, fy0⟩ := S.keepL e r
      obtain ⟨d, v0', v', F', hd, hv', hn', hr, hF, hnd, fin⟩ := S'.ok.path hd1
      rw [hv] at hv'
      cases hv'
      have hvv := Nav.inj hn hn'
      subst hvv
      have dF : ∀ a ∈ F', a ∉ Fy := fun a m m2 => djy _ a m2 (hF a m)
      refine hm H2 Z' d1 ds d2 v ys F' Fy _ hr ry (List.nodup_append.mpr ⟨hnd, ndy, fun a m b m2 q => dF a m (q ▸ m2)⟩) (fun a m => ?_) S'.ok.zd hd2 fun H' F2 k r2 n2 s2 => ?_
      · rcases List.mem_append.mp m with m | m
        · exact S'.ok.nz _ a (hF a m)
        · exact nzy a m
      · obtain ⟨F3, r3, n3, s3⟩ := fin H' d2 F2 k r2 n2 fun a m => (s2 a m).imp id fun m => djy _ a m
        refine q σ H' ?_
        have E1 := (S'.ok.drop (i := ij.1)).stay (H' := H') fun a o h c => k a o h fun m => by
          rcases c with c | ⟨i, c⟩ | c
          · exact S'.ok.nz _ a (hF a m) c
          · by_cases hi : i = ij.1
            · rw [if_pos hi] at c; cases c
            · rw [if_neg hi] at c
              exact hi (S'.ok.dj i ij.1 a c (hF a m))
          · exact S'.ok.nt _ a o (hF a m) h c
        have s3' : ∀ a ∈ F3, a ∈ Fs' ij.1 ∨ a ∈ Fy := fun a m => (s3 a m).elim .inl fun m => (s2 a m).imp (hF a) id
        have E2 := E1.set (i := ij.1) r3 n3 (fun a m z => (s3' a m).elim (fun m => S'.ok.nz _ a m z) fun m => nzy a m z) fun k a m hk m2 => by
          rw [if_neg hk] at m2
          rcases s3' a m with m | m
          · exact hk (S'.ok.dj k ij.1 a m2 m)
          · exact djy k a m m2
        have es : σ.set ij.1 (some v0) = σ := by
          obtain ⟨hl, hg⟩ := List.getElem?_eq_some_iff.mp hv
          rw [← hg]
          exact List.set_getElem_self hl
        rw [es, List.set_set] at E2
        have ep : putAt (if hasFzs ds = true then frzEnv u env else env) ij d2 = (if hasFzs ds = true then frzEnv u env else env).set ij.1 (some (setP d ij.2 d2)) := by
          unfold putAt
          rw [hd]
        rw [ep]
        refine ⟨hpr, Z', _, E2, fun a o h => k a o (S'.ex a o h) fun m => ?_, S'.zb, fun i a m => ?_⟩
        · have := S'.fb _ a (hF a m)
          rw [h] at this
          cases this
        · by_cases hi : i = ij.1
          · rw [if_pos hi] at m
            exact (s3' a m).elim (S'.fb _ a) (fy0 a)
          · rw [if_neg hi] at m
            have m : a ∈ (if i = ij.1 then [] else Fs' i) := m
            rw [if_neg hi] at m
            exact S'.fb i a m
    · exact q.elim
  · exact q.elim
/-! ### o.append(e), o.insert(i, e), o.extend(e), o[i] = e -/
/-- the place, then the arguments -/
def mutS1 (p : PlS) (ss : Env → R (List D)) (us : List Nat) (f : D → List D → R D) : Env → S := fun env => match p env with
  | .ok ij => (match placeAt env ij with
    | some (.lst true _) => mutS p ss us f env
    | _ => .stk)
  | _ => .stk
theorem mutS1_of {rd : V → List V → Hp → (Hp → Prop) → Prop} {f : D → List D → R D} (hm : OpM w rd f) {D : Ends} {σ : L2.St} {H : Hp} (q : vS w W fx (mutS1 p ss u f) D σ H) :
    vP w p σ H fun v H1 => tyV w.K "list" v H1 ∧ vA w W ss u σ H1 fun ys H2 => rd v ys H2 fun H3 => D.nx σ H3 := by
  obtain ⟨pr, H0, Z0, env, ⟨hpr, Z, Fs, st⟩, q⟩ := q
  unfold mutS1 at q
  split at q
  · rename_i ij hij
    split at q
    · rename_i xs hp
      refine ⟨Z, env, Fs, st.ok, ij, hij, fun v H1 e1 hv => ?_⟩
      obtain ⟨v0, hv, hn⟩ := hv
      obtain ⟨d, v0', v', F', hd, hv', hn', hr, _⟩ := st.ok.path hp
      rw [hv] at hv'
      cases hv'
      have hvv := Nav.inj hn (hn'.ex e1)
      subst hvv
      refine ⟨tyV_of (hr.ex e1) rfl, Z, env, Fs, st.ok.ex e1, ?_⟩
      have q : SPst w W fx pr H0 Z0 D (match ss env with | .ok ds => mutE p ds u f env | .exc c fs => .exc c fs (frzEnv u env) | .stk => .stk) := q
      have st1 : StOk w H0 Z0 Z σ H1 env Fs := ⟨st.ok.ex e1, st.ex.trans e1, st.zb, st.fb⟩
      revert q
      cases ss env with
      | ok ds => exact fun q ys H2 e2 r2 => mut_core hm hpr st1 hij q e2 r2 hv (hn.ex e2)
      | exc c fs => exact fun q => st1.exc q
      | stk => exact fun q => q
    · exact q.elim
  · exact q.elim
theorem ks_bm {id : String} {name : Str} {apos cpos : Pos} {r : V → List V → Hp → VK → Prop} {rd : V → List V → Hp → (Hp → Prop) → Prop} {f : D → List D → R D} (slot : Slot "list" name id) (hty : typeOf (.builtin id) = pure (.type "method_descriptor")) (hmt : MtR X id r) (hm : OpM (wd X) rd f)
    (hrd : ∀ v ys H (Q : Hp → Prop), rd v ys H Q → r v ys H fun _ H' => Q H') (ho : KP X a p) (ha : KA X W (e :: es) ss u)
    (hbase : attributeBase a name X.env (eval a X.env) = eval a X.env := by rfl)
    (hfew : ((backTo cpos (starEach (e :: es) X.env)).all (fun x => !x.1) && (backToKw cpos (keywordEach [] X.env)).all (fun x => x.1.isSome)
      && decide ((e :: es).length + ([] : List Keyword).length + (if ([] : List Keyword).isEmpty then 0 else 1) < 30)) = true := by rfl)
    (hline : (apos.endLine == cpos.line) = true := by rfl) (hst : starEach (e :: es) X.env = (false, eval e X.env) :: starEach es X.env := by rfl) (hplain : (backTo cpos (starEach es X.env)).any (·.1) = false := by rfl)
    (hs : swapsWith (.Call (.Attribute a name apos) (e :: es) [] cpos) none pos.line X.env = pure false := by rfl) :
    KS X W fx (.Expr (.Call (.Attribute a name apos) (e :: es) [] cpos) pos) (mutS1 p ss u f) :=
  ps_imp (ps_expr (pe_bm PySem.F.plainAttrs_list slot hty hmt ho ha hbase hfew hline hst hplain) hs) fun D σ H q => by
    obtain ⟨Z, env, Fs, E, ij, hij, k⟩ := mutS1_of hm q
    exact ⟨Z, env, Fs, E, ij, hij, fun v H1 e1 hv => by
      obtain ⟨h1, h2⟩ := k v H1 e1 hv
      exact ⟨h1, vA_mono h2 fun ys H2 h => hrd v ys H2 _ h⟩⟩
def mAppend : D → List D → R D
  | .lst true xs, [d] => if xs.length < SZ then .ok (.lst true (xs ++ [d])) else .stk
  | _, _ => .stk
theorem rep_upd {H : Hp} {Z : Addr → Prop} {a : Addr} {o : HO} {vs : List V} {ds : List D} {F : List Addr} (ha : H a = some (.lst vs)) (nz : ¬ Z a) (nf : a ∉ F) (r : Reps w H Z ds vs F) : Reps w (upd H a o) Z ds vs F :=
  r.stay (fun _ z => z) fun b ob h c => by
    rw [upd_ne]
    · exact h
    · intro q
      subst q
      rcases c with c | c | c
      · exact nz c
      · exact nf c
      · rw [ha] at h
        cases h
        exact c
theorem reps_upd {H : Hp} {Z : Addr → Prop} {a : Addr} {o : HO} {vs ws : List V} {ds : List D} {F : List Addr} (ha : H a = some (.lst vs)) (nz : ¬ Z a) (nf : a ∉ F) (r : Reps w H Z ds ws F) : Reps w (upd H a o) Z ds ws F :=
  r.stay (fun _ z => z) fun b ob h c => by
    rw [upd_ne]
    · exact h
    · intro q
      subst q
      rcases c with c | c | c
      · exact nz c
      · exact nf c
      · rw [ha] at h
        cases h
        exact c
def rdApp : V → List V → Hp → (Hp → Prop) → Prop := fun x vs H Q => ∃ l xs y, x = .ref l ∧ vs = [y] ∧ H l = some (.lst xs) ∧ xs.length < sizeLine ∧ Q (upd H l (.lst (xs ++ [y])))
theorem opm_append : OpM w rdApp mAppend := fun H Z d1 ds d2 v ys F' Fy Q r ry nd nz zd e k => by
  unfold mAppend at e
  split at e
  · split at e
    · rename_i xs d hsz
      cases e
      obtain ⟨a, vs, F0, rfl, hs, f, rr⟩ := r
      obtain rfl : F' = a :: F0 := f
      obtain ⟨y, rfl, r1⟩ := ry.one
      obtain ⟨n1, n2, n3⟩ := List.nodup_append.mp nd
      obtain ⟨n4, n5⟩ := List.nodup_cons.mp n1
      have na : ¬ Z a := nz a (List.mem_cons_self ..)
      have ny : a ∉ Fy := fun m => n3 a (List.mem_cons_self ..) a m rfl
      refine ⟨a, vs, y, rfl, rfl, hs, by rw [rr.length]; exact Nat.lt_of_lt_of_le hsz (by decide), k _ (a :: (F0 ++ Fy)) (fun b o h m => ?_) ?_ ?_ ?_⟩
      · rw [upd_ne (fun q => m (by rw [q]; exact List.mem_cons_self ..))]
        exact h
      · refine ⟨a, vs ++ [y], F0 ++ Fy, rfl, upd_same, rfl, (reps_upd hs na n4 rr).append (reps_upd hs na ny ?_)⟩
        exact ⟨y, [], Fy, [], rfl, (List.append_nil _).symm, r1, rfl, rfl⟩
      · refine List.nodup_cons.mpr ⟨fun m => (List.mem_append.mp m).elim n4 ny, List.nodup_append.mpr ⟨n5, n2, fun b m c m2 q => n3 b (List.mem_cons_of_mem _ m) c m2 q⟩⟩
      · intro b m
        rcases List.mem_cons.mp m with rfl | m
        · exact .inl (List.mem_cons_self ..)
        · exact (List.mem_append.mp m).imp (List.mem_cons_of_mem _) id
    · cases e
  · cases e
theorem ks_append {apos cpos : Pos} (ho : KP X a p) (ha : KA X W [e] ss u)
    (hbase : attributeBase a "append" X.env (eval a X.env) = eval a X.env := by rfl)
    (hfew : ((backTo cpos (starEach [e] X.env)).all (fun x => !x.1) && (backToKw cpos (keywordEach [] X.env)).all (fun x => x.1.isSome)
      && decide ([e].length + ([] : List Keyword).length + (if ([] : List Keyword).isEmpty then 0 else 1) < 30)) = true := by rfl)
    (hline : (apos.endLine == cpos.line) = true := by rfl) (hst : starEach [e] X.env = (false, eval e X.env) :: starEach [] X.env := by rfl) (hplain : (backTo cpos (starEach [] X.env)).any (·.1) = false := by rfl)
    (hs : swapsWith (.Call (.Attribute a "append" apos) [e] [] cpos) none pos.line X.env = pure false := by rfl) :
    KS X W fx (.Expr (.Call (.Attribute a "append" apos) [e] [] cpos) pos) (mutS1 p ss u mAppend) :=
  ks_bm PySem.F.slot_list_append PySem.F.type_list_append (show MtR X "list.append" rAppend from mt_append) opm_append (fun v ys H Q ⟨l, xs, y, h1, h2, h3, h4, h5⟩ => ⟨l, xs, y, h1, h2, h3, h4, h5⟩) ho ha hbase hfew hline hst hplain hs
/-- o[i] = e -/
def mSet : D → List D → R D
  | .lst true xs, [d, .int k] => (match ixN xs.length k with
    | some j => .ok (.lst true (xs.set j d))
    | none => .stk)
  | _, _ => .stk
def setS (p : PlS) (se sb : Env → R D) (us : List Nat) : Env → S := fun env => match se env with
  | .ok d => (match sb env with
    | .ok k => mutE p [d, k] us mSet env
    | _ => .stk)
  | .exc c fs => .exc c fs (frzEnv us env)
  | .stk => .stk
def rdSet : V → List V → Hp → (Hp → Prop) → Prop := fun o vs H Q => ∃ p xs k j v, o = .ref p ∧ vs = [v, .int k] ∧ H p = some (.lst xs) ∧ ixN xs.length k = some j ∧ Q (upd H p (.lst (xs.set j v)))
theorem opm_set : OpM w rdSet mSet := fun H Z d1 ds d2 v ys F' Fy Q r ry nd nz zd e k => by
  unfold mSet at e
  split at e
  · split at e
    · rename_i xs d i _ j hj
      cases e
      obtain ⟨a, vs, F0, rfl, hs, f, rr⟩ := r
      obtain rfl : F' = a :: F0 := f
      obtain ⟨y, r0, F1, F2, rfl, rfl, r1, y2, r02, F3, F4, e3, f3, ⟨rfl, rfl⟩, rfl, rfl⟩ := ry
      subst e3
      have f3 : F2 = [] := f3
      subst f3
      rw [List.append_nil] at *
      obtain ⟨n1, n2, n3⟩ := List.nodup_append.mp nd
      obtain ⟨n4, n5⟩ := List.nodup_cons.mp n1
      have na : ¬ Z a := nz a (List.mem_cons_self ..)
      have ny : a ∉ F1 := fun m => n3 a (List.mem_cons_self ..) a m rfl
      have hjx := (ixN_seq hj).2.1
      have hl := rr.length
      have hsplit : xs = xs.take j ++ xs[j] :: xs.drop (j + 1) := by rw [← List.drop_eq_getElem_cons hjx, List.take_append_drop]
      have rr0 := rr
      rw [hsplit] at rr
      obtain ⟨vs1, vs2, Fp, Fq0, ev, ef, rp, v1, vs3, Fj, Fq, ev2, ef2, rj, rq⟩ := Reps.unappend rr
      subst ev2 ef2 ef
      have hj1 : vs1.length = j := by rw [rp.length, List.length_take]; omega
      have es : xs.set j d = xs.take j ++ d :: xs.drop (j + 1) := List.set_eq_take_append_cons_drop ▸ (if_pos hjx)
      have ew : vs.set j y = vs1 ++ y :: vs3 := by
        rw [ev, ← hj1, List.set_append_right _ _ (Nat.le_refl _), Nat.sub_self]
        rfl
      obtain ⟨m1, m2, m3⟩ := List.nodup_append.mp n5
      obtain ⟨m4, m5, m6⟩ := List.nodup_append.mp m2
      refine ⟨a, vs, i, j, y, rfl, rfl, hs, by rw [hl]; exact hj, k _ (a :: (Fp ++ (F1 ++ Fq))) (fun b o h m => ?_) ?_ ?_ ?_⟩
      · rw [upd_ne (fun q => m (by rw [q]; exact List.mem_cons_self ..))]
        exact h
      · rw [es, ew]
        refine ⟨a, _, Fp ++ (F1 ++ Fq), rfl, upd_same, rfl, (reps_upd hs na (fun m => n4 (List.mem_append_left _ m)) rp).append ⟨y, vs3, F1, Fq, rfl, rfl, ?_, reps_upd hs na (fun m => n4 (List.mem_append_right _ (List.mem_append_right _ m))) rq⟩⟩
        have := reps_upd (o := .lst (vs1 ++ y :: vs3)) hs na ny (show Reps w H Z [d] [y] F1 from ⟨y, [], F1, [], rfl, (List.append_nil _).symm, r1, rfl, rfl⟩)
        obtain ⟨y', e', r'⟩ := this.one
        cases e'
        exact r'
      · refine List.nodup_cons.mpr ⟨fun m => ?_, List.nodup_append.mpr ⟨m1, List.nodup_append.mpr ⟨n2, m5, fun b mb c mc q => ?_⟩, fun b mb c mc q => ?_⟩⟩
        · rcases List.mem_append.mp m with m | m
          · exact n4 (List.mem_append_left _ m)
          · rcases List.mem_append.mp m with m | m
            · exact ny m
            · exact n4 (List.mem_append_right _ (List.mem_append_right _ m))
        · exact n3 c (List.mem_cons_of_mem _ (List.mem_append_right _ (List.mem_append_right _ mc))) b mb q.symm
        · rcases List.mem_append.mp mc with mc | mc
          · exact n3 b (List.mem_cons_of_mem _ (List.mem_append_left _ mb)) c mc q
          · exact m3 b mb c (List.mem_append_right _ mc) q
      · intro b m
        rcases List.mem_cons.mp m with rfl | m
        · exact .inl (List.mem_cons_self ..)
        · rcases List.mem_append.mp m with m | m
          · exact .inl (List.mem_cons_of_mem _ (List.mem_append_left _ m))
          · rcases List.mem_append.mp m with m | m
            · exact .inr m
            · exact .inl (List.mem_cons_of_mem _ (List.mem_append_right _ (List.mem_append_right _ m)))
    · cases e
  · cases e
/-- o[i] = e: the value first, then the place, then the index -/
theorem ks_setIx {o i : Expr} {p' : Pos} {ui : List Nat} (he : KE X W e se u) (ho : KP X o p) (hi : KE X W0 i sb ui) (hs : swapsWithSole [.Subscript o i p'] e pos.line X.env = pure false := by rfl) (hw : swappedStores [.Subscript o i p'] e X.env = pure none := by rfl)
    (h1 : (assignEach [.Subscript o i p'] X.env).map (·.2) = [assign (.Subscript o i p') X.env] := by rfl)
    (ha : ∀ v, assign (.Subscript o i p') X.env v = (do
      let ov ← holding [v] (eval o X.env)
      let iv ← holding [v, ov] (eval i X.env)
      standAt p'
      holding [v, ov, iv] (setItem ov iv v)
      release [v, ov, iv] []) := by intro _; rfl) : KS X W fx (.Assign [.Subscript o i p'] e pos) (setS p se sb u) := ps_imp (ps_asg he (pg_sub ho hi set_list ha) hs hw h1) fun D σ H q => by
  obtain ⟨pr, H0, Z0, env, ⟨hpr, Z, Fs, st⟩, q⟩ := q
  have q : SPst (wd X) W fx pr H0 Z0 D (match se env with | .ok d => (match sb env with | .ok k => mutE p [d, k] u mSet env | _ => .stk) | .exc c fs => .exc c fs (frzEnv u env) | .stk => .stk) := q
  refine ⟨Z, env, Fs, st.ok, ?_⟩
  revert q
  cases se env with
  | exc c fs => exact fun q => st.exc q
  | stk => exact fun q => q
  | ok d =>
    intro q v H1 e1 r1
    have q : SPst (wd X) W fx pr H0 Z0 D (match sb env with | .ok k => mutE p [d, k] u mSet env | _ => .stk) := q
    cases hk : sb env with
    | exc c fs => rw [hk] at q; exact q.elim
    | stk => rw [hk] at q; exact q.elim
    | ok k =>
      rw [hk] at q
      have q : SPst (wd X) W fx pr H0 Z0 D (mutE p [d, k] u mSet env) := q
      have hm := q
      unfold mutE at hm
      split at hm
      · rename_i ij hij
        split at hm
        · rename_i d1 hd1
          split at hm
          · rename_i d2 hd2
            clear hm
            refine ⟨Z, env, Fs, st.ok.ex e1, ij, hij, fun ov H2 e2 hv => ⟨Z, env, Fs, st.ok.ex (e1.trans e2), ?_⟩⟩
            rw [hk]
            intro kv H3 e3 r3
            obtain ⟨v0, hv, hn⟩ := hv
            obtain ⟨Z3, F3, rk, _⟩ := r3
            unfold mSet at hd2
            split at hd2
            · rename_i xs d0 ki hds
              cases hds
              obtain ⟨rfl, _⟩ := rk
              have r1' : Res (wd X) H (Zu Z Fs u) [] H3 d v := by
                obtain ⟨Z5, F5, q1, q2, q3, q4⟩ := r1
                exact ⟨Z5, F5, q1.ex (e2.trans e3), q2, q3, fun a z => ⟨(q4 a z).1, (e2.trans e3).some (q4 a z).2⟩⟩
              have rl : ResL (wd X) H (Zu Z Fs u) [] H3 [d, .int ki] [v, .int ki] := by
                obtain ⟨Z5, F5, q1, q2, q3, q4⟩ := r1'
                exact ⟨Z5, F5, ⟨v, [.int ki], F5, [], rfl, (List.append_nil _).symm, q1, .int ki, [], [], [], rfl, rfl, ⟨rfl, rfl⟩, rfl, rfl⟩, q2, q3, q4⟩
              obtain ⟨pp, xs', k', j, v', ho, hvs, hs, hj, qq⟩ := mut_core (W := W) (D := D) opm_set hpr st hij q ((e1.trans e2).trans e3) rl hv (hn.ex e3)
              cases hvs
              exact ⟨pp, xs', _, j, ho, rfl, hs, hj, qq⟩
            · cases hd2
          · exact hm.elim
        · exact hm.elim
      · exact hm.elim
end
end Vs
set_option maxHeartbeats 2000000
/-! Vs11: defs, calls, classes. -/
namespace Vs
open PySem L2

def callN (n : Nat) (m : List D → R D) (ds : List D) : R D := if ds.length = n then m (frzs ds) else .stk
/-- the promise: m tells what comes of the arguments -/
def spD (w : Wd) (n : Nat) (m : List D → R D) : Sp := fun vs H Q E =>
  ∃ (Z : Addr → Prop) (ds : List D), Reps w H Z ds vs [] ∧ ds.length = n ∧ (∀ a, Z a → H a ≠ none) ∧ Pst w (fun cls d _ H => E cls d H) [] H Z (m ds) fun d => ∀ v H', Ex H H' → Res w H Z [] H' d v → Q v H'
theorem spD_len {w : Wd} {n : Nat} {m : List D → R D} {vs : List V} {H : Hp} {Q : VK} {E : XK} (h : spD w n m vs H Q E) : vs.length = n := by
  obtain ⟨Z, ds, r, l, _⟩ := h
  rw [r.length, l]
/-- a def of the module: by its name, what it answers -/
structure KFn (P : Program) (w : World) (K : PySem.W.Frag) (mg : Str → Option Value) (base : Heap) (k : Nat) (x : Str) (n : Nat) (m : List D → R D) : Prop where
  ex : ∃ (f : Addr) (fd : FuncData) (ps : List Str), mg x = some (.ref f) ∧ PySem.W.keepIn K (.ref f) = true ∧ Binds K fd ps [] ∧ ps.length = n ∧ FnOk P w K mg base (L2.CX P w) k f fd ps (spD ⟨K, mg⟩ n m)
section
variable {P : Program} {w : World} {K : PySem.W.Frag} {mg : Str → Option Value} {base : Heap} {k : Nat} {x : Str} {n : Nat} {m m' : List D → R D}
/-- another way to say what it answers -/
theorem KFn.ref (F : KFn P w K mg base k x n m) (h : ∀ ds, ds.length = n → m' ds ≠ .stk → m ds = m' ds) : KFn P w K mg base k x n m' := by
  obtain ⟨f, fd, ps, h1, h2, h3, h4, h5⟩ := F.ex
  refine ⟨f, fd, ps, h1, h2, h3, h4, h5.imp fun vs H Q E q => ?_⟩
  obtain ⟨Z, ds, r, l, zd, q⟩ := q
  refine ⟨Z, ds, r, l, zd, ?_⟩
  rw [h ds l fun e => by rw [e] at q; exact q]
  exact q
theorem KFn.mono {j : Nat} (F : KFn P w K mg base j x n m) (h : j ≤ k) : KFn P w K mg base k x n m := by
  obtain ⟨f, fd, ps, h1, h2, h3, h4, h5⟩ := F.ex
  exact ⟨f, fd, ps, h1, h2, h3, h4, h5.mono h⟩
/-- the slots at the entry -/
def env0 (N : Nat) (ds : List D) : Env := ds.map some ++ List.replicate (N - ds.length) none
def runB (N : Nat) (s : Env → S) (ds : List D) : R D := match s (env0 N ds) with
  | .nxt _ => .ok .non
  | .ret d => .ok d
  | .exc c fs _ => .exc c fs
  | _ => .stk
theorem env0_ok {w : Wd} {H : Hp} {Z : Addr → Prop} {N : List Str} {ds : List D} {vs : List V} (r : Reps w H Z ds vs []) (zd : ∀ a, Z a → H a ≠ none) (hl : ds.length ≤ N.length) : EnvOk w H Z (L2.start N vs) (env0 N.length ds) (fun _ => []) := by
  have hv := r.length
  refine ⟨fun i d e => ?_, ?_, zd, fun _ _ m => (by cases m), fun _ _ m => (by cases m), fun _ => List.nodup_nil, fun _ _ _ m => (by cases m), fun _ _ _ m => (by cases m)⟩
  · unfold env0 at e
    by_cases hi : i < ds.length
    · rw [List.getElem?_append_left (by rw [List.length_map]; exact hi), List.getElem?_map] at e
      cases hd : ds[i]? with
      | none => rw [hd] at e; cases e
      | some d' =>
        rw [hd] at e
        cases e
        obtain ⟨v, Fi, h1, h2, h3⟩ := r.get hd
        have hF : Fi = [] := List.sublist_nil.mp h3
        subst hF
        refine ⟨v, ?_, h2⟩
        unfold L2.start
        rw [List.getElem?_append_left (by rw [List.length_map]; omega), List.getElem?_map, h1]
        rfl
    · rw [List.getElem?_append_right (by rw [List.length_map]; omega), List.getElem?_replicate] at e
      split at e <;> cases e
  · unfold env0 L2.start
    rw [List.length_append, List.length_append, List.length_map, List.length_map, List.length_replicate, List.length_replicate, hv]
abbrev WE1 (E : XK) : WX := fun cls d _ H => E cls d H
/-- THE RULE of a def: its body's meaning -/
theorem fn_mk {qual : Str} {st : Stmt} {f : Addr} {fd : FuncData} {N ps : List Str} {sb : Env → S} (F : Fun K x qual st f fd) (S : FnScope N ps (defScope st)) (hn : ps.length = n)
    (hbody : ∀ (cdv : Value) (A : Around) (outer : List PySem.Env) (s : Shared) (H : Hp) (E : XK), Room k (A.deeper (PyProof.Rows.envOfC qual (defScope st) s.heap.objs.size f cdv)) →
      KSs (cxOf (L2.CX P w) P w K mg base N qual (defScope st) f cdv A outer s H E) (WE1 E) [] (defBody st) sb) : FnOk P w K mg base (L2.CX P w) (k + 1) f fd ps (spD ⟨K, mg⟩ n (runB N.length sb)) := by
  refine F.okX S (fun vs H Q E q => by rw [spD_len q, hn]) fun cdv A outer s H vs Q E hr q => ⟨_, hbody cdv A outer s H E hr, ?_⟩
  obtain ⟨Z, ds, r, l, zd, q⟩ := q
  have hl : ds.length ≤ N.length := by
    have := congrArg List.length S.pre
    rw [List.length_take] at this
    omega
  refine ⟨fun _ => .non, H, Z, env0 N.length ds, ⟨fun i m => (by cases m), Z, fun _ => [], env0_ok r zd hl, Ex.refl H, fun a z => .inl z, fun _ _ m => (by cases m)⟩, ?_⟩
  unfold runB at q
  revert q
  generalize sb (env0 N.length ds) = rs
  intro q
  cases rs with
  | nxt e => exact fun σ' H' ⟨_, Z', Fs', st'⟩ => q .non H' st'.ex (Res.flat ⟨rfl, rfl⟩)
  | ret d => exact fun v H' e' r' => q v H' e' r'
  | brk e => exact q.elim
  | cnt e => exact q.elim
  | stk => exact q.elim
  | exc c fs e =>
    intro σ' H' C dd vs' Z' Fs' m' st' nd hd rr nz nf
    refine q C dd vs' H' (fun a => Z' a ∧ a ≠ dd) m' st'.ex nd hd (rr.stay (fun a z => ⟨z, fun e => nz (e ▸ z)⟩) fun a o h _ => h) fun a z => ⟨(st'.zb a z.1).imp id id, st'.ok.zd a z.1, z.2⟩
/-- one that stands at a known place -/
theorem KFn.of {f : Addr} {fd : FuncData} {ps : List Str} (hx : mg x = some (.ref f)) (kp : PySem.W.keepIn K (.ref f) = true) (hb : Binds K fd ps []) (hn : ps.length = n) (h : FnOk P w K mg base (L2.CX P w) k f fd ps (spD ⟨K, mg⟩ n m)) : KFn P w K mg base k x n m := ⟨f, fd, ps, hx, kp, hb, hn, h⟩
end
section
variable {X : Cx} {W : WX} {a e : Expr} {es : List Expr} {pos p : Pos} {x : Str} {k n : Nat} {m : List D → R D} {ss : Env → R (List D)} {se : Env → R D} {u : List Nat}
theorem Pst.toSp {w : Wd} {σ : L2.St} {H H1 : Hp} {A A1 : Addr → Prop} {r : R D} {Q : VK} {α : Type} (h : Pst w W σ H A r fun d => ∀ v H2, Ex H H2 → Res w H A [] H2 d v → Q v H2) (e : Ex H H1) (z : ∀ a, A1 a → A a ∨ H a = none) :
    Pst w (fun cls d _ H => W cls d σ H) [] H1 A1 r fun d => ∀ v H2, Ex H1 H2 → Res w H1 A1 [] H2 d v → Q v H2 := by
  cases r with
  | ok d => exact fun v H2 e2 r2 => h v H2 (e.trans e2) (r2.behind e (fun a m => (by cases m)) z)
  | exc c fs =>
    intro C dd vs H2 Z2 m e2 nd hd rr zz
    exact h C dd vs H2 Z2 m (e.trans e2) (e.back nd) hd rr fun a q => ⟨(zz a q).1.elim (z a) fun q => .inr (e.back q), (zz a q).2⟩
  | stk => exact h
/-- f(..), f a def of the module -/
theorem ke_call (F : KFn X.prog X.w X.K X.mg X.base k x n m) (hr : Room k X.A) (tk : Takes X W) (hg : Gl X x) (ha : KA X W (e :: es) ss u) (hdb : (x == ("__debug__" : Str)) = false := by decide) (he : starEach (e :: es) X.env = (false, eval e X.env) :: starEach es X.env := by rfl) (hpl : (backTo pos (starEach es X.env)).any (·.1) = false := by rfl) :
    KE X W (.Call (.Name x p) (e :: es) [] pos) (fun env => ss env >>= callN n m) u := by
  obtain ⟨f, fd, ps, h1, h2, h3, h4, h5⟩ := F.ex
  refine pe_imp (pe_callS (E := WE W) h5 hr hg h1 h2 h3 (fun σ => passAt tk σ) ha hdb he hpl) fun σ H Q q => ?_
  obtain ⟨Z, env, Fs, E, q⟩ := q
  refine ⟨Z, env, Fs, E, (q.bind (Ex.refl H) (fun _ z => z)).imp (Ex.refl H) (fun _ z => z) fun ds _ q vs H1 e1 r1 => ?_⟩
  unfold callN at q
  split at q
  · rename_i hl
    obtain ⟨Z2, F2, rr, nd, f2, z2⟩ := r1
    refine ⟨fun a => Z2 a ∨ a ∈ F2, frzs ds, rr.frz (fun a => .inl) (fun a => .inr), by rw [frzs_length]; exact hl, fun a z => z.elim (fun z => (z2 a z).2) (rr.dom a), ?_⟩
    exact Pst.toSp (α := Unit) q e1 fun a z => by
      rcases z with z | z
      · exact (z2 a z).1.imp id fun q => q.elim (fun z => (by cases z)) id
      · exact .inr ((f2 a z).1.elim id fun z => (by cases z))
  · exact q.elim
end
/-! ### instances -/
def lookF (f : Str) (ns : List Str) (vs : List D) : Option D := (ns.zip vs).lookup f
/-- o.f: cf tells the classes and fields that are known -/
def dFld (cf : List (Str × Str)) (f : Str) : D → R D
  | .obj _ c ns vs => if (c, f) ∈ cf then (match lookF f ns vs with
    | some d => .ok d
    | none => .stk) else .stk
  | _ => .stk
theorem nx_fld {cf : List (Str × Str)} {f : Str} : NoX (dFld cf f) := fun a c fs h => by
  unfold dFld at h
  split at h <;> (try split at h) <;> (try split at h) <;> cases h
/-- what the written part says of a field of a class -/
def FldOk (K : PySem.W.Frag) (mg : Str → Option Value) (cf : List (Str × Str)) : Prop := ∀ q ∈ cf, ∀ C, mg q.1 = some (.ref C) → Cls K C ∧ NoAttr K C q.2
theorem look_get {w : Wd} {H : Hp} {Z : Addr → Prop} {f : Str} : ∀ {ns : List Str} {ds : List D} {vs : List V} {F : List Addr} {d : D}, Reps w H Z ds vs F → lookF f ns ds = some d → ∃ v Fi, (ns.zip vs).lookup f = some v ∧ Rep w H Z d v Fi ∧ List.Sublist Fi F
  | [], ds, vs, F, d, r, h => by
    unfold lookF at h
    rw [List.zip_nil_left] at h
    cases h
  | n :: ns, [], vs, F, d, r, h => by
    unfold lookF at h
    rw [List.zip_nil_right] at h
    cases h
  | n :: ns, d0 :: ds, vs, F, d, ⟨v, r, F1, F2, e, ef, h1, h2⟩, h => by
    subst e ef
    have h : (match f == n with | true => some d0 | false => (ns.zip ds).lookup f) = some d := h
    have e2 : ((n :: ns).zip (v :: r)).lookup f = (match f == n with | true => some v | false => (ns.zip r).lookup f) := rfl
    rw [e2]
    split at h
    · rename_i hq
      cases h
      try rw [hq]
      exact ⟨v, F1, rfl, h1, List.sublist_append_left ..⟩
    · rename_i hq
      try rw [hq]
      obtain ⟨v', Fi, a, b, c⟩ := look_get (ns := ns) h2 h
      exact ⟨v', Fi, a, b, c.trans (List.sublist_append_right ..)⟩
section
variable {X : Cx} {W : WX} {w : Wd} {e : Expr} {pos : Pos} {se : Env → R D} {u : List Nat}
theorem ke_fld {cf : List (Str × Str)} {f : Str} (hcf : FldOk X.K X.mg cf) (he : KE X W e se u) (hb : attributeBase e f X.env (eval e X.env) = eval e X.env) : KE X W (.Attribute e f pos) (fun env => se env >>= dFld cf f) u :=
  pe_imp (pe_fld he hb) fun σ H Q q => vE_mono (one_then nx_fld q) fun v H1 ⟨d0, d, Z, F, rr, nd, nz, zd, ed, k⟩ => by
    unfold dFld at ed
    split at ed
    · split at ed
      · rename_i hc
        split at ed
        · rename_i d1 hd
          cases ed
          obtain ⟨a, C, dx, vs, F', rfl, m, s, s2, l, f', r⟩ := rr
          obtain ⟨v', Fi, h1, h2, h3⟩ := look_get r hd
          have hsub : List.Sublist Fi F := by
            rename_i o c ns vs0 _ _
            cases o with
            | true =>
              obtain rfl : F = a :: dx :: F' := f'
              exact h3.trans ((List.sublist_cons_self ..).trans (List.sublist_cons_self ..))
            | false =>
              obtain ⟨_, _, rfl, rfl⟩ : Z a ∧ Z dx ∧ F = [] ∧ F' = [] := f'
              exact h3
          obtain ⟨c1, c2⟩ := hcf _ hc C m
          exact ⟨a, C, dx, _, v', rfl, s, c1, c2, h1, k v' H1 (Ex.refl H1) (Res.part zd h2 (nd.sublist hsub) (fun a m => hsub.subset m) fun a m => nz a (hsub.subset m))⟩
        · cases ed
      · cases ed
    · cases ed
end
end Vs
set_option maxHeartbeats 2000000
/-! Vs12: classes: an instance is made, its fields are stored. -/
namespace Vs
open PySem L2

/-- the heap without the new instance -/
def less2 (H : Hp) (x dx : Addr) : Hp := fun a => if a = x ∨ a = dx then none else H a
def spI (w : Wd) (c : Str) (n : Nat) (m : List D → R D) : Sp := fun vs H Q E =>
  ∃ (x dx C : Addr) (vs0 : List V) (Z : Addr → Prop) (ds : List D), vs = .ref x :: vs0 ∧ w.mg c = some (.ref C) ∧ H x = some (.ins C dx []) ∧ H dx = some (.own x) ∧ x ≠ dx ∧ Reps w (less2 H x dx) Z ds vs0 [] ∧ ds.length = n ∧ (∀ a, Z a → less2 H x dx a ≠ none) ∧
    Pst w (fun cls d _ H => E cls d H) [] (less2 H x dx) Z (m ds) fun d => ∀ H', Ex (less2 H x dx) H' → Res w (less2 H x dx) Z [] H' d (.ref x) → Q .non H'
/-- a class of the module: what C(..) gives -/
structure KMk (P : Program) (w : World) (K : PySem.W.Frag) (mg : Str → Option Value) (base : Heap) (k : Nat) (c : Str) (n : Nat) (m : List D → R D) : Prop where
  ex : ∃ (C f : Addr) (fd : FuncData) (ps : List Str), mg c = some (.ref C) ∧ Mk K C f ∧ Binds K fd ps [] ∧ ps.length = n + 1 ∧ FnOk P w K mg base (L2.CX P w) k f fd ps (spI ⟨K, mg⟩ c n m)
def runI (N : Nat) (c : Str) (s : Env → S) (ds : List D) : R D := match s (env0 N (.obj true c [] [] :: ds)) with
  | .nxt e => (match e[0]? with
    | some (some d) => .ok d
    | _ => .stk)
  | .exc c fs _ => .exc c fs
  | _ => .stk
section
variable {P : Program} {w : World} {K : PySem.W.Frag} {mg : Str → Option Value} {base : Heap} {k : Nat} {c : Str} {n : Nat} {m m' : List D → R D}
theorem KMk.ref (F : KMk P w K mg base k c n m) (h : ∀ ds, ds.length = n → m' ds ≠ .stk → m ds = m' ds) : KMk P w K mg base k c n m' := by
  obtain ⟨C, f, fd, ps, h1, h2, h3, h4, h5⟩ := F.ex
  refine ⟨C, f, fd, ps, h1, h2, h3, h4, h5.imp fun vs H Q E q => ?_⟩
  obtain ⟨x, dx, C, vs0, Z, ds, a1, a2, a3, a4, a5, a6, l, a7, q⟩ := q
  refine ⟨x, dx, C, vs0, Z, ds, a1, a2, a3, a4, a5, a6, l, a7, ?_⟩
  rw [h ds l fun e => by rw [e] at q; exact q]
  exact q
theorem less2_ex {H : Hp} {x dx : Addr} : Ex (less2 H x dx) H := fun a o h => by
  unfold less2 at h
  split at h
  · cases h
  · exact h
theorem KMk.mk' {qual x : Str} {st : Stmt} {C f : Addr} {fd : FuncData} {N ps : List Str} {sb : Env → S} (F : Fun K x qual st f fd) (S : FnScope N ps (defScope st)) (hc : mg c = some (.ref C)) (hM : Mk K C f) (hb : Binds K fd ps []) (hn : ps.length = n + 1)
    (hbody : ∀ (cdv : Value) (A : Around) (outer : List PySem.Env) (s : Shared) (H : Hp) (E : XK), Room k (A.deeper (PyProof.Rows.envOfC qual (defScope st) s.heap.objs.size f cdv)) →
      KSs (cxOf (L2.CX P w) P w K mg base N qual (defScope st) f cdv A outer s H E) (WE1 E) [0] (defBody st) sb) : KMk P w K mg base (k + 1) c n (runI N.length c sb) := by
  refine ⟨C, f, fd, ps, hc, hM, hb, hn, F.okX S (fun vs H Q E q => ?_) fun cdv A outer s H vs Q E hr q => ⟨_, hbody cdv A outer s H E hr, ?_⟩⟩
  · obtain ⟨x, dx, C, vs0, Z, ds, rfl, _, _, _, _, r, l, _⟩ := q
    rw [List.length_cons, r.length, l, hn]
  · obtain ⟨x, dx, C', vs0, Z, ds, rfl, hC, hx, hdx, hne, r, l, zd, q⟩ := q
    have hl : (D.obj true c [] [] :: ds).length ≤ N.length := by
      have := congrArg List.length S.pre
      rw [List.length_take] at this
      rw [List.length_cons]
      omega
    have rx : Reps (⟨K, mg⟩ : Wd) H Z ds vs0 [] := r.ex less2_ex
    have zx : ∀ a, Z a → a ≠ x ∧ a ≠ dx := fun a z => by
      have := zd a z
      unfold less2 at this
      constructor
      · intro e; exact this (if_pos (.inl e))
      · intro e; exact this (if_pos (.inr e))
    have robj : Rep (⟨K, mg⟩ : Wd) H Z (.obj true c [] []) (.ref x) [x, dx] := ⟨x, C', dx, [], [], rfl, hC, hx, hdx, rfl, rfl, rfl, rfl⟩
    have hv := r.length
    have fsub : ∀ i a, a ∈ (fun i : Nat => if i = 0 then [x, dx] else []) i → i = 0 ∧ (a = x ∨ a = dx) := fun i a m => by
      by_cases hi : i = 0
      · simp only [if_pos hi] at m
        exact ⟨hi, by simpa using m⟩
      · simp only [if_neg hi] at m
        cases m
    have E1 : EnvOk (⟨K, mg⟩ : Wd) H Z (L2.start N (.ref x :: vs0)) (env0 N.length (.obj true c [] [] :: ds)) (fun i => if i = 0 then [x, dx] else []) := by
      refine ⟨fun i d e => ?_, ?_, fun a z => less2_ex.some (zd a z), fun i a m => ?_, fun i a m z => ?_, fun i => ?_, fun i j a m m2 => ?_, fun i a o m h => ?_⟩
      · unfold env0 at e
        cases i with
        | zero =>
          cases e
          exact ⟨.ref x, rfl, robj⟩
        | succ i =>
          show ∃ v, (L2.start N (.ref x :: vs0))[i + 1]? = some (some v) ∧ Rep (⟨K, mg⟩ : Wd) H Z d v []
          by_cases hi : i < ds.length
          · rw [List.getElem?_append_left (by rw [List.length_map, List.length_cons]; omega), List.getElem?_map, List.getElem?_cons_succ] at e
            cases hd : ds[i]? with
            | none => rw [hd] at e; cases e
            | some d' =>
              rw [hd] at e
              cases e
              obtain ⟨v, Fi, h1, h2, h3⟩ := rx.get hd
              have hF : Fi = [] := List.sublist_nil.mp h3
              subst hF
              refine ⟨v, ?_, h2⟩
              unfold L2.start
              rw [List.getElem?_append_left (by rw [List.length_map, List.length_cons]; omega), List.getElem?_map, List.getElem?_cons_succ, h1]
              rfl
          · rw [List.getElem?_append_right (by rw [List.length_map, List.length_cons]; omega), List.getElem?_replicate] at e
            split at e <;> cases e
      · unfold env0 L2.start
        rw [List.length_append, List.length_append, List.length_map, List.length_map, List.length_replicate, List.length_replicate, List.length_cons, List.length_cons, hv]
      · obtain ⟨_, rfl | rfl⟩ := fsub i a m
        · rw [hx]; exact fun z => by cases z
        · rw [hdx]; exact fun z => by cases z
      · obtain ⟨_, q⟩ := fsub i a m
        exact q.elim (zx a z).1 (zx a z).2
      · show (if i = 0 then [x, dx] else []).Nodup
        split
        · exact List.nodup_cons.mpr ⟨by simpa using hne, List.nodup_cons.mpr ⟨(fun m => by cases m), List.nodup_nil⟩⟩
        · exact List.nodup_nil
      · rw [(fsub i a m).1, (fsub j a m2).1]
      · obtain ⟨_, rfl | rfl⟩ := fsub i a m
        · rw [hx] at h; cases h; exact fun t => t
        · rw [hdx] at h; cases h; exact fun t => t
    refine ⟨fun _ => .ref x, less2 H x dx, Z, env0 N.length (.obj true c [] [] :: ds), ⟨fun i m => (by
      obtain rfl : i = 0 := by simpa using m
      rfl), Z, _, E1, less2_ex, fun a z => .inl z, fun i a m => if_pos (fsub i a m).2⟩, ?_⟩
    unfold runI at q
    revert q
    generalize sb (env0 N.length (.obj true c [] [] :: ds)) = rs
    intro q
    cases rs with
    | nxt e =>
      intro σ' H' ⟨hpr, Z', Fs', st'⟩
      have q : Pst (⟨K, mg⟩ : Wd) (fun cls d _ H => E cls d H) [] (less2 H x dx) Z (match e[0]? with | some (some d) => R.ok d | _ => .stk) _ := q
      split at q
      · rename_i d hd
        obtain ⟨v, hv, r⟩ := st'.ok.rep 0 d hd
        have h0 := hpr 0 (List.mem_singleton.mpr rfl)
        rw [hv] at h0
        cases h0
        refine q H' st'.ex ⟨Z', Fs' 0, r, st'.ok.nd 0, fun a m => ⟨.inl (st'.fb 0 a m), st'.ok.nz 0 a m⟩, fun a z => ⟨(st'.zb a z).imp id .inr, st'.ok.zd a z⟩⟩
      · exact q.elim
    | ret d => exact q.elim
    | brk e => exact q.elim
    | cnt e => exact q.elim
    | stk => exact q.elim
    | exc c fs e =>
      intro σ' H' C dd vs' Z' Fs' m' st' nd hd rr nz nf
      refine q C dd vs' H' (fun a => Z' a ∧ a ≠ dd) m' st'.ex nd hd (rr.stay (fun a z => ⟨z, fun e => nz (e ▸ z)⟩) fun a o h _ => h) fun a z => ⟨(st'.zb a z.1).imp id id, st'.ok.zd a z.1, z.2⟩
end
section
variable {X : Cx} {W : WX} {w : Wd} {fx : List Nat} {a e : Expr} {es : List Expr} {pos p : Pos} {c : Str} {k n : Nat} {m : List D → R D} {ss : Env → R (List D)} {se : Env → R D} {u : List Nat}
theorem less2_new {H : Hp} {x dx C : Addr} (hx : H x = none) (hd : H dx = none) : less2 (upd (upd H dx (.own x)) x (.ins C dx [])) x dx = H := by
  funext a
  unfold less2
  by_cases h1 : a = x
  · rw [if_pos (.inl h1), h1, hx]
  · by_cases h2 : a = dx
    · rw [if_pos (.inr h2), h2, hd]
    · rw [if_neg (fun q => q.elim h1 h2), upd_ne h1, upd_ne h2]
/-- C(..), C a class of the module; what W wants of errors does not hang on the slots -/
theorem ke_make (F : KMk X.prog X.w X.K X.mg X.base k c n m) (hr : Room (k + 1) X.A) (tk : Takes X W) (hW : ∀ σ σ' cls d H, W cls d σ H → W cls d σ' H) (hg : Gl X c) (ha : KA X W (e :: es) ss u) (hdb : (c == ("__debug__" : Str)) = false := by decide)
    (he : starEach (e :: es) X.env = (false, eval e X.env) :: starEach es X.env := by rfl) (hpl : (backTo pos (starEach es X.env)).any (·.1) = false := by rfl) :
    KE X W (.Call (.Name c p) (e :: es) [] pos) (fun env => ss env >>= callN n m) u := by
  obtain ⟨C, f, fd, ps, h1, h2, h3, h4, h5⟩ := F.ex
  refine pe_imp (pe_make (E := fun cls d H => W cls d [] H) h2 h5 hr hg h1 h3 .nil (passes_call tk fun cls d σ H h => hW _ _ _ _ _ h) ha hdb he hpl) fun σ H Q q => ?_
  obtain ⟨Z, env, Fs, E, q⟩ := q
  refine ⟨Z, env, Fs, E, (q.bind (Ex.refl H) (fun _ z => z)).imp (Ex.refl H) (fun _ z => z) fun ds _ q vs H1 e1 r1 => ?_⟩
  intro x dx hx hdx hne
  unfold callN at q
  split at q
  · rename_i hl
    obtain ⟨Z2, F2, rr, nd, f2, z2⟩ := r1
    have el := less2_new (C := C) hx hdx
    refine ⟨x, dx, C, vs, fun a => Z2 a ∨ a ∈ F2, frzs ds, by rw [List.append_nil], h1, upd_same, ?_, hne.symm, ?_, by rw [frzs_length]; exact hl, fun a z => ?_, ?_⟩
    · rw [upd_ne hne, upd_same]
    · rw [el]; exact rr.frz (fun a => .inl) (fun a => .inr)
    · rw [el]; exact z.elim (fun z => (z2 a z).2) (rr.dom a)
    · rw [el]
      have zc : ∀ a, (Z2 a ∨ a ∈ F2) → Zu Z Fs u a ∨ H a = none := fun a z => by
        rcases z with z | z
        · exact (z2 a z).1.imp id fun q => q.elim (fun z => (by cases z)) id
        · exact .inr ((f2 a z).1.elim id fun z => (by cases z))
      revert q
      generalize m (frzs ds) = rs
      intro q
      cases rs with
      | ok d => exact fun H' e' r' => ⟨rfl, q _ H' (e1.trans e') (r'.behind e1 (fun a m => (by cases m)) zc)⟩
      | exc cc fs =>
        intro C' dd vs' H' Z3 m' e' nd' hd' rr' zz
        exact hW _ _ _ _ _ (q C' dd vs' H' Z3 m' (e1.trans e') (e1.back nd') hd' rr' fun a z => ⟨(zz a z).1.elim (zc a) fun q => .inr (e1.back q), (zz a z).2⟩)
      | stk => exact q.elim
  · exact q.elim
/-! ### self.f = e -/
def putD (f : Str) (v : D) : List Str → List D → List D
  | [], _ => [v]
  | _ :: _, [] => []
  | n :: ns, d :: ds => if n = f then v :: ds else d :: putD f v ns ds
def putN (f : Str) : List Str → List Str
  | [] => [f]
  | n :: ns => if n = f then n :: ns else n :: putN f ns
def mFld (cf : List (Str × Str)) (f : Str) : D → List D → R D
  | .obj true c ns vs, [d] => if (c, f) ∈ cf ∧ ns.length < 900 then .ok (.obj true c (putN f ns) (putD f d ns vs)) else .stk
  | _, _ => .stk
theorem putF_eq {f : Str} {v : V} : ∀ {ns : List Str} {vs : List V}, ns.length = vs.length → ∃ vs', putF f v (ns.zip vs) = (putN f ns).zip vs' ∧ vs'.length = (putN f ns).length
  | [], [], _ => ⟨[v], rfl, rfl⟩
  | n :: ns, x :: vs, h => by
    have h : ns.length = vs.length := Nat.succ.inj h
    obtain ⟨vs', h1, h2⟩ := putF_eq (f := f) (v := v) h
    show ∃ vs', (if n = f then (n, v) :: ns.zip vs else (n, x) :: putF f v (ns.zip vs)) = (if n = f then n :: ns else n :: putN f ns).zip vs' ∧ vs'.length = (if n = f then n :: ns else n :: putN f ns).length
    by_cases hn : n = f
    · rw [if_pos hn, if_pos hn]
      exact ⟨v :: vs, rfl, by rw [List.length_cons, List.length_cons, h]⟩
    · rw [if_neg hn, if_neg hn, h1]
      exact ⟨x :: vs', rfl, by rw [List.length_cons, List.length_cons, h2]⟩
/-- the fields behind a store -/
theorem put_reps {H : Hp} {Z : Addr → Prop} {f : Str} {d : D} {y : V} {Fy : List Addr} (ry : Rep w H Z d y Fy) : ∀ {ns : List Str} {ds : List D} {vs : List V} {F : List Addr}, ns.length = ds.length → Reps w H Z ds vs F → (F ++ Fy).Nodup →
    ∃ vs' F', putF f y (ns.zip vs) = (putN f ns).zip vs' ∧ (putN f ns).length = (putD f d ns ds).length ∧ Reps w H Z (putD f d ns ds) vs' F' ∧ F'.Nodup ∧ ∀ a ∈ F', a ∈ F ∨ a ∈ Fy
  | [], [], vs, F, _, ⟨e, ef⟩, nd => by
    subst e ef
    exact ⟨[y], Fy, rfl, rfl, ⟨y, [], Fy, [], rfl, (List.append_nil _).symm, ry, rfl, rfl⟩, nd, fun a m => .inr m⟩
  | n :: ns, d0 :: ds, _, _, h, ⟨v, r, F1, F2, e, ef, h1, h2⟩, nd => by
    subst e ef
    have h : ns.length = ds.length := Nat.succ.inj h
    have e1 : putF f y ((n :: ns).zip (v :: r)) = if n = f then (n, y) :: ns.zip r else (n, v) :: putF f y (ns.zip r) := rfl
    have e2 : putN f (n :: ns) = if n = f then n :: ns else n :: putN f ns := rfl
    have e3 : putD f d (n :: ns) (d0 :: ds) = if n = f then d :: ds else d0 :: putD f d ns ds := rfl
    rw [e1, e2, e3]
    rw [List.append_assoc] at nd
    obtain ⟨n1, n2, n3⟩ := List.nodup_append.mp nd
    obtain ⟨n4, n5, n6⟩ := List.nodup_append.mp n2
    by_cases hn : n = f
    · rw [if_pos hn, if_pos hn, if_pos hn]
      refine ⟨y :: r, Fy ++ F2, rfl, by rw [List.length_cons, List.length_cons, h], ⟨y, r, Fy, F2, rfl, rfl, ry, h2⟩, List.nodup_append.mpr ⟨n5, n4, fun a m b m2 q => n6 b m2 a m q.symm⟩, fun a m => ?_⟩
      rcases List.mem_append.mp m with m | m
      · exact .inr m
      · exact .inl (List.mem_append_right _ m)
    · rw [if_neg hn, if_neg hn, if_neg hn]
      obtain ⟨vs', F', a1, a2, a3, a4, a5⟩ := put_reps ry h h2 n2
      refine ⟨v :: vs', F1 ++ F', by rw [a1]; rfl, by rw [List.length_cons, List.length_cons, a2], ⟨v, vs', F1, F', rfl, rfl, h1, a3⟩, List.nodup_append.mpr ⟨n1, a4, fun a m b m2 q => ?_⟩, fun a m => ?_⟩
      · rcases a5 b m2 with m3 | m3
        · exact n3 a m b (List.mem_append_left _ m3) q
        · exact n3 a m b (List.mem_append_right _ m3) q
      · rcases List.mem_append.mp m with m | m
        · exact .inl (List.mem_append_left _ m)
        · exact (a5 a m).imp (List.mem_append_right _) id
def rdFld (K : PySem.W.Frag) (f : Str) : V → List V → Hp → (Hp → Prop) → Prop := fun o vs H Q => ∃ a C dx fs y, o = .ref a ∧ vs = [y] ∧ H a = some (.ins C dx fs) ∧ Cls K C ∧ NoAttr K C f ∧ fs.length < 1000 ∧ Q (upd H a (.ins C dx (putF f y fs)))
theorem opm_fld {cf : List (Str × Str)} {f : Str} (hcf : FldOk w.K w.mg cf) : OpM w (rdFld w.K f) (mFld cf f) := fun H Z d1 ds d2 v ys F' Fy Q r ry nd nz zd e k => by
  unfold mFld at e
  split at e
  · split at e
    · rename_i c ns vs0 d hc
      cases e
      obtain ⟨a, C, dx, vs, F0, rfl, m, s, s2, l, f', rr⟩ := r
      obtain rfl : F' = a :: dx :: F0 := f'
      obtain ⟨y, rfl, r1⟩ := ry.one
      obtain ⟨n1, n2, n3⟩ := List.nodup_append.mp nd
      obtain ⟨n4, n5⟩ := List.nodup_cons.mp n1
      obtain ⟨n6, n7⟩ := List.nodup_cons.mp n5
      obtain ⟨c1, c2⟩ := hcf _ hc.1 C m
      have na : ¬ Z a := nz a (List.mem_cons_self ..)
      have nda : ¬ Z dx := nz dx (List.mem_cons_of_mem _ (List.mem_cons_self ..))
      have ny : a ∉ Fy := fun q => n3 a (List.mem_cons_self ..) a q rfl
      have nyd : dx ∉ Fy := fun q => n3 dx (List.mem_cons_of_mem _ (List.mem_cons_self ..)) dx q rfl
      have nadx : dx ≠ a := fun q => n4 (q ▸ List.mem_cons_self ..)
      have naF : a ∉ F0 := fun q => n4 (List.mem_cons_of_mem _ q)
      have keep : ∀ {o : HO} {b ob}, H b = some ob → b ≠ a → (upd H a o) b = some ob := fun h n => by rw [upd_ne n]; exact h
      have tu : ∀ {b ob}, H b = some ob → Tu ob → b ≠ a := fun {b ob} h t q => by
        subst q
        rw [s] at h
        cases h
        exact t
      have rr' : ∀ o, Reps w (upd H a o) Z vs0 vs F0 := fun o => rr.stay (fun _ z => z) fun b ob h c => keep h (by
        rcases c with c | c | c
        · exact fun q => na (q ▸ c)
        · exact fun q => naF (q ▸ c)
        · exact tu h c)
      have r1' : ∀ o, Rep w (upd H a o) Z d y Fy := fun o => r1.stay (fun _ z => z) fun b ob h c => keep h (by
        rcases c with c | c | c
        · exact fun q => na (q ▸ c)
        · exact fun q => ny (q ▸ c)
        · exact tu h c)
      have nd2 : (F0 ++ Fy).Nodup := List.nodup_append.mpr ⟨n7, n2, fun b mb c' mc q => n3 b (List.mem_cons_of_mem _ (List.mem_cons_of_mem _ mb)) c' mc q⟩
      have hz : (ns.zip vs).length < 1000 := by
        rw [List.length_zip]
        omega
      refine ⟨a, C, dx, _, y, rfl, rfl, s, c1, c2, hz, ?_⟩
      obtain ⟨vs', F3, p1, p2, p3, p4, p5⟩ := put_reps (f := f) (r1' (.ins C dx (putF f y (ns.zip vs)))) l (rr' _) nd2
      refine k _ (a :: dx :: F3) (fun b o h q => ?_) ?_ ?_ ?_
      · rw [upd_ne (fun e => q (by rw [e]; exact List.mem_cons_self ..))]
        exact h
      · refine ⟨a, C, dx, vs', F3, rfl, m, ?_, keep s2 nadx, p2, rfl, p3⟩
        rw [upd_same, p1]
      · refine List.nodup_cons.mpr ⟨fun q => ?_, List.nodup_cons.mpr ⟨fun q => ?_, p4⟩⟩
        · rcases List.mem_cons.mp q with q | q
          · exact nadx q.symm
          · exact (p5 a q).elim naF ny
        · exact (p5 dx q).elim n6 nyd
      · intro b q
        rcases List.mem_cons.mp q with rfl | q
        · exact .inl (List.mem_cons_self ..)
        · rcases List.mem_cons.mp q with rfl | q
          · exact .inl (List.mem_cons_of_mem _ (List.mem_cons_self ..))
          · exact (p5 b q).imp (fun q => List.mem_cons_of_mem _ (List.mem_cons_of_mem _ q)) id
    · cases e
  · cases e
/-- o.f = e, o a place: the value first -/
theorem ks_fld {cf : List (Str × Str)} {f : Str} {o : Expr} {p' : Pos} {pl : PlS} (hcf : FldOk X.K X.mg cf) (ho : KP X o pl) (he : KE X W e se u) (hs : swapsWith e (some (.Attribute o f p')) pos.line X.env = pure false := by rfl) :
    KS X W fx (.Assign [.Attribute o f p'] e pos) (mutS pl (fun env => se env >>= fun d => .ok [d]) u (mFld cf f)) := ps_imp (ps_fld ho he hs) fun D σ H q => by
  obtain ⟨pr, H0, Z0, env, ⟨hpr, Z, Fs, st⟩, q⟩ := q
  have q : SPst (wd X) W fx pr H0 Z0 D (match (se env >>= fun d => (R.ok [d] : R (List Vs.D))) with | .ok ds => mutE pl ds u (mFld cf f) env | .exc c fs => .exc c fs (frzEnv u env) | .stk => .stk) := q
  refine ⟨Z, env, Fs, st.ok, ?_⟩
  revert q
  cases se env with
  | exc c fs => exact fun q => st.exc q
  | stk => exact fun q => q
  | ok d =>
    intro q v H1 e1 r1
    have q : SPst (wd X) W fx pr H0 Z0 D (mutE pl [d] u (mFld cf f) env) := q
    have hm := q
    unfold mutE at hm
    split at hm
    · rename_i ij hij
      clear hm
      refine ⟨Z, env, Fs, st.ok.ex e1, ij, hij, fun ov H2 e2 hv => ?_⟩
      obtain ⟨v0, hv, hn⟩ := hv
      have rl : ResL (wd X) H (Zu Z Fs u) [] H2 [d] [v] := by
        obtain ⟨Z5, F5, q1, q2, q3, q4⟩ := r1
        exact ⟨Z5, F5, ⟨v, [], F5, [], rfl, (List.append_nil _).symm, q1.ex e2, rfl, rfl⟩, q2, q3, fun a z => ⟨(q4 a z).1, e2.some (q4 a z).2⟩⟩
      obtain ⟨a, C, dx, fs, y, ho, hy, h1, h2, h3, h4, h5⟩ := mut_core (W := W) (D := D) (opm_fld hcf) hpr st hij q (e1.trans e2) rl hv hn
      cases hy
      exact ⟨a, C, dx, fs, ho, h1, h2, h3, h4, h5⟩
    · exact hm.elim
end
end Vs
set_option maxHeartbeats 4000000
/-! Vs13: enumerate over a tuple; enumerate and zip as what is walked. -/
namespace PySem
open Sem (wp)
theorem vs_meets_enum1 {v : Value} {o : Obj} {H : Heap → Prop} (B : Begins v o H) :
    Meets (Builtin.«enumerate.__new__» ⟨[.type "enumerate", v], []⟩) (fun _ R s => H s.heap ∧
      R (.ok (.ret (.ref (s.heap.push o).objs.size))) { s with heap := (s.heap.push o).push { cls := .type "enumerate", data := .fields #[.none, .bool false, .ref s.heap.objs.size, rawInt 0, .none, .none] } }) :=
  .of_wp fun prog w A R s h => by
    obtain ⟨hp, g, d, tk, os⟩ := s; obtain ⟨h1, h⟩ := h
    have hsub := sub_enumerate
    have q1 : ∀ {A' : Around} {E : Value → Shared → Prop} {Q : Value → Shared → Prop}, Q (.ref hp.objs.size) ⟨hp.push o, g, d, tk, os⟩ → wpAny (model prog w) A' (pyIter v) Q E ⟨hp, g, d, tk, os⟩ :=
      fun q => B.iter prog w _ _ ⟨hp, g, d, tk, os⟩ _ h1 q
    wp_walk using q1
    refine wpAny_stack_any fun st => wpAny_pure ?_
    split
    · rename_i c _ _ _ _ _
      cases (c == Value.type "enumerate")
      · wp_walk using q1
        exact ⟨_, rfl, h⟩
      · wp_walk using q1
        exact ⟨_, rfl, h⟩
    · wp_walk using q1
      exact ⟨_, rfl, h⟩
section
variable {prog : Program} {w : World} {A : Around} {E : Value → Shared → Prop} {s : Shared}
theorem vs_enum_begins1 {v : Value} {o : Obj} {H : Heap → Prop} {Q : Value → Shared → Prop} (B : Begins v o H) (h1 : H s.heap)
    (h : ∀ h', IsEnum h' (s.heap.objs.size + 1) s.heap.objs.size 0 .none → h'.get? s.heap.objs.size = some o → h'.objs.size = s.heap.objs.size + 2 →
      (∀ b o, s.heap.get? b = some o → h'.get? b = some o) → Q (.ref (s.heap.objs.size + 1)) { s with heap := h' }) :
    wpAny (model prog w) A (call (.type "enumerate") [v]) Q E s := by
  refine callType_new F.called_enumerate (by decide) (F.typeCall_enumerate_1 _) (F.newCall_enumerate_1 _) (fun obj => F.args_object_init_2 obj _) F.entry_enumerate_new
    (vs_meets_enum1 B) ⟨h1, ?_⟩
  have hz : (s.heap.push o).objs.size = s.heap.objs.size + 1 := Heap.size_push ..
  show _ ∧ _
  rw [hz]
  have he : IsEnum ((s.heap.push o).push { cls := .type "enumerate", data := .fields #[.none, .bool false, .ref s.heap.objs.size, rawInt 0, .none, .none] }) (s.heap.objs.size + 1) s.heap.objs.size 0 .none := by
    have := Heap.get?_push_size (s.heap.push o)
      (o := { cls := .type "enumerate", data := .fields #[.none, .bool false, .ref s.heap.objs.size, rawInt 0, .none, .none] }) rfl
    rw [hz] at this; exact this
  refine ⟨⟨_, he, rfl⟩, h _ he (Heap.get?_push_of_some _ (Heap.get?_push_size _ B.free)) (by rw [Heap.size_push, hz]) fun b o x => Heap.get?_push_of_some _ (Heap.get?_push_of_some _ x)⟩
end
end PySem
namespace L2
open PySem PySem.Spec PyProof.Rows
/-- enumerate(tuple) -/
def VsIteT (K : PySem.W.Frag) (a : Addr) : It :=
  ⟨fun i H => ∃ (xs : List V) (x : V), SqT K H a xs ∧ xs[i]? = some x, fun i H v H' => ∃ T x, v = .ref T ∧ H T = none ∧ H' = upd H T (.tup [.int (i : Nat), x]) ∧ ∀ xs, SqT K H a xs → xs[i]? = some x, fun i H => ∃ xs : List V, SqT K H a xs ∧ xs.length ≤ i⟩
theorem vs_turn_enumT {P : Program} {w : World} {K : PySem.W.Frag} {elts : List Expr} {kk : Nat} {tpos : Pos} (a e it : Addr) :
    Turn P w K (.Tuple elts kk tpos) (VsIteT K a) [e, it] e (fun i h => (∃ old, IsEnum h e it ((i : Nat) : Int) old) ∧ h.IsTupleIter it a i ∧ e ≠ it) where
  mem := by simp
  obj := fun i h st b hb => by
    obtain ⟨⟨old, he⟩, ⟨o, ho, hc, hd⟩, _⟩ := st
    have e' : b = e ∨ b = it := by simpa using hb
    rcases e' with z | z
    · rw [z]; exact ⟨_, he, fun v q => nomatch q⟩
    · rw [z]; exact ⟨o, ho, fun v q => by rw [hd] at q; cases q⟩
  keep := fun i h h' st k => let ⟨⟨old, he⟩, hi, hne⟩ := st; ⟨⟨old, k e (by simp) _ he⟩, hi.at fun o q => k it (by simp) o q, hne⟩
  item := by
    intro X hP hw hK hc i pins s σ H E I hf st hg
    subst hP hw hK
    obtain ⟨⟨old, he⟩, hit, hne⟩ := st
    obtain ⟨xs, x, hq, hx⟩ := hg
    obtain ⟨its, rv, p, hz⟩ := I.tuple hq
    obtain ⟨u, hu, ru⟩ := rv.get hx
    have hel : e < s.heap.objs.size := Heap.lt_size he
    have hil : it < s.heap.objs.size := by obtain ⟨_, q, _⟩ := hit; exact Heap.lt_size q
    have hea : e ≠ a := fun q => by
      obtain ⟨o, ho, hcl, _⟩ := p
      subst q
      rw [he] at ho
      cases ho
      exact absurd (Value.type.inj hcl) (by decide)
    have hai : a ≠ it := fun q => by
      obtain ⟨o, ho, hcl, _⟩ := p
      obtain ⟨o2, ho2, hc2, _⟩ := hit
      subst q
      rw [ho] at ho2
      cases ho2
      rw [hcl] at hc2
      exact absurd (Value.type.inj hc2) (by decide)
    have hh : X.A.in1.handled = none := I.ok.hd hc
    have hi : i < its.toArray.size := by
      have := (List.getElem?_eq_some_iff.mp hu).1
      simpa using this
    refine wpAny_pyNext_enum_itemD (Draws.tuple hh it a hai its.toArray) he ⟨hit, p⟩ hi hne (by simp [hne, hea]) fun x' h' tk hx' ho hit' hT hsz hk => ?_
    have hxu : x' = u := by
      have q : its.toArray[i]? = some u := by simpa using hu
      rw [q] at hx'
      exact (Option.some.inj hx').symm
    subst hxu
    refine ⟨_, rfl, wpAny_letOwnedTupleGo_enum (s := { s with heap := h', toks := tk + 1 }) ho fun h'' he' sb => ?_⟩
    have hT2 : h''.get? s.heap.objs.size = some { cls := .type "tuple", data := .seq #[.int i tk, x'] } := (sb.2 _ (Nat.ne_of_gt hel)).trans hT
    have new : ObjOk X.prog X.w (upd H s.heap.objs.size (.tup [.int (i : Nat), x])) h'' s.heap.objs.size (.tup [.int (i : Nat), x]) :=
      ⟨by show 2 ≤ sizeLine; decide, [.int i tk, x'], .cons ⟨_, rfl⟩ (.cons ru .nil), ⟨_, hT2, rfl, _, rfl⟩⟩
    have I1 : Inv X pins σ (upd H s.heap.objs.size (.tup [.int (i : Nat), x])) { s with heap := h'', toks := tk + 1 } :=
      I.turnedNew (ch := [e, it]) (fun b ob hb q => (sb.2 b (fun z => hb (by simp [z]))).trans (hk b ob (fun z => hb (by simp [z])) (fun z => hb (by simp [z])) q)) hf (Nat.le_refl _) new
    refine ⟨.ref s.heap.objs.size, _, I1, rfl, ⟨_, x, rfl, I.hok.fresh (Nat.le_refl _), rfl, fun ys hy => by rw [I.tuple_inj hy hq]; exact hx⟩, ⟨⟨x', ?_⟩, hit'.1.at fun o q => (sb.2 it (Ne.symm hne)).trans q, hne⟩, fun b hb => ?_⟩
    · have e1 : ((i + 1 : Nat) : Int) = (i : Int) + 1 := by omega
      rw [e1]; exact he'
    · have hb' : b < s.heap.objs.size := by
        have e' : b = e ∨ b = it := by simpa using hb
        rcases e' with z | z
        · rw [z]; exact hel
        · rw [z]; exact hil
      rw [upd_ne (Nat.ne_of_lt hb')]
      exact (hf b hb).1
  done := by
    intro X hP hw hK hc i pins s σ H E I hf st hg
    subst hP hw hK
    obtain ⟨⟨old, he⟩, hit, hne⟩ := st
    obtain ⟨xs, hq, hx⟩ := hg
    obtain ⟨its, rv, p, hz⟩ := I.tuple hq
    obtain ⟨f0, f1, f2, f3, f4, f5⟩ := hf it (by simp)
    have hl := rv.length
    have hh : X.A.in1.handled = none := I.ok.hd hc
    have hT : s.TypeIs (.ref e) "enumerate" := ⟨_, he, rfl⟩
    unfold pyNext
    refine wpAny_bind (wpAny_attempt (wpAny_callSpecial?_slot (name := Str.ofString "__next__") hT F.slot_enumerate_next
      (wpAny_call_entry F.slot_enumerate_next hT F.entry_enumerate_next ?_ (F.args_enumerate_next_1 _))))
    show wpAny _ _ (field (.ref e) 2 >>= _) _ _ _
    refine wpAny_bind (wpAny_field he rfl (x := .ref it) rfl ?_)
    refine wpAny_bind (wpAny_nextOf_tuple_end hh hit p (by simp; omega) fun h' x he' hx' => ?_)
    obtain ⟨o, ho, hc'⟩ := hx'
    refine wpAny_bind (wpAny_isInstance (T := "StopIteration") (b := true) ⟨o, ho, hc'⟩ isSubtype_stop ?_)
    exact wpAny_pure ⟨rfl, I.turned (t' := s.toks) (fun b o hb q => he' b o hb q) f0 f1 f3 f4 f5⟩
  self := fun A i s Q E st h => let ⟨⟨_, he⟩, _⟩ := st; wpAny_pyIter_enum he h
def vsEnum (K : PySem.W.Frag) (ta : TA) : TI := fun σ H R => ta σ H fun vs H1 => ∃ a, vs = [.ref a] ∧ ((∃ xs, SqL K H1 a xs ∧ R (Ite K a) H1) ∨ (∃ xs, SqT K H1 a xs ∧ R (VsIteT K a) H1))
theorem vs_pi_enum {X : Cx} {e : Expr} {ta : TA} {p pos tpos : Pos} {elts : List Expr} {kk : Nat} (hg : Gl X "enumerate") (hm : X.mg "enumerate" = none) (ha : PA X [e] ta) (hs : starEach [e] X.env = [(false, eval e X.env)] := by rfl) :
    PI X (.Tuple elts kk tpos) (.Call (.Name "enumerate" p) [e] [] pos) (vsEnum X.K ta) := by
  refine ⟨fun pins s σ H R I h => ?_⟩
  refine Call_ (ld_blt I hg hm boot_enumerate (PyProof.Rows.callWith_type1 (thn (ha.run pos pins s σ H _ I h) fun us s1 ⟨vs, H1, I1, r1, q1⟩ => ?_) hs rfl))
  obtain ⟨a, ex, q⟩ := q1
  subst ex
  cases r1 with
  | cons r rr =>
    cases rr
    cases r
    have fin : ∀ {h' : Heap}, (∀ b o, s1.heap.get? b = some o → h'.get? b = some o) → ∀ b ∈ [s1.heap.objs.size + 1, s1.heap.objs.size], FpOk X pins H1 b := fun {h'} hk b hb => by
      have e' : b = s1.heap.objs.size + 1 ∨ b = s1.heap.objs.size := by simpa using hb
      have hle : s1.heap.objs.size ≤ b := by
        rcases e' with z | z
        · rw [z]; exact Nat.le_add_right _ _
        · rw [z]; exact Nat.le_refl _
      exact I1.fpOk hle (I1.hok.fresh hle)
    rcases q with ⟨xs, hq, q⟩ | ⟨xs, hq, q⟩
    · obtain ⟨its, rv, p', hz⟩ := I1.list hq
      refine call_enumerate_list p'.isList fun h' he hit hsz hk => wpAny_pyIter_enum he ?_
      have I2 : Inv X pins σ H1 { s1 with heap := h' } := I1.kept (t' := s1.toks) hk
      exact ⟨s1.heap.objs.size + 1, [s1.heap.objs.size + 1, s1.heap.objs.size], _, _, H1, rfl, I2, turn_enum a (s1.heap.objs.size + 1) s1.heap.objs.size, ⟨⟨.none, he⟩, hit, Nat.succ_ne_self _⟩, fin hk, q⟩
    · obtain ⟨its, rv, p', hz⟩ := I1.tuple hq
      refine vs_enum_begins1 (begins_tuple a its.toArray) (show s1.heap.IsTuple a its.toArray from p') fun h' he hit hsz hk => wpAny_pyIter_enum he ?_
      have I2 : Inv X pins σ H1 { s1 with heap := h' } := I1.kept (t' := s1.toks) hk
      exact ⟨s1.heap.objs.size + 1, [s1.heap.objs.size + 1, s1.heap.objs.size], _, _, H1, rfl, I2, vs_turn_enumT a (s1.heap.objs.size + 1) s1.heap.objs.size, ⟨⟨.none, he⟩, ⟨_, hit, rfl, rfl⟩, Nat.succ_ne_self _⟩, fin hk, q⟩
theorem vs_walk_enumT {K : PySem.W.Frag} {a : Addr} {xs : List V} : Walk (VsIteT K a) xs.length (fun H => SqT K H a xs) (YPair (fun i => some (.int (i : Nat))) (fun i => xs[i]?)) := by
  refine ⟨fun i _ hi q => ⟨xs, xs[i], q, by simp [hi]⟩, fun _ q => ⟨xs, q, Nat.le_refl _⟩, fun i H v H' _ q y => ?_⟩
  obtain ⟨T, x, h1, h2, h3, h4⟩ := y
  exact ⟨T, .int (i : Nat), x, h1, h2, h3, rfl, h4 xs q⟩
end L2

namespace Vs
open PySem L2
/-- pairs of the number and the item; of two items -/
def enumL : Nat → List D → List D
  | _, [] => []
  | i, d :: ds => .tup [.int (i : Nat), d] :: enumL (i + 1) ds
def zipL : List D → List D → List D
  | d :: ds, e :: es => .tup [d, e] :: zipL ds es
  | _, _ => []
theorem enumL_len : ∀ (ds : List D) (i : Nat), (enumL i ds).length = ds.length
  | [], _ => rfl
  | d :: ds, i => congrArg (· + 1) (enumL_len ds (i + 1))
theorem enumL_get : ∀ {ds : List D} {i k : Nat} {d : D}, ds[i]? = some d → (enumL k ds)[i]? = some (.tup [.int ((k + i : Nat) : Int), d])
  | [], i, k, d, h => by simp at h
  | x :: xs, 0, k, d, h => by
    have e : x = d := by simpa using h
    subst e
    rfl
  | x :: xs, i + 1, k, d, h => by
    have := enumL_get (ds := xs) (i := i) (k := k + 1) (d := d) (by simpa using h)
    have e : k + (i + 1) = k + 1 + i := by omega
    rw [e]
    exact this
theorem zipL_len : ∀ (ds es : List D), (zipL ds es).length = min ds.length es.length
  | [], es => by cases es <;> simp [zipL]
  | d :: ds, [] => by simp [zipL]
  | d :: ds, e :: es => by
    show (zipL ds es).length + 1 = _
    rw [zipL_len ds es, List.length_cons, List.length_cons]
    omega
theorem zipL_get : ∀ {ds es : List D} {i : Nat} {d e : D}, ds[i]? = some d → es[i]? = some e → (zipL ds es)[i]? = some (.tup [d, e])
  | [], _, i, d, e, h, _ => by simp at h
  | x :: xs, [], i, d, e, _, h => by simp at h
  | x :: xs, y :: ys, 0, d, e, h, k => by
    have e1 : x = d := by simpa using h
    have e2 : y = e := by simpa using k
    subst e1 e2
    rfl
  | x :: xs, y :: ys, i + 1, d, e, h, k => zipL_get (ds := xs) (es := ys) (i := i) (by simpa using h) (by simpa using k)
/-- a new pair of what stands -/
theorem pair_rep {w : Wd} {H' H'' : Hp} {Z1 : Addr → Prop} {T : Addr} {x y : V} {d e : D} (hT : H' T = none) (eq : H'' = upd H' T (.tup [x, y])) (r1 : Rep w H' Z1 d x []) (r2 : Rep w H' Z1 e y []) :
    Ex H' H'' ∧ (∀ a, H' a = none → H'' a ≠ none → ∃ vs, H'' a = some (.tup vs)) ∧ Rep w H'' Z1 (.tup [d, e]) (.ref T) [] := by
  subst eq
  have ex := Ex.new (o := .tup [x, y]) hT
  refine ⟨ex, fun a n1 n2 => ?_, T, [x, y], rfl, SqT.of upd_same, x, [y], [], [], rfl, rfl, r1.ex ex, y, [], [], [], rfl, rfl, r2.ex ex, rfl, rfl⟩
  by_cases h : a = T
  · subst h
    exact ⟨_, upd_same⟩
  · rw [upd_ne h] at n2
    exact absurd n1 n2
def dEnum : List D → R (List D)
  | [.lst _ xs] => .ok (enumL 0 (frzs xs))
  | [.tup xs] => .ok (enumL 0 (frzs xs))
  | _ => .stk
def dZip : List D → R (List D)
  | [.lst _ xs, .lst _ ys] => .ok (zipL (frzs xs) (frzs ys))
  | [.tup xs, .tup ys] => .ok (zipL (frzs xs) (frzs ys))
  | _ => .stk
theorem nx_enum : NoX dEnum := fun a c fs h => by
  unfold dEnum at h
  split at h <;> cases h
theorem nx_zip : NoX dZip := fun a c fs h => by
  unfold dZip at h
  split at h <;> cases h
section
variable {X : Cx} {W : WX} {w : Wd} {e e2 : Expr} {elts : List Expr} {kk : Nat} {p pos tpos : Pos} {ss : Env → R (List D)} {u : List Nat}
theorem own_in {w : Wd} {H : Hp} {Z : Addr → Prop} {o : Bool} {xs : List D} {a : Addr} {F : List Addr} (r : Rep w H Z (.lst o xs) (.ref a) F) : Z a ∨ a ∈ F := by
  obtain ⟨a', vs', F', e, _, f, _⟩ := r
  cases e
  cases o with
  | true =>
    obtain rfl : F = a :: F' := f
    exact .inr (List.mem_cons_self ..)
  | false => exact .inl f.1
theorem ki_enum (hg : Gl X "enumerate") (hm : X.mg "enumerate" = none) (ha : KA X W [e] ss u) (hs : starEach [e] X.env = [(false, eval e X.env)] := by rfl) : KI X W (.Tuple elts kk tpos) (.Call (.Name "enumerate" p) [e] [] pos) (fun env => ss env >>= dEnum) u :=
  pi_imp (vs_pi_enum hg hm ha hs) fun σ H R q => by
    obtain ⟨Z, env, Fs, E, q⟩ := q
    refine ⟨Z, env, Fs, E, (q.bind (Ex.refl H) (fun _ z => z)).imp (Ex.refl H) (fun _ z => z) fun ds _ q vs H1 e1 r1 => ?_⟩
    obtain ⟨its, ei, q⟩ := q.noX fun c fs => nx_enum ds c fs
    obtain ⟨Z2, F, rr, nd, f2, z2⟩ := r1
    have z1 : ∀ a, (Z2 a ∨ a ∈ F) → (Zu Z Fs u a ∨ H a = none) ∧ H1 a ≠ none := fun a z => by
      rcases z with z | z
      · exact ⟨(z2 a z).1.imp id fun q => q.elim (fun m => (by cases m)) id, (z2 a z).2⟩
      · exact ⟨.inr ((f2 a z).1.elim id fun m => (by cases m)), rr.dom a z⟩
    unfold dEnum at ei
    split at ei
    · rename_i o xs _
      cases ei
      obtain ⟨x, rfl, r⟩ := rr.one
      obtain ⟨a, vs, G, rfl, hs', q', ss'⟩ := r.lstSq
      have qf := q'.frz (Z' := fun a => Z2 a ∨ a ∈ F) (fun a z => .inl z) fun a m => .inr (ss'.subset m)
      have hl : vs.length = (enumL 0 (frzs xs)).length := by rw [enumL_len, qf.length]
      refine ⟨a, rfl, .inl ⟨vs, SqL.of hs', q _ H1 e1 ⟨fun a => Z2 a ∨ a ∈ F, fun H' => SqL X.K H' a vs, YPair (fun i => some (.int (i : Nat))) (fun i => vs[i]?), by rw [← hl]; exact walk_enum, z1, fun H' k => SqL.of (k a _ hs' (.inl (own_in r))), fun i H' x H'' hi k y => ?_⟩⟩⟩
      obtain ⟨T, x1, y1, rfl, hT, eH, h1, h2⟩ := y
      cases h1
      obtain ⟨d, hd, rd⟩ := reps_items (k.stayss qf) h2
      obtain ⟨a1, a2, a3⟩ := pair_rep (w := wd X) hT eH (show Rep (wd X) H' (fun a => Z2 a ∨ a ∈ F) (.int (i : Nat)) (.int (i : Nat)) [] from ⟨rfl, rfl⟩) rd
      exact ⟨a1, a2, _, by have := enumL_get (k := 0) hd; rwa [Nat.zero_add] at this, a3⟩
    · rename_i xs _
      cases ei
      obtain ⟨x, rfl, r⟩ := rr.one
      obtain ⟨a, vs, rfl, hs', q'⟩ := r
      have qf := q'.frz (Z' := fun a => Z2 a ∨ a ∈ F) (fun a z => .inl z) fun a m => .inr m
      have hl : vs.length = (enumL 0 (frzs xs)).length := by rw [enumL_len, qf.length]
      refine ⟨a, rfl, .inr ⟨vs, hs', q _ H1 e1 ⟨fun a => Z2 a ∨ a ∈ F, fun H' => SqT X.K H' a vs, YPair (fun i => some (.int (i : Nat))) (fun i => vs[i]?), by rw [← hl]; exact vs_walk_enumT, z1, fun H' k => sqT_stay hs' fun o q t => k a o q (.inr t), fun i H' x H'' hi k y => ?_⟩⟩⟩
      obtain ⟨T, x1, y1, rfl, hT, eH, h1, h2⟩ := y
      cases h1
      obtain ⟨d, hd, rd⟩ := reps_items (k.stayss qf) h2
      obtain ⟨a1, a2, a3⟩ := pair_rep (w := wd X) hT eH (show Rep (wd X) H' (fun a => Z2 a ∨ a ∈ F) (.int (i : Nat)) (.int (i : Nat)) [] from ⟨rfl, rfl⟩) rd
      exact ⟨a1, a2, _, by have := enumL_get (k := 0) hd; rwa [Nat.zero_add] at this, a3⟩
    · cases ei
end
end Vs
set_option maxHeartbeats 2000000
/-! Vs14: short words for the meanings that the printer writes. -/
namespace Vs
open PySem L2
@[simp] def bin (f : D → D → R D) (a b : Env → R D) (env : Env) : R D := a env >>= fun x => b env >>= fun y => f x y
@[simp] def binB (f : D → D → R D) (a b : Env → R D) (env : Env) : R Bool := a env >>= fun x => b env >>= fun y => f x y >>= asB
@[simp] def una (f : D → R D) (a : Env → R D) (env : Env) : R D := a env >>= f
@[simp] def cst (d : D) (_env : Env) : R D := .ok d
@[simp] def argN (_env : Env) : R (List D) := .ok []
@[simp] def argC (s : Env → R D) (ss : Env → R (List D)) (env : Env) : R (List D) := s env >>= fun d => ss env >>= fun ds => .ok (d :: ds)
@[simp] def app (f : List D → R D) (ss : Env → R (List D)) (env : Env) : R D := ss env >>= f
@[simp] def itm (f : List D → R (List D)) (ss : Env → R (List D)) (env : Env) : R (List D) := ss env >>= f
@[simp] def itx (f : List D → R (List D)) (ss : Env → R (List D)) (env : Env) : R (List D) := nx (ss env) >>= f
@[simp] def seqI (s : Env → R D) (env : Env) : R (List D) := s env >>= dItems
@[simp] def chn (f g : D → D → R D) (a b c : Env → R D) (env : Env) : R D := a env >>= fun x => b env >>= fun y => f x y >>= asB >>= fun k => if k = true then c env >>= fun z => g y z else .ok (.bl false)
@[simp] def chnT (f g : D → D → R D) (a b c : Env → R D) (env : Env) : R Bool := (a env >>= fun x => b env >>= fun y => f x y >>= asB >>= fun k => if k = true then c env >>= fun z => g y z else .ok (.bl false)) >>= asB
@[simp] def andT (a b : Env → R Bool) (env : Env) : R Bool := a env >>= fun k => if k = true then b env else .ok false
@[simp] def orT (a b : Env → R Bool) (env : Env) : R Bool := a env >>= fun k => if k = true then .ok true else b env
@[simp] def notT (a : Env → R Bool) (env : Env) : R Bool := a env >>= fun b => .ok (!b)
@[simp] def truT (a : Env → R D) (env : Env) : R Bool := a env >>= dTru
@[simp] def andV (a b : Env → R D) (env : Env) : R D := a env >>= fun x => dTru x >>= fun k => if k = true then b env else .ok x
@[simp] def orV (a b : Env → R D) (env : Env) : R D := a env >>= fun x => dTru x >>= fun k => if k = true then .ok x else b env
@[simp] def notV (a : Env → R D) (env : Env) : R D := a env >>= asB >>= fun b => .ok (.bl (!b))
@[simp] def iteE (t : Env → R Bool) (a b : Env → R D) (env : Env) : R D := t env >>= fun k => if k = true then a env else b env
@[simp] def noI (_env : Env) : R (Option Int) := .ok none
@[simp] def soI (s : Env → R D) (env : Env) : R (Option Int) := s env >>= asI
@[simp] def slc (s : Env → R D) (l h : Env → R (Option Int)) (env : Env) : R D := s env >>= fun x => l env >>= fun l => h env >>= fun h => dSl x l h
@[simp] def met (T : String) (f : D → List D → R D) (s : Env → R D) (ss : Env → R (List D)) (env : Env) : R D := s env >>= fun x => chk (tyOf T x) >>= fun _ => ss env >>= fun xs => f x xs
@[simp] def fmt (s : Env → R D) (env : Env) : R Str := s env >>= dFmt
@[simp] def csS (z : Str) (_env : Env) : R Str := .ok z
@[simp] def yes (_env : Env) : R Bool := .ok true
@[simp] def gNil' (ds : List D) (env : Env) : R Env := match ds with | [] => .ok env | _ => .stk
@[simp] def gCons' (t : TgS) (ts : TgsS) (ds : List D) (env : Env) : R Env := match ds with | d :: ds => t d env >>= fun env1 => ts ds env1 | [] => .stk
@[simp] def gTup' (n : Nat) (ts : TgsS) (d : D) (env : Env) : R Env := match d with | .tup ds => if ds.length = n then ts ds env else .stk | _ => .stk
@[simp] def one (s : Env → R D) (env : Env) : R (List D) := s env >>= fun d => .ok [d]
section
variable {X : Cx} {W : WX}
theorem hu64 {A : Around} {k : Nat} (hr : Room k A) : A.units + 64 < cLine := hr.units
theorem hu65 {A : Around} {k : Nat} (hr : Room k A) : A.units + 65 < cLine := by have := hr.un; omega
/-- a text of the module -/
theorem ke_globS {x z : Str} {pos : Pos} (hg : Gl X x) (hm : ∃ t, X.mg x = some (.str z t)) (hd : (x == ("__debug__" : Str)) = false := by decide) : KE X W (.Name x pos) (fun _ => .ok (.str z)) [] := by
  obtain ⟨t, h⟩ := hm
  exact ke_c (pe_glob hg h (v := .str z) ⟨t, rfl⟩ hd) fun _ _ => ⟨rfl, rfl⟩
theorem ke_globI {x : Str} {z : Int} {pos : Pos} (hg : Gl X x) (hm : ∃ t, X.mg x = some (.int z t)) (hd : (x == ("__debug__" : Str)) = false := by decide) : KE X W (.Name x pos) (fun _ => .ok (.int z)) [] := by
  obtain ⟨t, h⟩ := hm
  exact ke_c (pe_glob hg h (v := .int z) ⟨t, rfl⟩ hd) fun _ _ => ⟨rfl, rfl⟩
end
end Vs
set_option maxHeartbeats 2000000
/-! Vs15: the rules of a def as the printer uses them. -/
namespace Vs
open PySem L2
section
variable {P : Program} {w : World} {K : PySem.W.Frag} {mg : Str → Option Value} {base : Heap} {k : Nat} {x c : Str} {n : Nat} {m m' : List D → R D}
theorem KMk.mono {j : Nat} (F : KMk P w K mg base j c n m) (h : j ≤ k) : KMk P w K mg base k c n m := by
  obtain ⟨C, f, fd, ps, h1, h2, h3, h4, h5⟩ := F.ex
  exact ⟨C, f, fd, ps, h1, h2, h3, h4, h5.mono h⟩
/-- no answer: the bottom of a recursion -/
theorem KFn.none (h : ∃ (f : Addr) (fd : FuncData) (ps : List Str), mg x = some (.ref f) ∧ PySem.W.keepIn K (.ref f) = true ∧ Binds K fd ps [] ∧ ps.length = n) : KFn P w K mg base 0 x n fun _ => .stk := by
  obtain ⟨f, fd, ps, h1, h2, h3, h4⟩ := h
  refine ⟨f, fd, ps, h1, h2, h3, h4, ⟨fun vs H Q E q => ?_, fun A outer s H args us vs Q E _ _ _ _ q => ?_⟩⟩
  · rw [spD_len q, h4]
  · obtain ⟨_, _, _, _, _, q⟩ := q
    exact q.elim
theorem fn_mk3 {qual : Str} {st : Stmt} {f : Addr} {fd : FuncData} {N ps : List Str} {sb : Env → S} (F : Fun K x qual st f fd) (S : FnScope N ps (defScope st)) (hn : ps.length = n) {l : Nat} (hl : N.length = l)
    (hbody : ∀ (cdv : Value) (A : Around) (outer : List PySem.Env) (s : Shared) (H : Hp) (E : XK), Room k (A.deeper (PyProof.Rows.envOfC qual (defScope st) s.heap.objs.size f cdv)) →
      Takes (cxOf (L2.CX P w) P w K mg base N qual (defScope st) f cdv A outer s H E) (WE1 E) →
      KSs (cxOf (L2.CX P w) P w K mg base N qual (defScope st) f cdv A outer s H E) (WE1 E) [] (defBody st) sb) : FnOk P w K mg base (L2.CX P w) (k + 1) f fd ps (spD ⟨K, mg⟩ n (runB l sb)) :=
  hl ▸ fn_mk F S hn fun cdv A outer s H E hr => hbody cdv A outer s H E hr (takes_of rfl rfl rfl rfl)
theorem KFn.mk3 {qual : Str} {st : Stmt} {f : Addr} {fd : FuncData} {N ps : List Str} {sb : Env → S} (F : Fun K x qual st f fd) (S : FnScope N ps (defScope st)) (hx : mg x = some (.ref f)) (hb : Binds K fd ps []) (hn : ps.length = n) {l : Nat} (hl : N.length = l)
    (hbody : ∀ (cdv : Value) (A : Around) (outer : List PySem.Env) (s : Shared) (H : Hp) (E : XK), Room k (A.deeper (PyProof.Rows.envOfC qual (defScope st) s.heap.objs.size f cdv)) →
      Takes (cxOf (L2.CX P w) P w K mg base N qual (defScope st) f cdv A outer s H E) (WE1 E) →
      KSs (cxOf (L2.CX P w) P w K mg base N qual (defScope st) f cdv A outer s H E) (WE1 E) [] (defBody st) sb) : KFn P w K mg base (k + 1) x n (runB l sb) :=
  .of hx F.kp hb hn (fn_mk3 F S hn hl hbody)
theorem KMk.mk3 {qual x : Str} {st : Stmt} {C f : Addr} {fd : FuncData} {N ps : List Str} {sb : Env → S} (F : Fun K x qual st f fd) (S : FnScope N ps (defScope st)) (hc : mg c = some (.ref C)) (hM : Mk K C f) (hb : Binds K fd ps []) (hn : ps.length = n + 1) {l : Nat} (hl : N.length = l)
    (hbody : ∀ (cdv : Value) (A : Around) (outer : List PySem.Env) (s : Shared) (H : Hp) (E : XK), Room k (A.deeper (PyProof.Rows.envOfC qual (defScope st) s.heap.objs.size f cdv)) →
      Takes (cxOf (L2.CX P w) P w K mg base N qual (defScope st) f cdv A outer s H E) (WE1 E) →
      KSs (cxOf (L2.CX P w) P w K mg base N qual (defScope st) f cdv A outer s H E) (WE1 E) [0] (defBody st) sb) : KMk P w K mg base (k + 1) c n (runI l c sb) :=
  hl ▸ KMk.mk' F S hc hM hb hn fun cdv A outer s H E hr => hbody cdv A outer s H E hr (takes_of rfl rfl rfl rfl)
end
section
variable {X : Cx} {W : WX} {pos p : Pos} {x : Str} {k n : Nat} {m : List D → R D}
/-- f() -/
theorem ke_call0 (F : KFn X.prog X.w X.K X.mg X.base k x 0 m) (hr : Room k X.A) (hg : Gl X x) (hdb : (x == ("__debug__" : Str)) = false := by decide) :
    KE X W (.Call (.Name x p) [] [] pos) (fun _ => nx (callN 0 m [])) [] := by
  obtain ⟨f, fd, ps, h1, h2, h3, h4, h5⟩ := F.ex
  refine pe_imp (pe_call0 (E := E0) h5 hr hg h1 h2 h3 .nil passL hdb) fun σ H Q q => ?_
  obtain ⟨Z, env, Fs, E, q⟩ := q
  have q : Pst (wd X) W σ H (Zu Z Fs []) (nx (m [])) fun d => ∀ v H2, Ex H H2 → Res (wd X) H (Zu Z Fs []) [] H2 d v → Q v H2 := q
  refine ⟨Zu Z Fs [], [], ⟨rfl, rfl⟩, rfl, fun a z => ?_, ?_⟩
  · exact Zu.dom E a z
  · show Pst _ _ _ _ _ (m []) _
    revert q
    cases m [] with
    | ok d => exact fun q => q
    | exc c fs => exact fun q => q.elim
    | stk => exact fun q => q
end
end Vs
set_option maxHeartbeats 2000000
/-! Vs16: from the law's answer to the row; facts of classes. -/
namespace Vs
open PySem PySem.Spec PyProof.Rows PySem.W L2
theorem spD_law {K : PySem.W.Frag} {mg : Str → Option Value} {m : List D → R D} {H : Hp} {a : Addr} {ns : List Int} (hm : m [.scr ns] = .ok (.bl true)) (h : SqL K H a (ns.map V.int)) : spD ⟨K, mg⟩ 1 m [.ref a] H (fun v _ => v = .bl true) fun _ _ _ => False := by
  refine ⟨fun b => b = a ∧ H a ≠ none, [.scr ns], ⟨.ref a, [], [], [], rfl, rfl, ⟨a, rfl, rfl, ?_⟩, rfl, rfl⟩, rfl, fun b z => by rw [z.1]; exact z.2, ?_⟩
  · rcases h with h | h
    · rcases h with h | h
      · exact .inl ⟨⟨rfl, by rw [h]; exact fun z => by cases z⟩, h⟩
      · exact .inr (.inl h)
    · exact .inr (.inr h)
  · rw [hm]
    intro v H' _ r
    obtain ⟨_, _, r, _⟩ := r
    exact r.1
theorem vs_walk {l : PySem.W.OpenLaw} {most lev : Nat} {q : Program} {loose : List Str} {XP : (Str → Option Value) → Heap → Prop} {YP : World → Heap → Prop} {d : DefRec} {x : Str} (h1 : l.most = some most) (h2 : most ≤ sizeLine) (h3 : d.params.defaults = []) (h4 : Room lev callerA)
    (F : ∀ (w : World) (mg : Str → Option Value) (f : Addr) (h : Heap), YP w h → h.Ns mainGlobals mg → mg d.name = some (.ref f) → ∃ (K : PySem.W.Frag) (fd : FuncData) (m : List D → R D), K.In h ∧ (∀ (s : Shared) (u : Value), BindsTo s fd ⟨[u], []⟩ [(x, u)]) ∧ (∀ ns : List Int, ns.length ≤ most → m [.scr ns] = .ok (.bl true)) ∧
      ∀ base : Heap, K.In base → base.Ns mainGlobals mg → FnOk l.prog w K mg base (L2.CX l.prog w) lev f fd [x] (spD ⟨K, mg⟩ 1 m)) : PySem.W.WalkO q loose XP YP l.row.toRowW d [] (fun f vs => PySem.call f vs) := by
  refine Att.attach_call h1 h3 fun w s₀ s₁ mg mb f o pm cd doc a vs ns G Y ho hd hcd hmg hobj hints hlen hg => ?_
  obtain ⟨K, fd, m, KX, hb, hm, hF⟩ := F w mg f _ Y G.T.g hmg
  exact law_call KX G.T.g G.T.b G.T.builtins G.T.nolimit hg hobj hints (Nat.le_trans hlen h2) h4 hF hb (fun H _ hS => spD_law (hm ns hlen) hS) fun H e s' c => by
    obtain ⟨_, _, _, _, _, _, _, _, _, _, _, _, z⟩ := c
    exact z
/-- a def of the text with no defaults -/
theorem fun_of {K : PySem.W.Frag} {x qual : Str} {st : Stmt} {f : Addr} {fd : FuncData} (F : FunD K x qual (defArgs st) (defBody st) (defScope st) [] [] f fd) : Fun K x qual st f fd := by
  obtain ⟨oc, od, dV, kV, doc, pm, an, cdv, ct, osl, e, lk, hcd, hD, _⟩ := F.ex
  rcases hD with ⟨_, rfl⟩ | ⟨z, _⟩
  · exact ⟨⟨oc, od, kV, doc, pm, an, cdv, ct, osl, e, lk, hcd⟩, F.kp⟩
  · exact absurd rfl z
theorem V_ref {a b : Addr} (h : some (Value.ref a) = some (Value.ref b)) : a = b := by cases h; rfl
/-! ### a hook with one more look -/
section
open He
def obsV (n : Nat) (fa : List Fa) (fn : List DefD) (more : PySem.W.Frag → Bool) (g : Addr → Option Obj) : AlD × Bool := (obsD fa fn (frG g (asD g n)), more (frG g (asD g n)))
def hookV (n : Nat) (fa : List Fa) (fn : List DefD) (more : PySem.W.Frag → Bool) : PySem.W.Hook where
  α := AlD × Bool
  obs := fun s => obsV n fa fn more s.heap.get?
  val := fun _ => (valD fn, true)
  says := fun _ h => ∃ K : PySem.W.Frag, K.In h ∧ (SaysD fa fn K ∧ more K = true)
  of := fun _ _ e => ⟨_, frG_in, congrArg Prod.fst e, congrArg Prod.snd e⟩
  keeps := fun _ _ _ ⟨K, hK, c⟩ k => ⟨K, PySem.W.Frag.In.keeps hK k, c⟩
theorem obsV_hook {n : Nat} {fa : List Fa} {fn : List DefD} {more : PySem.W.Frag → Bool} {g : Addr → Option Obj} {s : Shared} (h : ∀ a, g a = s.heap.get? a) : obsV n fa fn more g = (hookV n fa fn more).obs s := by
  obtain rfl : g = s.heap.get? := funext h
  rfl
def isaB (K : PySem.W.Frag) (c : Str) : Bool := (Fa.cls c).ok K && (decide (PySem.W.findIn K (.ref (ga K c)) "__class__" = some (some (.builtin "object.__class__"))) && (decide (PySem.W.specialIn K (.builtin "object.__class__") "__get__" = some (some (.builtin "getset_descriptor.__get__"))) &&
  (decide (PySem.W.takesIn K (.builtin "object.__class__") = some true) && decide (PySem.W.mroIn K (ga K c) (.type "object") = some true))))
theorem isaB_ok {K : PySem.W.Frag} {c : Str} (h : isaB K c = true) : IsaOk K (ga K c) := by
  unfold isaB at h
  simp only [Bool.and_eq_true, decide_eq_true_eq] at h
  exact ⟨cls_ok h.1, h.2.1, h.2.2.1, h.2.2.2.1, h.2.2.2.2⟩
end
end Vs
set_option maxHeartbeats 2000000
set_option exponentiation.threshold 10000
/-! Vs17: evaluating meanings. -/
namespace Vs
open PySem L2
theorem bind_ok2 {α β : Type} {x : R α} {a : α} {f : α → R β} {r : R β} (h : x = .ok a) (h2 : f a = r) : (x >>= f) = r := by
  subst h
  exact h2
@[simp] theorem okb {α β : Type} (a : α) (f : α → R β) : (R.ok a >>= f) = f a := rfl
@[simp] theorem stkb {α β : Type} (f : α → R β) : ((R.stk : R α) >>= f) = .stk := rfl
/-! one slot -/
theorem ld_eq {i : Nat} {env : Env} {d : D} (h : env[i]? = some (some d)) : ld i env = .ok (frz d) := by
  unfold ld
  rw [h]
@[simp] theorem ld_0 (d : D) (e : Env) : ld 0 (some d :: e) = .ok (frz d) := rfl
@[simp] theorem ld_s (i : Nat) (o : Option D) (e : Env) : ld (i + 1) (o :: e) = ld i e := rfl
@[simp] theorem frz_int (i : Int) : frz (.int i) = .int i := rfl
@[simp] theorem frz_str (i : Str) : frz (.str i) = .str i := rfl
@[simp] theorem frz_bl (i : Bool) : frz (.bl i) = .bl i := rfl
@[simp] theorem frz_non : frz .non = .non := rfl
@[simp] theorem frz_scr (ns : List Int) : frz (.scr ns) = .scr ns := rfl
@[simp] theorem frz_tup (ds : List D) : frz (.tup ds) = .tup (frzs ds) := rfl
@[simp] theorem frz_lst (o : Bool) (ds : List D) : frz (.lst o ds) = .lst false (frzs ds) := rfl
@[simp] theorem frzs_nil : frzs [] = [] := rfl
@[simp] theorem frzs_cons (d : D) (ds : List D) : frzs (d :: ds) = frz d :: frzs ds := rfl
@[simp] theorem frzs_map_int (ns : List Int) : frzs (ns.map .int) = ns.map .int := by
  induction ns with
  | nil => rfl
  | cons n ns ih => exact congrArg (D.int n :: ·) ih
@[simp] theorem frzs_map_str (ns : List Str) : frzs (ns.map .str) = ns.map .str := by
  induction ns with
  | nil => rfl
  | cons n ns ih => exact congrArg (D.str n :: ·) ih
theorem frzs_map (ds : List D) : frzs ds = ds.map frz := by
  induction ds with
  | nil => rfl
  | cons d ds ih => exact congrArg (frz d :: ·) ih
/-- nothing in it can be changed -/
def Hard (d : D) : Prop := frz d = d ∧ hasFz d = false
theorem Hard.frz {d : D} (h : Hard d) : Vs.frz d = d := h.1
theorem hards {ds : List D} (h : ∀ d ∈ ds, Hard d) : frzs ds = ds ∧ hasFzs ds = false := by
  induction ds with
  | nil => exact ⟨rfl, rfl⟩
  | cons d ds ih =>
    obtain ⟨a, b⟩ := h d (List.mem_cons_self ..)
    obtain ⟨c, e⟩ := ih fun d m => h d (List.mem_cons_of_mem _ m)
    exact ⟨by rw [frzs_cons, a, c], by show (hasFz d || hasFzs ds) = false; rw [b, e]; rfl⟩
theorem Hard.tup {ds : List D} (h : ∀ d ∈ ds, Hard d) : Hard (.tup ds) := ⟨by rw [frz_tup, (hards h).1], (hards h).2⟩
@[simp] theorem hasFz_int (i : Int) : hasFz (.int i) = false := rfl
@[simp] theorem hasFz_str (i : Str) : hasFz (.str i) = false := rfl
@[simp] theorem hasFz_bl (i : Bool) : hasFz (.bl i) = false := rfl
@[simp] theorem hasFz_non : hasFz .non = false := rfl
@[simp] theorem hasFz_tup (ds : List D) : hasFz (.tup ds) = hasFzs ds := rfl
@[simp] theorem hasFz_lst (ds : List D) : hasFz (.lst true ds) = hasFzs ds := rfl
@[simp] theorem hasFz_lstf (ds : List D) : hasFz (.lst false ds) = true := rfl
@[simp] theorem hasFzs_nil : hasFzs [] = false := rfl
@[simp] theorem hasFzs_cons (d : D) (ds : List D) : hasFzs (d :: ds) = (hasFz d || hasFzs ds) := rfl
@[simp] theorem hasFzs_map_int (ns : List Int) : hasFzs (ns.map .int) = false := by
  induction ns with
  | nil => rfl
  | cons n ns ih => exact ih
@[simp] theorem hasFzs_map_str (ns : List Str) : hasFzs (ns.map .str) = false := by
  induction ns with
  | nil => rfl
  | cons n ns ih => exact ih
theorem hasFzs_append (xs ys : List D) : hasFzs (xs ++ ys) = (hasFzs xs || hasFzs ys) := by
  induction xs with
  | nil => rfl
  | cons d ds ih => rw [List.cons_append, hasFzs_cons, hasFzs_cons, ih, Bool.or_assoc]
/-! statements, unfolded where the slots stand -/
def S.andThen (s : S) (t : Env → S) : S := match s with
  | .nxt e => t e
  | r => r
@[simp] theorem andThen_nxt (e : Env) (t : Env → S) : (S.nxt e).andThen t = t e := rfl
@[simp] theorem andThen_ret (d : D) (t : Env → S) : (S.ret d).andThen t = .ret d := rfl
@[simp] theorem andThen_brk (e : Env) (t : Env → S) : (S.brk e).andThen t = .brk e := rfl
@[simp] theorem andThen_cnt (e : Env) (t : Env → S) : (S.cnt e).andThen t = .cnt e := rfl
@[simp] theorem andThen_stk (t : Env → S) : S.stk.andThen t = .stk := rfl
@[simp] theorem andThen_if (c : Prop) [Decidable c] (a b : S) (t : Env → S) : (if c then a else b).andThen t = if c then a.andThen t else b.andThen t := by split <;> rfl
@[simp] theorem andThen_assoc (s : S) (f g : Env → S) : (s.andThen f).andThen g = s.andThen fun e => (f e).andThen g := by cases s <;> rfl
@[simp] theorem seqS_ev (s t : Env → S) (env : Env) : seqS s t env = (s env).andThen t := rfl
/-- where an expression's answer goes on -/
def R.go {α : Type} (r : R α) (us : List Nat) (env : Env) (f : α → S) : S := match r with
  | .ok a => f a
  | .exc c fs => .exc c fs (frzEnv us env)
  | .stk => .stk
@[simp] theorem go_ok {α : Type} (a : α) (us : List Nat) (env : Env) (f : α → S) : (R.ok a).go us env f = f a := rfl
@[simp] theorem go_if {α : Type} (c : Prop) [Decidable c] (a b : R α) (us : List Nat) (env : Env) (f : α → S) : (if c then a else b).go us env f = if c then a.go us env f else b.go us env f := by split <;> rfl
@[simp] theorem retS_ev (s : Env → R D) (us : List Nat) (env : Env) : retS s us env = (s env).go us env .ret := by
  unfold retS R.go
  cases s env <;> rfl
@[simp] theorem dropS_ev (s : Env → R D) (us : List Nat) (env : Env) : dropS s us env = (s env).go us env fun _ => .nxt env := by
  unfold dropS R.go
  cases s env <;> rfl
def brS (b : Bool) (s t : Env → S) (env : Env) : S := if b = true then s env else t env
@[simp] theorem brS_t (s t : Env → S) (env : Env) : brS true s t env = s env := rfl
@[simp] theorem brS_f (s t : Env → S) (env : Env) : brS false s t env = t env := rfl
@[simp] theorem ifS_ev (c : Env → R Bool) (us : List Nat) (s t : Env → S) (env : Env) : ifS c us s t env = (c env).go us env fun b => brS b s t env := by
  unfold ifS R.go
  cases c env <;> rfl
def R.toS (r : R Env) : S := match r with
  | .ok e => .nxt e
  | _ => .stk
@[simp] theorem toS_ok (e : Env) : (R.ok e).toS = .nxt e := rfl
@[simp] theorem asgS_ev (t : TgS) (s : Env → R D) (us : List Nat) (env : Env) : asgS t s us env = (s env).go us env fun d => (t d (asgE d us env)).toS := by
  unfold asgS R.go R.toS
  cases s env with
  | ok d => cases t d (asgE d us env) <;> rfl
  | _ => rfl
@[simp] theorem asgE_ev (d : D) (us : List Nat) (env : Env) : asgE d us env = if hasFz d = true then frzEnv us env else env := rfl
@[simp] theorem tgN_ev (i : Nat) (d : D) (env : Env) : tgN i d env = .ok (env.set i (some d)) := rfl
@[simp] theorem retV_0 (d : D) (e : Env) : retV 0 (some d :: e) = .ret d := rfl
@[simp] theorem retV_s (i : Nat) (o : Option D) (e : Env) : retV (i + 1) (o :: e) = retV i e := rfl
@[simp] theorem runB_ev (n : Nat) (s : Env → S) (ds : List D) : runB n s ds = match s (env0 n ds) with
  | .nxt _ => .ok .non
  | .ret d => .ok d
  | .exc c fs _ => .exc c fs
  | _ => .stk := rfl
@[simp] theorem env0_ev (n : Nat) (ds : List D) : env0 n ds = ds.map some ++ List.replicate (n - ds.length) none := rfl
@[simp] theorem callN_ev (n : Nat) (m : List D → R D) (ds : List D) : callN n m ds = if ds.length = n then m (frzs ds) else .stk := rfl
@[simp] theorem nx_ok2 {α : Type} (a : α) : nx (R.ok a) = .ok a := rfl
@[simp] theorem asB_bl (b : Bool) : asB (.bl b) = .ok b := rfl
@[simp] theorem asI_int (b : Int) : asI (.int b) = .ok (some b) := rfl
@[simp] theorem dTru_bl (b : Bool) : dTru (.bl b) = .ok b := rfl
@[simp] theorem dTru_non : dTru .non = .ok false := rfl
@[simp] theorem dAdd_int (a b : Int) : dAdd (.int a) (.int b) = .ok (.int (a + b)) := rfl
@[simp] theorem dSub_int (a b : Int) : dSub (.int a) (.int b) = .ok (.int (a - b)) := rfl
@[simp] theorem dNeg_int (a : Int) : dNeg (.int a) = .ok (.int (-a)) := rfl
@[simp] theorem dInt_int (a : Int) : dInt [.int a] = .ok (.int a) := rfl
@[simp] theorem dLt_int (a b : Int) : dLt (.int a) (.int b) = .ok (.bl (decide (a < b))) := rfl
@[simp] theorem dLe_int (a b : Int) : dLe (.int a) (.int b) = .ok (.bl (decide (a ≤ b))) := rfl
@[simp] theorem dGt_int (a b : Int) : dGt (.int a) (.int b) = .ok (.bl (decide (b < a))) := rfl
@[simp] theorem dGe_int (a b : Int) : dGe (.int a) (.int b) = .ok (.bl (decide (b ≤ a))) := rfl
@[simp] theorem dEq_int (a b : Int) : dEq (.int a) (.int b) = .ok (.bl (decide (a = b))) := rfl
@[simp] theorem dEq_str (a b : Str) : dEq (.str a) (.str b) = .ok (.bl (decide (a = b))) := rfl
@[simp] theorem dNe_int (a b : Int) : dNe (.int a) (.int b) = .ok (.bl (!decide (a = b))) := rfl
@[simp] theorem dNe_str (a b : Str) : dNe (.str a) (.str b) = .ok (.bl (!decide (a = b))) := rfl
@[simp] theorem dLen_lst (o : Bool) (xs : List D) : dLen [.lst o xs] = .ok (.int xs.length) := rfl
@[simp] theorem dLen_tup (xs : List D) : dLen [.tup xs] = .ok (.int xs.length) := rfl
@[simp] theorem dLen_scr (xs : List Int) : dLen [.scr xs] = .ok (.int xs.length) := rfl
theorem dLen_str {z : Str} (h : z.length ≤ SZ) : dLen [.str z] = .ok (.int z.length) := if_pos h
theorem dMod_int (a : Int) {b : Int} (h : 0 < b) : dMod (.int a) (.int b) = .ok (.int (a % b)) := if_pos h
theorem dDiv_int (a : Int) {b : Int} (h : 0 < b) (h2 : b.natAbs < 2 ^ 8000) : dDiv (.int a) (.int b) = .ok (.int (a / b)) := if_pos ⟨h, h2⟩
theorem p64 {n : Nat} (h : n < 18446744073709551616) : n < 2 ^ 8000 := Nat.lt_of_lt_of_le (show n < 2 ^ 64 from h) (Nat.pow_le_pow_right (by decide) (by decide))
theorem dDiv64 (a : Int) {b : Int} (h : 0 < b) (h2 : b.natAbs < 18446744073709551616) : dDiv (.int a) (.int b) = .ok (.int (a / b)) := dDiv_int a h (p64 h2)
theorem dMul_int {a b : Int} (h : mulOk a b) : dMul (.int a) (.int b) = .ok (.int (a * b)) := if_pos h
theorem mulOk_of {a b : Int} (h : a.natAbs < 18446744073709551616) (h2 : b.natAbs < 18446744073709551616) : mulOk a b := ⟨Nat.lt_of_lt_of_le (show a.natAbs < 2 ^ 64 from h) (Nat.pow_le_pow_right (by decide) (by decide)), Nat.lt_of_lt_of_le (show b.natAbs < 2 ^ 64 from h2) (Nat.pow_le_pow_right (by decide) (by decide))⟩
theorem dIx_lst {o : Bool} {xs : List D} {i : Nat} {d : D} (h : xs[i]? = some d) : dIx (.lst o xs) (.int (i : Nat)) = .ok d := by
  show (match atI xs (i : Int) with | some d => R.ok d | none => .stk) = _
  rw [atI_nat h]
theorem dIx_tup {xs : List D} {i : Nat} {d : D} (h : xs[i]? = some d) : dIx (.tup xs) (.int (i : Nat)) = .ok d := by
  show (match atI xs (i : Int) with | some d => R.ok d | none => .stk) = _
  rw [atI_nat h]
theorem dIx_lst' {o : Bool} {xs : List D} {k : Int} {d : D} (i : Nat) (hk : k = i) (h : xs[i]? = some d) : dIx (.lst o xs) (.int k) = .ok d := by
  subst hk
  exact dIx_lst h
theorem dIx_tup' {xs : List D} {k : Int} {d : D} (i : Nat) (hk : k = i) (h : xs[i]? = some d) : dIx (.tup xs) (.int k) = .ok d := by
  subst hk
  exact dIx_tup h
@[simp] theorem dIx_t0 (d : D) (ds : List D) : dIx (.tup (d :: ds)) (.int 0) = .ok d := dIx_tup' 0 rfl rfl
@[simp] theorem dIx_t1 (d e : D) (ds : List D) : dIx (.tup (d :: e :: ds)) (.int 1) = .ok e := dIx_tup' 1 rfl rfl
@[simp] theorem dIx_t2 (d e f : D) (ds : List D) : dIx (.tup (d :: e :: f :: ds)) (.int 2) = .ok f := dIx_tup' 2 rfl rfl
@[simp] theorem dIx_l0 (o : Bool) (d : D) (ds : List D) : dIx (.lst o (d :: ds)) (.int 0) = .ok d := dIx_lst' 0 rfl rfl
@[simp] theorem dIx_l1 (o : Bool) (d e : D) (ds : List D) : dIx (.lst o (d :: e :: ds)) (.int 1) = .ok e := dIx_lst' 1 rfl rfl
@[simp] theorem dIx_l2 (o : Bool) (d e f : D) (ds : List D) : dIx (.lst o (d :: e :: f :: ds)) (.int 2) = .ok f := dIx_lst' 2 rfl rfl
@[simp] theorem dIx_l3 (o : Bool) (d e f g : D) (ds : List D) : dIx (.lst o (d :: e :: f :: g :: ds)) (.int 3) = .ok g := dIx_lst' 3 rfl rfl
@[simp] theorem mkLst_ev (ds : List D) : mkLst ds = if ds.length ≤ 100000 then .ok (.lst true ds) else .stk := rfl
@[simp] theorem mkTup_ev (ds : List D) : mkTup ds = if ds.length ≤ 100000 then .ok (.tup ds) else .stk := rfl
@[simp] theorem dListOf_lst (o : Bool) (xs : List D) : dListOf [.lst o xs] = .ok (.lst true xs) := rfl
@[simp] theorem dListOf_tup (xs : List D) : dListOf [.tup xs] = .ok (.lst true xs) := rfl
@[simp] theorem dTupleOf_lst (o : Bool) (xs : List D) : dTupleOf [.lst o xs] = .ok (.tup xs) := rfl
@[simp] theorem dTupleOf_tup (xs : List D) : dTupleOf [.tup xs] = .ok (.tup xs) := rfl
@[simp] theorem dMax2_int (i j : Int) : dMax2 [.int i, .int j] = .ok (.int (if j > i then j else i)) := rfl
@[simp] theorem dMin2_int (i j : Int) : dMin2 [.int i, .int j] = .ok (.int (if j < i then j else i)) := rfl
@[simp] theorem dIs_non (x : D) : dIs x .non = .ok (.bl (isNon x)) := by cases x <;> rfl
@[simp] theorem dIs_bl (x : D) (b : Bool) : dIs x (.bl b) = .ok (.bl (isBl b x)) := by cases x <;> rfl
@[simp] theorem dItems_lst (o : Bool) (xs : List D) : dItems (.lst o xs) = .ok (frzs xs) := rfl
@[simp] theorem dItems_tup (xs : List D) : dItems (.tup xs) = .ok (frzs xs) := rfl
@[simp] theorem dItems_scr (ns : List Int) : dItems (.scr ns) = .ok (ns.map .int) := rfl
@[simp] theorem dItems_str (z : Str) : dItems (.str z) = .ok (z.cps.toList.map fun c => .str ⟨#[c]⟩) := rfl
@[simp] theorem dEnum_lst (o : Bool) (xs : List D) : dEnum [.lst o xs] = .ok (enumL 0 (frzs xs)) := rfl
@[simp] theorem dEnum_tup (xs : List D) : dEnum [.tup xs] = .ok (enumL 0 (frzs xs)) := rfl
theorem hasFzs_strs {α : Type} (l : List α) (f : α → Str) : hasFzs (l.map fun a => D.str (f a)) = false := by
  induction l with
  | nil => rfl
  | cons a l ih => exact ih
theorem hasFzs_ints {α : Type} (l : List α) (f : α → Int) : hasFzs (l.map fun a => D.int (f a)) = false := by
  induction l with
  | nil => rfl
  | cons a l ih => exact ih
theorem frzs_strs {α : Type} (l : List α) (f : α → Str) : frzs (l.map fun a => D.str (f a)) = l.map fun a => D.str (f a) := by
  induction l with
  | nil => rfl
  | cons a l ih => exact congrArg (D.str (f a) :: ·) ih
theorem frzs_ints {α : Type} (l : List α) (f : α → Int) : frzs (l.map fun a => D.int (f a)) = l.map fun a => D.int (f a) := by
  induction l with
  | nil => rfl
  | cons a l ih => exact congrArg (D.int (f a) :: ·) ih
theorem frzs_bls {α : Type} (l : List α) (f : α → Bool) : frzs (l.map fun a => D.bl (f a)) = l.map fun a => D.bl (f a) := by
  induction l with
  | nil => rfl
  | cons a l ih => exact congrArg (D.bl (f a) :: ·) ih
/-! masks -/
def maskF (keep : List Nat) : Nat → Env → Env
  | _, [] => []
  | i, o :: e => (if i ∈ keep then o else none) :: maskF keep (i + 1) e
theorem mapIdx_mask (keep : List Nat) : ∀ (e : Env) (i : Nat), e.mapIdx (fun j o => if j + i ∈ keep then o else none) = maskF keep i e
  | [], _ => rfl
  | o :: e, i => by
    rw [List.mapIdx_cons]
    show (if 0 + i ∈ keep then o else none) :: _ = (if i ∈ keep then o else none) :: maskF keep (i + 1) e
    rw [Nat.zero_add, ← mapIdx_mask keep e (i + 1)]
    have : (fun (j : Nat) (o : Option D) => if j + 1 + i ∈ keep then o else none) = fun j o => if j + (i + 1) ∈ keep then o else none := by
      funext j o
      rw [Nat.add_assoc, Nat.add_comm 1 i]
    rw [this]
theorem mask_eq (keep : List Nat) (e : Env) : mask keep e = maskF keep 0 e := mapIdx_mask keep e 0
@[simp] theorem maskF_nil (keep : List Nat) (i : Nat) : maskF keep i [] = [] := rfl
@[simp] theorem maskF_cons (keep : List Nat) (i : Nat) (o : Option D) (e : Env) : maskF keep i (o :: e) = (if i ∈ keep then o else none) :: maskF keep (i + 1) e := rfl
@[simp] theorem frzEnv_nil (e : Env) : frzEnv [] e = e := rfl
@[simp] theorem frzEnv_cons (i : Nat) (us : List Nat) (e : Env) : frzEnv (i :: us) e = frzEnv us (frzAt i e) := rfl
@[simp] theorem frzAt_0s (d : D) (e : Env) : frzAt 0 (some d :: e) = some (frz d) :: e := rfl
@[simp] theorem frzAt_0n (e : Env) : frzAt 0 (none :: e) = none :: e := rfl
@[simp] theorem frzAt_s (i : Nat) (o : Option D) (e : Env) : frzAt (i + 1) (o :: e) = o :: frzAt i e := by
  show (match (o :: e)[i + 1]? with | some (some d) => (o :: e).set (i + 1) (some (frz d)) | _ => o :: e) = o :: (match e[i]? with | some (some d) => e.set i (some (frz d)) | _ => e)
  rw [List.getElem?_cons_succ]
  cases e[i]? with
  | none => rfl
  | some o' => cases o' <;> rfl
@[simp] theorem wipeE_nil (e : Env) : wipeE e [] = e := rfl
@[simp] theorem wipeE_cons (e : Env) (v : Nat) (vs : List Nat) : wipeE e (v :: vs) = (wipeE e vs).set v none := rfl
@[simp] theorem forS_ev (items : Env → R (List D)) (us : List Nat) (t : TgS) (body : Env → S) (keep : List Nat) (e : Env) : forS items us t body keep e = (items e).go us e fun ds => forGo t body keep ds (maskF keep 0 (frzEnv us e)) := by
  unfold forS R.go
  simp only [mask_eq]
  cases items e <;> rfl
theorem mutE_plN {i : Nat} {ds : List D} {us : List Nat} {f : D → List D → R D} {env : Env} {d0 d d2 : D} (h0 : env[i]? = some (some d0)) (h : (if hasFzs ds = true then frzEnv us env else env)[i]? = some (some d)) (hf : f d ds = .ok d2) :
    mutE (plN i) ds us f env = .nxt ((if hasFzs ds = true then frzEnv us env else env).set i (some d2)) := by
  unfold mutE plN placeAt
  rw [h0]
  simp only [h]
  have g : getP d [] = some d := by cases d <;> rfl
  simp only [g, hf]
  unfold putAt
  simp only [h]
  have g2 : setP d [] d2 = d2 := by cases d <;> rfl
  rw [g2]
/-- x.append(e), x a local list of one's own -/
theorem app_n {i : Nat} {ss : Env → R (List D)} {us : List Nat} {env : Env} {xs : List D} {d : D} (h : ss env = .ok [d]) (hd : hasFz d = false) (hx : env[i]? = some (some (.lst true xs))) (hl : xs.length < SZ) : mutS1 (plN i) ss us mAppend env = .nxt (env.set i (some (.lst true (xs ++ [d])))) := by
  have h1 : plN i env = .ok (i, []) := by
    unfold plN
    rw [hx]
  unfold mutS1
  rw [h1]
  have h2 : placeAt env (i, []) = some (.lst true xs) := by
    unfold placeAt
    simp only [hx]
    rfl
  simp only [h2]
  unfold mutS
  rw [h]
  have hz : (if hasFzs [d] = true then frzEnv us env else env) = env := if_neg (by rw [hasFzs_cons, hd]; decide)
  have := mutE_plN (us := us) (f := mAppend) (ds := [d]) (d2 := .lst true (xs ++ [d])) hx (by rw [hz]; exact hx) (show mAppend (.lst true xs) [d] = _ from if_pos hl)
  rw [hz] at this
  exact this
def mutF (f : D → R D) (i : Nat) (env : Env) : S := match env[i]? with
  | some (some x) => (match f x with
    | .ok y => .nxt (env.set i (some y))
    | _ => .stk)
  | _ => .stk
@[simp] theorem mutF_ev (f : D → R D) (i : Nat) (env : Env) : mutF f i env = match env[i]? with
  | some (some x) => (match f x with
    | .ok y => .nxt (env.set i (some y))
    | _ => .stk)
  | _ => .stk := rfl
@[simp] theorem mutE_ev {i : Nat} {ds : List D} (h : hasFzs ds = false) (us : List Nat) (f : D → List D → R D) (env : Env) : mutE (plN i) ds us f env = mutF (fun x => f x ds) i env := by
  unfold mutE plN mutF placeAt putAt
  have g : ∀ d : D, getP d [] = some d := fun d => by cases d <;> rfl
  have g2 : ∀ d x : D, setP d [] x = x := fun d x => by cases d <;> rfl
  simp only [h]
  cases he : env[i]? with
  | none => rfl
  | some o =>
    cases o with
    | none => rfl
    | some d =>
      simp only [Bool.false_eq_true, if_false, he, g, g2]
      all_goals (cases f d ds <;> rfl)
@[simp] theorem mutS_ev (p : PlS) (ss : Env → R (List D)) (us : List Nat) (f : D → List D → R D) (env : Env) : mutS p ss us f env = (ss env).go us env fun ds => mutE p ds us f env := by
  unfold mutS R.go
  cases ss env <;> rfl
@[simp] theorem mutS1_ev (i : Nat) (ss : Env → R (List D)) (us : List Nat) (f : D → List D → R D) (env : Env) : mutS1 (plN i) ss us f env = match env[i]? with
  | some (some (.lst true _)) => mutS (plN i) ss us f env
  | _ => .stk := by
  unfold mutS1
  have g : ∀ d : D, getP d [] = some d := fun d => by cases d <;> rfl
  show (match (match env[i]? with | some (some _) => (R.ok (i, []) : R (Nat × List Nat)) | _ => .stk) with | .ok ij => _ | _ => _) = _
  cases he : env[i]? with
  | none => rfl
  | some o =>
    cases o with
    | none => rfl
    | some d =>
      show (match placeAt env (i, []) with | some (.lst true _) => mutS (plN i) ss us f env | _ => .stk) = _
      have : placeAt env (i, []) = some d := by
        unfold placeAt
        simp only [he]
        exact g d
      rw [this]
      cases d with
      | lst o xs => cases o <;> rfl
      | _ => rfl
@[simp] theorem setS_ev (p : PlS) (se sb : Env → R D) (us : List Nat) (env : Env) : setS p se sb us env = (se env).go us env fun d => match sb env with
    | .ok k => mutE p [d, k] us mSet env
    | _ => .stk := by
  unfold setS R.go
  cases se env <;> rfl
@[simp] theorem mAppend_ev (xs : List D) (d : D) : mAppend (.lst true xs) [d] = if xs.length < 100000 then .ok (.lst true (xs ++ [d])) else .stk := rfl
@[simp] theorem mSet_ev (xs : List D) (d : D) (k : Int) : mSet (.lst true xs) [d, .int k] = match ixN xs.length k with
    | some j => .ok (.lst true (xs.set j d))
    | none => .stk := rfl
/-- statements -/
theorem seq_nxt {s t : Env → S} {e e1 : Env} (h : s e = .nxt e1) : seqS s t e = t e1 := by
  unfold seqS
  rw [h]
theorem seq_ret {s t : Env → S} {e : Env} {d : D} (h : s e = .ret d) : seqS s t e = .ret d := by
  unfold seqS
  rw [h]
theorem if_t {c : Env → R Bool} {us : List Nat} {s t : Env → S} {e : Env} (h : c e = .ok true) : ifS c us s t e = s e := by
  unfold ifS
  rw [h]
  exact if_pos rfl
theorem if_f {c : Env → R Bool} {us : List Nat} {s t : Env → S} {e : Env} (h : c e = .ok false) : ifS c us s t e = t e := by
  unfold ifS
  rw [h]
  exact if_neg Bool.false_ne_true
theorem asg_n {i : Nat} {s : Env → R D} {us : List Nat} {e : Env} {d : D} (h : s e = .ok d) (hf : hasFz d = false) : asgS (tgN i) s us e = .nxt (e.set i (some d)) := by
  unfold asgS
  rw [h]
  show S.nxt ((asgE d us e).set i (some d)) = _
  unfold asgE
  rw [hf]
  rfl
theorem ret_ok {s : Env → R D} {us : List Nat} {e : Env} {d : D} (h : s e = .ok d) : retS s us e = .ret d := by
  unfold retS
  rw [h]
/-! ### what is wanted of an answer -/
def Oks {α : Type} (r : R α) (Q : α → Prop) : Prop := ∃ a, r = .ok a ∧ Q a
def Rets (s : S) (Q : D → Prop) : Prop := match s with
  | .nxt _ => Q .non
  | .ret d => Q d
  | _ => False
@[simp] theorem rets_ret (d : D) (Q : D → Prop) : Rets (.ret d) Q = Q d := rfl
@[simp] theorem rets_nxt (e : Env) (Q : D → Prop) : Rets (.nxt e) Q = Q .non := rfl
@[simp] theorem rets_stk (Q : D → Prop) : Rets .stk Q = False := rfl
theorem oks_run {n : Nat} {s : Env → S} {ds : List D} {Q : D → Prop} (h : Rets (s (ds.map some ++ List.replicate (n - ds.length) none)) Q) : Oks (runB n s ds) Q := by
  have e : runB n s ds = match s (ds.map some ++ List.replicate (n - ds.length) none) with
    | .nxt _ => .ok .non
    | .ret d => .ok d
    | .exc c fs _ => .exc c fs
    | _ => .stk := rfl
  rw [e]
  revert h
  cases s (ds.map some ++ List.replicate (n - ds.length) none) with
  | nxt e => exact fun h => ⟨_, rfl, h⟩
  | ret d => exact fun h => ⟨_, rfl, h⟩
  | _ => exact fun h => h.elim
def Turn (s : S) (I J : Env → Prop) (T : D → Prop) : Prop := match s with
  | .nxt e => I e
  | .cnt e => I e
  | .brk e => J e
  | .ret d => T d
  | _ => False
@[simp] theorem turn_nxt (e : Env) (I J : Env → Prop) (T : D → Prop) : Turn (.nxt e) I J T = I e := rfl
@[simp] theorem turn_cnt (e : Env) (I J : Env → Prop) (T : D → Prop) : Turn (.cnt e) I J T = I e := rfl
@[simp] theorem turn_brk (e : Env) (I J : Env → Prop) (T : D → Prop) : Turn (.brk e) I J T = J e := rfl
@[simp] theorem turn_ret (d : D) (I J : Env → Prop) (T : D → Prop) : Turn (.ret d) I J T = T d := rfl
@[simp] theorem turn_stk (I J : Env → Prop) (T : D → Prop) : Turn .stk I J T = False := rfl
/-- a loop: I i holds ahead of the turn i -/
theorem turn_for {t : TgS} {body : Env → S} {keep : List Nat} {Q J : Env → Prop} {T : D → Prop} : ∀ {ds : List D} (I : Nat → Env → Prop) {e : Env}, I 0 e →
    (∀ i d e, ds[i]? = some d → I i e → ∃ e1, t d e = .ok e1 ∧ Turn (body e1) (fun e2 => I (i + 1) (maskF keep 0 e2)) (fun e2 => Q (maskF keep 0 e2)) T) → (∀ e, I ds.length e → Q e) → Turn (forGo t body keep ds e) Q J T
  | [], I, e, h0, _, hq => hq e h0
  | d :: ds, I, e, h0, hs, hq => by
    obtain ⟨e1, h1, h2⟩ := hs 0 d e rfl h0
    unfold forGo
    rw [h1]
    revert h2
    simp only []
    cases body e1 with
    | nxt e2 => exact fun h2 => turn_for (fun i => I (i + 1)) (by rw [mask_eq]; exact h2) (fun i d e g => hs (i + 1) d e g) fun e => hq e
    | cnt e2 => exact fun h2 => turn_for (fun i => I (i + 1)) (by rw [mask_eq]; exact h2) (fun i d e g => hs (i + 1) d e g) fun e => hq e
    | brk e2 =>
      intro h2
      show Q (mask keep e2)
      rw [mask_eq]
      exact h2
    | ret d => exact fun h2 => h2
    | exc c fs e => exact fun h2 => h2
    | stk => exact fun h2 => h2
theorem turn_then {s : S} {f : Env → S} {I J : Env → Prop} {T : D → Prop} (h : Turn s (fun e => Turn (f e) I J T) J T) (hc : ∀ e, s ≠ .cnt e) : Turn (s.andThen f) I J T := by
  cases s with
  | cnt e => exact absurd rfl (hc e)
  | _ => exact h
theorem for_nocnt {t : TgS} {body : Env → S} {keep : List Nat} : ∀ (ds : List D) (e e' : Env), forGo t body keep ds e ≠ .cnt e'
  | [], e, e', h => by cases h
  | d :: ds, e, e', h => by
    unfold forGo at h
    cases h1 : t d e with
    | ok e1 =>
      rw [h1] at h
      simp only [] at h
      cases h2 : body e1 with
      | nxt e2 => rw [h2] at h; exact for_nocnt ds _ _ h
      | cnt e2 => rw [h2] at h; exact for_nocnt ds _ _ h
      | _ => rw [h2] at h; cases h
    | _ => rw [h1] at h; cases h
/-- the same where a statement follows -/
theorem turn_forT {t : TgS} {body f : Env → S} {keep : List Nat} {I' J : Env → Prop} {T : D → Prop} {ds : List D} (I : Nat → Env → Prop) {e : Env} (h0 : I 0 e)
    (hs : ∀ i d e, ds[i]? = some d → I i e → ∃ e1, t d e = .ok e1 ∧ Turn (body e1) (fun e2 => I (i + 1) (maskF keep 0 e2)) (fun e2 => Turn (f (maskF keep 0 e2)) I' J T) T) (hq : ∀ e, I ds.length e → Turn (f e) I' J T) : Turn ((forGo t body keep ds e).andThen f) I' J T :=
  turn_then (turn_for (Q := fun e => Turn (f e) I' J T) I h0 hs hq) fun e' => for_nocnt ds e e'
theorem rets_turn {s : S} {Q : D → Prop} (h : Turn s (fun _ => Q .non) (fun _ => False) Q) (hc : ∀ e, s ≠ .cnt e) : Rets s Q := by
  cases s with
  | cnt e => exact absurd rfl (hc e)
  | _ => exact h
theorem rets_forT {t : TgS} {body f : Env → S} {keep : List Nat} {Q : D → Prop} {ds : List D} (I : Nat → Env → Prop) {e : Env} (h0 : I 0 e)
    (hs : ∀ i d e, ds[i]? = some d → I i e → ∃ e1, t d e = .ok e1 ∧ Turn (body e1) (fun e2 => I (i + 1) (maskF keep 0 e2)) (fun e2 => Rets (f (maskF keep 0 e2)) Q) Q) (hq : ∀ e, I ds.length e → Rets (f e) Q) : Rets ((forGo t body keep ds e).andThen f) Q := by
  have h := turn_for (keep := keep) (J := fun _ => False) (Q := fun e => Rets (f e) Q) I h0 hs hq
  revert h
  cases hr : forGo t body keep ds e with
  | nxt e => exact fun h => h
  | ret d => exact fun h => h
  | cnt e' => exact absurd hr (for_nocnt ds e e')
  | brk e => exact fun h => h.elim
  | exc c fs e => exact fun h => h.elim
  | stk => exact fun h => h.elim
def Fin (s : S) (P : Env → Prop) : Prop := match s with
  | .nxt e => P e
  | _ => False
@[simp] theorem fin_nxt (e : Env) (P : Env → Prop) : Fin (.nxt e) P = P e := rfl
@[simp] theorem fin_stk (P : Env → Prop) : Fin .stk P = False := rfl
theorem fin_forT {t : TgS} {body f : Env → S} {keep : List Nat} {P : Env → Prop} {ds : List D} (I : Nat → Env → Prop) {e : Env} (h0 : I 0 e)
    (hs : ∀ i d e, ds[i]? = some d → I i e → ∃ e1, t d e = .ok e1 ∧ Turn (body e1) (fun e2 => I (i + 1) (maskF keep 0 e2)) (fun e2 => Fin (f (maskF keep 0 e2)) P) (fun _ => False)) (hq : ∀ e, I ds.length e → Fin (f e) P) : Fin ((forGo t body keep ds e).andThen f) P := by
  have h := turn_for (keep := keep) (J := fun _ => False) (Q := fun e => Fin (f e) P) I h0 hs hq
  revert h
  cases hr : forGo t body keep ds e with
  | nxt e => exact fun h => h
  | ret d => exact fun h => h.elim
  | cnt e' => exact absurd hr (for_nocnt ds e e')
  | brk e => exact fun h => h.elim
  | exc c fs e => exact fun h => h.elim
  | stk => exact fun h => h.elim
theorem turn_nobrk {s : S} {I J : Env → Prop} {T : D → Prop} (h : Turn s I (fun _ => False) T) : Turn s I J T := by
  cases s with
  | brk e => exact h.elim
  | _ => exact h
/-- loops with no break in them -/
theorem rets_for0 {t : TgS} {body f : Env → S} {keep : List Nat} {Q : D → Prop} {ds : List D} (I : Nat → Env → Prop) {e : Env} (h0 : I 0 e)
    (hs : ∀ i d e, ds[i]? = some d → I i e → ∃ e1, t d e = .ok e1 ∧ Turn (body e1) (fun e2 => I (i + 1) (maskF keep 0 e2)) (fun _ => False) Q) (hq : ∀ e, I ds.length e → Rets (f e) Q) : Rets ((forGo t body keep ds e).andThen f) Q :=
  rets_forT I h0 (fun i d e g q => by
    obtain ⟨e1, h1, h2⟩ := hs i d e g q
    exact ⟨e1, h1, turn_nobrk h2⟩) hq
theorem turn_for0 {t : TgS} {body f : Env → S} {keep : List Nat} {I' J : Env → Prop} {T : D → Prop} {ds : List D} (I : Nat → Env → Prop) {e : Env} (h0 : I 0 e)
    (hs : ∀ i d e, ds[i]? = some d → I i e → ∃ e1, t d e = .ok e1 ∧ Turn (body e1) (fun e2 => I (i + 1) (maskF keep 0 e2)) (fun _ => False) T) (hq : ∀ e, I ds.length e → Turn (f e) I' J T) : Turn ((forGo t body keep ds e).andThen f) I' J T :=
  turn_forT I h0 (fun i d e g q => by
    obtain ⟨e1, h1, h2⟩ := hs i d e g q
    exact ⟨e1, h1, turn_nobrk h2⟩) hq
theorem turn_step {s : S} {f : Env → S} {I J : Env → Prop} {T : D → Prop} {P : Env → Prop} (h : Fin s P) (k : ∀ e, P e → Turn (f e) I J T) : Turn (s.andThen f) I J T := by
  cases s with
  | nxt e => exact k e h
  | _ => exact h.elim
theorem rets_step {s : S} {f : Env → S} {Q : D → Prop} {P : Env → Prop} (h : Fin s P) (k : ∀ e, P e → Rets (f e) Q) : Rets (s.andThen f) Q := by
  cases s with
  | nxt e => exact k e h
  | _ => exact h.elim
theorem fin_step {s : S} {f : Env → S} {Q P : Env → Prop} (h : Fin s P) (k : ∀ e, P e → Fin (f e) Q) : Fin (s.andThen f) Q := by
  cases s with
  | nxt e => exact k e h
  | _ => exact h.elim
theorem fin_for {t : TgS} {body : Env → S} {keep : List Nat} {P : Env → Prop} {ds : List D} (I : Nat → Env → Prop) {e : Env} (h0 : I 0 e)
    (hs : ∀ i d e, ds[i]? = some d → I i e → ∃ e1, t d e = .ok e1 ∧ Turn (body e1) (fun e2 => I (i + 1) (maskF keep 0 e2)) (fun e2 => P (maskF keep 0 e2)) (fun _ => False)) (hq : ∀ e, I ds.length e → P e) : Fin (forGo t body keep ds e) P := by
  have h := turn_for (keep := keep) (J := fun _ => False) (Q := P) I h0 hs hq
  revert h
  cases hr : forGo t body keep ds e with
  | nxt e => exact fun h => h
  | ret d => exact fun h => h.elim
  | cnt e' => exact absurd hr (for_nocnt ds e e')
  | brk e => exact fun h => h.elim
  | exc c fs e => exact fun h => h.elim
  | stk => exact fun h => h.elim
theorem oks_runI {n : Nat} {c : Str} {s : Env → S} {ds : List D} {Q : D → Prop} (h : Fin (s ((.obj true c [] [] :: ds).map some ++ List.replicate (n - (D.obj true c [] [] :: ds).length) none)) (fun e => ∃ d, e[0]? = some (some d) ∧ Q d)) : Oks (runI n c s ds) Q := by
  unfold runI
  have e0 : env0 n (.obj true c [] [] :: ds) = (.obj true c [] [] :: ds).map some ++ List.replicate (n - (D.obj true c [] [] :: ds).length) none := rfl
  rw [e0]
  revert h
  cases hs : s ((.obj true c [] [] :: ds).map some ++ List.replicate (n - (D.obj true c [] [] :: ds).length) none) with
  | nxt e => exact fun ⟨d, h1, h2⟩ => ⟨d, by simp only [h1], h2⟩
  | _ => exact fun h => h.elim
theorem enumL_inv : ∀ {xs : List D} {k i : Nat} {d : D}, (enumL k xs)[i]? = some d → ∃ x, xs[i]? = some x ∧ d = .tup [.int ((k + i : Nat) : Int), x]
  | [], k, i, d, h => by cases h
  | x :: xs, k, 0, d, h => by
    have h : some (D.tup [.int ((k : Nat) : Int), x]) = some d := h
    cases h
    exact ⟨x, rfl, rfl⟩
  | x :: xs, k, i + 1, d, h => by
    have h : (enumL (k + 1) xs)[i]? = some d := h
    obtain ⟨y, h1, h2⟩ := enumL_inv h
    exact ⟨y, h1, by rw [h2, Nat.add_assoc, Nat.add_comm 1 i]⟩
/-- a loop that ends by its end: I at each turn -/
theorem for_nxt {t : TgS} {body : Env → S} {keep : List Nat} {Q : Env → Prop} {T : D → Prop} : ∀ (ds : List D) (I : Nat → Env → Prop) (e : Env), I 0 e →
    (∀ i d e, ds[i]? = some d → I i e → ∃ e1, t d e = .ok e1 ∧ ((∃ e2, body e1 = .nxt e2 ∧ I (i + 1) (mask keep e2)) ∨ ∃ x, body e1 = .ret x ∧ T x)) → (∀ e, I ds.length e → Q e) →
    (∃ e', forGo t body keep ds e = .nxt e' ∧ Q e') ∨ ∃ x, forGo t body keep ds e = .ret x ∧ T x
  | [], I, e, h0, _, hq => .inl ⟨e, rfl, hq e h0⟩
  | d :: ds, I, e, h0, hs, hq => by
    obtain ⟨e1, h1, h2⟩ := hs 0 d e rfl h0
    unfold forGo
    rw [h1]
    rcases h2 with ⟨e2, h2, h3⟩ | ⟨x, h2, h3⟩
    · simp only [h2]
      exact for_nxt ds (fun i => I (i + 1)) (mask keep e2) h3 (fun i d e g => hs (i + 1) d e g) fun e => hq e
    · simp only [h2]
      exact .inr ⟨x, rfl, h3⟩
theorem for_all {t : TgS} {body : Env → S} {keep : List Nat} (ds : List D) (I : Nat → Env → Prop) (e : Env) (h0 : I 0 e)
    (hs : ∀ i d e, ds[i]? = some d → I i e → ∃ e1 e2, t d e = .ok e1 ∧ body e1 = .nxt e2 ∧ I (i + 1) (mask keep e2)) : ∃ e', forGo t body keep ds e = .nxt e' ∧ I ds.length e' := by
  rcases for_nxt (Q := I ds.length) (T := fun _ => False) ds I e h0 (fun i d e g q => by
    obtain ⟨e1, e2, h1, h2, h3⟩ := hs i d e g q
    exact ⟨e1, h1, .inl ⟨e2, h2, h3⟩⟩) (fun e q => q) with h | ⟨_, _, h⟩
  · exact h
  · exact h.elim
theorem forS_ok {items : Env → R (List D)} {us : List Nat} {t : TgS} {body : Env → S} {keep : List Nat} {e : Env} {ds : List D} (h : items e = .ok ds) : forS items us t body keep e = forGo t body keep ds (mask keep (frzEnv us e)) := by
  unfold forS
  rw [h]
@[simp] theorem sLc_ev (items : Env → R (List D)) (u0 vs : List Nat) (t : TgS) (cond : Env → R Bool) (elt : Env → R D) (env : Env) : sLc items u0 vs t cond elt env = items env >>= fun ds => if ds.length ≤ 100000 then
    lcGo (wipeE (if hasFzs ds = true then frzEnv u0 env else env) vs) t cond elt ds >>= fun ys => .ok (.lst true ys) else .stk := rfl
theorem lc_map {α : Type} {e : Env} {t : TgS} {cond : Env → R Bool} {elt : Env → R D} {fa g : α → D} : ∀ {l : List α}, (∀ a ∈ l, ∃ e1, t (fa a) e = .ok e1 ∧ cond e1 = .ok true ∧ elt e1 = .ok (g a)) → lcGo e t cond elt (l.map fa) = .ok (l.map g)
  | [], _ => rfl
  | d :: ds, h => by
    obtain ⟨e1, h1, h2, h3⟩ := h d (List.mem_cons_self ..)
    have ih := lc_map (l := ds) fun d m => h d (List.mem_cons_of_mem _ m)
    show lcGo e t cond elt (fa d :: ds.map fa) = _
    unfold lcGo
    rw [h1]
    show (nx (cond e1) >>= _) = _
    rw [h2]
    show (nx (elt e1) >>= _) = _
    rw [h3]
    show (lcGo e t cond elt (ds.map fa) >>= _) = _
    rw [ih]
    rfl
@[simp] theorem lcGo_nil (e : Env) (t : TgS) (cond : Env → R Bool) (elt : Env → R D) : lcGo e t cond elt [] = .ok [] := rfl
@[simp] theorem lcGo_cons (e : Env) (t : TgS) (cond : Env → R Bool) (elt : Env → R D) (d : D) (ds : List D) : lcGo e t cond elt (d :: ds) = nx (t d e) >>= fun e1 => nx (cond e1) >>= fun b => if b = true then nx (elt e1) >>= fun y => lcGo e t cond elt ds >>= fun ys => .ok (y :: ys) else lcGo e t cond elt ds := rfl
@[simp] theorem dAll_ev (o : Bool) (xs : List D) : dAll [.lst o xs] = match bools? xs with
    | some bs => .ok (.bl (bs.all id))
    | none => .stk := rfl
@[simp] theorem bools_nil : bools? [] = some [] := rfl
@[simp] theorem bools_cons (b : Bool) (ds : List D) : bools? (.bl b :: ds) = (bools? ds).map (b :: ·) := rfl
/-- a comprehension -/
theorem lc_all {e : Env} {t : TgS} {cond : Env → R Bool} {elt : Env → R D} {f : D → D} : ∀ (ds : List D), (∀ d ∈ ds, ∃ e1, t d e = .ok e1 ∧ cond e1 = .ok true ∧ elt e1 = .ok (f d)) → lcGo e t cond elt ds = .ok (ds.map f)
  | [], _ => rfl
  | d :: ds, h => by
    obtain ⟨e1, h1, h2, h3⟩ := h d (List.mem_cons_self ..)
    have ih := lc_all ds fun d m => h d (List.mem_cons_of_mem _ m)
    unfold lcGo
    rw [h1]
    show (nx (cond e1) >>= _) = _
    rw [h2]
    show (nx (elt e1) >>= _) = _
    rw [h3]
    show (lcGo e t cond elt ds >>= _) = _
    rw [ih]
    rfl
theorem sLc_ok {items : Env → R (List D)} {u0 vs : List Nat} {t : TgS} {cond : Env → R Bool} {elt : Env → R D} {e : Env} {ds ys : List D} (h : items e = .ok ds) (hl : ds.length ≤ SZ)
    (hg : lcGo (wipeE (if hasFzs ds = true then frzEnv u0 e else e) vs) t cond elt ds = .ok ys) : sLc items u0 vs t cond elt e = .ok (.lst true ys) := by
  unfold sLc
  rw [h]
  show (if ds.length ≤ SZ then _ else _) = _
  rw [if_pos hl, hg]
  rfl
end Vs
set_option maxHeartbeats 4000000
/-! printed by gen.py: the meanings and the walks -/
namespace K57
open PySem L2 Vs
def tp (i : Nat) : Stmt := PySem.Challenge.pw_shallowsums_k57_program_texts.main.body.getD i (.Pass ⟨0, 0, 0, 0⟩)
def cf : List (Str × Str) := [("Straight", "steps"), ("Straight", "outputs")]
def ci : List Str := ["Straight"]
structure Txt (K : PySem.W.Frag) (mg : Str → Option Value) : Prop where
  n_list : mg "list" = none
  n_range : mg "range" = none
  n_len : mg "len" = none
  n_int : mg "int" = none
  n_max : mg "max" = none
  n_min : mg "min" = none
  n_tuple : mg "tuple" = none
  n_str : mg "str" = none
  n_isinstance : mg "isinstance" = none
  n_bool : mg "bool" = none
  n_enumerate : mg "enumerate" = none
  n_all : mg "all" = none
  c_LONGEST : ∃ t, mg "LONGEST" = some (.int 200 t)
  c_DIGITS : ∃ t, mg "DIGITS" = some (.str "0123456789" t)
  c_NAME_LENGTH : ∃ t, mg "NAME_LENGTH" = some (.int 40 t)
  c_LETTERS : ∃ t, mg "LETTERS" = some (.str "abcdefghijklmnopqrstuvwxyz" t)
  c_NAME_SIGNS : ∃ t, mg "NAME_SIGNS" = some (.str "abcdefghijklmnopqrstuvwxyz0123456789[],-" t)
  fld : FldOk K mg cf
  g_Straight : ∃ C, mg "Straight" = some (.ref C)
  isa : ∀ c ∈ ci, ∀ C, mg c = some (.ref C) → IsaOk K C
section
variable {P : Program} {w : World} {K : PySem.W.Frag} {mg : Str → Option Value} {base : Heap} {k : Nat}
def sb_law_digits : Vs.Env → S :=
    (seqS (asgS (tgN 2) (app mkLst argN) [])
    (seqS (asgS (tgN 3) (app dInt (argC (ld 0) argN)) [0])
    (seqS (ifS (binB dGe (ld 3) (bin dPow (cst (.int 10)) (cst (.int 18)))) [3] (seqS (asgS (tgN 3) (bin dSub (ld 3) (bin dPow (cst (.int 10)) (cst (.int 18)))) [3])
    (seqS (forS (seqI (ld 1)) [1] (tgN 6) (seqS (mutS1 (plN 2) (argC (bin dMod (app dInt (argC (ld 3) argN)) (ld 6)) argN) [3, 6] mAppend)
    (asgS (tgN 3) (bin dDiv (app dInt (argC (ld 3) argN)) (ld 6)) [3, 6])) [2, 3])
    (retV 2))) .nxt)
    (seqS (asgS (tgN 4) (bin dMod (app dInt (argC (ld 3) argN)) (cst (.int 2147483629))) [3])
    (seqS (forS (itx dRng (argC (app dLen (argC (ld 1) argN)) argN)) [] (tgN 5) (seqS (asgS (tgN 4) (bin dMod (app dInt (argC (bin dAdd (bin dAdd (bin dMul (ld 4) (cst (.int 48271))) (bin dMul (cst (.int 974711)) (ld 5))) (cst (.int 12345))) argN)) (cst (.int 2147483647))) [4, 5])
    (seqS (asgS (tgN 7) (bin dMod (app dInt (argC (bin dMul (ld 4) (bin dAdd (bin dDiv (ld 4) (cst (.int 65537))) (cst (.int 3)))) argN)) (cst (.int 2147483629))) [4, 4])
    (mutS1 (plN 2) (argC (bin dMod (bin dDiv (ld 7) (cst (.int 19))) (bin dIx (ld 1) (ld 5))) argN) [7, 1, 5] mAppend))) [1, 2, 4])
    (retV 2))))))
abbrev st_law_digits : Stmt := tp 35
theorem sc_law_digits : FnScope ["_law_cell_here", "_law_sizes", "_law_row", "_law_rest", "_law_seed", "_law_k", "_law_size", "_law_twice"] ["_law_cell_here", "_law_sizes"] (defScope st_law_digits) := ⟨rfl, rfl, rfl, by decide +kernel, rfl, by decide +kernel, by decide +kernel⟩
theorem w_law_digits (T : Txt K mg) {f : Addr} {fd : FuncData} (F : Fun K "_law_digits" "_law_digits" st_law_digits f fd) (hx : mg "_law_digits" = some (.ref f)) : KFn P w K mg base (k + 3) "_law_digits" 2 (runB 8 (sb_law_digits)) :=
  by
  refine KFn.mk3 (k := k + 2) (sb := sb_law_digits) F sc_law_digits hx (F.binds (ps := ["_law_cell_here", "_law_sizes"]) fun _ _ _ _ _ _ us hl => match us, hl with | [_, _], _ => rfl) rfl rfl fun cdv A outer s H E hr tk => ?_
  have sc := sc_law_digits
  exact (kss_cons (ks_set (i := 2) (by decide) sc.nd rfl (by first | exact .inl rfl | exact .inr rfl) (ke_lst ka_nil))
    (kss_cons (ks_set (i := 3) (by decide) sc.nd rfl (by first | exact .inl rfl | exact .inr rfl) (ke_callTy call_intU calls_int nx_int (by rfl) T.n_int (by decide +kernel) (ka_cons (ke_var (pv 0)) ka_nil)))
    (kss_cons (ks_if (kt_cmp op_ge ops_ge nx_ge (nomark _) (ke_var (pv 3)) (ke_op op_pow ops_pow nx_pow ke_int ke_int)) (kss_cons (ks_set (i := 3) (by decide) sc.nd rfl (by first | exact .inl rfl | exact .inr rfl) (ke_op op_sub ops_sub nx_sub (ke_var (pv 3)) (ke_op op_pow ops_pow nx_pow ke_int ke_int)))
    (kss_cons (ks_for (by decide) (passes_of rfl) rfl (ki_seq (ke_var (pv 1))) (kg_name (pg_name (i := 6) sc.nd rfl (by first | exact .inl rfl | exact .inr rfl))) (kss_cons (ks_append (kp_name (pv 2)) (ka_cons (ke_op op_mod ops_mod nx_mod (ke_callTy call_intU calls_int nx_int (by rfl) T.n_int (by decide +kernel) (ka_cons (ke_var (pv 3)) ka_nil)) (ke_var (pv 6))) ka_nil))
    (kss_one (ks_set (i := 3) (by decide) sc.nd rfl (by first | exact .inl rfl | exact .inr rfl) (ke_op op_fdivW ops_div nx_div (ke_callTy call_intU calls_int nx_int (by rfl) T.n_int (by decide +kernel) (ka_cons (ke_var (pv 3)) ka_nil)) (ke_var (pv 6)))))) [2, 3])
    (kss_one (ks_retV (pv 2))))) kss_nil)
    (kss_cons (ks_set (i := 4) (by decide) sc.nd rfl (by first | exact .inl rfl | exact .inr rfl) (ke_op op_mod ops_mod nx_mod (ke_callTy call_intU calls_int nx_int (by rfl) T.n_int (by decide +kernel) (ka_cons (ke_var (pv 3)) ka_nil)) ke_int))
    (kss_cons (ks_for (by decide) (passes_of rfl) rfl (ki_range1 (by rfl) T.n_range (ka_cons (ke_callB call_lenU calls_len nx_len (by rfl) T.n_len (by decide +kernel) (ka_cons (ke_var (pv 1)) ka_nil)) ka_nil)) (kg_name (pg_name (i := 5) sc.nd rfl (by first | exact .inl rfl | exact .inr rfl))) (kss_cons (ks_set (i := 4) (by decide) sc.nd rfl (by first | exact .inl rfl | exact .inr rfl) (ke_op op_mod ops_mod nx_mod (ke_callTy call_intU calls_int nx_int (by rfl) T.n_int (by decide +kernel) (ka_cons (ke_op op_addU ops_add nx_add (ke_op op_addU ops_add nx_add (ke_op op_mulU ops_mul nx_mul (ke_var (pv 4)) ke_int) (ke_op op_mulU ops_mul nx_mul ke_int (ke_var (pv 5)))) ke_int) ka_nil)) ke_int))
    (kss_cons (ks_set (i := 7) (by decide) sc.nd rfl (by first | exact .inl rfl | exact .inr rfl) (ke_op op_mod ops_mod nx_mod (ke_callTy call_intU calls_int nx_int (by rfl) T.n_int (by decide +kernel) (ka_cons (ke_op op_mulU ops_mul nx_mul (ke_var (pv 4)) (ke_op op_addU ops_add nx_add (ke_op op_fdivW ops_div nx_div (ke_var (pv 4)) ke_int) ke_int)) ka_nil)) ke_int))
    (kss_one (ks_append (kp_name (pv 2)) (ka_cons (ke_op op_mod ops_mod nx_mod (ke_op op_fdivW ops_div nx_div (ke_var (pv 7)) ke_int) (ke_ix (ke_var (pv 1)) (ke_var (pv 5)) (fun _ _ => rfl))) ka_nil))))) [1, 2, 4])
    (kss_one (ks_retV (pv 2))))))))
def sb_law_cell : Vs.Env → S :=
    (seqS (ifS (binB dLt (ld 1) (app dLen (argC (ld 0) argN))) [1, 0] (retS (bin dIx (ld 0) (ld 1)) [0, 1]) .nxt)
    (seqS (asgS (tgN 2) (cst (.int 17)) [])
    (seqS (forS (seqI (ld 0)) [0] (tgN 3) (asgS (tgN 2) (bin dMod (app dInt (argC (bin dAdd (bin dMul (ld 2) (cst (.int 31))) (bin dMod (app dInt (argC (ld 3) argN)) (cst (.int 1000003)))) argN)) (cst (.int 1000003))) [2, 3]) [1, 2])
    (retS (bin dMod (app dInt (argC (bin dMul (bin dMul (bin dAdd (ld 2) (cst (.int 7))) (bin dAdd (ld 1) (cst (.int 3)))) (cst (.int 69621))) argN)) (cst (.int 2147483647))) [2, 1]))))
abbrev st_law_cell : Stmt := tp 34
theorem sc_law_cell : FnScope ["_law_script", "_law_k", "_law_seed", "_law_cell_here"] ["_law_script", "_law_k"] (defScope st_law_cell) := ⟨rfl, rfl, rfl, by decide +kernel, rfl, by decide +kernel, by decide +kernel⟩
theorem w_law_cell (T : Txt K mg) {f : Addr} {fd : FuncData} (F : Fun K "_law_cell" "_law_cell" st_law_cell f fd) (hx : mg "_law_cell" = some (.ref f)) : KFn P w K mg base (k + 3) "_law_cell" 2 (runB 4 (sb_law_cell)) :=
  by
  refine KFn.mk3 (k := k + 2) (sb := sb_law_cell) F sc_law_cell hx (F.binds (ps := ["_law_script", "_law_k"]) fun _ _ _ _ _ _ us hl => match us, hl with | [_, _], _ => rfl) rfl rfl fun cdv A outer s H E hr tk => ?_
  have sc := sc_law_cell
  exact (kss_cons (ks_if (kt_cmp op_lt ops_lt nx_lt (nomark _) (ke_var (pv 1)) (ke_callB call_lenU calls_len nx_len (by rfl) T.n_len (by decide +kernel) (ka_cons (ke_var (pv 0)) ka_nil))) (kss_one (ks_ret (ke_ix (ke_var (pv 0)) (ke_var (pv 1)) (fun _ _ => rfl)))) kss_nil)
    (kss_cons (ks_set (i := 2) (by decide) sc.nd rfl (by first | exact .inl rfl | exact .inr rfl) ke_int)
    (kss_cons (ks_for (by decide) (passes_of rfl) rfl (ki_seq (ke_var (pv 0))) (kg_name (pg_name (i := 3) sc.nd rfl (by first | exact .inl rfl | exact .inr rfl))) (kss_one (ks_set (i := 2) (by decide) sc.nd rfl (by first | exact .inl rfl | exact .inr rfl) (ke_op op_mod ops_mod nx_mod (ke_callTy call_intU calls_int nx_int (by rfl) T.n_int (by decide +kernel) (ka_cons (ke_op op_addU ops_add nx_add (ke_op op_mulU ops_mul nx_mul (ke_var (pv 2)) ke_int) (ke_op op_mod ops_mod nx_mod (ke_callTy call_intU calls_int nx_int (by rfl) T.n_int (by decide +kernel) (ka_cons (ke_var (pv 3)) ka_nil)) ke_int)) ka_nil)) ke_int))) [1, 2])
    (kss_one (ks_ret (ke_op op_mod ops_mod nx_mod (ke_callTy call_intU calls_int nx_int (by rfl) T.n_int (by decide +kernel) (ka_cons (ke_op op_mulU ops_mul nx_mul (ke_op op_mulU ops_mul nx_mul (ke_op op_addU ops_add nx_add (ke_var (pv 2)) ke_int) (ke_op op_addU ops_add nx_add (ke_var (pv 1)) ke_int)) ke_int) ka_nil)) ke_int))))))
def sb_law_program_sizes : Vs.Env → S :=
    (retS (bin dAdd (bin dAdd (app mkLst (argC (cst (.int 4)) (argC (cst (.int 8)) (argC (cst (.int 8)) (argC (cst (.int 6)) argN))))) (bin dMul (app mkLst (argC (cst (.int 8)) (argC (cst (.int 5)) argN))) (cst (.int 4)))) (bin dMul (app mkLst (argC (cst (.int 10)) (argC (cst (.int 6)) (argC (cst (.int 12)) argN)))) (cst (.int 9)))) [])
abbrev st_law_program_sizes : Stmt := tp 38
theorem sc_law_program_sizes : FnScope [] [] (defScope st_law_program_sizes) := ⟨rfl, rfl, rfl, by decide +kernel, rfl, by decide +kernel, by decide +kernel⟩
theorem w_law_program_sizes (T : Txt K mg) {f : Addr} {fd : FuncData} (F : Fun K "_law_program_sizes" "_law_program_sizes" st_law_program_sizes f fd) (hx : mg "_law_program_sizes" = some (.ref f)) : KFn P w K mg base (k + 3) "_law_program_sizes" 0 (runB 0 (sb_law_program_sizes)) :=
  by
  refine KFn.mk3 (k := k + 2) (sb := sb_law_program_sizes) F sc_law_program_sizes hx (F.binds (ps := []) fun _ _ _ _ _ _ us hl => match us, hl with | [], _ => rfl) rfl rfl fun cdv A outer s H E hr tk => ?_
  have sc := sc_law_program_sizes
  exact (kss_one (ks_ret (ke_op op_addU ops_add nx_add (ke_op op_addU ops_add nx_add (ke_lst (ka_cons ke_int (ka_cons ke_int (ka_cons ke_int (ka_cons ke_int ka_nil))))) (ke_op op_mulU ops_mul nx_mul (ke_lst (ka_cons ke_int (ka_cons ke_int ka_nil))) ke_int)) (ke_op op_mulU ops_mul nx_mul (ke_lst (ka_cons ke_int (ka_cons ke_int (ka_cons ke_int ka_nil)))) ke_int))))
def sb_law_names : Vs.Env → S :=
    (seqS (asgS (tgN 1) (app mkLst (argC (cst (.str "a")) (argC (cst (.str "x[10]")) (argC (cst (.str "b")) (argC (cst (.str "x[2]")) (argC (cst (.str "ab")) (argC (cst (.str "z")) (argC (cst (.str "a1")) (argC (cst (.str "x[2,-1]")) argN))))))))) [])
    (retS (sLc (itx dRng (argC (cst (.int 4)) argN)) [] [2] (tgN 2) yes (bin dIx (ld 1) (bin dMod (app dInt (argC (bin dAdd (ld 0) (bin dMul (cst (.int 3)) (ld 2))) argN)) (cst (.int 8))))) [1, 0, 2]))
abbrev st_law_names : Stmt := tp 37
theorem sc_law_names : FnScope ["_law_digit", "_law_menu", "_law_k"] ["_law_digit"] (defScope st_law_names) := ⟨rfl, rfl, rfl, by decide +kernel, rfl, by decide +kernel, by decide +kernel⟩
theorem w_law_names (T : Txt K mg) {f : Addr} {fd : FuncData} (F : Fun K "_law_names" "_law_names" st_law_names f fd) (hx : mg "_law_names" = some (.ref f)) : KFn P w K mg base (k + 3) "_law_names" 1 (runB 3 (sb_law_names)) :=
  by
  refine KFn.mk3 (k := k + 2) (sb := sb_law_names) F sc_law_names hx (F.binds (ps := ["_law_digit"]) fun _ _ _ _ _ _ us hl => match us, hl with | [_], _ => rfl) rfl rfl fun cdv A outer s H E hr tk => ?_
  have sc := sc_law_names
  exact (kss_cons (ks_set (i := 1) (by decide) sc.nd rfl (by first | exact .inl rfl | exact .inr rfl) (ke_lst (ka_cons ke_str (ka_cons ke_str (ka_cons ke_str (ka_cons ke_str (ka_cons ke_str (ka_cons ke_str (ka_cons ke_str (ka_cons ke_str ka_nil))))))))))
    (kss_one (ks_ret (ke_lc (own := [("_law_k", 2)]) rfl sc.nd (ki_range1 (by rfl) T.n_range (ka_cons ke_int ka_nil)) (blkOk_by (N := ["_law_digit", "_law_menu", "_law_k"]) (sc := defScope st_law_names) (by decide +kernel)) (by decide) (fun _ _ _ _ _ => (kg_name (pg_name (i := 2) sc.nd rfl (by first | exact .inl rfl | exact .inr rfl)))) (fun _ _ _ _ _ => kts_nil) (fun _ _ _ _ _ => (ke_ix (ke_var (pv 1)) (ke_op op_mod ops_mod nx_mod (ke_callTy call_intU calls_int nx_int (by rfl) T.n_int (by decide +kernel) (ka_cons (ke_op op_addU ops_add nx_add (ke_var (pv 0)) (ke_op op_mulU ops_mul nx_mul ke_int (ke_var (pv 2)))) ka_nil)) ke_int) (fun _ _ => rfl)))))))
def sb_law_long_name : Vs.Env → S :=
    (seqS (asgS (tgN 1) (cst (.str "abcdefghijklmnopqrstuvwxyz")) [])
    (seqS (asgS (tgN 2) (bin dAdd (ld 1) (cst (.str "0123456789[],-"))) [1])
    (seqS (asgS (tgN 3) (bin dIx (app mkLst (argC (bin dIx (ld 0) (cst (.int 1))) (argC (bin dIx (ld 0) (cst (.int 1))) (argC (cst (.int 39)) argN)))) (bin dIx (ld 0) (cst (.int 2)))) [0, 0, 0])
    (retS (bin dAdd (bin dIx (ld 1) (bin dIx (ld 0) (cst (.int 0)))) (met "str" dJoin (cst (.str "")) (argC (sLc (seqI (slc (ld 0) (soI (cst (.int 3))) (soI (bin dAdd (cst (.int 3)) (ld 3))))) [0, 3] [4] (tgN 4) yes (bin dIx (ld 2) (ld 4))) argN))) [1, 0, 0, 3, 2, 4]))))
abbrev st_law_long_name : Stmt := tp 40
theorem sc_law_long_name : FnScope ["_law_digits_here", "_law_letters", "_law_signs", "_law_many", "_law_digit"] ["_law_digits_here"] (defScope st_law_long_name) := ⟨rfl, rfl, rfl, by decide +kernel, rfl, by decide +kernel, by decide +kernel⟩
theorem w_law_long_name (T : Txt K mg) {f : Addr} {fd : FuncData} (F : Fun K "_law_long_name" "_law_long_name" st_law_long_name f fd) (hx : mg "_law_long_name" = some (.ref f)) : KFn P w K mg base (k + 3) "_law_long_name" 1 (runB 5 (sb_law_long_name)) :=
  by
  refine KFn.mk3 (k := k + 2) (sb := sb_law_long_name) F sc_law_long_name hx (F.binds (ps := ["_law_digits_here"]) fun _ _ _ _ _ _ us hl => match us, hl with | [_], _ => rfl) rfl rfl fun cdv A outer s H E hr tk => ?_
  have sc := sc_law_long_name
  exact (kss_cons (ks_set (i := 1) (by decide) sc.nd rfl (by first | exact .inl rfl | exact .inr rfl) ke_str)
    (kss_cons (ks_set (i := 2) (by decide) sc.nd rfl (by first | exact .inl rfl | exact .inr rfl) (ke_op op_addU ops_add nx_add (ke_var (pv 1)) ke_str))
    (kss_cons (ks_set (i := 3) (by decide) sc.nd rfl (by first | exact .inl rfl | exact .inr rfl) (ke_ix (ke_lst (ka_cons (ke_ix (ke_var (pv 0)) ke_int (fun _ _ => rfl)) (ka_cons (ke_ix (ke_var (pv 0)) ke_int (fun _ _ => rfl)) (ka_cons ke_int ka_nil)))) (ke_ix (ke_var (pv 0)) ke_int (fun _ _ => rfl)) (fun _ _ => rfl)))
    (kss_one (ks_ret (ke_op op_addU ops_add nx_add (ke_ix (ke_var (pv 1)) (ke_ix (ke_var (pv 0)) ke_int (fun _ _ => rfl)) (fun _ _ => rfl)) (ke_bm PySem.F.plainAttrs_str PySem.F.slot_str_join PySem.F.type_str_join mt_join mts_join nx_join ke_str (ka_cons (ke_lc (own := [("_law_digit", 4)]) rfl sc.nd (ki_seq (ke_sl (ke_var (pv 0)) (ko_some ke_int) (ko_some (ke_op op_addU ops_add nx_add ke_int (ke_var (pv 3)))))) (blkOk_by (N := ["_law_digits_here", "_law_letters", "_law_signs", "_law_many", "_law_digit"]) (sc := defScope st_law_long_name) (by decide +kernel)) (by decide) (fun _ _ _ _ _ => (kg_name (pg_name (i := 4) sc.nd rfl (by first | exact .inl rfl | exact .inr rfl)))) (fun _ _ _ _ _ => kts_nil) (fun _ _ _ _ _ => (ke_ix (ke_var (pv 2)) (ke_var (pv 4)) (fun _ _ => rfl)))) ka_nil))))))))
def sb_law_program : Vs.Env → S :=
    (seqS (asgS (tgN 3) (app mkLst argN) [])
    (seqS (asgS (tgN 4) (app mkLst argN) [])
    (seqS (asgS (tgN 5) (bin dIx (app mkLst (argC (cst (.int 3)) (argC (cst (.int 2)) (argC (cst (.int 4)) (argC (cst (.int 1)) argN))))) (bin dIx (ld 0) (cst (.int 0)))) [0])
    (seqS (forS (itx dRng (argC (ld 5) argN)) [] (tgN 6) (seqS (asgS (tgN 10) (bin dIx (ld 0) (bin dAdd (cst (.int 4)) (bin dMul (cst (.int 2)) (ld 6)))) [0, 6])
    (seqS (ifS (orT (binB dLt (ld 10) (cst (.int 6))) (andT (binB dEq (ld 10) (cst (.int 7))) (andT (binB dEq (ld 6) (cst (.int 0))) (binB dGt (bin dIx (ld 0) (cst (.int 2))) (cst (.int 0)))))) [10, 10, 6, 0] (mutS1 (plN 3) (argC (app mkTup (argC (cst (.str "input")) (argC (bin dIx (ld 1) (bin dMod (ld 6) (app dLen (argC (ld 1) argN)))) argN))) argN) [1, 6, 1] mAppend) (ifS (binB dEq (ld 10) (cst (.int 6))) [10] (mutS1 (plN 3) (argC (app mkTup (argC (cst (.str "input")) (argC (bin dIx (ld 1) (bin dMod (bin dIx (ld 0) (bin dAdd (cst (.int 5)) (bin dMul (cst (.int 2)) (ld 6)))) (app dLen (argC (ld 1) argN)))) argN))) argN) [1, 0, 6, 1] mAppend) (mutS1 (plN 3) (argC (app mkTup (argC (cst (.str "number")) (argC (bin dIx (app mkLst (argC (cst (.int 2)) (argC (cst (.int 1)) (argC (cst (.int 0)) (argC (cst (.int 3)) (argC (cst (.int 7)) argN)))))) (bin dIx (ld 0) (bin dAdd (cst (.int 5)) (bin dMul (cst (.int 2)) (ld 6))))) argN))) argN) [0, 6] mAppend)))
    (mutS1 (plN 4) (argC (cst (.int 1)) argN) [] mAppend))) [0, 1, 2, 3, 4, 5])
    (seqS (asgS (tgN 7) (bin dIx (app mkLst (argC (cst (.int 7)) (argC (cst (.int 8)) (argC (cst (.int 6)) (argC (cst (.int 9)) (argC (cst (.int 8)) (argC (cst (.int 7)) (argC (cst (.int 9)) (argC (cst (.int 4)) argN))))))))) (bin dIx (ld 0) (cst (.int 1)))) [0])
    (seqS (forS (itx dRng (argC (ld 7) argN)) [] (tgN 6) (seqS (asgS (tgN 11) (slc (ld 0) (soI (bin dAdd (cst (.int 12)) (bin dMul (cst (.int 3)) (ld 6)))) (soI (bin dAdd (cst (.int 15)) (bin dMul (cst (.int 3)) (ld 6))))) [0, 6, 6])
    (seqS (asgS (tgN 12) (app dLen (argC (ld 3) argN)) [3])
    (seqS (asgS (tgN 13) (app dMax2 (argC (cst (.int 0)) (argC (bin dSub (bin dSub (ld 12) (cst (.int 1))) (bin dIx (app mkLst (argC (cst (.int 0)) (argC (cst (.int 1)) (argC (cst (.int 0)) (argC (cst (.int 2)) (argC (cst (.int 1)) (argC (cst (.int 0)) argN))))))) (bin dIx (ld 11) (cst (.int 1))))) argN))) [12, 11])
    (seqS (asgS (tgN 14) (bin dMod (app dInt (argC (bin dIx (ld 11) (cst (.int 2))) argN)) (ld 5)) [11, 5])
    (seqS (ifS (orT (binB dGe (bin dIx (ld 11) (cst (.int 2))) (cst (.int 6))) (binB dGe (bin dIx (ld 11) (cst (.int 0))) (cst (.int 6)))) [11, 11] (asgS (tgN 14) (bin dSub (bin dSub (ld 12) (cst (.int 1))) (bin dMod (app dInt (argC (bin dIx (ld 11) (cst (.int 2))) argN)) (app dMin2 (argC (ld 12) (argC (cst (.int 4)) argN))))) [12, 11, 12]) .nxt)
    (seqS (ifS (binB dEq (ld 6) (bin dSub (ld 7) (cst (.int 1)))) [6, 7] (seqS (asgS (tgN 13) (bin dSub (ld 12) (cst (.int 1))) [12])
    (asgS (tgN 14) (app dMax2 (argC (cst (.int 0)) (argC (bin dSub (bin dSub (ld 12) (cst (.int 2))) (bin dMod (app dInt (argC (bin dIx (ld 11) (cst (.int 2))) argN)) (cst (.int 3)))) argN))) [12, 11])) .nxt)
    (seqS (ifS (binB dEq (bin dMod (bin dIx (ld 11) (cst (.int 0))) (cst (.int 2))) (cst (.int 1))) [11] (asgS (tgN 15) (app mkTup (argC (ld 14) (argC (ld 13) argN))) [14, 13]) (asgS (tgN 15) (app mkTup (argC (ld 13) (argC (ld 14) argN))) [13, 14]))
    (ifS (andT (binB dLt (bin dIx (ld 11) (cst (.int 0))) (cst (.int 6))) (binB dLe (bin dAdd (bin dIx (ld 4) (ld 13)) (bin dIx (ld 4) (ld 14))) (ld 2))) [11, 4, 13, 4, 14, 2] (seqS (mutS1 (plN 3) (argC (app mkTup (argC (cst (.str "times")) (argC (bin dIx (ld 15) (cst (.int 0))) (argC (bin dIx (ld 15) (cst (.int 1))) argN)))) argN) [15, 15] mAppend)
    (mutS1 (plN 4) (argC (bin dAdd (bin dIx (ld 4) (ld 13)) (bin dIx (ld 4) (ld 14))) argN) [4, 13, 4, 14] mAppend)) (seqS (mutS1 (plN 3) (argC (app mkTup (argC (cst (.str "plus")) (argC (bin dIx (ld 15) (cst (.int 0))) (argC (bin dIx (ld 15) (cst (.int 1))) argN)))) argN) [15, 15] mAppend)
    (mutS1 (plN 4) (argC (app dMax2 (argC (bin dIx (ld 4) (ld 13)) (argC (bin dIx (ld 4) (ld 14)) argN))) argN) [4, 13, 4, 14] mAppend)))))))))) [0, 2, 3, 4, 5, 7])
    (seqS (asgS (tgN 8) (bin dSub (app dLen (argC (ld 3) argN)) (cst (.int 1))) [3])
    (seqS (asgS (tgN 9) (bin dIx (app mkLst (argC (app mkTup (argC (ld 8) argN)) (argC (app mkTup (argC (ld 8) argN)) (argC (app mkTup (argC (ld 8) argN)) (argC (app mkTup (argC (ld 8) (argC (bin dSub (ld 8) (cst (.int 1))) argN))) (argC (app mkTup (argC (ld 8) (argC (cst (.int 0)) (argC (ld 8) argN)))) (argC (app mkTup (argC (app dMax2 (argC (cst (.int 0)) (argC (bin dSub (ld 8) (cst (.int 2))) argN))) (argC (ld 8) argN))) argN))))))) (bin dIx (ld 0) (cst (.int 3)))) [8, 8, 8, 8, 8, 8, 8, 8, 8, 0])
    (retS (app mkLst (argC (app dTupleOf (argC (ld 3) argN)) (argC (ld 9) argN))) [3, 9])))))))))
abbrev st_law_program : Stmt := tp 39
theorem sc_law_program : FnScope ["_law_row", "_law_names_here", "_law_cap", "_law_steps", "_law_degs", "_law_leaves", "_law_k", "_law_inner", "_law_last", "_law_outputs", "_law_kind", "_law_piece", "_law_many", "_law_one", "_law_two", "_law_pair"] ["_law_row", "_law_names_here", "_law_cap"] (defScope st_law_program) := ⟨rfl, rfl, rfl, by decide +kernel, rfl, by decide +kernel, by decide +kernel⟩
theorem w_law_program (T : Txt K mg) {f : Addr} {fd : FuncData} (F : Fun K "_law_program" "_law_program" st_law_program f fd) (hx : mg "_law_program" = some (.ref f)) : KFn P w K mg base (k + 3) "_law_program" 3 (runB 16 (sb_law_program)) :=
  by
  refine KFn.mk3 (k := k + 2) (sb := sb_law_program) F sc_law_program hx (F.binds (ps := ["_law_row", "_law_names_here", "_law_cap"]) fun _ _ _ _ _ _ us hl => match us, hl with | [_, _, _], _ => rfl) rfl rfl fun cdv A outer s H E hr tk => ?_
  have sc := sc_law_program
  exact (kss_cons (ks_set (i := 3) (by decide) sc.nd rfl (by first | exact .inl rfl | exact .inr rfl) (ke_lst ka_nil))
    (kss_cons (ks_set (i := 4) (by decide) sc.nd rfl (by first | exact .inl rfl | exact .inr rfl) (ke_lst ka_nil))
    (kss_cons (ks_set (i := 5) (by decide) sc.nd rfl (by first | exact .inl rfl | exact .inr rfl) (ke_ix (ke_lst (ka_cons ke_int (ka_cons ke_int (ka_cons ke_int (ka_cons ke_int ka_nil))))) (ke_ix (ke_var (pv 0)) ke_int (fun _ _ => rfl)) (fun _ _ => rfl)))
    (kss_cons (ks_for (by decide) (passes_of rfl) rfl (ki_range1 (by rfl) T.n_range (ka_cons (ke_var (pv 5)) ka_nil)) (kg_name (pg_name (i := 6) sc.nd rfl (by first | exact .inl rfl | exact .inr rfl))) (kss_cons (ks_set (i := 10) (by decide) sc.nd rfl (by first | exact .inl rfl | exact .inr rfl) (ke_ix (ke_var (pv 0)) (ke_op op_addU ops_add nx_add ke_int (ke_op op_mulU ops_mul nx_mul ke_int (ke_var (pv 6)))) (fun _ _ => rfl)))
    (kss_cons (ks_if (kt_w (kw_or (kt_cmp op_lt ops_lt nx_lt (nomark _) (ke_var (pv 10)) ke_int) (kw_or1 (kt_w (kw_and (kt_cmp (op_eqU (hu64 hr)) ops_eq nx_eq (nomark _) (ke_var (pv 10)) ke_int) (kw_and (kt_cmp (op_eqU (hu64 hr)) ops_eq nx_eq (nomark _) (ke_var (pv 6)) ke_int) (kw_and1 (kt_cmp op_gt ops_gt nx_gt (nomark _) (ke_ix (ke_var (pv 0)) ke_int (fun _ _ => rfl)) ke_int)))))))) (kss_one (ks_append (kp_name (pv 3)) (ka_cons (ke_tup (ka_cons ke_str (ka_cons (ke_ix (ke_var (pv 1)) (ke_op op_mod ops_mod nx_mod (ke_var (pv 6)) (ke_callB call_lenU calls_len nx_len (by rfl) T.n_len (by decide +kernel) (ka_cons (ke_var (pv 1)) ka_nil))) (fun _ _ => rfl)) ka_nil))) ka_nil))) (kss_one (ks_if (kt_cmp (op_eqU (hu64 hr)) ops_eq nx_eq (nomark _) (ke_var (pv 10)) ke_int) (kss_one (ks_append (kp_name (pv 3)) (ka_cons (ke_tup (ka_cons ke_str (ka_cons (ke_ix (ke_var (pv 1)) (ke_op op_mod ops_mod nx_mod (ke_ix (ke_var (pv 0)) (ke_op op_addU ops_add nx_add ke_int (ke_op op_mulU ops_mul nx_mul ke_int (ke_var (pv 6)))) (fun _ _ => rfl)) (ke_callB call_lenU calls_len nx_len (by rfl) T.n_len (by decide +kernel) (ka_cons (ke_var (pv 1)) ka_nil))) (fun _ _ => rfl)) ka_nil))) ka_nil))) (kss_one (ks_append (kp_name (pv 3)) (ka_cons (ke_tup (ka_cons ke_str (ka_cons (ke_ix (ke_lst (ka_cons ke_int (ka_cons ke_int (ka_cons ke_int (ka_cons ke_int (ka_cons ke_int ka_nil)))))) (ke_ix (ke_var (pv 0)) (ke_op op_addU ops_add nx_add ke_int (ke_op op_mulU ops_mul nx_mul ke_int (ke_var (pv 6)))) (fun _ _ => rfl)) (fun _ _ => rfl)) ka_nil))) ka_nil))))))
    (kss_one (ks_append (kp_name (pv 4)) (ka_cons ke_int ka_nil))))) [0, 1, 2, 3, 4, 5])
    (kss_cons (ks_set (i := 7) (by decide) sc.nd rfl (by first | exact .inl rfl | exact .inr rfl) (ke_ix (ke_lst (ka_cons ke_int (ka_cons ke_int (ka_cons ke_int (ka_cons ke_int (ka_cons ke_int (ka_cons ke_int (ka_cons ke_int (ka_cons ke_int ka_nil))))))))) (ke_ix (ke_var (pv 0)) ke_int (fun _ _ => rfl)) (fun _ _ => rfl)))
    (kss_cons (ks_for (by decide) (passes_of rfl) rfl (ki_range1 (by rfl) T.n_range (ka_cons (ke_var (pv 7)) ka_nil)) (kg_name (pg_name (i := 6) sc.nd rfl (by first | exact .inl rfl | exact .inr rfl))) (kss_cons (ks_set (i := 11) (by decide) sc.nd rfl (by first | exact .inl rfl | exact .inr rfl) (ke_sl (ke_var (pv 0)) (ko_some (ke_op op_addU ops_add nx_add ke_int (ke_op op_mulU ops_mul nx_mul ke_int (ke_var (pv 6))))) (ko_some (ke_op op_addU ops_add nx_add ke_int (ke_op op_mulU ops_mul nx_mul ke_int (ke_var (pv 6)))))))
    (kss_cons (ks_set (i := 12) (by decide) sc.nd rfl (by first | exact .inl rfl | exact .inr rfl) (ke_callB call_lenU calls_len nx_len (by rfl) T.n_len (by decide +kernel) (ka_cons (ke_var (pv 3)) ka_nil)))
    (kss_cons (ks_set (i := 13) (by decide) sc.nd rfl (by first | exact .inl rfl | exact .inr rfl) (ke_callB (call_max2 rfl) calls_max2 nx_max2 (by rfl) T.n_max (by decide +kernel) (ka_cons ke_int (ka_cons (ke_op op_sub ops_sub nx_sub (ke_op op_sub ops_sub nx_sub (ke_var (pv 12)) ke_int) (ke_ix (ke_lst (ka_cons ke_int (ka_cons ke_int (ka_cons ke_int (ka_cons ke_int (ka_cons ke_int (ka_cons ke_int ka_nil))))))) (ke_ix (ke_var (pv 11)) ke_int (fun _ _ => rfl)) (fun _ _ => rfl))) ka_nil))))
    (kss_cons (ks_set (i := 14) (by decide) sc.nd rfl (by first | exact .inl rfl | exact .inr rfl) (ke_op op_mod ops_mod nx_mod (ke_callTy call_intU calls_int nx_int (by rfl) T.n_int (by decide +kernel) (ka_cons (ke_ix (ke_var (pv 11)) ke_int (fun _ _ => rfl)) ka_nil)) (ke_var (pv 5))))
    (kss_cons (ks_if (kt_w (kw_or (kt_cmp op_ge ops_ge nx_ge (nomark _) (ke_ix (ke_var (pv 11)) ke_int (fun _ _ => rfl)) ke_int) (kw_or1 (kt_cmp op_ge ops_ge nx_ge (nomark _) (ke_ix (ke_var (pv 11)) ke_int (fun _ _ => rfl)) ke_int)))) (kss_one (ks_set (i := 14) (by decide) sc.nd rfl (by first | exact .inl rfl | exact .inr rfl) (ke_op op_sub ops_sub nx_sub (ke_op op_sub ops_sub nx_sub (ke_var (pv 12)) ke_int) (ke_op op_mod ops_mod nx_mod (ke_callTy call_intU calls_int nx_int (by rfl) T.n_int (by decide +kernel) (ka_cons (ke_ix (ke_var (pv 11)) ke_int (fun _ _ => rfl)) ka_nil)) (ke_callB (call_min2 rfl) calls_min2 nx_min2 (by rfl) T.n_min (by decide +kernel) (ka_cons (ke_var (pv 12)) (ka_cons ke_int ka_nil))))))) kss_nil)
    (kss_cons (ks_if (kt_cmp (op_eqU (hu64 hr)) ops_eq nx_eq (nomark _) (ke_var (pv 6)) (ke_op op_sub ops_sub nx_sub (ke_var (pv 7)) ke_int)) (kss_cons (ks_set (i := 13) (by decide) sc.nd rfl (by first | exact .inl rfl | exact .inr rfl) (ke_op op_sub ops_sub nx_sub (ke_var (pv 12)) ke_int))
    (kss_one (ks_set (i := 14) (by decide) sc.nd rfl (by first | exact .inl rfl | exact .inr rfl) (ke_callB (call_max2 rfl) calls_max2 nx_max2 (by rfl) T.n_max (by decide +kernel) (ka_cons ke_int (ka_cons (ke_op op_sub ops_sub nx_sub (ke_op op_sub ops_sub nx_sub (ke_var (pv 12)) ke_int) (ke_op op_mod ops_mod nx_mod (ke_callTy call_intU calls_int nx_int (by rfl) T.n_int (by decide +kernel) (ka_cons (ke_ix (ke_var (pv 11)) ke_int (fun _ _ => rfl)) ka_nil)) ke_int)) ka_nil)))))) kss_nil)
    (kss_cons (ks_if (kt_cmp (op_eqU (hu64 hr)) ops_eq nx_eq (nomark _) (ke_op op_mod ops_mod nx_mod (ke_ix (ke_var (pv 11)) ke_int (fun _ _ => rfl)) ke_int) ke_int) (kss_one (ks_set (i := 15) (by decide) sc.nd rfl (by first | exact .inl rfl | exact .inr rfl) (ke_tup (ka_cons (ke_var (pv 14)) (ka_cons (ke_var (pv 13)) ka_nil))))) (kss_one (ks_set (i := 15) (by decide) sc.nd rfl (by first | exact .inl rfl | exact .inr rfl) (ke_tup (ka_cons (ke_var (pv 13)) (ka_cons (ke_var (pv 14)) ka_nil))))))
    (kss_one (ks_if (kt_w (kw_and (kt_cmp op_lt ops_lt nx_lt (nomark _) (ke_ix (ke_var (pv 11)) ke_int (fun _ _ => rfl)) ke_int) (kw_and1 (kt_cmp op_le ops_le nx_le (nomark _) (ke_op op_addU ops_add nx_add (ke_ix (ke_var (pv 4)) (ke_var (pv 13)) (fun _ _ => rfl)) (ke_ix (ke_var (pv 4)) (ke_var (pv 14)) (fun _ _ => rfl))) (ke_var (pv 2)))))) (kss_cons (ks_append (kp_name (pv 3)) (ka_cons (ke_tup (ka_cons ke_str (ka_cons (ke_ix (ke_var (pv 15)) ke_int (fun _ _ => rfl)) (ka_cons (ke_ix (ke_var (pv 15)) ke_int (fun _ _ => rfl)) ka_nil)))) ka_nil))
    (kss_one (ks_append (kp_name (pv 4)) (ka_cons (ke_op op_addU ops_add nx_add (ke_ix (ke_var (pv 4)) (ke_var (pv 13)) (fun _ _ => rfl)) (ke_ix (ke_var (pv 4)) (ke_var (pv 14)) (fun _ _ => rfl))) ka_nil)))) (kss_cons (ks_append (kp_name (pv 3)) (ka_cons (ke_tup (ka_cons ke_str (ka_cons (ke_ix (ke_var (pv 15)) ke_int (fun _ _ => rfl)) (ka_cons (ke_ix (ke_var (pv 15)) ke_int (fun _ _ => rfl)) ka_nil)))) ka_nil))
    (kss_one (ks_append (kp_name (pv 4)) (ka_cons (ke_callB (call_max2 rfl) calls_max2 nx_max2 (by rfl) T.n_max (by decide +kernel) (ka_cons (ke_ix (ke_var (pv 4)) (ke_var (pv 13)) (fun _ _ => rfl)) (ka_cons (ke_ix (ke_var (pv 4)) (ke_var (pv 14)) (fun _ _ => rfl)) ka_nil))) ka_nil))))))))))))) [0, 2, 3, 4, 5, 7])
    (kss_cons (ks_set (i := 8) (by decide) sc.nd rfl (by first | exact .inl rfl | exact .inr rfl) (ke_op op_sub ops_sub nx_sub (ke_callB call_lenU calls_len nx_len (by rfl) T.n_len (by decide +kernel) (ka_cons (ke_var (pv 3)) ka_nil)) ke_int))
    (kss_cons (ks_set (i := 9) (by decide) sc.nd rfl (by first | exact .inl rfl | exact .inr rfl) (ke_ix (ke_lst (ka_cons (ke_tup (ka_cons (ke_var (pv 8)) ka_nil)) (ka_cons (ke_tup (ka_cons (ke_var (pv 8)) ka_nil)) (ka_cons (ke_tup (ka_cons (ke_var (pv 8)) ka_nil)) (ka_cons (ke_tup (ka_cons (ke_var (pv 8)) (ka_cons (ke_op op_sub ops_sub nx_sub (ke_var (pv 8)) ke_int) ka_nil))) (ka_cons (ke_tup (ka_cons (ke_var (pv 8)) (ka_cons ke_int (ka_cons (ke_var (pv 8)) ka_nil)))) (ka_cons (ke_tup (ka_cons (ke_callB (call_max2 rfl) calls_max2 nx_max2 (by rfl) T.n_max (by decide +kernel) (ka_cons ke_int (ka_cons (ke_op op_sub ops_sub nx_sub (ke_var (pv 8)) ke_int) ka_nil))) (ka_cons (ke_var (pv 8)) ka_nil))) ka_nil))))))) (ke_ix (ke_var (pv 0)) ke_int (fun _ _ => rfl)) (fun _ _ => rfl)))
    (kss_one (ks_ret (ke_lst (ka_cons (ke_callTy call_tuple_of calls_tuple nx_tuple (by rfl) T.n_tuple (by decide +kernel) (ka_cons (ke_var (pv 3)) ka_nil)) (ka_cons (ke_var (pv 9)) ka_nil)))))))))))))
def sb_law_whole : Vs.Env → S :=
    (retS (andV (app (dIsi ci) (argC (ld 0) (argC (cst (.ty "int")) argN))) (notV (app (dIsi ci) (argC (ld 0) (argC (cst (.ty "bool")) argN))))) [0, 0])
abbrev st_law_whole : Stmt := tp 33
theorem sc_law_whole : FnScope ["_law_value"] ["_law_value"] (defScope st_law_whole) := ⟨rfl, rfl, rfl, by decide +kernel, rfl, by decide +kernel, by decide +kernel⟩
theorem w_law_whole (T : Txt K mg) {f : Addr} {fd : FuncData} (F : Fun K "_law_whole" "_law_whole" st_law_whole f fd) (hx : mg "_law_whole" = some (.ref f)) : KFn P w K mg base (k + 3) "_law_whole" 1 (runB 1 (sb_law_whole)) :=
  by
  refine KFn.mk3 (k := k + 2) (sb := sb_law_whole) F sc_law_whole hx (F.binds (ps := ["_law_value"]) fun _ _ _ _ _ _ us hl => match us, hl with | [_], _ => rfl) rfl rfl fun cdv A outer s H E hr tk => ?_
  have sc := sc_law_whole
  exact (kss_one (ks_ret (ke_and (ke_callB call_isi (calls_isi T.isa) nx_isi (by rfl) T.n_isinstance (by decide +kernel) (ka_cons (ke_var (pv 0)) (ka_cons (ke_ty (by rfl) T.n_int (by decide +kernel)) ka_nil))) (ke_one (ke_not (ke_callB call_isi (calls_isi T.isa) nx_isi (by rfl) T.n_isinstance (by decide +kernel) (ka_cons (ke_var (pv 0)) (ka_cons (ke_ty (by rfl) T.n_bool (by decide +kernel)) ka_nil))))))))
def sb_law_same (c_law_same : List D → R D) (c_law_whole : List D → R D) : Vs.Env → S :=
    (seqS (ifS (truT (app (dIsi ci) (argC (ld 1) (argC (cst (.ty "tuple")) argN)))) [1] (seqS (ifS (orT (notT (truT (app (dIsi ci) (argC (ld 0) (argC (cst (.ty "tuple")) argN))))) (binB dNe (app dLen (argC (ld 0) argN)) (app dLen (argC (ld 1) argN)))) [0, 0, 1] (retS (cst (.bl false)) []) .nxt)
    (seqS (forS (itx dRng (argC (app dLen (argC (ld 1) argN)) argN)) [] (tgN 2) (ifS (notT (truT (app (callN 2 c_law_same) (argC (bin dIx (ld 0) (ld 2)) (argC (bin dIx (ld 1) (ld 2)) argN))))) [0, 2, 1, 2] (retS (cst (.bl false)) []) .nxt) [0, 1])
    (retS (cst (.bl true)) []))) .nxt)
    (seqS (ifS (binB dIs (ld 1) (cst .non)) [1] (retS (bin dIs (ld 0) (cst .non)) [0]) .nxt)
    (seqS (ifS (binB dIs (ld 1) (cst (.bl true))) [1] (retS (bin dIs (ld 0) (cst (.bl true))) [0]) .nxt)
    (seqS (ifS (binB dIs (ld 1) (cst (.bl false))) [1] (retS (bin dIs (ld 0) (cst (.bl false))) [0]) .nxt)
    (seqS (ifS (truT (app (dIsi ci) (argC (ld 1) (argC (cst (.ty "str")) argN)))) [1] (retS (andV (app (dIsi ci) (argC (ld 0) (argC (cst (.ty "str")) argN))) (bin dEq (ld 0) (ld 1))) [0, 0, 1]) .nxt)
    (retS (andV (app (callN 1 c_law_whole) (argC (ld 0) argN)) (bin dEq (ld 0) (ld 1))) [0, 0, 1]))))))
abbrev st_law_same : Stmt := tp 36
theorem sc_law_same : FnScope ["_law_told", "_law_due", "_law_k"] ["_law_told", "_law_due"] (defScope st_law_same) := ⟨rfl, rfl, rfl, by decide +kernel, rfl, by decide +kernel, by decide +kernel⟩
theorem w_law_same (T : Txt K mg) {f : Addr} {fd : FuncData} (F : Fun K "_law_same" "_law_same" st_law_same f fd) (hx : mg "_law_same" = some (.ref f)) {c_law_same : List D → R D} (F_law_same : KFn P w K mg base k "_law_same" 2 c_law_same) {c_law_whole : List D → R D} (F_law_whole : KFn P w K mg base k "_law_whole" 1 c_law_whole) : KFn P w K mg base (k + 3) "_law_same" 2 (runB 3 (sb_law_same c_law_same c_law_whole)) :=
  by
  refine KFn.mk3 (k := k + 2) (sb := sb_law_same c_law_same c_law_whole) F sc_law_same hx (F.binds (ps := ["_law_told", "_law_due"]) fun _ _ _ _ _ _ us hl => match us, hl with | [_, _], _ => rfl) rfl rfl fun cdv A outer s H E hr tk => ?_
  have sc := sc_law_same
  exact (kss_cons (ks_if (kt_tru (ke_callB call_isi (calls_isi T.isa) nx_isi (by rfl) T.n_isinstance (by decide +kernel) (ka_cons (ke_var (pv 1)) (ka_cons (ke_ty (by rfl) T.n_tuple (by decide +kernel)) ka_nil)))) (kss_cons (ks_if (kt_w (kw_or (kt_not (kt_tru (ke_callB call_isi (calls_isi T.isa) nx_isi (by rfl) T.n_isinstance (by decide +kernel) (ka_cons (ke_var (pv 0)) (ka_cons (ke_ty (by rfl) T.n_tuple (by decide +kernel)) ka_nil))))) (kw_or1 (kt_cmp (op_neU (hu64 hr)) ops_ne nx_ne (nomark _) (ke_callB call_lenU calls_len nx_len (by rfl) T.n_len (by decide +kernel) (ka_cons (ke_var (pv 0)) ka_nil)) (ke_callB call_lenU calls_len nx_len (by rfl) T.n_len (by decide +kernel) (ka_cons (ke_var (pv 1)) ka_nil)))))) (kss_one (ks_ret ke_bl)) kss_nil)
    (kss_cons (ks_for (by decide) (passes_of rfl) rfl (ki_range1 (by rfl) T.n_range (ka_cons (ke_callB call_lenU calls_len nx_len (by rfl) T.n_len (by decide +kernel) (ka_cons (ke_var (pv 1)) ka_nil)) ka_nil)) (kg_name (pg_name (i := 2) sc.nd rfl (by first | exact .inl rfl | exact .inr rfl))) (kss_one (ks_if (kt_not (kt_tru (ke_call F_law_same (hr.mono (by omega)) tk (by rfl) (ka_cons (ke_ix (ke_var (pv 0)) (ke_var (pv 2)) (fun _ _ => rfl)) (ka_cons (ke_ix (ke_var (pv 1)) (ke_var (pv 2)) (fun _ _ => rfl)) ka_nil))))) (kss_one (ks_ret ke_bl)) kss_nil)) [0, 1])
    (kss_one (ks_ret ke_bl)))) kss_nil)
    (kss_cons (ks_if (kt_cmp op_isU ops_is nx_is (nomark _) (ke_var (pv 1)) ke_non) (kss_one (ks_ret (ke_cmp op_isU ops_is nx_is (nomark _) (ke_var (pv 0)) ke_non))) kss_nil)
    (kss_cons (ks_if (kt_cmp op_isU ops_is nx_is (nomark _) (ke_var (pv 1)) ke_bl) (kss_one (ks_ret (ke_cmp op_isU ops_is nx_is (nomark _) (ke_var (pv 0)) ke_bl))) kss_nil)
    (kss_cons (ks_if (kt_cmp op_isU ops_is nx_is (nomark _) (ke_var (pv 1)) ke_bl) (kss_one (ks_ret (ke_cmp op_isU ops_is nx_is (nomark _) (ke_var (pv 0)) ke_bl))) kss_nil)
    (kss_cons (ks_if (kt_tru (ke_callB call_isi (calls_isi T.isa) nx_isi (by rfl) T.n_isinstance (by decide +kernel) (ka_cons (ke_var (pv 1)) (ka_cons (ke_ty (by rfl) T.n_str (by decide +kernel)) ka_nil)))) (kss_one (ks_ret (ke_and (ke_callB call_isi (calls_isi T.isa) nx_isi (by rfl) T.n_isinstance (by decide +kernel) (ka_cons (ke_var (pv 0)) (ka_cons (ke_ty (by rfl) T.n_str (by decide +kernel)) ka_nil))) (ke_one (ke_cmp (op_eqU (hu64 hr)) ops_eq nx_eq (nomark _) (ke_var (pv 0)) (ke_var (pv 1))))))) kss_nil)
    (kss_one (ks_ret (ke_and (ke_call F_law_whole (hr.mono (by omega)) tk (by rfl) (ka_cons (ke_var (pv 0)) ka_nil)) (ke_one (ke_cmp (op_eqU (hu64 hr)) ops_eq nx_eq (nomark _) (ke_var (pv 0)) (ke_var (pv 1))))))))))))
def sb_is_inner : Vs.Env → S :=
    (retS (orV (bin dEq (bin dIx (ld 0) (cst (.int 0))) (cst (.str "plus"))) (bin dEq (bin dIx (ld 0) (cst (.int 0))) (cst (.str "times")))) [0, 0])
abbrev st_is_inner : Stmt := tp 19
theorem sc_is_inner : FnScope ["step"] ["step"] (defScope st_is_inner) := ⟨rfl, rfl, rfl, by decide +kernel, rfl, by decide +kernel, by decide +kernel⟩
theorem w_is_inner (T : Txt K mg) {f : Addr} {fd : FuncData} (F : Fun K "is_inner" "is_inner" st_is_inner f fd) (hx : mg "is_inner" = some (.ref f)) : KFn P w K mg base (k + 3) "is_inner" 1 (runB 1 (sb_is_inner)) :=
  by
  refine KFn.mk3 (k := k + 2) (sb := sb_is_inner) F sc_is_inner hx (F.binds (ps := ["step"]) fun _ _ _ _ _ _ us hl => match us, hl with | [_], _ => rfl) rfl rfl fun cdv A outer s H E hr tk => ?_
  have sc := sc_is_inner
  exact (kss_one (ks_ret (ke_or (ke_cmp (op_eqU (hu64 hr)) ops_eq nx_eq (nomark _) (ke_ix (ke_var (pv 0)) ke_int (fun _ _ => rfl)) ke_str) (ke_one (ke_cmp (op_eqU (hu64 hr)) ops_eq nx_eq (nomark _) (ke_ix (ke_var (pv 0)) ke_int (fun _ _ => rfl)) ke_str)))))
def sb_step_text (c_is_inner : List D → R D) : Vs.Env → S :=
    (seqS (ifS (truT (app (callN 1 c_is_inner) (argC (ld 1) argN))) [1] (retS (sJ Str.empty [(fmt (ld 0)), (csS " "), (fmt (bin dIx (ld 1) (cst (.int 0)))), (csS " "), (fmt (bin dIx (ld 1) (cst (.int 1)))), (csS " "), (fmt (bin dIx (ld 1) (cst (.int 2))))]) [0, 1, 1, 1]) .nxt)
    (retS (sJ Str.empty [(fmt (ld 0)), (csS " "), (fmt (bin dIx (ld 1) (cst (.int 0)))), (csS " "), (fmt (bin dIx (ld 1) (cst (.int 1))))]) [0, 1, 1]))
abbrev st_step_text : Stmt := tp 27
theorem sc_step_text : FnScope ["index", "step"] ["index", "step"] (defScope st_step_text) := ⟨rfl, rfl, rfl, by decide +kernel, rfl, by decide +kernel, by decide +kernel⟩
theorem w_step_text (T : Txt K mg) {f : Addr} {fd : FuncData} (F : Fun K "step_text" "step_text" st_step_text f fd) (hx : mg "step_text" = some (.ref f)) {c_is_inner : List D → R D} (F_is_inner : KFn P w K mg base k "is_inner" 1 c_is_inner) : KFn P w K mg base (k + 3) "step_text" 2 (runB 2 (sb_step_text c_is_inner)) :=
  by
  refine KFn.mk3 (k := k + 2) (sb := sb_step_text c_is_inner) F sc_step_text hx (F.binds (ps := ["index", "step"]) fun _ _ _ _ _ _ us hl => match us, hl with | [_, _], _ => rfl) rfl rfl fun cdv A outer s H E hr tk => ?_
  have sc := sc_step_text
  exact (kss_cons (ks_if (kt_tru (ke_call F_is_inner (hr.mono (by omega)) tk (by rfl) (ka_cons (ke_var (pv 1)) ka_nil))) (kss_one (ks_ret (ke_joined (.cons (kf_fmt (ke_var (pv 0))) (.cons kf_str (.cons (kf_fmt (ke_ix (ke_var (pv 1)) ke_int (fun _ _ => rfl))) (.cons kf_str (.cons (kf_fmt (ke_ix (ke_var (pv 1)) ke_int (fun _ _ => rfl))) (.cons kf_str (.cons (kf_fmt (ke_ix (ke_var (pv 1)) ke_int (fun _ _ => rfl))) KJ.nil)))))))))) kss_nil)
    (kss_one (ks_ret (ke_joined (.cons (kf_fmt (ke_var (pv 0))) (.cons kf_str (.cons (kf_fmt (ke_ix (ke_var (pv 1)) ke_int (fun _ _ => rfl))) (.cons kf_str (.cons (kf_fmt (ke_ix (ke_var (pv 1)) ke_int (fun _ _ => rfl))) KJ.nil)))))))))
def sb_program_text (c_step_text : List D → R D) : Vs.Env → S :=
    (seqS (asgS (tgN 1) (sLc (itm dEnum (argC (una (dFld cf "steps") (ld 0)) argN)) [0] [2, 3] (gTup' 2 (gCons' (tgN 2) (gCons' (tgN 3) gNil'))) yes (app (callN 2 c_step_text) (argC (ld 2) (argC (ld 3) argN)))) [0, 2, 3])
    (seqS (mutS1 (plN 1) (argC (bin dAdd (cst (.str "outputs ")) (met "str" dJoin (cst (.str " ")) (argC (sLc (seqI (una (dFld cf "outputs") (ld 0))) [0] [4] (tgN 4) yes (app dStr (argC (ld 4) argN))) argN))) argN) [0, 4] mAppend)
    (retS (met "str" dJoin (cst (.str "\n")) (argC (ld 1) argN)) [1])))
abbrev st_program_text : Stmt := tp 28
theorem sc_program_text : FnScope ["program", "lines", "index", "step", "output"] ["program"] (defScope st_program_text) := ⟨rfl, rfl, rfl, by decide +kernel, rfl, by decide +kernel, by decide +kernel⟩
theorem w_program_text (T : Txt K mg) {f : Addr} {fd : FuncData} (F : Fun K "program_text" "program_text" st_program_text f fd) (hx : mg "program_text" = some (.ref f)) {c_step_text : List D → R D} (F_step_text : KFn P w K mg base k "step_text" 2 c_step_text) : KFn P w K mg base (k + 3) "program_text" 1 (runB 5 (sb_program_text c_step_text)) :=
  by
  refine KFn.mk3 (k := k + 2) (sb := sb_program_text c_step_text) F sc_program_text hx (F.binds (ps := ["program"]) fun _ _ _ _ _ _ us hl => match us, hl with | [_], _ => rfl) rfl rfl fun cdv A outer s H E hr tk => ?_
  have sc := sc_program_text
  exact (kss_cons (ks_setLc (own := [("index", 2), ("step", 3)]) (i := 1) (by decide) rfl sc.nd rfl rfl (sw_true rfl rfl rfl (by decide +kernel)) (ki_enum (by rfl) T.n_enumerate (ka_cons (ke_fld T.fld (ke_var (pv 0)) rfl) ka_nil)) (blkOk_by (N := ["program", "lines", "index", "step", "output"]) (sc := defScope st_program_text) (by decide +kernel)) (by decide) (fun _ _ _ _ _ => (kg_tup rfl (kgs_cons (kg_name (pg_name (i := 2) sc.nd rfl (by first | exact .inl rfl | exact .inr rfl))) (kgs_cons (kg_name (pg_name (i := 3) sc.nd rfl (by first | exact .inl rfl | exact .inr rfl))) kgs_nil)))) (fun _ _ _ _ _ => kts_nil) (fun _ _ _ _ _ => (ke_call F_step_text (hr.mono (by omega)) takes0 (by rfl) (ka_cons (ke_var (pv 2)) (ka_cons (ke_var (pv 3)) ka_nil)))))
    (kss_cons (ks_append (kp_name (pv 1)) (ka_cons (ke_op op_addU ops_add nx_add ke_str (ke_bm PySem.F.plainAttrs_str PySem.F.slot_str_join PySem.F.type_str_join mt_join mts_join nx_join ke_str (ka_cons (ke_lc (own := [("output", 4)]) rfl sc.nd (ki_seq (ke_fld T.fld (ke_var (pv 0)) rfl)) (blkOk_by (N := ["program", "lines", "index", "step", "output"]) (sc := defScope st_program_text) (by decide +kernel)) (by decide) (fun _ _ _ _ _ => (kg_name (pg_name (i := 4) sc.nd rfl (by first | exact .inl rfl | exact .inr rfl)))) (fun _ _ _ _ _ => kts_nil) (fun _ _ _ _ _ => (ke_callTy call_strU calls_str nx_str (by rfl) T.n_str (by decide +kernel) (ka_cons (ke_var (pv 4)) ka_nil)))) ka_nil))) ka_nil))
    (kss_one (ks_ret (ke_bm PySem.F.plainAttrs_str PySem.F.slot_str_join PySem.F.type_str_join mt_join mts_join nx_join ke_str (ka_cons (ke_var (pv 1)) ka_nil))))))
def sb_is_number : Vs.Env → S :=
    (seqS (ifS (orT (notT (chnT dLe dLe (cst (.int 1)) (app dLen (argC (ld 0) argN)) (cst (.int 200)))) (andT (binB dEq (bin dIx (ld 0) (cst (.int 0))) (cst (.str "0"))) (binB dNe (ld 0) (cst (.str "0"))))) [0, 0, 0] (retS (cst (.bl false)) []) .nxt)
    (retS (app dAll (argC (sLc (seqI (ld 0)) [0] [1] (tgN 1) yes (bin dIn (ld 1) (cst (.str "0123456789")))) argN)) [0, 1]))
abbrev st_is_number : Stmt := tp 26
theorem sc_is_number : FnScope ["word", "char"] ["word"] (defScope st_is_number) := ⟨rfl, rfl, rfl, by decide +kernel, rfl, by decide +kernel, by decide +kernel⟩
theorem w_is_number (T : Txt K mg) {f : Addr} {fd : FuncData} (F : Fun K "is_number" "is_number" st_is_number f fd) (hx : mg "is_number" = some (.ref f)) : KFn P w K mg base (k + 3) "is_number" 1 (runB 2 (sb_is_number)) :=
  by
  refine KFn.mk3 (k := k + 2) (sb := sb_is_number) F sc_is_number hx (F.binds (ps := ["word"]) fun _ _ _ _ _ _ us hl => match us, hl with | [_], _ => rfl) rfl rfl fun cdv A outer s H E hr tk => ?_
  have sc := sc_is_number
  exact (kss_cons (ks_if (kt_w (kw_or (kt_not (kt_chain op_le ops_le nx_le op_le ops_le nx_le ke_int (ke_callB call_lenU calls_len nx_len (by rfl) T.n_len (by decide +kernel) (ka_cons (ke_var (pv 0)) ka_nil)) (ke_globI (by rfl) T.c_LONGEST))) (kw_or1 (kt_w (kw_and (kt_cmp (op_eqU (hu64 hr)) ops_eq nx_eq (nomark _) (ke_ix (ke_var (pv 0)) ke_int (fun _ _ => rfl)) ke_str) (kw_and1 (kt_cmp (op_neU (hu64 hr)) ops_ne nx_ne (nomark _) (ke_var (pv 0)) ke_str))))))) (kss_one (ks_ret ke_bl)) kss_nil)
    (kss_one (ks_ret (ke_callB (cr_all rfl) calls_all nx_all (by rfl) T.n_all (by decide +kernel) (ka_cons (ke_lc (own := [("char", 1)]) rfl sc.nd (ki_seq (ke_var (pv 0))) (blkOk_by (N := ["word", "char"]) (sc := defScope st_is_number) (by decide +kernel)) (by decide) (fun _ _ _ _ _ => (kg_name (pg_name (i := 1) sc.nd rfl (by first | exact .inl rfl | exact .inr rfl)))) (fun _ _ _ _ _ => kts_nil) (fun _ _ _ _ _ => (ke_cmp (op_inU (hu65 hr)) ops_in nx_in (by rfl) (ke_var (pv 1)) (ke_globS (by rfl) T.c_DIGITS)))) ka_nil)))))
def sb_are_outputs (c_is_number : List D → R D) : Vs.Env → S :=
    (retS (andV (bin dGe (app dLen (argC (ld 0) argN)) (cst (.int 2))) (andV (bin dEq (bin dIx (ld 0) (cst (.int 0))) (cst (.str "outputs"))) (app dAll (argC (sLc (seqI (slc (ld 0) (soI (cst (.int 1))) noI)) [0] [1] (tgN 1) yes (app (callN 1 c_is_number) (argC (ld 1) argN))) argN)))) [0, 0, 0, 1])
abbrev st_are_outputs : Stmt := tp 30
theorem sc_are_outputs : FnScope ["words", "word"] ["words"] (defScope st_are_outputs) := ⟨rfl, rfl, rfl, by decide +kernel, rfl, by decide +kernel, by decide +kernel⟩
theorem w_are_outputs (T : Txt K mg) {f : Addr} {fd : FuncData} (F : Fun K "are_outputs" "are_outputs" st_are_outputs f fd) (hx : mg "are_outputs" = some (.ref f)) {c_is_number : List D → R D} (F_is_number : KFn P w K mg base k "is_number" 1 c_is_number) : KFn P w K mg base (k + 3) "are_outputs" 1 (runB 2 (sb_are_outputs c_is_number)) :=
  by
  refine KFn.mk3 (k := k + 2) (sb := sb_are_outputs c_is_number) F sc_are_outputs hx (F.binds (ps := ["words"]) fun _ _ _ _ _ _ us hl => match us, hl with | [_], _ => rfl) rfl rfl fun cdv A outer s H E hr tk => ?_
  have sc := sc_are_outputs
  exact (kss_one (ks_ret (ke_and (ke_cmp op_ge ops_ge nx_ge (nomark _) (ke_callB call_lenU calls_len nx_len (by rfl) T.n_len (by decide +kernel) (ka_cons (ke_var (pv 0)) ka_nil)) ke_int) (ke_and (ke_cmp (op_eqU (hu64 hr)) ops_eq nx_eq (nomark _) (ke_ix (ke_var (pv 0)) ke_int (fun _ _ => rfl)) ke_str) (ke_one (ke_callB (cr_all rfl) calls_all nx_all (by rfl) T.n_all (by decide +kernel) (ka_cons (ke_lc (own := [("word", 1)]) rfl sc.nd (ki_seq (ke_sl (ke_var (pv 0)) (ko_some ke_int) ko_none)) (blkOk_by (N := ["words", "word"]) (sc := defScope st_are_outputs) (by decide +kernel)) (by decide) (fun _ _ _ _ _ => (kg_name (pg_name (i := 1) sc.nd rfl (by first | exact .inl rfl | exact .inr rfl)))) (fun _ _ _ _ _ => kts_nil) (fun _ _ _ _ _ => (ke_call F_is_number (hr.mono (by omega)) takes0 (by rfl) (ka_cons (ke_var (pv 1)) ka_nil)))) ka_nil)))))))
def sb_read_step (c_is_number : List D → R D) : Vs.Env → S :=
    (seqS (ifS (orT (binB dLt (app dLen (argC (ld 1) argN)) (cst (.int 3))) (orT (binB dNe (bin dIx (ld 1) (cst (.int 0))) (app dStr (argC (ld 0) argN))) (binB dIn (cst (.str "")) (ld 1)))) [1, 1, 0, 1] (retS (cst .non) []) .nxt)
    (seqS (ifS (andT (binB dEq (bin dIx (ld 1) (cst (.int 1))) (cst (.str "input"))) (binB dEq (app dLen (argC (ld 1) argN)) (cst (.int 3)))) [1, 1] (retS (app mkTup (argC (cst (.str "input")) (argC (bin dIx (ld 1) (cst (.int 2))) argN))) [1]) .nxt)
    (seqS (ifS (notT (truT (app dAll (argC (sLc (seqI (slc (ld 1) (soI (cst (.int 2))) noI)) [1] [2] (tgN 2) yes (app (callN 1 c_is_number) (argC (ld 2) argN))) argN)))) [1, 2] (retS (cst .non) []) .nxt)
    (seqS (ifS (andT (binB dEq (bin dIx (ld 1) (cst (.int 1))) (cst (.str "number"))) (binB dEq (app dLen (argC (ld 1) argN)) (cst (.int 3)))) [1, 1] (retS (app mkTup (argC (cst (.str "number")) (argC (app dInt (argC (bin dIx (ld 1) (cst (.int 2))) argN)) argN))) [1]) .nxt)
    (seqS (ifS (andT (binB dIn (bin dIx (ld 1) (cst (.int 1))) (app mkTup (argC (cst (.str "plus")) (argC (cst (.str "times")) argN)))) (binB dEq (app dLen (argC (ld 1) argN)) (cst (.int 4)))) [1, 1] (retS (app mkTup (argC (bin dIx (ld 1) (cst (.int 1))) (argC (app dInt (argC (bin dIx (ld 1) (cst (.int 2))) argN)) (argC (app dInt (argC (bin dIx (ld 1) (cst (.int 3))) argN)) argN)))) [1, 1, 1]) .nxt)
    (retS (cst .non) []))))))
abbrev st_read_step : Stmt := tp 29
theorem sc_read_step : FnScope ["index", "words", "word"] ["index", "words"] (defScope st_read_step) := ⟨rfl, rfl, rfl, by decide +kernel, rfl, by decide +kernel, by decide +kernel⟩
theorem w_read_step (T : Txt K mg) {f : Addr} {fd : FuncData} (F : Fun K "read_step" "read_step" st_read_step f fd) (hx : mg "read_step" = some (.ref f)) {c_is_number : List D → R D} (F_is_number : KFn P w K mg base k "is_number" 1 c_is_number) : KFn P w K mg base (k + 3) "read_step" 2 (runB 3 (sb_read_step c_is_number)) :=
  by
  refine KFn.mk3 (k := k + 2) (sb := sb_read_step c_is_number) F sc_read_step hx (F.binds (ps := ["index", "words"]) fun _ _ _ _ _ _ us hl => match us, hl with | [_, _], _ => rfl) rfl rfl fun cdv A outer s H E hr tk => ?_
  have sc := sc_read_step
  exact (kss_cons (ks_if (kt_w (kw_or (kt_cmp op_lt ops_lt nx_lt (nomark _) (ke_callB call_lenU calls_len nx_len (by rfl) T.n_len (by decide +kernel) (ka_cons (ke_var (pv 1)) ka_nil)) ke_int) (kw_or (kt_cmp (op_neU (hu64 hr)) ops_ne nx_ne (nomark _) (ke_ix (ke_var (pv 1)) ke_int (fun _ _ => rfl)) (ke_callTy call_strU calls_str nx_str (by rfl) T.n_str (by decide +kernel) (ka_cons (ke_var (pv 0)) ka_nil))) (kw_or1 (kt_cmp (op_inU (hu65 hr)) ops_in nx_in (by rfl) ke_str (ke_var (pv 1))))))) (kss_one (ks_ret ke_non)) kss_nil)
    (kss_cons (ks_if (kt_w (kw_and (kt_cmp (op_eqU (hu64 hr)) ops_eq nx_eq (nomark _) (ke_ix (ke_var (pv 1)) ke_int (fun _ _ => rfl)) ke_str) (kw_and1 (kt_cmp (op_eqU (hu64 hr)) ops_eq nx_eq (nomark _) (ke_callB call_lenU calls_len nx_len (by rfl) T.n_len (by decide +kernel) (ka_cons (ke_var (pv 1)) ka_nil)) ke_int)))) (kss_one (ks_ret (ke_tup (ka_cons ke_str (ka_cons (ke_ix (ke_var (pv 1)) ke_int (fun _ _ => rfl)) ka_nil))))) kss_nil)
    (kss_cons (ks_if (kt_not (kt_tru (ke_callB (cr_all rfl) calls_all nx_all (by rfl) T.n_all (by decide +kernel) (ka_cons (ke_lc (own := [("word", 2)]) rfl sc.nd (ki_seq (ke_sl (ke_var (pv 1)) (ko_some ke_int) ko_none)) (blkOk_by (N := ["index", "words", "word"]) (sc := defScope st_read_step) (by decide +kernel)) (by decide) (fun _ _ _ _ _ => (kg_name (pg_name (i := 2) sc.nd rfl (by first | exact .inl rfl | exact .inr rfl)))) (fun _ _ _ _ _ => kts_nil) (fun _ _ _ _ _ => (ke_call F_is_number (hr.mono (by omega)) takes0 (by rfl) (ka_cons (ke_var (pv 2)) ka_nil)))) ka_nil)))) (kss_one (ks_ret ke_non)) kss_nil)
    (kss_cons (ks_if (kt_w (kw_and (kt_cmp (op_eqU (hu64 hr)) ops_eq nx_eq (nomark _) (ke_ix (ke_var (pv 1)) ke_int (fun _ _ => rfl)) ke_str) (kw_and1 (kt_cmp (op_eqU (hu64 hr)) ops_eq nx_eq (nomark _) (ke_callB call_lenU calls_len nx_len (by rfl) T.n_len (by decide +kernel) (ka_cons (ke_var (pv 1)) ka_nil)) ke_int)))) (kss_one (ks_ret (ke_tup (ka_cons ke_str (ka_cons (ke_callTy call_intU calls_int nx_int (by rfl) T.n_int (by decide +kernel) (ka_cons (ke_ix (ke_var (pv 1)) ke_int (fun _ _ => rfl)) ka_nil)) ka_nil))))) kss_nil)
    (kss_cons (ks_if (kt_w (kw_and (kt_cmp (op_inU (hu65 hr)) ops_in nx_in (by rfl) (ke_ix (ke_var (pv 1)) ke_int (fun _ _ => rfl)) (ke_tup (ka_cons ke_str (ka_cons ke_str ka_nil)))) (kw_and1 (kt_cmp (op_eqU (hu64 hr)) ops_eq nx_eq (nomark _) (ke_callB call_lenU calls_len nx_len (by rfl) T.n_len (by decide +kernel) (ka_cons (ke_var (pv 1)) ka_nil)) ke_int)))) (kss_one (ks_ret (ke_tup (ka_cons (ke_ix (ke_var (pv 1)) ke_int (fun _ _ => rfl)) (ka_cons (ke_callTy call_intU calls_int nx_int (by rfl) T.n_int (by decide +kernel) (ka_cons (ke_ix (ke_var (pv 1)) ke_int (fun _ _ => rfl)) ka_nil)) (ka_cons (ke_callTy call_intU calls_int nx_int (by rfl) T.n_int (by decide +kernel) (ka_cons (ke_ix (ke_var (pv 1)) ke_int (fun _ _ => rfl)) ka_nil)) ka_nil)))))) kss_nil)
    (kss_one (ks_ret ke_non)))))))
def sb_frozen (c_frozen : List D → R D) : Vs.Env → S :=
    (seqS (ifS (orT (truT (app (dIsi ci) (argC (ld 0) (argC (cst (.ty "list")) argN)))) (truT (app (dIsi ci) (argC (ld 0) (argC (cst (.ty "tuple")) argN))))) [0, 0] (retS (app dTupleOf (argC (sLc (seqI (ld 0)) [0] [1] (tgN 1) yes (app (callN 1 c_frozen) (argC (ld 1) argN))) argN)) [0, 1]) .nxt)
    (retV 0))
abbrev st_frozen : Stmt := tp 14
theorem sc_frozen : FnScope ["value", "item"] ["value"] (defScope st_frozen) := ⟨rfl, rfl, rfl, by decide +kernel, rfl, by decide +kernel, by decide +kernel⟩
theorem w_frozen (T : Txt K mg) {f : Addr} {fd : FuncData} (F : Fun K "frozen" "frozen" st_frozen f fd) (hx : mg "frozen" = some (.ref f)) {c_frozen : List D → R D} (F_frozen : KFn P w K mg base k "frozen" 1 c_frozen) : KFn P w K mg base (k + 3) "frozen" 1 (runB 2 (sb_frozen c_frozen)) :=
  by
  refine KFn.mk3 (k := k + 2) (sb := sb_frozen c_frozen) F sc_frozen hx (F.binds (ps := ["value"]) fun _ _ _ _ _ _ us hl => match us, hl with | [_], _ => rfl) rfl rfl fun cdv A outer s H E hr tk => ?_
  have sc := sc_frozen
  exact (kss_cons (ks_if (kt_w (kw_or (kt_tru (ke_callB call_isi (calls_isi T.isa) nx_isi (by rfl) T.n_isinstance (by decide +kernel) (ka_cons (ke_var (pv 0)) (ka_cons (ke_ty (by rfl) T.n_list (by decide +kernel)) ka_nil)))) (kw_or1 (kt_tru (ke_callB call_isi (calls_isi T.isa) nx_isi (by rfl) T.n_isinstance (by decide +kernel) (ka_cons (ke_var (pv 0)) (ka_cons (ke_ty (by rfl) T.n_tuple (by decide +kernel)) ka_nil))))))) (kss_one (ks_ret (ke_callTy call_tuple_of calls_tuple nx_tuple (by rfl) T.n_tuple (by decide +kernel) (ka_cons (ke_lc (own := [("item", 1)]) rfl sc.nd (ki_seq (ke_var (pv 0))) (blkOk_by (N := ["value", "item"]) (sc := defScope st_frozen) (by decide +kernel)) (by decide) (fun _ _ _ _ _ => (kg_name (pg_name (i := 1) sc.nd rfl (by first | exact .inl rfl | exact .inr rfl)))) (fun _ _ _ _ _ => kts_nil) (fun _ _ _ _ _ => (ke_call F_frozen (hr.mono (by omega)) takes0 (by rfl) (ka_cons (ke_var (pv 1)) ka_nil)))) ka_nil)))) kss_nil)
    (kss_one (ks_retV (pv 0))))
def sb_consists_of : Vs.Env → S :=
    (seqS (forS (seqI (ld 0)) [0] (tgN 2) (ifS (binB dNotIn (ld 2) (ld 1)) [2, 1] (retS (cst (.bl false)) []) .nxt) [1])
    (retS (cst (.bl true)) []))
abbrev st_consists_of : Stmt := tp 11
theorem sc_consists_of : FnScope ["text", "signs", "char"] ["text", "signs"] (defScope st_consists_of) := ⟨rfl, rfl, rfl, by decide +kernel, rfl, by decide +kernel, by decide +kernel⟩
theorem w_consists_of (T : Txt K mg) {f : Addr} {fd : FuncData} (F : Fun K "consists_of" "consists_of" st_consists_of f fd) (hx : mg "consists_of" = some (.ref f)) : KFn P w K mg base (k + 3) "consists_of" 2 (runB 3 (sb_consists_of)) :=
  by
  refine KFn.mk3 (k := k + 2) (sb := sb_consists_of) F sc_consists_of hx (F.binds (ps := ["text", "signs"]) fun _ _ _ _ _ _ us hl => match us, hl with | [_, _], _ => rfl) rfl rfl fun cdv A outer s H E hr tk => ?_
  have sc := sc_consists_of
  exact (kss_cons (ks_for (by decide) (passes_of rfl) rfl (ki_seq (ke_var (pv 0))) (kg_name (pg_name (i := 2) sc.nd rfl (by first | exact .inl rfl | exact .inr rfl))) (kss_one (ks_if (kt_cmp (op_notInU (hu65 hr)) ops_notIn nx_notIn (by rfl) (ke_var (pv 2)) (ke_var (pv 1))) (kss_one (ks_ret ke_bl)) kss_nil)) [1])
    (kss_one (ks_ret ke_bl)))
def sb_is_name (c_consists_of : List D → R D) : Vs.Env → S :=
    (seqS (ifS (orT (notT (truT (app (dIsi ci) (argC (ld 0) (argC (cst (.ty "str")) argN))))) (notT (chnT dLe dLe (cst (.int 1)) (app dLen (argC (ld 0) argN)) (cst (.int 40))))) [0, 0] (retS (cst (.bl false)) []) .nxt)
    (retS (andV (bin dIn (bin dIx (ld 0) (cst (.int 0))) (cst (.str "abcdefghijklmnopqrstuvwxyz"))) (app (callN 2 c_consists_of) (argC (ld 0) (argC (cst (.str "abcdefghijklmnopqrstuvwxyz0123456789[],-")) argN)))) [0, 0]))
abbrev st_is_name : Stmt := tp 12
theorem sc_is_name : FnScope ["value"] ["value"] (defScope st_is_name) := ⟨rfl, rfl, rfl, by decide +kernel, rfl, by decide +kernel, by decide +kernel⟩
theorem w_is_name (T : Txt K mg) {f : Addr} {fd : FuncData} (F : Fun K "is_name" "is_name" st_is_name f fd) (hx : mg "is_name" = some (.ref f)) {c_consists_of : List D → R D} (F_consists_of : KFn P w K mg base k "consists_of" 2 c_consists_of) : KFn P w K mg base (k + 3) "is_name" 1 (runB 1 (sb_is_name c_consists_of)) :=
  by
  refine KFn.mk3 (k := k + 2) (sb := sb_is_name c_consists_of) F sc_is_name hx (F.binds (ps := ["value"]) fun _ _ _ _ _ _ us hl => match us, hl with | [_], _ => rfl) rfl rfl fun cdv A outer s H E hr tk => ?_
  have sc := sc_is_name
  exact (kss_cons (ks_if (kt_w (kw_or (kt_not (kt_tru (ke_callB call_isi (calls_isi T.isa) nx_isi (by rfl) T.n_isinstance (by decide +kernel) (ka_cons (ke_var (pv 0)) (ka_cons (ke_ty (by rfl) T.n_str (by decide +kernel)) ka_nil))))) (kw_or1 (kt_not (kt_chain op_le ops_le nx_le op_le ops_le nx_le ke_int (ke_callB call_lenU calls_len nx_len (by rfl) T.n_len (by decide +kernel) (ka_cons (ke_var (pv 0)) ka_nil)) (ke_globI (by rfl) T.c_NAME_LENGTH)))))) (kss_one (ks_ret ke_bl)) kss_nil)
    (kss_one (ks_ret (ke_and (ke_cmp (op_inU (hu65 hr)) ops_in nx_in (by rfl) (ke_ix (ke_var (pv 0)) ke_int (fun _ _ => rfl)) (ke_globS (by rfl) T.c_LETTERS)) (ke_one (ke_call F_consists_of (hr.mono (by omega)) tk (by rfl) (ka_cons (ke_var (pv 0)) (ka_cons (ke_globS (by rfl) T.c_NAME_SIGNS) ka_nil))))))))
def sb_is_whole : Vs.Env → S :=
    (retS (andV (app (dIsi ci) (argC (ld 0) (argC (cst (.ty "int")) argN))) (notV (app (dIsi ci) (argC (ld 0) (argC (cst (.ty "bool")) argN))))) [0, 0])
abbrev st_is_whole : Stmt := tp 15
theorem sc_is_whole : FnScope ["value"] ["value"] (defScope st_is_whole) := ⟨rfl, rfl, rfl, by decide +kernel, rfl, by decide +kernel, by decide +kernel⟩
theorem w_is_whole (T : Txt K mg) {f : Addr} {fd : FuncData} (F : Fun K "is_whole" "is_whole" st_is_whole f fd) (hx : mg "is_whole" = some (.ref f)) : KFn P w K mg base (k + 3) "is_whole" 1 (runB 1 (sb_is_whole)) :=
  by
  refine KFn.mk3 (k := k + 2) (sb := sb_is_whole) F sc_is_whole hx (F.binds (ps := ["value"]) fun _ _ _ _ _ _ us hl => match us, hl with | [_], _ => rfl) rfl rfl fun cdv A outer s H E hr tk => ?_
  have sc := sc_is_whole
  exact (kss_one (ks_ret (ke_and (ke_callB call_isi (calls_isi T.isa) nx_isi (by rfl) T.n_isinstance (by decide +kernel) (ka_cons (ke_var (pv 0)) (ka_cons (ke_ty (by rfl) T.n_int (by decide +kernel)) ka_nil))) (ke_one (ke_not (ke_callB call_isi (calls_isi T.isa) nx_isi (by rfl) T.n_isinstance (by decide +kernel) (ka_cons (ke_var (pv 0)) (ka_cons (ke_ty (by rfl) T.n_bool (by decide +kernel)) ka_nil))))))))
def sb_is_index (c_is_whole : List D → R D) : Vs.Env → S :=
    (retS (andV (app (callN 1 c_is_whole) (argC (ld 0) argN)) (chn dLe dLt (cst (.int 0)) (ld 0) (ld 1))) [0, 0, 1])
abbrev st_is_index : Stmt := tp 16
theorem sc_is_index : FnScope ["value", "many"] ["value", "many"] (defScope st_is_index) := ⟨rfl, rfl, rfl, by decide +kernel, rfl, by decide +kernel, by decide +kernel⟩
theorem w_is_index (T : Txt K mg) {f : Addr} {fd : FuncData} (F : Fun K "is_index" "is_index" st_is_index f fd) (hx : mg "is_index" = some (.ref f)) {c_is_whole : List D → R D} (F_is_whole : KFn P w K mg base k "is_whole" 1 c_is_whole) : KFn P w K mg base (k + 3) "is_index" 2 (runB 2 (sb_is_index c_is_whole)) :=
  by
  refine KFn.mk3 (k := k + 2) (sb := sb_is_index c_is_whole) F sc_is_index hx (F.binds (ps := ["value", "many"]) fun _ _ _ _ _ _ us hl => match us, hl with | [_, _], _ => rfl) rfl rfl fun cdv A outer s H E hr tk => ?_
  have sc := sc_is_index
  exact (kss_one (ks_ret (ke_and (ke_call F_is_whole (hr.mono (by omega)) tk (by rfl) (ka_cons (ke_var (pv 0)) ka_nil)) (ke_one (ke_chain op_le ops_le nx_le op_lt ops_lt nx_lt ke_int (ke_var (pv 0)) (ke_var (pv 1)))))))
def sb_step_is_right (c_is_name : List D → R D) (c_is_whole : List D → R D) (c_is_index : List D → R D) : Vs.Env → S :=
    (seqS (ifS (orT (notT (truT (app (dIsi ci) (argC (ld 0) (argC (cst (.ty "tuple")) argN))))) (orT (binB dLt (app dLen (argC (ld 0) argN)) (cst (.int 2))) (notT (truT (app (dIsi ci) (argC (bin dIx (ld 0) (cst (.int 0))) (argC (cst (.ty "str")) argN))))))) [0, 0, 0] (retS (cst (.bl false)) []) .nxt)
    (seqS (ifS (binB dEq (bin dIx (ld 0) (cst (.int 0))) (cst (.str "input"))) [0] (retS (andV (bin dEq (app dLen (argC (ld 0) argN)) (cst (.int 2))) (app (callN 1 c_is_name) (argC (bin dIx (ld 0) (cst (.int 1))) argN))) [0, 0]) .nxt)
    (seqS (ifS (binB dEq (bin dIx (ld 0) (cst (.int 0))) (cst (.str "number"))) [0] (retS (andV (bin dEq (app dLen (argC (ld 0) argN)) (cst (.int 2))) (andV (app (callN 1 c_is_whole) (argC (bin dIx (ld 0) (cst (.int 1))) argN)) (bin dGe (bin dIx (ld 0) (cst (.int 1))) (cst (.int 0))))) [0, 0, 0]) .nxt)
    (seqS (ifS (orT (binB dEq (bin dIx (ld 0) (cst (.int 0))) (cst (.str "plus"))) (binB dEq (bin dIx (ld 0) (cst (.int 0))) (cst (.str "times")))) [0, 0] (retS (andV (bin dEq (app dLen (argC (ld 0) argN)) (cst (.int 3))) (andV (app (callN 2 c_is_index) (argC (bin dIx (ld 0) (cst (.int 1))) (argC (ld 1) argN))) (app (callN 2 c_is_index) (argC (bin dIx (ld 0) (cst (.int 2))) (argC (ld 1) argN))))) [0, 0, 1, 0, 1]) .nxt)
    (retS (cst (.bl false)) [])))))
abbrev st_step_is_right : Stmt := tp 18
theorem sc_step_is_right : FnScope ["step", "index"] ["step", "index"] (defScope st_step_is_right) := ⟨rfl, rfl, rfl, by decide +kernel, rfl, by decide +kernel, by decide +kernel⟩
theorem w_step_is_right (T : Txt K mg) {f : Addr} {fd : FuncData} (F : Fun K "step_is_right" "step_is_right" st_step_is_right f fd) (hx : mg "step_is_right" = some (.ref f)) {c_is_name : List D → R D} (F_is_name : KFn P w K mg base k "is_name" 1 c_is_name) {c_is_whole : List D → R D} (F_is_whole : KFn P w K mg base k "is_whole" 1 c_is_whole) {c_is_index : List D → R D} (F_is_index : KFn P w K mg base k "is_index" 2 c_is_index) : KFn P w K mg base (k + 3) "step_is_right" 2 (runB 2 (sb_step_is_right c_is_name c_is_whole c_is_index)) :=
  by
  refine KFn.mk3 (k := k + 2) (sb := sb_step_is_right c_is_name c_is_whole c_is_index) F sc_step_is_right hx (F.binds (ps := ["step", "index"]) fun _ _ _ _ _ _ us hl => match us, hl with | [_, _], _ => rfl) rfl rfl fun cdv A outer s H E hr tk => ?_
  have sc := sc_step_is_right
  exact (kss_cons (ks_if (kt_w (kw_or (kt_not (kt_tru (ke_callB call_isi (calls_isi T.isa) nx_isi (by rfl) T.n_isinstance (by decide +kernel) (ka_cons (ke_var (pv 0)) (ka_cons (ke_ty (by rfl) T.n_tuple (by decide +kernel)) ka_nil))))) (kw_or (kt_cmp op_lt ops_lt nx_lt (nomark _) (ke_callB call_lenU calls_len nx_len (by rfl) T.n_len (by decide +kernel) (ka_cons (ke_var (pv 0)) ka_nil)) ke_int) (kw_or1 (kt_not (kt_tru (ke_callB call_isi (calls_isi T.isa) nx_isi (by rfl) T.n_isinstance (by decide +kernel) (ka_cons (ke_ix (ke_var (pv 0)) ke_int (fun _ _ => rfl)) (ka_cons (ke_ty (by rfl) T.n_str (by decide +kernel)) ka_nil))))))))) (kss_one (ks_ret ke_bl)) kss_nil)
    (kss_cons (ks_if (kt_cmp (op_eqU (hu64 hr)) ops_eq nx_eq (nomark _) (ke_ix (ke_var (pv 0)) ke_int (fun _ _ => rfl)) ke_str) (kss_one (ks_ret (ke_and (ke_cmp (op_eqU (hu64 hr)) ops_eq nx_eq (nomark _) (ke_callB call_lenU calls_len nx_len (by rfl) T.n_len (by decide +kernel) (ka_cons (ke_var (pv 0)) ka_nil)) ke_int) (ke_one (ke_call F_is_name (hr.mono (by omega)) tk (by rfl) (ka_cons (ke_ix (ke_var (pv 0)) ke_int (fun _ _ => rfl)) ka_nil)))))) kss_nil)
    (kss_cons (ks_if (kt_cmp (op_eqU (hu64 hr)) ops_eq nx_eq (nomark _) (ke_ix (ke_var (pv 0)) ke_int (fun _ _ => rfl)) ke_str) (kss_one (ks_ret (ke_and (ke_cmp (op_eqU (hu64 hr)) ops_eq nx_eq (nomark _) (ke_callB call_lenU calls_len nx_len (by rfl) T.n_len (by decide +kernel) (ka_cons (ke_var (pv 0)) ka_nil)) ke_int) (ke_and (ke_call F_is_whole (hr.mono (by omega)) tk (by rfl) (ka_cons (ke_ix (ke_var (pv 0)) ke_int (fun _ _ => rfl)) ka_nil)) (ke_one (ke_cmp op_ge ops_ge nx_ge (nomark _) (ke_ix (ke_var (pv 0)) ke_int (fun _ _ => rfl)) ke_int)))))) kss_nil)
    (kss_cons (ks_if (kt_w (kw_or (kt_cmp (op_eqU (hu64 hr)) ops_eq nx_eq (nomark _) (ke_ix (ke_var (pv 0)) ke_int (fun _ _ => rfl)) ke_str) (kw_or1 (kt_cmp (op_eqU (hu64 hr)) ops_eq nx_eq (nomark _) (ke_ix (ke_var (pv 0)) ke_int (fun _ _ => rfl)) ke_str)))) (kss_one (ks_ret (ke_and (ke_cmp (op_eqU (hu64 hr)) ops_eq nx_eq (nomark _) (ke_callB call_lenU calls_len nx_len (by rfl) T.n_len (by decide +kernel) (ka_cons (ke_var (pv 0)) ka_nil)) ke_int) (ke_and (ke_call F_is_index (hr.mono (by omega)) tk (by rfl) (ka_cons (ke_ix (ke_var (pv 0)) ke_int (fun _ _ => rfl)) (ka_cons (ke_var (pv 1)) ka_nil))) (ke_one (ke_call F_is_index (hr.mono (by omega)) tk (by rfl) (ka_cons (ke_ix (ke_var (pv 0)) ke_int (fun _ _ => rfl)) (ka_cons (ke_var (pv 1)) ka_nil)))))))) kss_nil)
    (kss_one (ks_ret ke_bl))))))
def sb_Straight (c_frozen : List D → R D) (c_step_is_right : List D → R D) (c_is_index : List D → R D) : Vs.Env → S :=
    (seqS (asgS (tgN 3) (app (callN 1 c_frozen) (argC (ld 1) argN)) [1])
    (seqS (forS (itm dEnum (argC (ld 3) argN)) [3] (gTup' 2 (gCons' (tgN 4) (gCons' (tgN 5) gNil'))) (ifS (notT (truT (app (callN 2 c_step_is_right) (argC (ld 5) (argC (ld 4) argN))))) [5, 4] (fun _ => .stk) .nxt) [0, 2, 3])
    (seqS (asgS (tgN 6) (app (callN 1 c_frozen) (argC (ld 2) argN)) [2])
    (seqS (forS (itm dEnum (argC (ld 6) argN)) [6] (gTup' 2 (gCons' (tgN 7) (gCons' (tgN 8) gNil'))) (ifS (notT (truT (app (callN 2 c_is_index) (argC (ld 8) (argC (app dLen (argC (ld 3) argN)) argN))))) [8, 3] (fun _ => .stk) .nxt) [0, 3, 6])
    (seqS (mutS (plN 0) (one (ld 3)) [3] (mFld cf "steps"))
    (mutS (plN 0) (one (ld 6)) [6] (mFld cf "outputs")))))))
abbrev st_Straight : Stmt := inClass (tp 22) 0
theorem sc_Straight : FnScope ["self", "steps", "outputs", "kept", "index", "step", "aims", "position", "output"] ["self", "steps", "outputs"] (defScope st_Straight) := ⟨rfl, rfl, rfl, by decide +kernel, rfl, by decide +kernel, by decide +kernel⟩
theorem w_Straight (T : Txt K mg) {C f : Addr} {fd : FuncData} (F : Fun K "__init__" "Straight.__init__" st_Straight f fd) (hx : mg "Straight" = some (.ref C)) (hM : Mk K C f) {c_frozen : List D → R D} (F_frozen : KFn P w K mg base k "frozen" 1 c_frozen) {c_step_is_right : List D → R D} (F_step_is_right : KFn P w K mg base k "step_is_right" 2 c_step_is_right) {c_is_index : List D → R D} (F_is_index : KFn P w K mg base k "is_index" 2 c_is_index) : KMk P w K mg base (k + 3) "Straight" 2 (runI 9 "Straight" (sb_Straight c_frozen c_step_is_right c_is_index)) :=
  by
  refine KMk.mk3 (k := k + 2) (sb := sb_Straight c_frozen c_step_is_right c_is_index) F sc_Straight hx hM (F.binds (ps := ["self", "steps", "outputs"]) fun _ _ _ _ _ _ us hl => match us, hl with | [_, _, _], _ => rfl) rfl rfl fun cdv A outer s H E hr tk => ?_
  have sc := sc_Straight
  exact (kss_cons (ks_set (i := 3) (by decide) sc.nd rfl (by first | exact .inl rfl | exact .inr rfl) (ke_call F_frozen (hr.mono (by omega)) tk (by rfl) (ka_cons (ke_var (pv 1)) ka_nil)))
    (kss_cons (ks_for (by decide) (passes_of rfl) rfl (ki_enum (by rfl) T.n_enumerate (ka_cons (ke_var (pv 3)) ka_nil)) (kg_tup rfl (kgs_cons (kg_name (pg_name (i := 4) sc.nd rfl (by first | exact .inl rfl | exact .inr rfl))) (kgs_cons (kg_name (pg_name (i := 5) sc.nd rfl (by first | exact .inl rfl | exact .inr rfl))) kgs_nil))) (kss_one (ks_if (kt_not (kt_tru (ke_call F_step_is_right (hr.mono (by omega)) tk (by rfl) (ka_cons (ke_var (pv 5)) (ka_cons (ke_var (pv 4)) ka_nil))))) (kss_one ks_never) kss_nil)) [0, 2, 3])
    (kss_cons (ks_set (i := 6) (by decide) sc.nd rfl (by first | exact .inl rfl | exact .inr rfl) (ke_call F_frozen (hr.mono (by omega)) tk (by rfl) (ka_cons (ke_var (pv 2)) ka_nil)))
    (kss_cons (ks_for (by decide) (passes_of rfl) rfl (ki_enum (by rfl) T.n_enumerate (ka_cons (ke_var (pv 6)) ka_nil)) (kg_tup rfl (kgs_cons (kg_name (pg_name (i := 7) sc.nd rfl (by first | exact .inl rfl | exact .inr rfl))) (kgs_cons (kg_name (pg_name (i := 8) sc.nd rfl (by first | exact .inl rfl | exact .inr rfl))) kgs_nil))) (kss_one (ks_if (kt_not (kt_tru (ke_call F_is_index (hr.mono (by omega)) tk (by rfl) (ka_cons (ke_var (pv 8)) (ka_cons (ke_callB call_lenU calls_len nx_len (by rfl) T.n_len (by decide +kernel) (ka_cons (ke_var (pv 3)) ka_nil)) ka_nil))))) (kss_one ks_never) kss_nil)) [0, 3, 6])
    (kss_cons (ks_fld T.fld (kp_name (pv 0)) (ke_var (pv 3)))
    (kss_one (ks_fld T.fld (kp_name (pv 0)) (ke_var (pv 6)))))))))
def sb_read_program (c_are_outputs : List D → R D) (c_read_step : List D → R D) (c_Straight : List D → R D) : Vs.Env → S :=
    (seqS (asgS (tgN 1) (met "str" dSplit (ld 0) (argC (cst (.str "\n")) argN)) [0])
    (seqS (asgS (tgN 2) (app mkLst argN) [])
    (seqS (forS (itm dEnum (argC (ld 1) argN)) [1] (gTup' 2 (gCons' (tgN 3) (gCons' (tgN 4) gNil'))) (seqS (asgS (tgN 5) (met "str" dSplit (ld 4) (argC (cst (.str " ")) argN)) [4])
    (seqS (ifS (truT (app (callN 1 c_are_outputs) (argC (ld 5) argN))) [5] (seqS (ifS (binB dLt (bin dAdd (ld 3) (cst (.int 1))) (app dLen (argC (ld 1) argN))) [3, 1] (fun _ => .stk) .nxt)
    (retS (app (callN 2 c_Straight) (argC (ld 2) (argC (sLc (seqI (slc (ld 5) (soI (cst (.int 1))) noI)) [5] [7] (tgN 7) yes (app dInt (argC (ld 7) argN))) argN))) [2, 5, 7])) .nxt)
    (seqS (asgS (tgN 6) (app (callN 2 c_read_step) (argC (ld 3) (argC (ld 5) argN))) [3, 5])
    (seqS (ifS (binB dIs (ld 6) (cst .non)) [6] (fun _ => .stk) .nxt)
    (mutS1 (plN 2) (argC (ld 6) argN) [6] mAppend))))) [1, 2, 7])
    (fun _ => .stk))))
abbrev st_read_program : Stmt := tp 31
theorem sc_read_program : FnScope ["text", "lines", "steps", "number", "line", "words", "step", "word"] ["text"] (defScope st_read_program) := ⟨rfl, rfl, rfl, by decide +kernel, rfl, by decide +kernel, by decide +kernel⟩
theorem w_read_program (T : Txt K mg) {f : Addr} {fd : FuncData} (F : Fun K "read_program" "read_program" st_read_program f fd) (hx : mg "read_program" = some (.ref f)) {c_are_outputs : List D → R D} (F_are_outputs : KFn P w K mg base k "are_outputs" 1 c_are_outputs) {c_read_step : List D → R D} (F_read_step : KFn P w K mg base k "read_step" 2 c_read_step) {c_Straight : List D → R D} (F_Straight : KMk P w K mg base k "Straight" 2 c_Straight) : KFn P w K mg base (k + 3) "read_program" 1 (runB 8 (sb_read_program c_are_outputs c_read_step c_Straight)) :=
  by
  refine KFn.mk3 (k := k + 2) (sb := sb_read_program c_are_outputs c_read_step c_Straight) F sc_read_program hx (F.binds (ps := ["text"]) fun _ _ _ _ _ _ us hl => match us, hl with | [_], _ => rfl) rfl rfl fun cdv A outer s H E hr tk => ?_
  have sc := sc_read_program
  exact (kss_cons (ks_set (i := 1) (by decide) sc.nd rfl (by first | exact .inl rfl | exact .inr rfl) (ke_bm PySem.F.plainAttrs_str PySem.F.slot_str_split PySem.F.type_str_split mt_split mts_split nx_split (ke_var (pv 0)) (ka_cons ke_str ka_nil)))
    (kss_cons (ks_set (i := 2) (by decide) sc.nd rfl (by first | exact .inl rfl | exact .inr rfl) (ke_lst ka_nil))
    (kss_cons (ks_for (by decide) (passes_of rfl) rfl (ki_enum (by rfl) T.n_enumerate (ka_cons (ke_var (pv 1)) ka_nil)) (kg_tup rfl (kgs_cons (kg_name (pg_name (i := 3) sc.nd rfl (by first | exact .inl rfl | exact .inr rfl))) (kgs_cons (kg_name (pg_name (i := 4) sc.nd rfl (by first | exact .inl rfl | exact .inr rfl))) kgs_nil))) (kss_cons (ks_set (i := 5) (by decide) sc.nd rfl (by first | exact .inl rfl | exact .inr rfl) (ke_bm PySem.F.plainAttrs_str PySem.F.slot_str_split PySem.F.type_str_split mt_split mts_split nx_split (ke_var (pv 4)) (ka_cons ke_str ka_nil)))
    (kss_cons (ks_if (kt_tru (ke_call F_are_outputs (hr.mono (by omega)) tk (by rfl) (ka_cons (ke_var (pv 5)) ka_nil))) (kss_cons (ks_if (kt_cmp op_lt ops_lt nx_lt (nomark _) (ke_op op_addU ops_add nx_add (ke_var (pv 3)) ke_int) (ke_callB call_lenU calls_len nx_len (by rfl) T.n_len (by decide +kernel) (ka_cons (ke_var (pv 1)) ka_nil))) (kss_one ks_never) kss_nil)
    (kss_one (ks_ret (ke_make F_Straight (hr.mono (by omega)) tk (fun _ _ _ _ _ h => h) (by rfl) (ka_cons (ke_var (pv 2)) (ka_cons (ke_lc (own := [("word", 7)]) rfl sc.nd (ki_seq (ke_sl (ke_var (pv 5)) (ko_some ke_int) ko_none)) (blkOk_by (N := ["text", "lines", "steps", "number", "line", "words", "step", "word"]) (sc := defScope st_read_program) (by decide +kernel)) (by decide) (fun _ _ _ _ _ => (kg_name (pg_name (i := 7) sc.nd rfl (by first | exact .inl rfl | exact .inr rfl)))) (fun _ _ _ _ _ => kts_nil) (fun _ _ _ _ _ => (ke_callTy call_intU calls_int nx_int (by rfl) T.n_int (by decide +kernel) (ka_cons (ke_var (pv 7)) ka_nil)))) ka_nil)))))) kss_nil)
    (kss_cons (ks_set (i := 6) (by decide) sc.nd rfl (by first | exact .inl rfl | exact .inr rfl) (ke_call F_read_step (hr.mono (by omega)) tk (by rfl) (ka_cons (ke_var (pv 3)) (ka_cons (ke_var (pv 5)) ka_nil))))
    (kss_cons (ks_if (kt_cmp op_isU ops_is nx_is (nomark _) (ke_var (pv 6)) ke_non) (kss_one ks_never) kss_nil)
    (kss_one (ks_append (kp_name (pv 2)) (ka_cons (ke_var (pv 6)) ka_nil))))))) [1, 2, 7])
    (kss_one ks_never))))
def sb_law_is_kept (c_law_same : List D → R D) (c_program_text : List D → R D) (c_read_program : List D → R D) (c_Straight : List D → R D) : Vs.Env → S :=
    (seqS (asgS (tgN 2) (app mkLst argN) [])
    (seqS (forS (itx dRng (argC (app dLen (argC (ld 0) argN)) argN)) [] (tgN 3) (mutS1 (plN 2) (argC (met "str" dJoin (cst (.str " ")) (argC (bin dAdd (app mkLst (argC (app dStr (argC (ld 3) argN)) argN)) (sLc (seqI (bin dIx (ld 0) (ld 3))) [0, 3] [9] (tgN 9) yes (app dStr (argC (ld 9) argN)))) argN)) argN) [3, 0, 3, 9] mAppend) [0, 1, 2, 8, 9])
    (seqS (mutS1 (plN 2) (argC (bin dAdd (cst (.str "outputs ")) (met "str" dJoin (cst (.str " ")) (argC (sLc (seqI (ld 1)) [1] [8] (tgN 8) yes (app dStr (argC (ld 8) argN))) argN))) argN) [1, 8] mAppend)
    (seqS (asgS (tgN 4) (met "str" dJoin (cst (.str "\n")) (argC (ld 2) argN)) [2])
    (seqS (asgS (tgN 5) (app (callN 2 c_Straight) (argC (ld 0) (argC (ld 1) argN))) [0, 1])
    (seqS (forS (itx dRng (argC (cst (.int 2)) argN)) [] (tgN 6) (seqS (ifS (notT (truT (app (callN 2 c_law_same) (argC (app (callN 1 c_program_text) (argC (ld 5) argN)) (argC (ld 4) argN))))) [5, 4] (retS (cst (.bl false)) []) .nxt)
    (seqS (asgS (tgN 7) (app (callN 1 c_read_program) (argC (ld 4) argN)) [4])
    (seqS (ifS (orT (notT (truT (app (dIsi ci) (argC (ld 7) (argC (cst (.cls "Straight")) argN))))) (orT (notT (truT (app (callN 2 c_law_same) (argC (una (dFld cf "steps") (ld 7)) (argC (app dTupleOf (argC (ld 0) argN)) argN))))) (notT (truT (app (callN 2 c_law_same) (argC (una (dFld cf "outputs") (ld 7)) (argC (app dTupleOf (argC (ld 1) argN)) argN))))))) [7, 7, 0, 7, 1] (retS (cst (.bl false)) []) .nxt)
    (asgS (tgN 5) (ld 7) [7])))) [0, 1, 4, 5])
    (retS (cst (.bl true)) [])))))))
abbrev st_law_is_kept : Stmt := tp 41
theorem sc_law_is_kept : FnScope ["_law_steps", "_law_outputs", "_law_lines", "_law_k", "_law_due", "_law_program_here", "_law_turn", "_law_back", "_law_out", "_law_piece"] ["_law_steps", "_law_outputs"] (defScope st_law_is_kept) := ⟨rfl, rfl, rfl, by decide +kernel, rfl, by decide +kernel, by decide +kernel⟩
theorem w_law_is_kept (T : Txt K mg) {f : Addr} {fd : FuncData} (F : Fun K "_law_is_kept" "_law_is_kept" st_law_is_kept f fd) (hx : mg "_law_is_kept" = some (.ref f)) {c_law_same : List D → R D} (F_law_same : KFn P w K mg base k "_law_same" 2 c_law_same) {c_program_text : List D → R D} (F_program_text : KFn P w K mg base k "program_text" 1 c_program_text) {c_read_program : List D → R D} (F_read_program : KFn P w K mg base k "read_program" 1 c_read_program) {c_Straight : List D → R D} (F_Straight : KMk P w K mg base k "Straight" 2 c_Straight) : KFn P w K mg base (k + 3) "_law_is_kept" 2 (runB 10 (sb_law_is_kept c_law_same c_program_text c_read_program c_Straight)) :=
  by
  refine KFn.mk3 (k := k + 2) (sb := sb_law_is_kept c_law_same c_program_text c_read_program c_Straight) F sc_law_is_kept hx (F.binds (ps := ["_law_steps", "_law_outputs"]) fun _ _ _ _ _ _ us hl => match us, hl with | [_, _], _ => rfl) rfl rfl fun cdv A outer s H E hr tk => ?_
  have sc := sc_law_is_kept
  exact (kss_cons (ks_set (i := 2) (by decide) sc.nd rfl (by first | exact .inl rfl | exact .inr rfl) (ke_lst ka_nil))
    (kss_cons (ks_for (by decide) (passes_of rfl) rfl (ki_range1 (by rfl) T.n_range (ka_cons (ke_callB call_lenU calls_len nx_len (by rfl) T.n_len (by decide +kernel) (ka_cons (ke_var (pv 0)) ka_nil)) ka_nil)) (kg_name (pg_name (i := 3) sc.nd rfl (by first | exact .inl rfl | exact .inr rfl))) (kss_one (ks_append (kp_name (pv 2)) (ka_cons (ke_bm PySem.F.plainAttrs_str PySem.F.slot_str_join PySem.F.type_str_join mt_join mts_join nx_join ke_str (ka_cons (ke_op op_addU ops_add nx_add (ke_lst (ka_cons (ke_callTy call_strU calls_str nx_str (by rfl) T.n_str (by decide +kernel) (ka_cons (ke_var (pv 3)) ka_nil)) ka_nil)) (ke_lc (own := [("_law_piece", 9)]) rfl sc.nd (ki_seq (ke_ix (ke_var (pv 0)) (ke_var (pv 3)) (fun _ _ => rfl))) (blkOk_by (N := ["_law_steps", "_law_outputs", "_law_lines", "_law_k", "_law_due", "_law_program_here", "_law_turn", "_law_back", "_law_out", "_law_piece"]) (sc := defScope st_law_is_kept) (by decide +kernel)) (by decide) (fun _ _ _ _ _ => (kg_name (pg_name (i := 9) sc.nd rfl (by first | exact .inl rfl | exact .inr rfl)))) (fun _ _ _ _ _ => kts_nil) (fun _ _ _ _ _ => (ke_callTy call_strU calls_str nx_str (by rfl) T.n_str (by decide +kernel) (ka_cons (ke_var (pv 9)) ka_nil))))) ka_nil)) ka_nil))) [0, 1, 2, 8, 9])
    (kss_cons (ks_append (kp_name (pv 2)) (ka_cons (ke_op op_addU ops_add nx_add ke_str (ke_bm PySem.F.plainAttrs_str PySem.F.slot_str_join PySem.F.type_str_join mt_join mts_join nx_join ke_str (ka_cons (ke_lc (own := [("_law_out", 8)]) rfl sc.nd (ki_seq (ke_var (pv 1))) (blkOk_by (N := ["_law_steps", "_law_outputs", "_law_lines", "_law_k", "_law_due", "_law_program_here", "_law_turn", "_law_back", "_law_out", "_law_piece"]) (sc := defScope st_law_is_kept) (by decide +kernel)) (by decide) (fun _ _ _ _ _ => (kg_name (pg_name (i := 8) sc.nd rfl (by first | exact .inl rfl | exact .inr rfl)))) (fun _ _ _ _ _ => kts_nil) (fun _ _ _ _ _ => (ke_callTy call_strU calls_str nx_str (by rfl) T.n_str (by decide +kernel) (ka_cons (ke_var (pv 8)) ka_nil)))) ka_nil))) ka_nil))
    (kss_cons (ks_set (i := 4) (by decide) sc.nd rfl (by first | exact .inl rfl | exact .inr rfl) (ke_bm PySem.F.plainAttrs_str PySem.F.slot_str_join PySem.F.type_str_join mt_join mts_join nx_join ke_str (ka_cons (ke_var (pv 2)) ka_nil)))
    (kss_cons (ks_set (i := 5) (by decide) sc.nd rfl (by first | exact .inl rfl | exact .inr rfl) (ke_make F_Straight (hr.mono (by omega)) tk (fun _ _ _ _ _ h => h) (by rfl) (ka_cons (ke_var (pv 0)) (ka_cons (ke_var (pv 1)) ka_nil))))
    (kss_cons (ks_for (by decide) (passes_of rfl) rfl (ki_range1 (by rfl) T.n_range (ka_cons ke_int ka_nil)) (kg_name (pg_name (i := 6) sc.nd rfl (by first | exact .inl rfl | exact .inr rfl))) (kss_cons (ks_if (kt_not (kt_tru (ke_call F_law_same (hr.mono (by omega)) tk (by rfl) (ka_cons (ke_call F_program_text (hr.mono (by omega)) tk (by rfl) (ka_cons (ke_var (pv 5)) ka_nil)) (ka_cons (ke_var (pv 4)) ka_nil))))) (kss_one (ks_ret ke_bl)) kss_nil)
    (kss_cons (ks_set (i := 7) (by decide) sc.nd rfl (by first | exact .inl rfl | exact .inr rfl) (ke_call F_read_program (hr.mono (by omega)) tk (by rfl) (ka_cons (ke_var (pv 4)) ka_nil)))
    (kss_cons (ks_if (kt_w (kw_or (kt_not (kt_tru (ke_callB call_isi (calls_isi T.isa) nx_isi (by rfl) T.n_isinstance (by decide +kernel) (ka_cons (ke_var (pv 7)) (ka_cons (ke_cls (by rfl) T.g_Straight.choose_spec) ka_nil))))) (kw_or (kt_not (kt_tru (ke_call F_law_same (hr.mono (by omega)) tk (by rfl) (ka_cons (ke_fld T.fld (ke_var (pv 7)) rfl) (ka_cons (ke_callTy call_tuple_of calls_tuple nx_tuple (by rfl) T.n_tuple (by decide +kernel) (ka_cons (ke_var (pv 0)) ka_nil)) ka_nil))))) (kw_or1 (kt_not (kt_tru (ke_call F_law_same (hr.mono (by omega)) tk (by rfl) (ka_cons (ke_fld T.fld (ke_var (pv 7)) rfl) (ka_cons (ke_callTy call_tuple_of calls_tuple nx_tuple (by rfl) T.n_tuple (by decide +kernel) (ka_cons (ke_var (pv 1)) ka_nil)) ka_nil))))))))) (kss_one (ks_ret ke_bl)) kss_nil)
    (kss_one (ks_set (i := 5) (by decide) sc.nd rfl (by first | exact .inl rfl | exact .inr rfl) (ke_var (pv 7))))))) [0, 1, 4, 5])
    (kss_one (ks_ret ke_bl))))))))
def sb_law (c_law_digits : List D → R D) (c_law_cell : List D → R D) (c_law_program_sizes : List D → R D) (c_law_names : List D → R D) (c_law_long_name : List D → R D) (c_law_program : List D → R D) (c_law_is_kept : List D → R D) : Vs.Env → S :=
    (seqS (asgS (tgN 1) (app (callN 2 c_law_digits) (argC (app (callN 2 c_law_cell) (argC (ld 0) (argC (cst (.int 0)) argN))) (argC (fun _ => nx (callN 0 c_law_program_sizes [])) argN))) [0])
    (seqS (asgS (tgN 2) (app (callN 1 c_law_names) (argC (bin dIx (ld 1) (cst (.int 2))) argN)) [1])
    (seqS (asgS (tgN 3) (app (callN 2 c_law_digits) (argC (app (callN 2 c_law_cell) (argC (ld 0) (argC (cst (.int 1)) argN))) (argC (app mkLst (argC (cst (.int 13)) (argC (cst (.int 13)) (argC (cst (.int 4)) (argC (cst (.int 5)) (argC (bin dAdd (bin dPow (cst (.int 10)) (cst (.int 12))) (cst (.int 1))) (argC (cst (.int 2)) (argC (cst (.int 130)) (argC (cst (.int 12)) argN))))))))) argN))) [0])
    (seqS (ifS (binB dLt (bin dIx (ld 3) (cst (.int 7))) (cst (.int 6))) [3] (seqS (setS (plN 2) (bin dIx (app mkLst (argC (cst (.str "outputs")) (argC (cst (.str "plus")) (argC (cst (.str "input")) (argC (cst (.str "number")) (argC (cst (.str "times")) (argC (cst (.str "level")) argN))))))) (bin dIx (ld 3) (cst (.int 7)))) (cst (.int 2)) [3])
    (setS (plN 2) (bin dIx (app mkLst (argC (cst (.str "times")) (argC (cst (.str "outputs")) (argC (cst (.str "plus")) (argC (cst (.str "input")) (argC (cst (.str "number")) (argC (cst (.str "q-1")) argN))))))) (bin dIx (ld 3) (cst (.int 7)))) (cst (.int 0)) [3])) .nxt)
    (seqS (ifS (binB dEq (bin dIx (ld 3) (cst (.int 5))) (cst (.int 0))) [3] (seqS (setS (plN 2) (app (callN 1 c_law_long_name) (argC (app (callN 2 c_law_digits) (argC (app (callN 2 c_law_cell) (argC (ld 0) (argC (cst (.int 2)) argN))) (argC (bin dAdd (app mkLst (argC (cst (.int 26)) (argC (cst (.int 40)) (argC (cst (.int 3)) argN)))) (bin dMul (app mkLst (argC (cst (.int 40)) argN)) (cst (.int 39)))) argN))) argN)) (cst (.int 0)) [0])
    (setS (plN 2) (app (callN 1 c_law_long_name) (argC (app (callN 2 c_law_digits) (argC (app (callN 2 c_law_cell) (argC (ld 0) (argC (cst (.int 3)) argN))) (argC (bin dAdd (app mkLst (argC (cst (.int 26)) (argC (cst (.int 40)) (argC (cst (.int 3)) argN)))) (bin dMul (app mkLst (argC (cst (.int 40)) argN)) (cst (.int 39)))) argN))) argN)) (cst (.int 1)) [0])) .nxt)
    (seqS (asgS (tgN 4) (app (callN 3 c_law_program) (argC (ld 1) (argC (ld 2) (argC (bin dPow (cst (.int 10)) (cst (.int 30))) argN)))) [1, 2])
    (seqS (asgS (tgN 5) (app dListOf (argC (bin dIx (ld 4) (cst (.int 0))) argN)) [4])
    (seqS (forS (itx dRng (argC (app dLen (argC (ld 5) argN)) argN)) [] (tgN 6) (ifS (andT (binB dEq (bin dIx (bin dIx (ld 5) (ld 6)) (cst (.int 0))) (cst (.str "number"))) (binB dGt (bin dIx (ld 3) (cst (.int 3))) (cst (.int 0)))) [5, 6, 3] (setS (plN 5) (app mkTup (argC (cst (.str "number")) (argC (bin dDiv (bin dMod (app dInt (argC (bin dMul (bin dIx (ld 3) (cst (.int 4))) (bin dAdd (bin dMul (cst (.int 9001)) (ld 6)) (bin dIx (ld 3) (cst (.int 3))))) argN)) (bin dAdd (bin dPow (cst (.int 10)) (cst (.int 12))) (cst (.int 1)))) (bin dAdd (cst (.int 1)) (bin dMod (app dInt (argC (bin dMul (ld 6) (bin dIx (ld 3) (cst (.int 3)))) argN)) (cst (.int 3))))) argN))) (ld 6) [3, 6, 3, 6, 3]) .nxt) [2, 3, 4, 5])
    (seqS (forS (itx dRng (argC (bin dIx (app mkLst (argC (cst (.int 0)) (argC (cst (.int 0)) (argC (cst (.int 0)) (argC (bin dIx (ld 3) (cst (.int 6))) argN))))) (bin dIx (ld 3) (cst (.int 2)))) argN)) [] (tgN 6) (seqS (mutS1 (plN 5) (argC (app mkTup (argC (bin dIx (app mkLst (argC (cst (.str "plus")) (argC (cst (.str "times")) argN))) (bin dMod (app dInt (argC (bin dAdd (bin dIx (ld 3) (cst (.int 0))) (bin dMul (ld 6) (ld 6))) argN)) (cst (.int 2)))) (argC (bin dMod (app dInt (argC (bin dAdd (bin dMul (bin dIx (ld 3) (cst (.int 1))) (ld 6)) (bin dIx (ld 3) (cst (.int 0)))) argN)) (app dLen (argC (ld 5) argN))) (argC (bin dSub (bin dSub (app dLen (argC (ld 5) argN)) (cst (.int 1))) (bin dMod (app dInt (argC (ld 6) argN)) (cst (.int 3)))) argN)))) argN) [3, 6, 6, 3, 6, 3, 5, 5, 6] mAppend)
    (ifS (binB dEq (bin dMod (app dInt (argC (ld 6) argN)) (cst (.int 6))) (cst (.int 5))) [6] (setS (plN 5) (bin dIx (app mkLst (argC (app mkTup (argC (cst (.str "input")) (argC (bin dIx (ld 2) (bin dMod (app dInt (argC (bin dAdd (bin dIx (ld 3) (cst (.int 0))) (ld 6)) argN)) (cst (.int 4)))) argN))) (argC (app mkTup (argC (cst (.str "number")) (argC (ld 6) argN))) argN))) (bin dMod (app dInt (argC (bin dAdd (bin dIx (ld 3) (cst (.int 1))) (ld 6)) argN)) (cst (.int 2)))) (una dNeg (cst (.int 1))) [2, 3, 6, 6, 3, 6]) .nxt)) [2, 3, 4, 5])
    (seqS (asgS (tgN 7) (bin dAdd (bin dIx (ld 4) (cst (.int 1))) (slc (app mkTup (argC (bin dMod (app dInt (argC (bin dIx (ld 3) (cst (.int 0))) argN)) (app dLen (argC (ld 5) argN))) (argC (bin dMod (app dInt (argC (bin dIx (ld 3) (cst (.int 4))) argN)) (app dLen (argC (ld 5) argN))) argN))) noI (soI (bin dMod (bin dIx (ld 3) (cst (.int 2))) (cst (.int 3)))))) [4, 3, 5, 3, 5, 3])
    (seqS (ifS (binB dEq (bin dIx (ld 3) (cst (.int 2))) (cst (.int 3))) [3] (asgS (tgN 7) (bin dAdd (app mkTup (argC (bin dSub (app dLen (argC (ld 5) argN)) (cst (.int 1))) argN)) (ld 7)) [5, 7]) .nxt)
    (retS (andV (app (callN 2 c_law_is_kept) (argC (ld 5) (argC (ld 7) argN))) (app (callN 2 c_law_is_kept) (argC (slc (ld 5) noI (soI (cst (.int 1)))) (argC (app mkTup (argC (cst (.int 0)) argN)) argN)))) [5, 7, 5]))))))))))))
abbrev st_law : Stmt := tp 42
theorem sc_law : FnScope ["_law_script", "_law_row", "_law_names_here", "_law_more", "_law_drawn", "_law_steps", "_law_k", "_law_outputs"] ["_law_script"] (defScope st_law) := ⟨rfl, rfl, rfl, by decide +kernel, rfl, by decide +kernel, by decide +kernel⟩
theorem w_law (T : Txt K mg) {f : Addr} {fd : FuncData} (F : Fun K "law" "law" st_law f fd) {c_law_digits : List D → R D} (F_law_digits : KFn P w K mg base k "_law_digits" 2 c_law_digits) {c_law_cell : List D → R D} (F_law_cell : KFn P w K mg base k "_law_cell" 2 c_law_cell) {c_law_program_sizes : List D → R D} (F_law_program_sizes : KFn P w K mg base k "_law_program_sizes" 0 c_law_program_sizes) {c_law_names : List D → R D} (F_law_names : KFn P w K mg base k "_law_names" 1 c_law_names) {c_law_long_name : List D → R D} (F_law_long_name : KFn P w K mg base k "_law_long_name" 1 c_law_long_name) {c_law_program : List D → R D} (F_law_program : KFn P w K mg base k "_law_program" 3 c_law_program) {c_law_is_kept : List D → R D} (F_law_is_kept : KFn P w K mg base k "_law_is_kept" 2 c_law_is_kept) : FnOk P w K mg base (L2.CX P w) (k + 3) f fd ["_law_script"] (spD ⟨K, mg⟩ 1 (runB 8 (sb_law c_law_digits c_law_cell c_law_program_sizes c_law_names c_law_long_name c_law_program c_law_is_kept))) :=
  by
  refine fn_mk3 (k := k + 2) (sb := sb_law c_law_digits c_law_cell c_law_program_sizes c_law_names c_law_long_name c_law_program c_law_is_kept) F sc_law rfl rfl fun cdv A outer s H E hr tk => ?_
  have sc := sc_law
  exact (kss_cons (ks_set (i := 1) (by decide) sc.nd rfl (by first | exact .inl rfl | exact .inr rfl) (ke_call F_law_digits (hr.mono (by omega)) tk (by rfl) (ka_cons (ke_call F_law_cell (hr.mono (by omega)) tk (by rfl) (ka_cons (ke_var (pv 0)) (ka_cons ke_int ka_nil))) (ka_cons (ke_call0 F_law_program_sizes (hr.mono (by omega)) (by rfl)) ka_nil))))
    (kss_cons (ks_set (i := 2) (by decide) sc.nd rfl (by first | exact .inl rfl | exact .inr rfl) (ke_call F_law_names (hr.mono (by omega)) tk (by rfl) (ka_cons (ke_ix (ke_var (pv 1)) ke_int (fun _ _ => rfl)) ka_nil)))
    (kss_cons (ks_set (i := 3) (by decide) sc.nd rfl (by first | exact .inl rfl | exact .inr rfl) (ke_call F_law_digits (hr.mono (by omega)) tk (by rfl) (ka_cons (ke_call F_law_cell (hr.mono (by omega)) tk (by rfl) (ka_cons (ke_var (pv 0)) (ka_cons ke_int ka_nil))) (ka_cons (ke_lst (ka_cons ke_int (ka_cons ke_int (ka_cons ke_int (ka_cons ke_int (ka_cons (ke_op op_addU ops_add nx_add (ke_op op_pow ops_pow nx_pow ke_int ke_int) ke_int) (ka_cons ke_int (ka_cons ke_int (ka_cons ke_int ka_nil))))))))) ka_nil))))
    (kss_cons (ks_if (kt_cmp op_lt ops_lt nx_lt (nomark _) (ke_ix (ke_var (pv 3)) ke_int (fun _ _ => rfl)) ke_int) (kss_cons (ks_setIx (ke_ix (ke_lst (ka_cons ke_str (ka_cons ke_str (ka_cons ke_str (ka_cons ke_str (ka_cons ke_str (ka_cons ke_str ka_nil))))))) (ke_ix (ke_var (pv 3)) ke_int (fun _ _ => rfl)) (fun _ _ => rfl)) (kp_name (pv 2)) ke_int)
    (kss_one (ks_setIx (ke_ix (ke_lst (ka_cons ke_str (ka_cons ke_str (ka_cons ke_str (ka_cons ke_str (ka_cons ke_str (ka_cons ke_str ka_nil))))))) (ke_ix (ke_var (pv 3)) ke_int (fun _ _ => rfl)) (fun _ _ => rfl)) (kp_name (pv 2)) ke_int))) kss_nil)
    (kss_cons (ks_if (kt_cmp (op_eqU (hu64 hr)) ops_eq nx_eq (nomark _) (ke_ix (ke_var (pv 3)) ke_int (fun _ _ => rfl)) ke_int) (kss_cons (ks_setIx (ke_call F_law_long_name (hr.mono (by omega)) tk (by rfl) (ka_cons (ke_call F_law_digits (hr.mono (by omega)) tk (by rfl) (ka_cons (ke_call F_law_cell (hr.mono (by omega)) tk (by rfl) (ka_cons (ke_var (pv 0)) (ka_cons ke_int ka_nil))) (ka_cons (ke_op op_addU ops_add nx_add (ke_lst (ka_cons ke_int (ka_cons ke_int (ka_cons ke_int ka_nil)))) (ke_op op_mulU ops_mul nx_mul (ke_lst (ka_cons ke_int ka_nil)) ke_int)) ka_nil))) ka_nil)) (kp_name (pv 2)) ke_int)
    (kss_one (ks_setIx (ke_call F_law_long_name (hr.mono (by omega)) tk (by rfl) (ka_cons (ke_call F_law_digits (hr.mono (by omega)) tk (by rfl) (ka_cons (ke_call F_law_cell (hr.mono (by omega)) tk (by rfl) (ka_cons (ke_var (pv 0)) (ka_cons ke_int ka_nil))) (ka_cons (ke_op op_addU ops_add nx_add (ke_lst (ka_cons ke_int (ka_cons ke_int (ka_cons ke_int ka_nil)))) (ke_op op_mulU ops_mul nx_mul (ke_lst (ka_cons ke_int ka_nil)) ke_int)) ka_nil))) ka_nil)) (kp_name (pv 2)) ke_int))) kss_nil)
    (kss_cons (ks_set (i := 4) (by decide) sc.nd rfl (by first | exact .inl rfl | exact .inr rfl) (ke_call F_law_program (hr.mono (by omega)) tk (by rfl) (ka_cons (ke_var (pv 1)) (ka_cons (ke_var (pv 2)) (ka_cons (ke_op op_pow ops_pow nx_pow ke_int ke_int) ka_nil)))))
    (kss_cons (ks_set (i := 5) (by decide) sc.nd rfl (by first | exact .inl rfl | exact .inr rfl) (ke_callTy call_list_of calls_list nx_list (by rfl) T.n_list (by decide +kernel) (ka_cons (ke_ix (ke_var (pv 4)) ke_int (fun _ _ => rfl)) ka_nil)))
    (kss_cons (ks_for (by decide) (passes_of rfl) rfl (ki_range1 (by rfl) T.n_range (ka_cons (ke_callB call_lenU calls_len nx_len (by rfl) T.n_len (by decide +kernel) (ka_cons (ke_var (pv 5)) ka_nil)) ka_nil)) (kg_name (pg_name (i := 6) sc.nd rfl (by first | exact .inl rfl | exact .inr rfl))) (kss_one (ks_if (kt_w (kw_and (kt_cmp (op_eqU (hu64 hr)) ops_eq nx_eq (nomark _) (ke_ix (ke_ix (ke_var (pv 5)) (ke_var (pv 6)) (fun _ _ => rfl)) ke_int (fun _ _ => rfl)) ke_str) (kw_and1 (kt_cmp op_gt ops_gt nx_gt (nomark _) (ke_ix (ke_var (pv 3)) ke_int (fun _ _ => rfl)) ke_int)))) (kss_one (ks_setIx (ke_tup (ka_cons ke_str (ka_cons (ke_op op_fdivW ops_div nx_div (ke_op op_mod ops_mod nx_mod (ke_callTy call_intU calls_int nx_int (by rfl) T.n_int (by decide +kernel) (ka_cons (ke_op op_mulU ops_mul nx_mul (ke_ix (ke_var (pv 3)) ke_int (fun _ _ => rfl)) (ke_op op_addU ops_add nx_add (ke_op op_mulU ops_mul nx_mul ke_int (ke_var (pv 6))) (ke_ix (ke_var (pv 3)) ke_int (fun _ _ => rfl)))) ka_nil)) (ke_op op_addU ops_add nx_add (ke_op op_pow ops_pow nx_pow ke_int ke_int) ke_int)) (ke_op op_addU ops_add nx_add ke_int (ke_op op_mod ops_mod nx_mod (ke_callTy call_intU calls_int nx_int (by rfl) T.n_int (by decide +kernel) (ka_cons (ke_op op_mulU ops_mul nx_mul (ke_var (pv 6)) (ke_ix (ke_var (pv 3)) ke_int (fun _ _ => rfl))) ka_nil)) ke_int))) ka_nil))) (kp_name (pv 5)) (ke_var (pv 6)))) kss_nil)) [2, 3, 4, 5])
    (kss_cons (ks_for (by decide) (passes_of rfl) rfl (ki_range1 (by rfl) T.n_range (ka_cons (ke_ix (ke_lst (ka_cons ke_int (ka_cons ke_int (ka_cons ke_int (ka_cons (ke_ix (ke_var (pv 3)) ke_int (fun _ _ => rfl)) ka_nil))))) (ke_ix (ke_var (pv 3)) ke_int (fun _ _ => rfl)) (fun _ _ => rfl)) ka_nil)) (kg_name (pg_name (i := 6) sc.nd rfl (by first | exact .inl rfl | exact .inr rfl))) (kss_cons (ks_append (kp_name (pv 5)) (ka_cons (ke_tup (ka_cons (ke_ix (ke_lst (ka_cons ke_str (ka_cons ke_str ka_nil))) (ke_op op_mod ops_mod nx_mod (ke_callTy call_intU calls_int nx_int (by rfl) T.n_int (by decide +kernel) (ka_cons (ke_op op_addU ops_add nx_add (ke_ix (ke_var (pv 3)) ke_int (fun _ _ => rfl)) (ke_op op_mulU ops_mul nx_mul (ke_var (pv 6)) (ke_var (pv 6)))) ka_nil)) ke_int) (fun _ _ => rfl)) (ka_cons (ke_op op_mod ops_mod nx_mod (ke_callTy call_intU calls_int nx_int (by rfl) T.n_int (by decide +kernel) (ka_cons (ke_op op_addU ops_add nx_add (ke_op op_mulU ops_mul nx_mul (ke_ix (ke_var (pv 3)) ke_int (fun _ _ => rfl)) (ke_var (pv 6))) (ke_ix (ke_var (pv 3)) ke_int (fun _ _ => rfl))) ka_nil)) (ke_callB call_lenU calls_len nx_len (by rfl) T.n_len (by decide +kernel) (ka_cons (ke_var (pv 5)) ka_nil))) (ka_cons (ke_op op_sub ops_sub nx_sub (ke_op op_sub ops_sub nx_sub (ke_callB call_lenU calls_len nx_len (by rfl) T.n_len (by decide +kernel) (ka_cons (ke_var (pv 5)) ka_nil)) ke_int) (ke_op op_mod ops_mod nx_mod (ke_callTy call_intU calls_int nx_int (by rfl) T.n_int (by decide +kernel) (ka_cons (ke_var (pv 6)) ka_nil)) ke_int)) ka_nil)))) ka_nil))
    (kss_one (ks_if (kt_cmp (op_eqU (hu64 hr)) ops_eq nx_eq (nomark _) (ke_op op_mod ops_mod nx_mod (ke_callTy call_intU calls_int nx_int (by rfl) T.n_int (by decide +kernel) (ka_cons (ke_var (pv 6)) ka_nil)) ke_int) ke_int) (kss_one (ks_setIx (ke_ix (ke_lst (ka_cons (ke_tup (ka_cons ke_str (ka_cons (ke_ix (ke_var (pv 2)) (ke_op op_mod ops_mod nx_mod (ke_callTy call_intU calls_int nx_int (by rfl) T.n_int (by decide +kernel) (ka_cons (ke_op op_addU ops_add nx_add (ke_ix (ke_var (pv 3)) ke_int (fun _ _ => rfl)) (ke_var (pv 6))) ka_nil)) ke_int) (fun _ _ => rfl)) ka_nil))) (ka_cons (ke_tup (ka_cons ke_str (ka_cons (ke_var (pv 6)) ka_nil))) ka_nil))) (ke_op op_mod ops_mod nx_mod (ke_callTy call_intU calls_int nx_int (by rfl) T.n_int (by decide +kernel) (ka_cons (ke_op op_addU ops_add nx_add (ke_ix (ke_var (pv 3)) ke_int (fun _ _ => rfl)) (ke_var (pv 6))) ka_nil)) ke_int) (fun _ _ => rfl)) (kp_name (pv 5)) (ke_neg ke_int))) kss_nil))) [2, 3, 4, 5])
    (kss_cons (ks_set (i := 7) (by decide) sc.nd rfl (by first | exact .inl rfl | exact .inr rfl) (ke_op op_addU ops_add nx_add (ke_ix (ke_var (pv 4)) ke_int (fun _ _ => rfl)) (ke_sl (ke_tup (ka_cons (ke_op op_mod ops_mod nx_mod (ke_callTy call_intU calls_int nx_int (by rfl) T.n_int (by decide +kernel) (ka_cons (ke_ix (ke_var (pv 3)) ke_int (fun _ _ => rfl)) ka_nil)) (ke_callB call_lenU calls_len nx_len (by rfl) T.n_len (by decide +kernel) (ka_cons (ke_var (pv 5)) ka_nil))) (ka_cons (ke_op op_mod ops_mod nx_mod (ke_callTy call_intU calls_int nx_int (by rfl) T.n_int (by decide +kernel) (ka_cons (ke_ix (ke_var (pv 3)) ke_int (fun _ _ => rfl)) ka_nil)) (ke_callB call_lenU calls_len nx_len (by rfl) T.n_len (by decide +kernel) (ka_cons (ke_var (pv 5)) ka_nil))) ka_nil))) ko_none (ko_some (ke_op op_mod ops_mod nx_mod (ke_ix (ke_var (pv 3)) ke_int (fun _ _ => rfl)) ke_int)))))
    (kss_cons (ks_if (kt_cmp (op_eqU (hu64 hr)) ops_eq nx_eq (nomark _) (ke_ix (ke_var (pv 3)) ke_int (fun _ _ => rfl)) ke_int) (kss_one (ks_set (i := 7) (by decide) sc.nd rfl (by first | exact .inl rfl | exact .inr rfl) (ke_op op_addU ops_add nx_add (ke_tup (ka_cons (ke_op op_sub ops_sub nx_sub (ke_callB call_lenU calls_len nx_len (by rfl) T.n_len (by decide +kernel) (ka_cons (ke_var (pv 5)) ka_nil)) ke_int) ka_nil)) (ke_var (pv 7))))) kss_nil)
    (kss_one (ks_ret (ke_and (ke_call F_law_is_kept (hr.mono (by omega)) tk (by rfl) (ka_cons (ke_var (pv 5)) (ka_cons (ke_var (pv 7)) ka_nil))) (ke_one (ke_call F_law_is_kept (hr.mono (by omega)) tk (by rfl) (ka_cons (ke_sl (ke_var (pv 5)) ko_none (ko_some ke_int)) (ka_cons (ke_tup (ka_cons ke_int ka_nil)) ka_nil))))))))))))))))))
end
structure Dfs (K : PySem.W.Frag) (mg : Str → Option Value) : Prop where
  d_law_digits : ∃ f fd, mg "_law_digits" = some (.ref f) ∧ Fun K "_law_digits" "_law_digits" st_law_digits f fd
  d_law_cell : ∃ f fd, mg "_law_cell" = some (.ref f) ∧ Fun K "_law_cell" "_law_cell" st_law_cell f fd
  d_law_program_sizes : ∃ f fd, mg "_law_program_sizes" = some (.ref f) ∧ Fun K "_law_program_sizes" "_law_program_sizes" st_law_program_sizes f fd
  d_law_names : ∃ f fd, mg "_law_names" = some (.ref f) ∧ Fun K "_law_names" "_law_names" st_law_names f fd
  d_law_long_name : ∃ f fd, mg "_law_long_name" = some (.ref f) ∧ Fun K "_law_long_name" "_law_long_name" st_law_long_name f fd
  d_law_program : ∃ f fd, mg "_law_program" = some (.ref f) ∧ Fun K "_law_program" "_law_program" st_law_program f fd
  d_law_whole : ∃ f fd, mg "_law_whole" = some (.ref f) ∧ Fun K "_law_whole" "_law_whole" st_law_whole f fd
  d_law_same : ∃ f fd, mg "_law_same" = some (.ref f) ∧ Fun K "_law_same" "_law_same" st_law_same f fd
  d_is_inner : ∃ f fd, mg "is_inner" = some (.ref f) ∧ Fun K "is_inner" "is_inner" st_is_inner f fd
  d_step_text : ∃ f fd, mg "step_text" = some (.ref f) ∧ Fun K "step_text" "step_text" st_step_text f fd
  d_program_text : ∃ f fd, mg "program_text" = some (.ref f) ∧ Fun K "program_text" "program_text" st_program_text f fd
  d_is_number : ∃ f fd, mg "is_number" = some (.ref f) ∧ Fun K "is_number" "is_number" st_is_number f fd
  d_are_outputs : ∃ f fd, mg "are_outputs" = some (.ref f) ∧ Fun K "are_outputs" "are_outputs" st_are_outputs f fd
  d_read_step : ∃ f fd, mg "read_step" = some (.ref f) ∧ Fun K "read_step" "read_step" st_read_step f fd
  d_frozen : ∃ f fd, mg "frozen" = some (.ref f) ∧ Fun K "frozen" "frozen" st_frozen f fd
  d_consists_of : ∃ f fd, mg "consists_of" = some (.ref f) ∧ Fun K "consists_of" "consists_of" st_consists_of f fd
  d_is_name : ∃ f fd, mg "is_name" = some (.ref f) ∧ Fun K "is_name" "is_name" st_is_name f fd
  d_is_whole : ∃ f fd, mg "is_whole" = some (.ref f) ∧ Fun K "is_whole" "is_whole" st_is_whole f fd
  d_is_index : ∃ f fd, mg "is_index" = some (.ref f) ∧ Fun K "is_index" "is_index" st_is_index f fd
  d_step_is_right : ∃ f fd, mg "step_is_right" = some (.ref f) ∧ Fun K "step_is_right" "step_is_right" st_step_is_right f fd
  d_Straight : ∃ C f fd, mg "Straight" = some (.ref C) ∧ Mk K C f ∧ Fun K "__init__" "Straight.__init__" st_Straight f fd
  d_read_program : ∃ f fd, mg "read_program" = some (.ref f) ∧ Fun K "read_program" "read_program" st_read_program f fd
  d_law_is_kept : ∃ f fd, mg "_law_is_kept" = some (.ref f) ∧ Fun K "_law_is_kept" "_law_is_kept" st_law_is_kept f fd
  d_law : ∃ f fd, mg "law" = some (.ref f) ∧ Fun K "law" "law" st_law f fd
section
variable {P : Program} {w : World} {K : PySem.W.Frag} {mg : Str → Option Value} {base : Heap}
def a_law_digits : List D → R D := runB 8 (sb_law_digits)
theorem l_law_digits (T : Txt K mg) (D : Dfs K mg) : KFn P w K mg base 3 "_law_digits" 2 a_law_digits :=
  let ⟨_, _, hx, F⟩ := D.d_law_digits; w_law_digits (k := 0) T F hx
def a_law_cell : List D → R D := runB 4 (sb_law_cell)
theorem l_law_cell (T : Txt K mg) (D : Dfs K mg) : KFn P w K mg base 3 "_law_cell" 2 a_law_cell :=
  let ⟨_, _, hx, F⟩ := D.d_law_cell; w_law_cell (k := 0) T F hx
def a_law_program_sizes : List D → R D := runB 0 (sb_law_program_sizes)
theorem l_law_program_sizes (T : Txt K mg) (D : Dfs K mg) : KFn P w K mg base 3 "_law_program_sizes" 0 a_law_program_sizes :=
  let ⟨_, _, hx, F⟩ := D.d_law_program_sizes; w_law_program_sizes (k := 0) T F hx
def a_law_names : List D → R D := runB 3 (sb_law_names)
theorem l_law_names (T : Txt K mg) (D : Dfs K mg) : KFn P w K mg base 3 "_law_names" 1 a_law_names :=
  let ⟨_, _, hx, F⟩ := D.d_law_names; w_law_names (k := 0) T F hx
def a_law_long_name : List D → R D := runB 5 (sb_law_long_name)
theorem l_law_long_name (T : Txt K mg) (D : Dfs K mg) : KFn P w K mg base 3 "_law_long_name" 1 a_law_long_name :=
  let ⟨_, _, hx, F⟩ := D.d_law_long_name; w_law_long_name (k := 0) T F hx
def a_law_program : List D → R D := runB 16 (sb_law_program)
theorem l_law_program (T : Txt K mg) (D : Dfs K mg) : KFn P w K mg base 3 "_law_program" 3 a_law_program :=
  let ⟨_, _, hx, F⟩ := D.d_law_program; w_law_program (k := 0) T F hx
def a_law_whole : List D → R D := runB 1 (sb_law_whole)
theorem l_law_whole (T : Txt K mg) (D : Dfs K mg) : KFn P w K mg base 3 "_law_whole" 1 a_law_whole :=
  let ⟨_, _, hx, F⟩ := D.d_law_whole; w_law_whole (k := 0) T F hx
def b_law_same : Nat → List D → R D
  | 0 => fun _ => .stk
  | n + 1 => runB 3 (sb_law_same (b_law_same n) a_law_whole)
theorem lb_law_same (T : Txt K mg) (D : Dfs K mg) : ∀ n : Nat, KFn P w K mg base (3 + 3 * n) "_law_same" 2 (b_law_same n)
  | 0 => let ⟨f, fd, hx, F⟩ := D.d_law_same; (KFn.none ⟨f, fd, ["_law_told", "_law_due"], hx, F.kp, F.binds fun _ _ _ _ _ _ us hl => match us, hl with | [_, _], _ => rfl, rfl⟩).mono (by omega)
  | n + 1 => let ⟨_, _, hx, F⟩ := D.d_law_same; have ih := lb_law_same T D n; (w_law_same (k := 3 + 3 * n) T F hx (ih.mono (by omega)) ((l_law_whole T D).mono (by omega))).mono (by omega)
def a_law_same : List D → R D := b_law_same 8
theorem l_law_same (T : Txt K mg) (D : Dfs K mg) : KFn P w K mg base 27 "_law_same" 2 a_law_same := lb_law_same T D 8
def a_is_inner : List D → R D := runB 1 (sb_is_inner)
theorem l_is_inner (T : Txt K mg) (D : Dfs K mg) : KFn P w K mg base 3 "is_inner" 1 a_is_inner :=
  let ⟨_, _, hx, F⟩ := D.d_is_inner; w_is_inner (k := 0) T F hx
def a_step_text : List D → R D := runB 2 (sb_step_text a_is_inner)
theorem l_step_text (T : Txt K mg) (D : Dfs K mg) : KFn P w K mg base 6 "step_text" 2 a_step_text :=
  let ⟨_, _, hx, F⟩ := D.d_step_text; w_step_text (k := 3) T F hx ((l_is_inner T D).mono (by decide))
def a_program_text : List D → R D := runB 5 (sb_program_text a_step_text)
theorem l_program_text (T : Txt K mg) (D : Dfs K mg) : KFn P w K mg base 9 "program_text" 1 a_program_text :=
  let ⟨_, _, hx, F⟩ := D.d_program_text; w_program_text (k := 6) T F hx ((l_step_text T D).mono (by decide))
def a_is_number : List D → R D := runB 2 (sb_is_number)
theorem l_is_number (T : Txt K mg) (D : Dfs K mg) : KFn P w K mg base 3 "is_number" 1 a_is_number :=
  let ⟨_, _, hx, F⟩ := D.d_is_number; w_is_number (k := 0) T F hx
def a_are_outputs : List D → R D := runB 2 (sb_are_outputs a_is_number)
theorem l_are_outputs (T : Txt K mg) (D : Dfs K mg) : KFn P w K mg base 6 "are_outputs" 1 a_are_outputs :=
  let ⟨_, _, hx, F⟩ := D.d_are_outputs; w_are_outputs (k := 3) T F hx ((l_is_number T D).mono (by decide))
def a_read_step : List D → R D := runB 3 (sb_read_step a_is_number)
theorem l_read_step (T : Txt K mg) (D : Dfs K mg) : KFn P w K mg base 6 "read_step" 2 a_read_step :=
  let ⟨_, _, hx, F⟩ := D.d_read_step; w_read_step (k := 3) T F hx ((l_is_number T D).mono (by decide))
def b_frozen : Nat → List D → R D
  | 0 => fun _ => .stk
  | n + 1 => runB 2 (sb_frozen (b_frozen n))
theorem lb_frozen (T : Txt K mg) (D : Dfs K mg) : ∀ n : Nat, KFn P w K mg base (0 + 3 * n) "frozen" 1 (b_frozen n)
  | 0 => let ⟨f, fd, hx, F⟩ := D.d_frozen; (KFn.none ⟨f, fd, ["value"], hx, F.kp, F.binds fun _ _ _ _ _ _ us hl => match us, hl with | [_], _ => rfl, rfl⟩).mono (by omega)
  | n + 1 => let ⟨_, _, hx, F⟩ := D.d_frozen; have ih := lb_frozen T D n; (w_frozen (k := 0 + 3 * n) T F hx (ih.mono (by omega))).mono (by omega)
def a_frozen : List D → R D := b_frozen 8
theorem l_frozen (T : Txt K mg) (D : Dfs K mg) : KFn P w K mg base 24 "frozen" 1 a_frozen := lb_frozen T D 8
def a_consists_of : List D → R D := runB 3 (sb_consists_of)
theorem l_consists_of (T : Txt K mg) (D : Dfs K mg) : KFn P w K mg base 3 "consists_of" 2 a_consists_of :=
  let ⟨_, _, hx, F⟩ := D.d_consists_of; w_consists_of (k := 0) T F hx
def a_is_name : List D → R D := runB 1 (sb_is_name a_consists_of)
theorem l_is_name (T : Txt K mg) (D : Dfs K mg) : KFn P w K mg base 6 "is_name" 1 a_is_name :=
  let ⟨_, _, hx, F⟩ := D.d_is_name; w_is_name (k := 3) T F hx ((l_consists_of T D).mono (by decide))
def a_is_whole : List D → R D := runB 1 (sb_is_whole)
theorem l_is_whole (T : Txt K mg) (D : Dfs K mg) : KFn P w K mg base 3 "is_whole" 1 a_is_whole :=
  let ⟨_, _, hx, F⟩ := D.d_is_whole; w_is_whole (k := 0) T F hx
def a_is_index : List D → R D := runB 2 (sb_is_index a_is_whole)
theorem l_is_index (T : Txt K mg) (D : Dfs K mg) : KFn P w K mg base 6 "is_index" 2 a_is_index :=
  let ⟨_, _, hx, F⟩ := D.d_is_index; w_is_index (k := 3) T F hx ((l_is_whole T D).mono (by decide))
def a_step_is_right : List D → R D := runB 2 (sb_step_is_right a_is_name a_is_whole a_is_index)
theorem l_step_is_right (T : Txt K mg) (D : Dfs K mg) : KFn P w K mg base 9 "step_is_right" 2 a_step_is_right :=
  let ⟨_, _, hx, F⟩ := D.d_step_is_right; w_step_is_right (k := 6) T F hx ((l_is_name T D).mono (by decide)) ((l_is_whole T D).mono (by decide)) ((l_is_index T D).mono (by decide))
def a_Straight : List D → R D := runI 9 "Straight" (sb_Straight a_frozen a_step_is_right a_is_index)
theorem l_Straight (T : Txt K mg) (D : Dfs K mg) : KMk P w K mg base 27 "Straight" 2 a_Straight :=
  let ⟨_, _, _, hx, hM, F⟩ := D.d_Straight; w_Straight (k := 24) T F hx hM ((l_frozen T D).mono (by decide)) ((l_step_is_right T D).mono (by decide)) ((l_is_index T D).mono (by decide))
def a_read_program : List D → R D := runB 8 (sb_read_program a_are_outputs a_read_step a_Straight)
theorem l_read_program (T : Txt K mg) (D : Dfs K mg) : KFn P w K mg base 30 "read_program" 1 a_read_program :=
  let ⟨_, _, hx, F⟩ := D.d_read_program; w_read_program (k := 27) T F hx ((l_are_outputs T D).mono (by decide)) ((l_read_step T D).mono (by decide)) ((l_Straight T D).mono (by decide))
def a_law_is_kept : List D → R D := runB 10 (sb_law_is_kept a_law_same a_program_text a_read_program a_Straight)
theorem l_law_is_kept (T : Txt K mg) (D : Dfs K mg) : KFn P w K mg base 33 "_law_is_kept" 2 a_law_is_kept :=
  let ⟨_, _, hx, F⟩ := D.d_law_is_kept; w_law_is_kept (k := 30) T F hx ((l_law_same T D).mono (by decide)) ((l_program_text T D).mono (by decide)) ((l_read_program T D).mono (by decide)) ((l_Straight T D).mono (by decide))
def a_law : List D → R D := runB 8 (sb_law a_law_digits a_law_cell a_law_program_sizes a_law_names a_law_long_name a_law_program a_law_is_kept)
def lev_law : Nat := 36
theorem l_law (T : Txt K mg) (D : Dfs K mg) {f : Addr} {fd : FuncData} (F : Fun K "law" "law" st_law f fd) : FnOk P w K mg base (L2.CX P w) 36 f fd ["_law_script"] (spD ⟨K, mg⟩ 1 a_law) :=
  w_law (k := 33) T F ((l_law_digits T D).mono (by decide)) ((l_law_cell T D).mono (by decide)) ((l_law_program_sizes T D).mono (by decide)) ((l_law_names T D).mono (by decide)) ((l_law_long_name T D).mono (by decide)) ((l_law_program T D).mono (by decide)) ((l_law_is_kept T D).mono (by decide))
end
def fa : List He.Fa := [
  .free "list", .free "range", .free "len", .free "int", .free "max", .free "min", .free "tuple", .free "str",
    .free "isinstance", .free "bool", .free "enumerate", .free "all", .int "LONGEST" 200, .str "DIGITS" "0123456789", .int "NAME_LENGTH" 40, .str "LETTERS" "abcdefghijklmnopqrstuvwxyz",
    .str "NAME_SIGNS" "abcdefghijklmnopqrstuvwxyz0123456789[],-", .glo "_law_digits", .glo "_law_cell", .glo "_law_program_sizes", .glo "_law_names", .glo "_law_long_name", .glo "_law_program", .glo "_law_whole",
    .glo "_law_same", .glo "is_inner", .glo "step_text", .glo "program_text", .glo "is_number", .glo "are_outputs", .glo "read_step", .glo "frozen",
    .glo "consists_of", .glo "is_name", .glo "is_whole", .glo "is_index", .glo "step_is_right", .glo "Straight", .mkr "Straight", .cls "Straight",
    .glo "read_program", .glo "_law_is_kept", .glo "law", .noat "Straight" "steps", .noat "Straight" "outputs"]
def fn : List He.DefD := [
  ⟨("_law_digits", none), "_law_digits", "_law_digits", defArgs st_law_digits, defBody st_law_digits, defScope st_law_digits, [], []⟩,
  ⟨("_law_cell", none), "_law_cell", "_law_cell", defArgs st_law_cell, defBody st_law_cell, defScope st_law_cell, [], []⟩,
  ⟨("_law_program_sizes", none), "_law_program_sizes", "_law_program_sizes", defArgs st_law_program_sizes, defBody st_law_program_sizes, defScope st_law_program_sizes, [], []⟩,
  ⟨("_law_names", none), "_law_names", "_law_names", defArgs st_law_names, defBody st_law_names, defScope st_law_names, [], []⟩,
  ⟨("_law_long_name", none), "_law_long_name", "_law_long_name", defArgs st_law_long_name, defBody st_law_long_name, defScope st_law_long_name, [], []⟩,
  ⟨("_law_program", none), "_law_program", "_law_program", defArgs st_law_program, defBody st_law_program, defScope st_law_program, [], []⟩,
  ⟨("_law_whole", none), "_law_whole", "_law_whole", defArgs st_law_whole, defBody st_law_whole, defScope st_law_whole, [], []⟩,
  ⟨("_law_same", none), "_law_same", "_law_same", defArgs st_law_same, defBody st_law_same, defScope st_law_same, [], []⟩,
  ⟨("is_inner", none), "is_inner", "is_inner", defArgs st_is_inner, defBody st_is_inner, defScope st_is_inner, [], []⟩,
  ⟨("step_text", none), "step_text", "step_text", defArgs st_step_text, defBody st_step_text, defScope st_step_text, [], []⟩,
  ⟨("program_text", none), "program_text", "program_text", defArgs st_program_text, defBody st_program_text, defScope st_program_text, [], []⟩,
  ⟨("is_number", none), "is_number", "is_number", defArgs st_is_number, defBody st_is_number, defScope st_is_number, [], []⟩,
  ⟨("are_outputs", none), "are_outputs", "are_outputs", defArgs st_are_outputs, defBody st_are_outputs, defScope st_are_outputs, [], []⟩,
  ⟨("read_step", none), "read_step", "read_step", defArgs st_read_step, defBody st_read_step, defScope st_read_step, [], []⟩,
  ⟨("frozen", none), "frozen", "frozen", defArgs st_frozen, defBody st_frozen, defScope st_frozen, [], []⟩,
  ⟨("consists_of", none), "consists_of", "consists_of", defArgs st_consists_of, defBody st_consists_of, defScope st_consists_of, [], []⟩,
  ⟨("is_name", none), "is_name", "is_name", defArgs st_is_name, defBody st_is_name, defScope st_is_name, [], []⟩,
  ⟨("is_whole", none), "is_whole", "is_whole", defArgs st_is_whole, defBody st_is_whole, defScope st_is_whole, [], []⟩,
  ⟨("is_index", none), "is_index", "is_index", defArgs st_is_index, defBody st_is_index, defScope st_is_index, [], []⟩,
  ⟨("step_is_right", none), "step_is_right", "step_is_right", defArgs st_step_is_right, defBody st_step_is_right, defScope st_step_is_right, [], []⟩,
  ⟨("Straight", some "__init__"), "__init__", "Straight.__init__", defArgs st_Straight, defBody st_Straight, defScope st_Straight, [], []⟩,
  ⟨("read_program", none), "read_program", "read_program", defArgs st_read_program, defBody st_read_program, defScope st_read_program, [], []⟩,
  ⟨("_law_is_kept", none), "_law_is_kept", "_law_is_kept", defArgs st_law_is_kept, defBody st_law_is_kept, defScope st_law_is_kept, [], []⟩,
  ⟨("law", none), "law", "law", defArgs st_law, defBody st_law, defScope st_law, [], []⟩]
def more (K : PySem.W.Frag) : Bool := ci.all fun c => isaB K c
section
variable {K : PySem.W.Frag} {mg : Str → Option Value} {h : Heap}
theorem txt (X : K.In h) (G : h.Ns mainGlobals mg) (c : He.SaysD fa fn K) (hm : more K = true) : Txt K mg where
  n_list := He.free_ok X G (c.fact 0 rfl)
  n_range := He.free_ok X G (c.fact 1 rfl)
  n_len := He.free_ok X G (c.fact 2 rfl)
  n_int := He.free_ok X G (c.fact 3 rfl)
  n_max := He.free_ok X G (c.fact 4 rfl)
  n_min := He.free_ok X G (c.fact 5 rfl)
  n_tuple := He.free_ok X G (c.fact 6 rfl)
  n_str := He.free_ok X G (c.fact 7 rfl)
  n_isinstance := He.free_ok X G (c.fact 8 rfl)
  n_bool := He.free_ok X G (c.fact 9 rfl)
  n_enumerate := He.free_ok X G (c.fact 10 rfl)
  n_all := He.free_ok X G (c.fact 11 rfl)
  c_LONGEST := He.int_ok X G (c.fact 12 rfl)
  c_DIGITS := He.str_ok X G (c.fact 13 rfl)
  c_NAME_LENGTH := He.int_ok X G (c.fact 14 rfl)
  c_LETTERS := He.str_ok X G (c.fact 15 rfl)
  c_NAME_SIGNS := He.str_ok X G (c.fact 16 rfl)
  fld := by
    intro z hz C hC
    simp only [cf, List.mem_cons, List.not_mem_nil, or_false] at hz
    rcases hz with rfl | rfl
    · obtain rfl : C = He.ga K "Straight" := V_ref (hC.symm.trans (He.glo_ok X G (c.fact 37 rfl)))
      exact ⟨He.cls_ok (c.fact 39 rfl), He.noat_ok (c.fact 43 rfl)⟩
    · obtain rfl : C = He.ga K "Straight" := V_ref (hC.symm.trans (He.glo_ok X G (c.fact 37 rfl)))
      exact ⟨He.cls_ok (c.fact 39 rfl), He.noat_ok (c.fact 44 rfl)⟩
  g_Straight := ⟨_, He.glo_ok X G (c.fact 37 rfl)⟩
  isa := by
    intro z hz C hC
    have hi := isaB_ok (List.all_eq_true.mp hm z hz)
    simp only [ci, List.mem_cons, List.not_mem_nil, or_false] at hz
    rcases hz with rfl
    · obtain rfl : C = He.ga K "Straight" := V_ref (hC.symm.trans (He.glo_ok X G (c.fact 37 rfl)))
      exact hi
theorem dfs (X : K.In h) (G : h.Ns mainGlobals mg) (c : He.SaysD fa fn K) : Dfs K mg where
  d_law_digits := let ⟨fd, F⟩ := c.def_ 0 rfl; ⟨_, fd, He.glo_ok X G (c.fact 17 rfl), fun_of F⟩
  d_law_cell := let ⟨fd, F⟩ := c.def_ 1 rfl; ⟨_, fd, He.glo_ok X G (c.fact 18 rfl), fun_of F⟩
  d_law_program_sizes := let ⟨fd, F⟩ := c.def_ 2 rfl; ⟨_, fd, He.glo_ok X G (c.fact 19 rfl), fun_of F⟩
  d_law_names := let ⟨fd, F⟩ := c.def_ 3 rfl; ⟨_, fd, He.glo_ok X G (c.fact 20 rfl), fun_of F⟩
  d_law_long_name := let ⟨fd, F⟩ := c.def_ 4 rfl; ⟨_, fd, He.glo_ok X G (c.fact 21 rfl), fun_of F⟩
  d_law_program := let ⟨fd, F⟩ := c.def_ 5 rfl; ⟨_, fd, He.glo_ok X G (c.fact 22 rfl), fun_of F⟩
  d_law_whole := let ⟨fd, F⟩ := c.def_ 6 rfl; ⟨_, fd, He.glo_ok X G (c.fact 23 rfl), fun_of F⟩
  d_law_same := let ⟨fd, F⟩ := c.def_ 7 rfl; ⟨_, fd, He.glo_ok X G (c.fact 24 rfl), fun_of F⟩
  d_is_inner := let ⟨fd, F⟩ := c.def_ 8 rfl; ⟨_, fd, He.glo_ok X G (c.fact 25 rfl), fun_of F⟩
  d_step_text := let ⟨fd, F⟩ := c.def_ 9 rfl; ⟨_, fd, He.glo_ok X G (c.fact 26 rfl), fun_of F⟩
  d_program_text := let ⟨fd, F⟩ := c.def_ 10 rfl; ⟨_, fd, He.glo_ok X G (c.fact 27 rfl), fun_of F⟩
  d_is_number := let ⟨fd, F⟩ := c.def_ 11 rfl; ⟨_, fd, He.glo_ok X G (c.fact 28 rfl), fun_of F⟩
  d_are_outputs := let ⟨fd, F⟩ := c.def_ 12 rfl; ⟨_, fd, He.glo_ok X G (c.fact 29 rfl), fun_of F⟩
  d_read_step := let ⟨fd, F⟩ := c.def_ 13 rfl; ⟨_, fd, He.glo_ok X G (c.fact 30 rfl), fun_of F⟩
  d_frozen := let ⟨fd, F⟩ := c.def_ 14 rfl; ⟨_, fd, He.glo_ok X G (c.fact 31 rfl), fun_of F⟩
  d_consists_of := let ⟨fd, F⟩ := c.def_ 15 rfl; ⟨_, fd, He.glo_ok X G (c.fact 32 rfl), fun_of F⟩
  d_is_name := let ⟨fd, F⟩ := c.def_ 16 rfl; ⟨_, fd, He.glo_ok X G (c.fact 33 rfl), fun_of F⟩
  d_is_whole := let ⟨fd, F⟩ := c.def_ 17 rfl; ⟨_, fd, He.glo_ok X G (c.fact 34 rfl), fun_of F⟩
  d_is_index := let ⟨fd, F⟩ := c.def_ 18 rfl; ⟨_, fd, He.glo_ok X G (c.fact 35 rfl), fun_of F⟩
  d_step_is_right := let ⟨fd, F⟩ := c.def_ 19 rfl; ⟨_, fd, He.glo_ok X G (c.fact 36 rfl), fun_of F⟩
  d_Straight := let ⟨fd, F⟩ := c.def_ 20 rfl; ⟨_, _, fd, He.glo_ok X G (c.fact 37 rfl), He.mkr_ok (c.fact 38 rfl), fun_of F⟩
  d_read_program := let ⟨fd, F⟩ := c.def_ 21 rfl; ⟨_, fd, He.glo_ok X G (c.fact 40 rfl), fun_of F⟩
  d_law_is_kept := let ⟨fd, F⟩ := c.def_ 22 rfl; ⟨_, fd, He.glo_ok X G (c.fact 41 rfl), fun_of F⟩
  d_law := let ⟨fd, F⟩ := c.def_ 23 rfl; ⟨_, fd, He.glo_ok X G (c.fact 42 rfl), fun_of F⟩
theorem facts {P : Program} {w : World} {f : Addr} (X : K.In h) (G : h.Ns mainGlobals mg) (hf : mg "law" = some (.ref f)) (c : He.SaysD fa fn K) (hm : more K = true) :
    ∃ fd : FuncData, (∀ (s : Shared) (v : Value), BindsTo s fd ⟨[v], []⟩ [("_law_script", v)]) ∧ ∀ base : Heap, K.In base → base.Ns mainGlobals mg → FnOk P w K mg base (L2.CX P w) 36 f fd ["_law_script"] (spD ⟨K, mg⟩ 1 a_law) := by
  obtain ⟨fd, F⟩ := c.def_ 23 rfl
  obtain rfl : f = He.fAd K ("law", none) := V_ref (hf.symm.trans (He.glo_ok X G (c.fact 42 rfl)))
  have b := FunD.bindsA (ps := ["_law_script"]) F fun _ _ _ _ _ _ us hl => match us, hl with | [_], _ => rfl
  exact ⟨fd, fun s v => b s [v] rfl, fun base _ _ => l_law (txt X G c hm) (dfs X G c) (fun_of F)⟩
end
end K57
set_option maxHeartbeats 4000000
namespace K57
open PySem L2 Vs
/-! ### whole numbers, texts -/
theorem isi_int (i : Int) : dIsi ci [.int i, .ty "int"] = .ok (.bl true) := rfl
theorem is_whole_int (i : Int) : a_is_whole [.int i] = .ok (.bl true) := rfl
theorem law_whole_int (i : Int) : a_law_whole [.int i] = .ok (.bl true) := rfl
theorem sizes_ok : a_law_program_sizes [] = .ok (.lst true ([4, 8, 8, 6, 8, 5, 8, 5, 8, 5, 8, 5, 10, 6, 12, 10, 6, 12, 10, 6, 12, 10, 6, 12, 10, 6, 12, 10, 6, 12, 10, 6, 12, 10, 6, 12, 10, 6, 12].map .int)) := rfl
theorem is_index_ok (i n : Int) (h : 0 ≤ i) (h2 : i < n) : a_is_index [.int i, .int n] = .ok (.bl true) := by
  simp [a_is_index, sb_is_index, is_whole_int, h, h2]
theorem is_inner_str (w : Str) (ds : List D) : a_is_inner [.tup (.str w :: ds)] = .ok (.bl (decide (w = "plus") || decide (w = "times"))) := by
  by_cases h : w = "plus" <;> simp [a_is_inner, sb_is_inner, h]
/-! ### the law's digits -/
theorem cell_ok (ns : List Int) (k : Nat) (hk : k ≤ 3) : Oks (a_law_cell [.scr ns, .int (k : Nat)]) fun d => ∃ c : Int, d = .int c := by
  refine oks_run ?_
  by_cases h : k < ns.length
  · have e : dIx (.scr ns) (.int (k : Nat)) = .ok (.int ns[k]) := by
      show (match atI ns (k : Int) with | some n => R.ok (D.int n) | none => .stk) = _
      rw [atI_nat (List.getElem?_eq_getElem h)]
    simp [sb_law_cell, h, e]
  · simp [sb_law_cell, h]
    refine rets_forT (fun _ e => ∃ (z : Int) (o : Option D), 0 ≤ z ∧ z < 1000003 ∧ e = [none, some (.int k), some (.int z), o]) ⟨17, none, by decide, by decide, rfl⟩ (fun i d e hd hI => ?_) fun e hI => ?_
    · obtain ⟨z, o, z0, z1, rfl⟩ := hI
      obtain ⟨c, rfl⟩ : ∃ c : Int, d = .int c := by
        rw [List.getElem?_map] at hd
        cases hn : ns[i]? with
        | none => rw [hn] at hd; cases hd
        | some c => rw [hn] at hd; cases hd; exact ⟨c, rfl⟩
      refine ⟨_, rfl, ?_⟩
      have m1 : mulOk z 31 := mulOk_of (by omega) (by decide)
      simp [dMul_int m1, dMod_int]
      omega
    · obtain ⟨z, o, z0, z1, rfl⟩ := hI
      have m1 : mulOk (z + 7) ((k : Int) + 3) := mulOk_of (by omega) (by omega)
      have m2 : mulOk ((z + 7) * ((k : Int) + 3)) 69621 := by
        refine mulOk_of ?_ (by decide)
        have : (z + 7) * ((k : Int) + 3) ≤ 1000010 * 6 := Int.mul_le_mul (by omega) (by omega) (by omega) (by omega)
        have : 0 ≤ (z + 7) * ((k : Int) + 3) := Int.mul_nonneg (by omega) (by omega)
        omega
      simp [dMul_int m1, dMul_int m2, dMod_int]
def RowN (i : Nat) (sz row : List Int) : Prop := row.length = i ∧ ∀ (j : Nat) (s r : Int), sz[j]? = some s → row[j]? = some r → 0 ≤ r ∧ r < s
theorem RowN.app {i : Nat} {sz row : List Int} {s r : Int} (h : RowN i sz row) (hs : sz[i]? = some s) (h0 : 0 ≤ r) (h1 : r < s) : RowN (i + 1) sz (row ++ [r]) := by
  refine ⟨by rw [List.length_append, h.1]; rfl, fun j s' r' e1 e2 => ?_⟩
  by_cases hj : j < row.length
  · rw [List.getElem?_append_left hj] at e2
    exact h.2 j s' r' e1 e2
  · have : j = row.length := by
      obtain ⟨hlt, _⟩ := List.getElem?_eq_some_iff.mp e2
      rw [List.length_append] at hlt
      simp at hlt
      omega
    subst this
    rw [List.getElem?_append_right (Nat.le_refl _), Nat.sub_self] at e2
    cases e2
    rw [h.1] at e1
    rw [e1] at hs
    cases hs
    exact ⟨h0, h1⟩
theorem RowN.at {i j : Nat} {sz row : List Int} {s : Int} (h : RowN i sz row) (hj : j < i) (hs : sz[j]? = some s) : ∃ r, row[j]? = some r ∧ 0 ≤ r ∧ r < s := by
  have hl : j < row.length := by rw [h.1]; exact hj
  exact ⟨row[j], List.getElem?_eq_getElem hl, h.2 j s _ hs (List.getElem?_eq_getElem hl)⟩
theorem rngL_get {lo : Int} {n i : Nat} {d : D} (h : (rngL lo n)[i]? = some d) : i < n ∧ d = .int (lo + i) := by
  unfold rngL at h
  rw [List.getElem?_map] at h
  cases hn : (List.range n)[i]? with
  | none => rw [hn] at h; cases h
  | some c =>
    rw [hn] at h
    cases h
    obtain ⟨h1, h2⟩ := List.getElem?_eq_some_iff.mp hn
    rw [List.length_range] at h1
    rw [List.getElem_range] at h2
    subst h2
    exact ⟨h1, rfl⟩
theorem rngL_len (lo : Int) (n : Nat) : (rngL lo n).length = n := by
  unfold rngL
  rw [List.length_map, List.length_range]
theorem map_get {ns : List Int} {i : Nat} {d : D} (h : (ns.map D.int)[i]? = some d) : ∃ c : Int, ns[i]? = some c ∧ d = .int c := by
  rw [List.getElem?_map] at h
  cases hn : ns[i]? with
  | none => rw [hn] at h; cases h
  | some c => rw [hn] at h; cases h; exact ⟨c, rfl, rfl⟩
theorem map_at {ns : List Int} {i : Nat} {c : Int} (h : ns[i]? = some c) : (ns.map D.int)[i]? = some (.int c) := by
  rw [List.getElem?_map, h]
  rfl
theorem sz1000 {n : Nat} (h : n ≤ 1000) : n < 100000 := by omega
theorem dRng_nat {n : Nat} (h : n ≤ 1000000) : dRng [.int (n : Nat)] = .ok (rngL 0 n) := by
  show (if rngOk (n : Int) = true then R.ok (rngL 0 ((n : Int)).toNat) else .stk) = _
  rw [if_pos (rngOk_of (by omega) (by omega)), Int.toNat_natCast]
theorem digits_a (c : Int) (o : Bool) (sz : List Int) (hp : ∀ s ∈ sz, 0 < s ∧ s < 18446744073709551616) (hl : sz.length ≤ 1000) (B : Int) (hpow : dPow (.int 10) (.int 18) = .ok (.int B)) (h : B ≤ c) : Oks (a_law_digits [.int c, .lst o (sz.map .int)]) fun d => ∃ row : List Int, d = .lst true (row.map .int) ∧ RowN sz.length sz row := by
  refine oks_run ?_
  simp [sb_law_digits, hpow, h]
  refine rets_forT (fun i e => ∃ (row : List Int) (z : Int) (o : Option D), RowN i sz row ∧ e = [none, none, some (.lst true (row.map .int)), some (.int z), none, none, o, none]) ⟨[], _, _, ⟨rfl, fun j s r e1 e2 => by cases e2⟩, rfl⟩ (fun i d e hd hI => ?_) fun e hI => ?_
  · obtain ⟨row, z, o, hr, rfl⟩ := hI
    obtain ⟨s, hs, rfl⟩ := map_get hd
    obtain ⟨s0, s1⟩ := hp s (List.mem_of_getElem? hs)
    refine ⟨_, rfl, ?_⟩
    have hi : i < sz.length := (List.getElem?_eq_some_iff.mp hs).1
    have hlen : row.length < 100000 := sz1000 (by rw [hr.1]; omega)
    have s2 : s.natAbs < 18446744073709551616 := by omega
    simp [dMod_int _ s0, dDiv64 _ s0 s2, hlen]
    exact ⟨row ++ [z % s], hr.app hs (Int.emod_nonneg _ (by omega)) (Int.emod_lt_of_pos _ s0), by simp⟩
  · obtain ⟨row, z, o, hr, rfl⟩ := hI
    simp
    rw [List.length_map] at hr
    exact ⟨row, rfl, hr⟩
theorem digits_b (c : Int) (o : Bool) (sz : List Int) (hp : ∀ s ∈ sz, 0 < s ∧ s < 18446744073709551616) (hl : sz.length ≤ 1000) (B : Int) (hpow : dPow (.int 10) (.int 18) = .ok (.int B)) (h : ¬ B ≤ c) : Oks (a_law_digits [.int c, .lst o (sz.map .int)]) fun d => ∃ row : List Int, d = .lst true (row.map .int) ∧ RowN sz.length sz row := by
  refine oks_run ?_
  simp [sb_law_digits, hpow, h, dMod_int, dRng_nat (show sz.length ≤ 1000000 by omega)]
  refine rets_forT (fun i e => ∃ (row : List Int) (z : Int) (o1 o2 : Option D), RowN i sz row ∧ 0 ≤ z ∧ z < 2147483647 ∧ e = [none, some (.lst o (sz.map .int)), some (.lst true (row.map .int)), none, some (.int z), o1, none, o2]) ⟨[], _, _, _, ⟨rfl, fun j s r e1 e2 => by cases e2⟩, ?_, ?_, rfl⟩ (fun i d e hd hI => ?_) fun e hI => ?_
  · exact Int.emod_nonneg _ (by decide)
  · have := Int.emod_lt_of_pos c (show (0 : Int) < 2147483629 by decide)
    omega
  · obtain ⟨row, z, o1, o2, hr, z0, z1, rfl⟩ := hI
    obtain ⟨hi, rfl⟩ := rngL_get hd
    obtain ⟨s, hs⟩ : ∃ s, sz[i]? = some s := ⟨sz[i], List.getElem?_eq_getElem hi⟩
    obtain ⟨s0, s1⟩ := hp s (List.mem_of_getElem? hs)
    refine ⟨_, rfl, ?_⟩
    have hlen : row.length < 100000 := sz1000 (by rw [hr.1]; omega)
    have m1 : mulOk z 48271 := mulOk_of (by omega) (by decide)
    have m2 : mulOk 974711 (i : Nat) := mulOk_of (by decide) (by omega)
    have e1 : dIx (.lst false (sz.map .int)) (.int (i : Nat)) = .ok (.int s) := dIx_lst (map_at hs)
    generalize hz : (z * 48271 + 974711 * (i : Int) + 12345) % 2147483647 = y
    have y0 : 0 ≤ y := by rw [← hz]; exact Int.emod_nonneg _ (by decide)
    have y1 : y < 2147483647 := by rw [← hz]; exact Int.emod_lt_of_pos _ (by decide)
    have m3 : mulOk y (y / 65537 + 3) := mulOk_of (by omega) (by omega)
    simp [dMul_int m1, dMul_int m2, dMod_int, dDiv64, e1, hlen, hz, dMul_int m3, dMod_int _ s0]
    exact ⟨row ++ [y * (y / 65537 + 3) % 2147483629 / 19 % s], hr.app hs (Int.emod_nonneg _ (by omega)) (Int.emod_lt_of_pos _ s0), y, y0, y1, by simp, rfl⟩
  · obtain ⟨row, z, o1, o2, hr, z0, z1, rfl⟩ := hI
    simp
    rw [rngL_len] at hr
    exact ⟨row, rfl, hr⟩
theorem digits_ok (c : Int) (o : Bool) (sz : List Int) (hp : ∀ s ∈ sz, 0 < s ∧ s < 18446744073709551616) (hl : sz.length ≤ 1000) : Oks (a_law_digits [.int c, .lst o (sz.map .int)]) fun d => ∃ row : List Int, d = .lst true (row.map .int) ∧ RowN sz.length sz row := by
  have hpow : dPow (.int 10) (.int 18) = .ok (.int 1000000000000000000) := rfl
  by_cases h : (1000000000000000000 : Int) ≤ c
  · exact digits_a c o sz hp hl _ hpow h
  · exact digits_b c o sz hp hl _ hpow h
end K57
set_option maxHeartbeats 4000000
namespace K57
open PySem L2 Vs TL
/-! ### texts of numbers -/
theorem tl_strI (n : Nat) : tl (strI (n : Int)) = numL n := tl_num n
theorem strI_len (n : Nat) : (strI (n : Int)).length = (numL n).length := by rw [len_tl, tl_strI]
theorem numL_head : ∀ (n : Nat), ∃ c r, numL n = c :: r ∧ (c = 48 → n = 0) := by
  intro n
  induction n using Nat.strongRecOn with
  | _ n ih =>
    by_cases h : n < 10
    · exact ⟨48 + n, [], numL_lt h, fun e => by omega⟩
    · obtain ⟨c, r, e, hc⟩ := ih (n / 10) (by omega)
      exact ⟨c, r ++ [48 + n % 10], by rw [numL_step (by omega), e]; rfl, fun e => by have := hc e; omega⟩
theorem numL_small {n k : Nat} (h : n < 10 ^ k) (hk : 0 < k) : (numL n).length ≤ k := numL_len hk h
theorem dIx_str {z : Str} {c : Nat} {r : List Nat} (h : tl z = c :: r) (hl : z.length ≤ 100000) : dIx (.str z) (.int 0) = .ok (.str ⟨#[c]⟩) := by
  show (if z.length ≤ SZ then (match atI z.cps.toList 0 with | some c => R.ok (D.str ⟨#[c]⟩) | none => .stk) else .stk) = _
  have e : atI z.cps.toList ((0 : Nat) : Int) = some c := atI_nat (by show (tl z)[0]? = some c; rw [h]; rfl)
  rw [if_pos (show z.length ≤ SZ from hl)]
  show (match atI z.cps.toList ((0 : Nat) : Int) with | some c => R.ok (D.str ⟨#[c]⟩) | none => .stk) = _
  rw [e]
theorem dIn_one (c : Nat) (z : Str) : dIn (.str ⟨#[c]⟩) (.str z) = .ok (.bl (decide (c ∈ tl z))) := by
  show R.ok (D.bl (!(Builtin.Str.occurrences z ⟨#[c]⟩ 0 z.length 1).isEmpty)) = _
  rw [StrLaws.found_one]
theorem digit_mem {c : Nat} (h0 : 48 ≤ c) (h1 : c ≤ 57) : c ∈ tl ("0123456789" : Str) := by
  have e : tl ("0123456789" : Str) = [48, 49, 50, 51, 52, 53, 54, 55, 56, 57] := by decide +kernel
  rw [e]
  simp
  omega
theorem numL_mem {n c : Nat} (h : c ∈ numL n) : 48 ≤ c ∧ c ≤ 57 := by
  refine ⟨Nat.not_lt.mp fun q => numL_free (n := n) (.inl q) h, Nat.not_lt.mp fun q => numL_free (n := n) (.inr q) h⟩
theorem one_zero (c : Nat) : ((⟨#[c]⟩ : Str) = ("0" : Str)) ↔ c = 48 := by
  constructor
  · intro h
    have := congrArg tl h
    have e : tl ("0" : Str) = [48] := by decide +kernel
    rw [e] at this
    exact List.head_eq_of_cons_eq this
  · intro h
    subst h
    exact ext_tl (by decide +kernel)
theorem strI_zero : strI ((0 : Nat) : Int) = ("0" : Str) := ext_tl (by rw [tl_strI]; decide +kernel)
theorem bools_all {α : Type} (l : List α) (f : α → Bool) : bools? (l.map fun a => D.bl (f a)) = some (l.map f) := by
  induction l with
  | nil => rfl
  | cons a l ih =>
    show (bools? (l.map fun a => D.bl (f a))).map (f a :: ·) = _
    rw [ih]
    rfl
theorem dAll_ok {α : Type} {l : List α} {f : α → Bool} (h : ∀ a ∈ l, f a = true) (o : Bool) : dAll [.lst o (l.map fun a => D.bl (f a))] = .ok (.bl true) := by
  show (match bools? _ with | some bs => R.ok (D.bl (bs.all id)) | none => .stk) = _
  rw [bools_all]
  show R.ok (D.bl _) = _
  congr 2
  rw [List.all_map]
  exact List.all_eq_true.mpr fun a m => h a m
theorem is_number_0 : a_is_number [.str "0"] = .ok (.bl true) := by
  have e0 : dIx (.str "0") (.int 0) = .ok (.str "0") := rfl
  have hlen : dLen [.str "0"] = .ok (.int 1) := rfl
  obtain ⟨d, hd, q⟩ : Oks (a_is_number [.str "0"]) fun d => d = .bl true := by
    refine oks_run ?_
    simp [sb_is_number, hlen, e0, hasFzs_strs]
    rw [lc_map (g := fun x => D.bl (decide (x ∈ tl ("0123456789" : Str))))]
    · rfl
    · intro a _
      exact ⟨_, rfl, rfl, dIn_one a _⟩
  rw [hd, q]
theorem is_number_ok (n : Nat) (h : n < 10 ^ 100) : a_is_number [.str (strI (n : Int))] = .ok (.bl true) := by
  have hl := numL_small h (by decide)
  have hz : (strI (n : Int)).length ≤ 100000 := by rw [strI_len]; omega
  obtain ⟨c, r, e, hc⟩ := numL_head n
  by_cases hq : c = 48
  · rw [hc hq, strI_zero]
    exact is_number_0
  have e0 := dIx_str (by rw [tl_strI, e]) hz
  have hlen : dLen [.str (strI (n : Int))] = .ok (.int (numL n).length) := by rw [dLen_str hz, strI_len]
  have h1 : (1 : Int) ≤ ((numL n).length : Int) := by
    rw [e, List.length_cons]
    omega
  have h2 : ((numL n).length : Int) ≤ 200 := by omega
  have ho : ¬ ({ cps := #[c] } : Str) = "0" := fun z => hq ((one_zero c).mp z)
  have hz2 : (strI (n : Int)).cps.size ≤ 100000 := hz
  obtain ⟨d, hd, q⟩ : Oks (a_is_number [.str (strI (n : Int))]) fun d => d = .bl true := by
    refine oks_run ?_
    simp [sb_is_number, hlen, e0, h1, h2, ho, hasFzs_strs, hz2]
    rw [lc_map (g := fun x => D.bl (decide (x ∈ tl ("0123456789" : Str))))]
    · simp [frzs_bls, -dAll_ev]
      rw [dAll_ok]
      · rfl
      · intro a m
        have m : a ∈ tl (strI (n : Int)) := m
        rw [tl_strI] at m
        obtain ⟨m0, m1⟩ := numL_mem m
        exact decide_eq_true (by simpa using digit_mem m0 m1)
    · intro a _
      exact ⟨_, rfl, rfl, dIn_one a _⟩
  rw [hd, q]
end K57
set_option maxHeartbeats 4000000
namespace K57
open PySem L2 Vs TL
/-! ### steps and their lines -/
inductive St where
  | inp (n : Str) | num (v : Nat) | op (w : Bool) (a b : Nat)
def opW (w : Bool) : Str := if w then "plus" else "times"
def St.d : St → D
  | .inp n => .tup [.str "input", .str n]
  | .num v => .tup [.str "number", .int (v : Nat)]
  | .op w a b => .tup [.str (opW w), .int (a : Nat), .int (b : Nat)]
def St.ws (k : Nat) : St → List Str
  | .inp n => [strI (k : Int), "input", n]
  | .num v => [strI (k : Int), "number", strI (v : Int)]
  | .op w a b => [strI (k : Int), opW w, strI (a : Int), strI (b : Int)]
def St.tx (k : Nat) (s : St) : Str := Txt.join " " (s.ws k)
def LET : List Nat := tl ("abcdefghijklmnopqrstuvwxyz" : Str)
def SIG : List Nat := tl ("abcdefghijklmnopqrstuvwxyz0123456789[],-" : Str)
def Good (n : Str) : Prop := ∃ c r, tl n = c :: r ∧ c ∈ LET ∧ (∀ x ∈ c :: r, x ∈ SIG) ∧ (c :: r).length ≤ 40
def St.Ok (i : Nat) : St → Prop
  | .inp n => Good n
  | .num v => v < 10000000000000
  | .op _ a b => a < i ∧ b < i
def Steps (ss : List St) : Prop := ss.length ≤ 400 ∧ ∀ (i : Nat) (s : St), ss[i]? = some s → s.Ok i
theorem log_ok {n : Nat} (h : n < 18446744073709551616) : ((n : Nat) : Int).natAbs.log2 < 1920 := by
  show n.log2 < 1920
  by_cases h0 : n = 0
  · subst h0
    decide
  · exact (Nat.log2_lt h0).mpr (Nat.lt_of_lt_of_le (show n < 2 ^ 64 from h) (Nat.pow_le_pow_right (by decide) (by decide)))
theorem dStr_nat {n : Nat} (h : n < 18446744073709551616) : dStr [.int (n : Nat)] = .ok (.str (strI (n : Int))) := if_pos (log_ok h)
theorem dFmt_nat {n : Nat} (h : n < 18446744073709551616) : dFmt (.int (n : Nat)) = .ok (strI (n : Int)) := if_pos (log_ok h)
theorem dFmt_str {z : Str} (h : z.length ≤ 100000) : dFmt (.str z) = .ok z := if_pos h
theorem numL_len14 {n : Nat} (h : n < 100000000000000) : (numL n).length ≤ 14 := numL_len (by decide) h
theorem len_app (x y : Str) : (x ++ y).length = x.length + y.length := by rw [len_tl, len_tl, len_tl, tl_append, List.length_append]
theorem sJ_ok {env : Vs.Env} : ∀ (ss : List (Vs.Env → R Str)) (ys : List Str) (acc : Str), ss.length = ys.length → (∀ (i : Nat) (s : Vs.Env → R Str) (y : Str), ss[i]? = some s → ys[i]? = some y → s env = .ok y) → acc.length + (ys.map (·.length)).sum ≤ 100000 → sJ acc ss env = .ok (.str (ys.foldl (· ++ ·) acc))
  | [], [], acc, _, _, _ => rfl
  | s :: ss, y :: ys, acc, hl, h, hz => by
    unfold sJ
    rw [h 0 s y rfl rfl]
    rw [List.map_cons, List.sum_cons] at hz
    show (if (acc ++ y).length ≤ SZ then sJ (acc ++ y) ss env else .stk) = _
    rw [if_pos (by rw [len_app]; show _ ≤ 100000; omega)]
    exact sJ_ok ss ys (acc ++ y) (Nat.succ.inj hl) (fun i s y a b => h (i + 1) s y a b) (by rw [len_app]; omega)
theorem tl_sp : tl (" " : Str) = [32] := by decide +kernel
theorem tl_nl : tl ("\n" : Str) = [10] := by decide +kernel
theorem tl_empty : tl Str.empty = [] := by decide +kernel
theorem good_len {n : Str} (h : Good n) : n.length ≤ 40 ∧ 1 ≤ n.length := by
  obtain ⟨c, r, e, _, _, h⟩ := h
  rw [len_tl, e]
  exact ⟨h, by simp⟩
theorem opW_len (w : Bool) : (opW w).length ≤ 5 := by cases w <;> decide +kernel
theorem strI_len14 {n : Nat} (h : n < 100000000000000) : (strI (n : Int)).length ≤ 14 := by rw [strI_len]; exact numL_len14 h
theorem l0 : Str.empty.length = 0 := rfl
theorem l1 : (" " : Str).length = 1 := by decide +kernel
theorem l2 : ("input" : Str).length = 5 := by decide +kernel
theorem l3 : ("number" : Str).length = 6 := by decide +kernel
theorem step_text_ok {k : Nat} {s : St} (hk : k < 400) (h : s.Ok k) : a_step_text [.int (k : Nat), s.d] = .ok (.str (s.tx k)) := by
  obtain ⟨d, hd, q⟩ : Oks (a_step_text [.int (k : Nat), s.d]) fun d => d = .str (s.tx k) := by
    refine oks_run ?_
    have hk2 := strI_len14 (n := k) (by omega)
    cases s with
    | inp n =>
      have hg := good_len h
      have hi : a_is_inner [.tup [.str "input", .str n]] = .ok (.bl false) := is_inner_str "input" [.str n]
      simp [sb_step_text, St.d, hi]
      rw [sJ_ok _ [strI (k : Int), " ", "input", " ", n] _ rfl]
      · simp
        refine ext_tl ?_
        simp [St.tx, St.ws, join_eq, tl_join, joinL, tl_append, tl_empty]
      · intro i s y a b
        match i, a, b with
        | 0, a, b => cases a; cases b; simp [dFmt_nat (n := k) (by omega)]
        | 1, a, b => cases a; cases b; simp
        | 2, a, b => cases a; cases b; simp; rfl
        | 3, a, b => cases a; cases b; simp
        | 4, a, b => cases a; cases b; simp [dFmt_str (z := n) (by omega)]
      · simp
        rw [l0, l1, l2]
        omega
    | num v =>
      have hv : v < 10000000000000 := h
      have hv2 := strI_len14 (n := v) (by omega)
      have hi : a_is_inner [.tup [.str "number", .int (v : Nat)]] = .ok (.bl false) := is_inner_str "number" [.int (v : Nat)]
      simp [sb_step_text, St.d, hi]
      rw [sJ_ok _ [strI (k : Int), " ", "number", " ", strI (v : Int)] _ rfl]
      · simp
        refine ext_tl ?_
        simp [St.tx, St.ws, join_eq, tl_join, joinL, tl_append, tl_empty]
      · intro i s y a b
        match i, a, b with
        | 0, a, b => cases a; cases b; simp [dFmt_nat (n := k) (by omega)]
        | 1, a, b => cases a; cases b; simp
        | 2, a, b => cases a; cases b; simp; rfl
        | 3, a, b => cases a; cases b; simp
        | 4, a, b => cases a; cases b; simp [dFmt_nat (n := v) (by omega)]
      · simp
        rw [l0, l1, l3]
        omega
    | op w a b =>
      obtain ⟨ha, hb⟩ : a < k ∧ b < k := h
      have ha2 := strI_len14 (n := a) (by omega)
      have hb2 := strI_len14 (n := b) (by omega)
      have hw := opW_len w
      have hi : a_is_inner [.tup [.str (opW w), .int (a : Nat), .int (b : Nat)]] = .ok (.bl true) := by
        rw [is_inner_str]
        cases w <;> rfl
      simp [sb_step_text, St.d, hi]
      rw [sJ_ok _ [strI (k : Int), " ", opW w, " ", strI (a : Int), " ", strI (b : Int)] _ rfl]
      · simp
        refine ext_tl ?_
        simp [St.tx, St.ws, join_eq, tl_join, joinL, tl_append, tl_empty]
      · intro i s y a' b'
        match i, a', b' with
        | 0, a', b' => cases a'; cases b'; simp [dFmt_nat (n := k) (by omega)]
        | 1, a', b' => cases a'; cases b'; simp
        | 2, a', b' => cases a'; cases b'; simp [dFmt_str (z := opW w) (by omega)]
        | 3, a', b' => cases a'; cases b'; simp
        | 4, a', b' => cases a'; cases b'; simp [dFmt_nat (n := a) (by omega)]
        | 5, a', b' => cases a'; cases b'; simp
        | 6, a', b' => cases a'; cases b'; simp [dFmt_nat (n := b) (by omega)]
      · simp
        rw [l0, l1]
        omega
  rw [hd, q]
/-! ### reading a step -/
theorem good_ne {n : Str} (h : Good n) : n ≠ Str.empty := fun e => by
  have := (good_len h).2
  rw [e] at this
  exact absurd this (by decide)
theorem pds_strs (l : List Str) : pds (l.map .str) = some (l.map PyData.str) := by
  induction l with
  | nil => rfl
  | cons a l ih =>
    show (match pd (.str a), pds (l.map .str) with | some x, some xs => some (x :: xs) | _, _ => none) = _
    rw [ih]
    rfl
theorem depthAll_strs (l : List Str) : PyData.depthAll (l.map .str) = 0 := by
  induction l with
  | nil => rfl
  | cons a l ih =>
    show max 0 (PyData.depthAll (l.map .str)) = 0
    rw [ih]
    rfl
theorem shaped_strs {l : List Str} (h : ∀ y ∈ l, PyData.strOk y = true) : SeqAt.shaped (.list (l.map PyData.str)) = true := by
  show (PyData.canLayAll0 (l.map PyData.str) && decide (PyData.depthAll (l.map PyData.str) + 1 ≤ 64)) = true
  rw [PyProof.Rows.canLayAll_strs', depthAll_strs, List.all_eq_true.mpr h]
  rfl
theorem dIn_strs {x : Str} {o : Bool} {l : List Str} (hx : PyData.strOk x = true) (h : ∀ y ∈ l, PyData.strOk y = true) : dIn (.str x) (.lst o (l.map .str)) = .ok (.bl (decide (x ∈ l))) := by
  show (match pd (.str x), pds (l.map .str) with | some d, some ds => if SeqAt.shaped d = true ∧ SeqAt.shaped (.list ds) = true then R.ok (D.bl (anyEqv d ds)) else .stk | _, _ => .stk) = _
  rw [pds_strs]
  show (if SeqAt.shaped (.str x) = true ∧ SeqAt.shaped (.list (l.map PyData.str)) = true then R.ok (D.bl (anyEqv (.str x) (l.map PyData.str))) else .stk) = _
  have h1 : SeqAt.shaped (.str x) = true := by
    show (PyData.strOk x && decide (0 ≤ 64)) = true
    rw [hx]
    rfl
  rw [if_pos ⟨h1, shaped_strs h⟩]
  congr 2
  unfold anyEqv
  rw [List.any_map]
  have : (l.any ((fun z => PyData.eqv z (.str x)) ∘ PyData.str)) = l.any fun y => y == x := rfl
  rw [this]
  rw [List.any_eq, decide_eq_decide]
  constructor
  · rintro ⟨y, m, e⟩
    rw [← eq_of_beq e]
    exact m
  · intro m
    exact ⟨x, m, beq_self_eq_true x⟩
theorem strOk_of {x : Str} (h : ∀ c ∈ tl x, c < 256) : PyData.strOk x = true := by
  unfold PyData.strOk
  rw [Array.all_eq_true_iff_forall_mem]
  intro c m
  have := h c (by simpa using m)
  exact decide_eq_true (by omega)
theorem sig_lt {c : Nat} (h : c ∈ SIG) : c < 256 ∧ c ≠ 32 ∧ c ≠ 10 := by
  have e : SIG.all (fun c => decide (c < 256 ∧ c ≠ 32 ∧ c ≠ 10)) = true := by decide +kernel
  exact of_decide_eq_true (List.all_eq_true.mp e c h)
theorem num_lt {n c : Nat} (h : c ∈ tl (strI (n : Int))) : c < 256 ∧ c ≠ 32 ∧ c ≠ 10 := by
  rw [tl_strI] at h
  have := numL_mem h
  omega
theorem word_lt {w : Str} (h : w = "input" ∨ w = "number" ∨ w = "plus" ∨ w = "times" ∨ w = "outputs") {c : Nat} (m : c ∈ tl w) : c < 256 ∧ c ≠ 32 ∧ c ≠ 10 := by
  have e : ∀ w ∈ [("input" : Str), "number", "plus", "times", "outputs"], (tl w).all (fun c => decide (c < 256 ∧ c ≠ 32 ∧ c ≠ 10)) = true := by decide +kernel
  have hm : w ∈ [("input" : Str), "number", "plus", "times", "outputs"] := by
    rcases h with rfl | rfl | rfl | rfl | rfl <;> simp
  exact of_decide_eq_true (List.all_eq_true.mp (e w hm) c m)
theorem good_lt {n : Str} (h : Good n) {c : Nat} (m : c ∈ tl n) : c < 256 ∧ c ≠ 32 ∧ c ≠ 10 := by
  obtain ⟨c0, r, e, _, hs, _⟩ := h
  rw [e] at m
  exact sig_lt (hs c m)
theorem opW_w (w : Bool) : opW w = "input" ∨ opW w = "number" ∨ opW w = "plus" ∨ opW w = "times" ∨ opW w = "outputs" := by cases w <;> simp [opW]
theorem ws_lt {k : Nat} {s : St} (h : s.Ok k) {w : Str} (m : w ∈ s.ws k) {c : Nat} (mc : c ∈ tl w) : c < 256 ∧ c ≠ 32 ∧ c ≠ 10 := by
  cases s with
  | inp n =>
    have m : w ∈ [strI (k : Int), "input", n] := m
    simp at m
    rcases m with rfl | rfl | rfl
    · exact num_lt mc
    · exact word_lt (by simp) mc
    · exact good_lt h mc
  | num v =>
    have m : w ∈ [strI (k : Int), "number", strI (v : Int)] := m
    simp at m
    rcases m with rfl | rfl | rfl
    · exact num_lt mc
    · exact word_lt (by simp) mc
    · exact num_lt mc
  | op z a b =>
    have m : w ∈ [strI (k : Int), opW z, strI (a : Int), strI (b : Int)] := m
    simp at m
    rcases m with rfl | rfl | rfl | rfl
    · exact num_lt mc
    · exact word_lt (opW_w z) mc
    · exact num_lt mc
    · exact num_lt mc
theorem strI_ne (n : Nat) : strI (n : Int) ≠ Str.empty := fun e => by
  have := congrArg tl e
  rw [tl_strI, tl_empty] at this
  exact numL_ne n this
theorem ws_ne {k : Nat} {s : St} (h : s.Ok k) {w : Str} (m : w ∈ s.ws k) : w ≠ Str.empty := by
  cases s with
  | inp n =>
    have m : w ∈ [strI (k : Int), "input", n] := m
    simp at m
    rcases m with rfl | rfl | rfl
    · exact strI_ne k
    · decide +kernel
    · exact good_ne h
  | num v =>
    have m : w ∈ [strI (k : Int), "number", strI (v : Int)] := m
    simp at m
    rcases m with rfl | rfl | rfl
    · exact strI_ne k
    · decide +kernel
    · exact strI_ne v
  | op z a b =>
    have m : w ∈ [strI (k : Int), opW z, strI (a : Int), strI (b : Int)] := m
    simp at m
    rcases m with rfl | rfl | rfl | rfl
    · exact strI_ne k
    · cases z <;> decide +kernel
    · exact strI_ne a
    · exact strI_ne b
theorem dInt_num {n : Nat} (h : n < 100000000000000) : dInt [.str (strI (n : Int))] = .ok (.int (n : Nat)) := by
  have hl := strI_len14 h
  show (if (strI (n : Int)).length ≤ 640 then (match PySem.intText? (strI (n : Int)) with | some n => R.ok (D.int n) | none => .stk) else .stk) = _
  rw [if_pos (by omega)]
  have e : PySem.intText? (strI (n : Int)) = some (n : Int) := int_num (by have := numL_len14 h; omega)
  rw [e]
theorem ne1 : ("number" : Str) ≠ "input" := by decide +kernel
theorem ne2 (w : Bool) : opW w ≠ "input" := by cases w <;> decide +kernel
theorem ne3 (w : Bool) : opW w ≠ "number" := by cases w <;> decide +kernel
theorem opW_in (w : Bool) : dIn (.str (opW w)) (.tup [.str "plus", .str "times"]) = .ok (.bl true) := by cases w <;> rfl
theorem read_step_ok {k : Nat} {s : St} {o : Bool} (hk : k < 400) (h : s.Ok k) : a_read_step [.int (k : Nat), .lst o ((s.ws k).map .str)] = .ok s.d := by
  obtain ⟨d, hd, q⟩ : Oks (a_read_step [.int (k : Nat), .lst o ((s.ws k).map .str)]) fun d => d = s.d := by
    refine oks_run ?_
    have hin : dIn (.str "") (.lst false ((s.ws k).map .str)) = .ok (.bl false) := by
      rw [dIn_strs (by decide +kernel) fun y m => strOk_of fun c mc => (ws_lt h m mc).1]
      congr 2
      exact decide_eq_false fun m => ws_ne h m rfl
    have hs := dStr_nat (n := k) (by omega)
    cases s with
    | inp n =>
      simp only [St.ws, List.map_cons, List.map_nil] at hin
      simp [sb_read_step, St.ws, St.d, hs, hin]
    | num v =>
      have hv : v < 10000000000000 := h
      simp only [St.ws, List.map_cons, List.map_nil] at hin
      have hn := is_number_ok v (Nat.lt_of_lt_of_le (show v < 10 ^ 13 from hv) (Nat.pow_le_pow_right (by decide) (by decide)))
      have hi := dInt_num (n := v) (by omega)
      simp [sb_read_step, St.ws, St.d, hs, hin, dSl, cut, HT.sIx, ne1, hn, hi]
    | op w a b =>
      obtain ⟨ha, hb⟩ : a < k ∧ b < k := h
      simp only [St.ws, List.map_cons, List.map_nil] at hin
      have hp : (400 : Nat) < 10 ^ 100 := Nat.lt_of_lt_of_le (show 400 < 10 ^ 13 by decide) (Nat.pow_le_pow_right (by decide) (by decide))
      have hn := is_number_ok a (by omega)
      have hn2 := is_number_ok b (by omega)
      have hi := dInt_num (n := a) (by omega)
      have hi2 := dInt_num (n := b) (by omega)
      simp [sb_read_step, St.ws, St.d, hs, hin, dSl, cut, HT.sIx, ne2, ne3, hn, hi, hn2, hi2, opW_in]
  rw [hd, q]
end K57
set_option maxHeartbeats 4000000
namespace K57
open PySem L2 Vs TL
/-! ### kinds -/
theorem k_int_list (i : Int) : dIsi ci [.int i, .ty "list"] = .ok (.bl false) := rfl
theorem k_int_tuple (i : Int) : dIsi ci [.int i, .ty "tuple"] = .ok (.bl false) := rfl
theorem k_int_str (i : Int) : dIsi ci [.int i, .ty "str"] = .ok (.bl false) := rfl
theorem k_str_list (i : Str) : dIsi ci [.str i, .ty "list"] = .ok (.bl false) := rfl
theorem k_str_tuple (i : Str) : dIsi ci [.str i, .ty "tuple"] = .ok (.bl false) := rfl
theorem k_str_str (i : Str) : dIsi ci [.str i, .ty "str"] = .ok (.bl true) := rfl
theorem k_tup_list (i : List D) : dIsi ci [.tup i, .ty "list"] = .ok (.bl false) := rfl
theorem k_tup_tuple (i : List D) : dIsi ci [.tup i, .ty "tuple"] = .ok (.bl true) := rfl
theorem k_lst_list (o : Bool) (i : List D) : dIsi ci [.lst o i, .ty "list"] = .ok (.bl true) := rfl
theorem k_obj (o : Bool) (ns : List Str) (ds : List D) : dIsi ci [.obj o "Straight" ns ds, .cls "Straight"] = .ok (.bl true) := rfl
theorem hard_int (i : Int) : Hard (.int i) := ⟨rfl, rfl⟩
theorem hard_str (i : Str) : Hard (.str i) := ⟨rfl, rfl⟩
theorem St.hard (s : St) : Hard s.d := by cases s <;> exact ⟨rfl, rfl⟩
theorem sts_frz (ss : List St) : frzs (ss.map St.d) = ss.map St.d := (hards fun d m => by
  obtain ⟨s, _, rfl⟩ := List.mem_map.mp m
  exact s.hard).1
theorem sts_has (ss : List St) : hasFzs (ss.map St.d) = false := (hards fun d m => by
  obtain ⟨s, _, rfl⟩ := List.mem_map.mp m
  exact s.hard).2
/-! ### frozen -/
theorem frozen_int (n : Nat) (i : Int) : b_frozen (n + 1) [.int i] = .ok (.int i) := by
  simp [b_frozen, sb_frozen, k_int_list, k_int_tuple]
theorem frozen_str (n : Nat) (i : Str) : b_frozen (n + 1) [.str i] = .ok (.str i) := by
  simp [b_frozen, sb_frozen, k_str_list, k_str_tuple]
theorem frozen_tup {n : Nat} {α : Type} {l : List α} {fa : α → D} (h : ∀ a ∈ l, frz (fa a) = fa a ∧ hasFz (fa a) = false ∧ b_frozen n [fa a] = .ok (fa a)) (hl : l.length ≤ 100000) : b_frozen (n + 1) [.tup (l.map fa)] = .ok (.tup (l.map fa)) := by
  obtain ⟨h1, h2⟩ : frzs (l.map fa) = l.map fa ∧ hasFzs (l.map fa) = false := hards fun d m => by
    obtain ⟨a, ma, rfl⟩ := List.mem_map.mp m
    exact ⟨(h a ma).1, (h a ma).2.1⟩
  simp [b_frozen, sb_frozen, k_tup_list, k_tup_tuple, h1, h2, hl]
  rw [lc_map (g := fa)]
  · simp [h1]
  · intro a ma
    exact ⟨_, rfl, rfl, by simp [h a ma]⟩
theorem frozen_lst {n : Nat} {o : Bool} {α : Type} {l : List α} {fa : α → D} (h : ∀ a ∈ l, frz (fa a) = fa a ∧ hasFz (fa a) = false ∧ b_frozen n [fa a] = .ok (fa a)) (hl : l.length ≤ 100000) : b_frozen (n + 1) [.lst o (l.map fa)] = .ok (.tup (l.map fa)) := by
  obtain ⟨h1, h2⟩ : frzs (l.map fa) = l.map fa ∧ hasFzs (l.map fa) = false := hards fun d m => by
    obtain ⟨a, ma, rfl⟩ := List.mem_map.mp m
    exact ⟨(h a ma).1, (h a ma).2.1⟩
  simp [b_frozen, sb_frozen, k_lst_list, h1, h2, hl]
  rw [lc_map (g := fa)]
  · simp [h1]
  · intro a ma
    exact ⟨_, rfl, rfl, by simp [h a ma]⟩
theorem frozen_st (n : Nat) (s : St) : b_frozen (n + 2) [s.d] = .ok s.d := by
  cases s with
  | inp z =>
    exact frozen_tup (l := [D.str "input", D.str z]) (fa := fun d => d) (fun a m => by
      simp at m
      rcases m with rfl | rfl <;> exact ⟨rfl, rfl, frozen_str n _⟩) (by simp)
  | num v =>
    exact frozen_tup (l := [D.str "number", D.int (v : Nat)]) (fa := fun d => d) (fun a m => by
      simp at m
      rcases m with rfl | rfl
      · exact ⟨rfl, rfl, frozen_str n _⟩
      · exact ⟨rfl, rfl, frozen_int n _⟩) (by simp)
  | op w a b =>
    exact frozen_tup (l := [D.str (opW w), D.int (a : Nat), D.int (b : Nat)]) (fa := fun d => d) (fun a m => by
      simp at m
      rcases m with rfl | rfl | rfl
      · exact ⟨rfl, rfl, frozen_str n _⟩
      · exact ⟨rfl, rfl, frozen_int n _⟩
      · exact ⟨rfl, rfl, frozen_int n _⟩) (by simp)
theorem frozen_steps {o : Bool} {ss : List St} (h : ss.length ≤ 400) : a_frozen [.lst o (ss.map St.d)] = .ok (.tup (ss.map St.d)) :=
  frozen_lst (n := 7) (fun s _ => ⟨s.hard.1, s.hard.2, frozen_st 5 s⟩) (by omega)
theorem frozen_outs {outs : List Nat} (h : outs.length ≤ 400) : a_frozen [.tup (outs.map fun (n : Nat) => D.int n)] = .ok (.tup (outs.map fun (n : Nat) => D.int n)) :=
  frozen_tup (n := 7) (fun s _ => ⟨rfl, rfl, frozen_int 6 _⟩) (by omega)
theorem frozen_outsL {o : Bool} {outs : List Nat} (h : outs.length ≤ 400) : a_frozen [.lst o (outs.map fun (n : Nat) => D.int n)] = .ok (.tup (outs.map fun (n : Nat) => D.int n)) :=
  frozen_lst (n := 7) (fun s _ => ⟨rfl, rfl, frozen_int 6 _⟩) (by omega)
/-! ### names -/
theorem consists_ok (z : Str) (h : ∀ x ∈ tl z, x ∈ SIG) : a_consists_of [.str z, .str "abcdefghijklmnopqrstuvwxyz0123456789[],-"] = .ok (.bl true) := by
  obtain ⟨d, hd, q⟩ : Oks (a_consists_of [.str z, .str "abcdefghijklmnopqrstuvwxyz0123456789[],-"]) fun d => d = .bl true := by
    refine oks_run ?_
    simp [sb_consists_of]
    refine rets_forT (fun i e => ∃ o, e = [none, some (.str "abcdefghijklmnopqrstuvwxyz0123456789[],-"), o]) ⟨_, rfl⟩ (fun i d e hd hI => ?_) fun e hI => ?_
    · obtain ⟨o, rfl⟩ := hI
      rw [List.getElem?_map] at hd
      cases hn : (z.cps.toList)[i]? with
      | none => rw [hn] at hd; cases hd
      | some c =>
        rw [hn] at hd
        cases hd
        have hc : dNotIn (.str ⟨#[c]⟩) (.str "abcdefghijklmnopqrstuvwxyz0123456789[],-") = .ok (.bl false) := by
          unfold dNotIn
          have hm : c ∈ tl ("abcdefghijklmnopqrstuvwxyz0123456789[],-" : Str) := h c (List.mem_of_getElem? hn)
          rw [dIn_one, decide_eq_true hm]
          rfl
        exact ⟨_, rfl, by simp [hc]⟩
    · obtain ⟨o, rfl⟩ := hI
      simp
  rw [hd, q]
theorem is_name_ok {z : Str} (h : Good z) : a_is_name [.str z] = .ok (.bl true) := by
  have hg := good_len h
  obtain ⟨c, r, e, hc, hs, hl⟩ := h
  have e0 := dIx_str e (by omega)
  have hlen : dLen [.str z] = .ok (.int z.length) := dLen_str (show z.length ≤ SZ by show _ ≤ 100000; omega)
  have h1 : (1 : Int) ≤ (z.length : Int) := by omega
  have h2 : (z.length : Int) ≤ 40 := by omega
  have hco := consists_ok z (by rw [e]; exact hs)
  have hin : dIn (.str ⟨#[c]⟩) (.str "abcdefghijklmnopqrstuvwxyz") = .ok (.bl true) := by
    have hm : c ∈ tl ("abcdefghijklmnopqrstuvwxyz" : Str) := hc
    rw [dIn_one, decide_eq_true hm]
  obtain ⟨d, hd, q⟩ : Oks (a_is_name [.str z]) fun d => d = .bl true := by
    refine oks_run ?_
    simp [sb_is_name, k_str_str, hlen, h1, h2, e0, hco, hin]
  rw [hd, q]
theorem ne4 (w : Bool) : decide (opW w = "plus") = w := by cases w <;> decide +kernel
theorem ne5 (w : Bool) : decide (opW w = "times") = !w := by cases w <;> decide +kernel
theorem step_right_ok {k : Nat} {s : St} (h : s.Ok k) : a_step_is_right [s.d, .int (k : Nat)] = .ok (.bl true) := by
  obtain ⟨d, hd, q⟩ : Oks (a_step_is_right [s.d, .int (k : Nat)]) fun d => d = .bl true := by
    refine oks_run ?_
    cases s with
    | inp z =>
      have hn := is_name_ok h
      simp [sb_step_is_right, St.d, k_tup_tuple, k_str_str, hn]
    | num v => simp [sb_step_is_right, St.d, k_tup_tuple, k_str_str, ne1, is_whole_int]
    | op w a b =>
      obtain ⟨ha, hb⟩ : a < k ∧ b < k := h
      have h1 := is_index_ok (a : Nat) (k : Nat) (by omega) (by omega)
      have h2 := is_index_ok (b : Nat) (k : Nat) (by omega) (by omega)
      cases w <;> simp [sb_step_is_right, St.d, k_tup_tuple, k_str_str, ne2, ne3, ne4, ne5, h1, h2]
  rw [hd, q]
end K57
set_option maxHeartbeats 4000000
namespace K57
open PySem L2 Vs TL
/-! ### the object -/
def outD (outs : List Nat) : List D := outs.map fun (n : Nat) => D.int n
def objD (o : Bool) (ss : List St) (outs : List Nat) : D := .obj o "Straight" ["steps", "outputs"] [.tup (ss.map St.d), .tup (outD outs)]
theorem outD_frz (outs : List Nat) : frzs (outD outs) = outD outs := frzs_ints outs _
theorem outD_has (outs : List Nat) : hasFzs (outD outs) = false := hasFzs_ints outs _
theorem mfld1 (x : D) : mFld cf "steps" (.obj true "Straight" [] []) [x] = .ok (.obj true "Straight" ["steps"] [x]) := rfl
theorem mfld2 (x y : D) : mFld cf "outputs" (.obj true "Straight" ["steps"] [x]) [y] = .ok (.obj true "Straight" ["steps", "outputs"] [x, y]) := rfl
theorem straight_gen {o : Bool} {ss : List St} {outs : List Nat} {od : D} (hs : Steps ss) (ho : outs.length ≤ 400) (hb : ∀ n ∈ outs, n < ss.length) (hod : a_frozen [frz (frz od)] = .ok (.tup (outD outs))) : a_Straight [.lst o (ss.map St.d), od] = .ok (objD true ss outs) := by
  obtain ⟨d, hd, q⟩ : Oks (a_Straight [.lst o (ss.map St.d), od]) fun d => d = objD true ss outs := by
    have hf := frozen_steps (o := false) hs.1
    have h1 := sts_frz ss
    have h2 := sts_has ss
    refine oks_runI ?_
    · simp [sb_Straight, h1, hf, h2]
      refine fin_forT (fun i e => ∃ o1 o2, e = [some (.obj true "Straight" [] []), none, some od, some (.tup (ss.map St.d)), o1, o2, none, none, none]) ⟨_, _, rfl⟩ (fun i d e hd hI => ?_) fun e hI => ?_
      · obtain ⟨o1, o2, rfl⟩ := hI
        obtain ⟨x, hx, rfl⟩ := enumL_inv hd
        rw [List.getElem?_map] at hx
        cases hn : ss[i]? with
        | none => rw [hn] at hx; cases hx
        | some s =>
          rw [hn] at hx
          cases hx
          have hr := step_right_ok (hs.2 i s hn)
          refine ⟨_, rfl, ?_⟩
          simp [s.hard.1, hr]
      · obtain ⟨o1, o2, rfl⟩ := hI
        simp [hod, outD_frz, outD_has]
        refine fin_forT (fun i e => ∃ o1 o2, e = [some (.obj true "Straight" [] []), none, none, some (.tup (ss.map St.d)), none, none, some (.tup (outD outs)), o1, o2]) ⟨_, _, rfl⟩ (fun i d e hd hI => ?_) fun e hI => ?_
        · obtain ⟨o1, o2, rfl⟩ := hI
          obtain ⟨x, hx, rfl⟩ := enumL_inv hd
          unfold outD at hx
          rw [List.getElem?_map] at hx
          cases hn : outs[i]? with
          | none => rw [hn] at hx; cases hx
          | some n =>
            rw [hn] at hx
            cases hx
            have hlt := hb n (List.mem_of_getElem? hn)
            have hr := is_index_ok (n : Nat) (ss.length : Nat) (by omega) (by omega)
            refine ⟨_, rfl, ?_⟩
            simp [h1, hr]
        · obtain ⟨o1, o2, rfl⟩ := hI
          simp [h1, h2, outD_frz, outD_has, mfld1, mfld2, objD]
  rw [hd, q]
end K57
set_option maxHeartbeats 4000000
namespace K57
open PySem L2 Vs TL
/-! ### the text -/
def enumP : Nat → List St → List (Nat × St)
  | _, [] => []
  | k, s :: r => (k, s) :: enumP (k + 1) r
theorem enumP_mem : ∀ {ss : List St} {k : Nat} {p : Nat × St}, p ∈ enumP k ss → ∃ i, ss[i]? = some p.2 ∧ p.1 = k + i
  | [], k, p, h => by cases h
  | s :: r, k, p, h => by
    have h : p ∈ (k, s) :: enumP (k + 1) r := h
    rcases List.mem_cons.mp h with rfl | h
    · exact ⟨0, rfl, rfl⟩
    · obtain ⟨i, h1, h2⟩ := enumP_mem h
      exact ⟨i + 1, h1, by omega⟩
theorem enumP_len : ∀ (ss : List St) (k : Nat), (enumP k ss).length = ss.length
  | [], k => rfl
  | s :: r, k => congrArg (· + 1) (enumP_len r (k + 1))
theorem enumP_get : ∀ {ss : List St} {k i : Nat} {s : St}, ss[i]? = some s → (enumP k ss)[i]? = some (k + i, s)
  | [], k, i, s, h => by cases h
  | s :: r, k, 0, s', h => by cases h; rfl
  | s :: r, k, i + 1, s', h => by
    have h : r[i]? = some s' := h
    have := enumP_get (k := k + 1) h
    show (enumP (k + 1) r)[i]? = _
    rw [this, Nat.add_assoc, Nat.add_comm 1 i]
theorem enumL_P : ∀ (ss : List St) (k : Nat), enumL k (ss.map St.d) = (enumP k ss).map fun p => D.tup [.int ((p.1 : Nat) : Int), p.2.d]
  | [], k => rfl
  | s :: r, k => congrArg (D.tup [.int ((k : Nat) : Int), s.d] :: ·) (enumL_P r (k + 1))
theorem enumL_has (ss : List St) (k : Nat) : hasFzs (enumL k (ss.map St.d)) = false := by
  rw [enumL_P]
  exact (hards fun d m => by
    obtain ⟨p, _, rfl⟩ := List.mem_map.mp m
    exact Hard.tup fun d m => by
      simp at m
      rcases m with rfl | rfl
      · exact hard_int _
      · exact p.2.hard).2
def lines (ss : List St) : List Str := (enumP 0 ss).map fun p => p.2.tx p.1
def oline (outs : List Nat) : Str := "outputs " ++ Txt.join " " (outs.map fun (n : Nat) => strI (n : Int))
def text (ss : List St) (outs : List Nat) : Str := Txt.join "\n" (lines ss ++ [oline outs])
theorem join_len (y : Str) : ∀ parts : List Str, (Txt.join y parts).length ≤ (parts.map (·.length)).sum + parts.length * y.length := by
  intro parts
  rw [join_eq]
  induction parts with
  | nil => exact Nat.zero_le _
  | cons p r ih =>
    cases r with
    | nil =>
      show p.length ≤ _
      simp
    | cons q r =>
      show (p ++ y ++ Str.join y (q :: r)).length ≤ _
      rw [len_app, len_app, List.map_cons, List.sum_cons, List.length_cons, Nat.add_mul]
      omega
theorem sum_le {α : Type} {f : α → Nat} {c : Nat} : ∀ {l : List α}, (∀ x ∈ l, f x ≤ c) → (l.map f).sum ≤ c * l.length
  | [], _ => by simp
  | a :: l, h => by
    have h1 := h a (List.mem_cons_self ..)
    have h2 := sum_le (l := l) fun x m => h x (List.mem_cons_of_mem _ m)
    rw [List.map_cons, List.sum_cons, List.length_cons, Nat.mul_add]
    omega
theorem tx_len {k : Nat} {s : St} (hk : k < 400) (h : s.Ok k) : (s.tx k).length ≤ 70 := by
  have hk2 := strI_len14 (n := k) (by omega)
  have hj := join_len " " (s.ws k)
  rw [l1] at hj
  have : ((s.ws k).map (·.length)).sum + (s.ws k).length * 1 ≤ 70 := by
    cases s with
    | inp n =>
      have hg := good_len h
      simp [St.ws]
      rw [l2]
      omega
    | num v =>
      have hv : v < 10000000000000 := h
      have := strI_len14 (n := v) (by omega)
      simp [St.ws]
      rw [l3]
      omega
    | op w a b =>
      obtain ⟨ha, hb⟩ : a < k ∧ b < k := h
      have h1 := strI_len14 (n := a) (by omega)
      have h2 := strI_len14 (n := b) (by omega)
      have h3 := opW_len w
      simp [St.ws]
      omega
  unfold St.tx
  omega
theorem strs_map {α : Type} (l : List α) (f : α → Str) : strs? (l.map fun x => D.str (f x)) = some (l.map f) := by
  induction l with
  | nil => rfl
  | cons a l ih =>
    show (strs? (l.map fun x => D.str (f x))).map (f a :: ·) = _
    rw [ih]
    rfl
theorem strs_app {xs ys : List D} {a b : List Str} (h : strs? xs = some a) (h2 : strs? ys = some b) : strs? (xs ++ ys) = some (a ++ b) := by
  induction xs generalizing a with
  | nil => cases h; exact h2
  | cons x xs ih =>
    cases x with
    | str z =>
      have h : (strs? xs).map (z :: ·) = some a := h
      cases hx : strs? xs with
      | none => rw [hx] at h; cases h
      | some c =>
        rw [hx] at h
        cases h
        show (strs? (xs ++ ys)).map (z :: ·) = _
        rw [ih hx]
        rfl
    | _ => cases h
theorem dJoin_of {a : Str} {o : Bool} {xs : List D} {ys : List Str} (h : strs? xs = some ys) (hl : (ys.map (·.length)).sum + ys.length * a.length ≤ 100000) : dJoin (.str a) [.lst o xs] = .ok (.str (Txt.join a ys)) := by
  show (match strs? xs with | some ys => if (ys.map (fun (x : Str) => x.length)).sum + ys.length * a.length ≤ SZ then R.ok (D.str (Txt.join a ys)) else .stk | none => .stk) = _
  rw [h]
  exact if_pos hl
theorem chk_str (a : Str) : chk (tyOf "str" (.str a)) = .ok () := rfl
theorem l4 : ("outputs " : Str).length = 8 := by decide +kernel
theorem l5 : ("\n" : Str).length = 1 := by decide +kernel
def Outs (m : Nat) (outs : List Nat) : Prop := 1 ≤ outs.length ∧ outs.length ≤ 20 ∧ ∀ n ∈ outs, n < m
theorem outs_sum {m : Nat} {outs : List Nat} (hm : m ≤ 400) (h : Outs m outs) : ((outs.map fun (n : Nat) => strI (n : Int)).map (fun (x : Str) => x.length)).sum ≤ 14 * 20 := by
  rw [List.map_map]
  have : (outs.map ((fun (x : Str) => x.length) ∘ fun (n : Nat) => strI (n : Int))).sum ≤ 14 * outs.length := sum_le fun n mn => strI_len14 (by have := h.2.2 n mn; omega)
  have := h.2.1
  omega
theorem oline_len {m : Nat} {outs : List Nat} (hm : m ≤ 400) (h : Outs m outs) : (oline outs).length ≤ 308 := by
  have h1 := outs_sum hm h
  have h2 := join_len " " (outs.map fun (n : Nat) => strI (n : Int))
  rw [l1, List.length_map] at h2
  have h3 := h.2.1
  unfold oline
  rw [len_app, l4]
  omega
theorem lines_sum {ss : List St} (hs : Steps ss) : ((lines ss).map (·.length)).sum ≤ 70 * 400 := by
  unfold lines
  rw [List.map_map]
  have : ((enumP 0 ss).map ((fun (x : Str) => x.length) ∘ fun p => p.2.tx p.1)).sum ≤ 70 * (enumP 0 ss).length := sum_le fun p mp => by
    obtain ⟨i, h1, h2⟩ := enumP_mem mp
    have hl := (List.getElem?_eq_some_iff.mp h1).1
    have h3 := hs.1
    have h4 := hs.2 i p.2 h1
    have e : p.1 = i := by omega
    show (p.2.tx p.1).length ≤ 70
    rw [e]
    exact tx_len (by omega) h4
  rw [enumP_len] at this
  have := hs.1
  omega
theorem lines_len (ss : List St) : (lines ss).length = ss.length := by
  unfold lines
  rw [List.length_map, enumP_len]
theorem text_sum {ss : List St} {outs : List Nat} (hs : Steps ss) (ho : Outs ss.length outs) : ((lines ss ++ [oline outs]).map (·.length)).sum + (lines ss ++ [oline outs]).length * 1 ≤ 40000 := by
  have h1 := lines_sum hs
  have h2 := oline_len hs.1 ho
  have h3 := hs.1
  rw [List.map_append, List.sum_append, List.length_append, lines_len]
  simp
  omega
theorem program_text_ok {o : Bool} {ss : List St} {outs : List Nat} (hs : Steps ss) (ho : Outs ss.length outs) : a_program_text [objD o ss outs] = .ok (.str (text ss outs)) := by
  obtain ⟨d, hd, q⟩ : Oks (a_program_text [objD o ss outs]) fun d => d = .str (text ss outs) := by
    refine oks_run ?_
    have h1 := sts_frz ss
    have h2 := sts_has ss
    have h3 := hs.1
    have f1 : dFld cf "steps" (.obj false "Straight" ["steps", "outputs"] [.tup (ss.map St.d), .tup (outD outs)]) = .ok (.tup (ss.map St.d)) := rfl
    have f2 : dFld cf "outputs" (.obj false "Straight" ["steps", "outputs"] [.tup (ss.map St.d), .tup (outD outs)]) = .ok (.tup (outD outs)) := rfl
    have fz : frz (objD o ss outs) = .obj false "Straight" ["steps", "outputs"] [.tup (ss.map St.d), .tup (outD outs)] := by
      show D.obj false "Straight" ["steps", "outputs"] (frzs [.tup (ss.map St.d), .tup (outD outs)]) = _
      simp [h1, outD_frz]
    have el : (enumL 0 (ss.map St.d)).length ≤ 100000 := by rw [enumL_len, List.length_map]; omega
    simp [sb_program_text, fz, f1, h1, el, enumL_has]
    rw [enumL_P, lc_map (g := fun p : Nat × St => D.str (p.2.tx p.1))]
    · have hj1 : ∀ o, dJoin (.str " ") [.lst o (outs.map fun (n : Nat) => D.str (strI (n : Int)))] = .ok (.str (Txt.join " " (outs.map fun (n : Nat) => strI (n : Int)))) := fun o => dJoin_of (strs_map outs _) (by
        have := outs_sum hs.1 ho
        have := ho.2.1
        rw [l1, List.length_map]
        omega)
      have ol : (outD outs).length ≤ 100000 := by
        have := ho.2.1
        unfold outD
        rw [List.length_map]
        omega
      simp [hasFzs_strs, fz, f2, outD_frz, outD_has, chk_str, ol]
      unfold outD
      rw [lc_map (g := fun n : Nat => D.str (strI (n : Int)))]
      · have hsz : (("outputs " : Str).length + (Txt.join " " (outs.map fun (n : Nat) => strI (n : Int))).length) ≤ 100000 := by
          have := oline_len hs.1 ho
          unfold oline at this
          rw [len_app] at this
          omega
        have ha : dAdd (.str "outputs ") (.str (Txt.join " " (outs.map fun (n : Nat) => strI (n : Int)))) = .ok (.str (oline outs)) := if_pos hsz
        have hl1 : (enumP 0 ss).length < 100000 := by rw [enumP_len]; omega
        have hj2 : ∀ o, dJoin (.str "\n") [.lst o ((enumP 0 ss).map (fun p => D.str (p.2.tx p.1)) ++ [.str (oline outs)])] = .ok (.str (text ss outs)) := fun o => dJoin_of (strs_app (strs_map _ _) rfl) (by
          have := text_sum hs ho
          rw [l5]
          exact Nat.le_trans this (by decide))
        simp [frzs_strs, hj1, ha, hl1, frzs_append, chk_str, hj2]
      · intro n mn
        have := ho.2.2 n mn
        exact ⟨_, rfl, rfl, by simp [dStr_nat (n := n) (by omega)]⟩
    · intro p mp
      obtain ⟨i, e1, e2⟩ := enumP_mem mp
      have hl := (List.getElem?_eq_some_iff.mp e1).1
      have h4 := hs.2 i p.2 e1
      have e : p.1 = i := by omega
      rw [← e] at h4
      have hst := step_text_ok (k := p.1) (by omega) h4
      exact ⟨_, rfl, rfl, by simp [p.2.hard.1, hst]⟩
  rw [hd, q]
end K57
set_option maxHeartbeats 4000000
namespace K57
open PySem L2 Vs TL
/-! ### alike -/
theorem same_int (n : Nat) (i : Int) : b_law_same (n + 1) [.int i, .int i] = .ok (.bl true) := by
  simp [b_law_same, sb_law_same, k_int_tuple, k_int_str, Vs.isNon, Vs.isBl, law_whole_int]
theorem same_str (n : Nat) (i : Str) : b_law_same (n + 1) [.str i, .str i] = .ok (.bl true) := by
  simp [b_law_same, sb_law_same, k_str_tuple, k_str_str, Vs.isNon, Vs.isBl]
theorem same_tup {n : Nat} {α : Type} {l : List α} {fa : α → D} (h : ∀ a ∈ l, frz (fa a) = fa a ∧ hasFz (fa a) = false ∧ b_law_same n [fa a, fa a] = .ok (.bl true)) (hl : l.length ≤ 1000) : b_law_same (n + 1) [.tup (l.map fa), .tup (l.map fa)] = .ok (.bl true) := by
  obtain ⟨h1, h2⟩ : frzs (l.map fa) = l.map fa ∧ hasFzs (l.map fa) = false := hards fun d m => by
    obtain ⟨a, ma, rfl⟩ := List.mem_map.mp m
    exact ⟨(h a ma).1, (h a ma).2.1⟩
  obtain ⟨d, hd, q⟩ : Oks (b_law_same (n + 1) [.tup (l.map fa), .tup (l.map fa)]) fun d => d = .bl true := by
    refine oks_run ?_
    simp [sb_law_same, k_tup_tuple, h1, dRng_nat (show l.length ≤ 1000000 by omega)]
    refine rets_forT (fun i e => ∃ o, e = [some (.tup (l.map fa)), some (.tup (l.map fa)), o]) ⟨_, rfl⟩ (fun i d e hd hI => ?_) fun e hI => ?_
    · obtain ⟨o, rfl⟩ := hI
      obtain ⟨hi, rfl⟩ := rngL_get hd
      have hx : (l.map fa)[i]? = some (fa l[i]) := by rw [List.getElem?_map, List.getElem?_eq_getElem hi]; rfl
      obtain ⟨e1, e2, e3⟩ := h l[i] (List.getElem_mem hi)
      refine ⟨_, rfl, ?_⟩
      simp [h1, dIx_tup hx, e1, e3]
    · obtain ⟨o, rfl⟩ := hI
      simp
  rw [hd, q]
theorem same_st (n : Nat) (s : St) : b_law_same (n + 2) [s.d, s.d] = .ok (.bl true) := by
  cases s with
  | inp z =>
    exact same_tup (l := [D.str "input", D.str z]) (fa := fun d => d) (fun a m => by
      simp at m
      rcases m with rfl | rfl <;> exact ⟨rfl, rfl, same_str n _⟩) (by simp)
  | num v =>
    exact same_tup (l := [D.str "number", D.int (v : Nat)]) (fa := fun d => d) (fun a m => by
      simp at m
      rcases m with rfl | rfl
      · exact ⟨rfl, rfl, same_str n _⟩
      · exact ⟨rfl, rfl, same_int n _⟩) (by simp)
  | op w a b =>
    exact same_tup (l := [D.str (opW w), D.int (a : Nat), D.int (b : Nat)]) (fa := fun d => d) (fun a m => by
      simp at m
      rcases m with rfl | rfl | rfl
      · exact ⟨rfl, rfl, same_str n _⟩
      · exact ⟨rfl, rfl, same_int n _⟩
      · exact ⟨rfl, rfl, same_int n _⟩) (by simp)
theorem same_steps {ss : List St} (h : ss.length ≤ 400) : a_law_same [.tup (ss.map St.d), .tup (ss.map St.d)] = .ok (.bl true) :=
  same_tup (n := 7) (fun s _ => ⟨s.hard.1, s.hard.2, same_st 5 s⟩) (by omega)
theorem same_outs {outs : List Nat} (h : outs.length ≤ 400) : a_law_same [.tup (outD outs), .tup (outD outs)] = .ok (.bl true) :=
  same_tup (n := 7) (fun s _ => ⟨rfl, rfl, same_int 6 _⟩) (by omega)
theorem same_text (z : Str) : a_law_same [.str z, .str z] = .ok (.bl true) := same_str 7 z
/-! ### reading -/
theorem ws_head (k : Nat) (s : St) : ∃ a b r, s.ws k = strI (k : Int) :: a :: b :: r := by cases s <;> exact ⟨_, _, _, rfl⟩
theorem strI_out (k : Nat) : strI (k : Int) ≠ "outputs" := fun e => by
  have h := congrArg tl e
  rw [tl_strI] at h
  have hm : 111 ∈ numL k := by
    rw [h]
    decide +kernel
  have := numL_mem hm
  omega
theorem are_outputs_f {o : Bool} (k : Nat) (s : St) : a_are_outputs [.lst o ((s.ws k).map .str)] = .ok (.bl false) := by
  obtain ⟨a, b, r, e⟩ := ws_head k s
  have hlen : (2 : Int) ≤ ((r.length : Int) + 1 + 1 + 1) := by omega
  simp [a_are_outputs, sb_are_outputs, e, strI_out, hlen]
def owords (outs : List Nat) : List Str := "outputs" :: outs.map fun (n : Nat) => strI (n : Int)
theorem pow100 {n : Nat} (h : n < 100000000000000) : n < 10 ^ 100 := Nat.lt_of_lt_of_le (show n < 10 ^ 14 from h) (Nat.pow_le_pow_right (by decide) (by decide))
theorem owords_d (outs : List Nat) : (owords outs).map D.str = .str "outputs" :: outs.map fun (n : Nat) => D.str (strI (n : Int)) := by
  simp [owords]
theorem ocut (o : Bool) (outs : List Nat) : dSl (.lst o (.str "outputs" :: outs.map fun (n : Nat) => D.str (strI (n : Int)))) (some 1) none = .ok (.lst true (outs.map fun (n : Nat) => D.str (strI (n : Int)))) := by
  simp [dSl, cut, HT.sIx]
  exact List.take_of_length_le (by rw [List.length_map]; exact Nat.le_refl _)
theorem are_outputs_t {o : Bool} {m : Nat} {outs : List Nat} (hm : m ≤ 400) (ho : Outs m outs) : a_are_outputs [.lst o ((owords outs).map .str)] = .ok (.bl true) := by
  have h1 := ho.1
  have h2 := ho.2.1
  have hlen : (2 : Int) ≤ ((outs.length : Int) + 1) := by omega
  have hl : outs.length ≤ 100000 := by omega
  rw [owords_d]
  obtain ⟨d, hd, q⟩ : Oks (a_are_outputs [.lst o (.str "outputs" :: outs.map fun (n : Nat) => D.str (strI (n : Int)))]) fun d => d = .bl true := by
    refine oks_run ?_
    simp [sb_are_outputs, hlen, ocut, frzs_strs, hasFzs_strs, hl, -dAll_ev]
    rw [lc_map (g := fun n : Nat => D.bl true)]
    · simp [frzs_bls, -dAll_ev]
      rw [dAll_ok (f := fun _ => true) (fun _ _ => rfl)]
      simp
    · intro n mn
      have := ho.2.2 n mn
      exact ⟨_, rfl, rfl, by simp [is_number_ok n (pow100 (by omega))]⟩
  rw [hd, q]
/-! ### the text, cut -/
theorem out_join {outs : List Nat} (h : outs ≠ []) : oline outs = Txt.join " " (owords outs) := by
  refine ext_tl ?_
  cases outs with
  | nil => exact absurd rfl h
  | cons n r =>
    have e : tl ("outputs " : Str) = tl ("outputs" : Str) ++ tl (" " : Str) := by decide +kernel
    unfold oline owords
    rw [tl_append, join_eq, join_eq, tl_join, tl_join, e, List.append_assoc]
    rfl
theorem sp_ok : (" " : Str).cps.all (· < 256) = true := by decide +kernel
theorem nl_ok : ("\n" : Str).cps.all (· < 256) = true := by decide +kernel
theorem split_tx {k : Nat} {s : St} (h : s.Ok k) : Txt.split (s.tx k) " " = s.ws k :=
  split_join tl_sp sp_ok (by obtain ⟨a, b, r, e⟩ := ws_head k s; rw [e]; simp) fun p hp m => (ws_lt h hp m).2.1 rfl
theorem owords_lt {outs : List Nat} {w : Str} (m : w ∈ owords outs) {c : Nat} (mc : c ∈ tl w) : c < 256 ∧ c ≠ 32 ∧ c ≠ 10 := by
  rcases List.mem_cons.mp (show w ∈ ("outputs" : Str) :: outs.map fun (n : Nat) => strI (n : Int) from m) with rfl | m
  · exact word_lt (by simp) mc
  · obtain ⟨n, _, rfl⟩ := List.mem_map.mp m
    exact num_lt mc
theorem split_out {outs : List Nat} (h : outs ≠ []) : Txt.split (oline outs) " " = owords outs := by
  rw [out_join h]
  exact split_join tl_sp sp_ok (by unfold owords; simp) fun p hp m => (owords_lt hp m).2.1 rfl
theorem joinL_mem {S : List Nat} : ∀ {parts : List (List Nat)} {c : Nat}, c ∈ joinL S parts → c ∈ S ∨ ∃ p ∈ parts, c ∈ p
  | [], c, h => by cases h
  | [p], c, h => .inr ⟨p, List.mem_singleton.mpr rfl, h⟩
  | p :: q :: r, c, h => by
    have h : c ∈ p ++ (S ++ joinL S (q :: r)) := h
    rcases List.mem_append.mp h with h | h
    · exact .inr ⟨p, List.mem_cons_self .., h⟩
    · rcases List.mem_append.mp h with h | h
      · exact .inl h
      · rcases joinL_mem h with h | ⟨z, hz, hc⟩
        · exact .inl h
        · exact .inr ⟨z, List.mem_cons_of_mem _ hz, hc⟩
theorem join_no10 {ws : List Str} (h : ∀ w ∈ ws, ∀ c ∈ tl w, c < 256 ∧ c ≠ 32 ∧ c ≠ 10) : 10 ∉ tl (Txt.join " " ws) := fun m => by
  rw [join_eq, tl_join] at m
  rcases joinL_mem m with m | ⟨p, hp, hc⟩
  · rw [tl_sp] at m
    simp at m
  · obtain ⟨w, hw, rfl⟩ := List.mem_map.mp hp
    exact (h w hw 10 hc).2.2 rfl
theorem split_text {ss : List St} {outs : List Nat} (hs : Steps ss) (ho : Outs ss.length outs) : Txt.split (text ss outs) "\n" = lines ss ++ [oline outs] := by
  refine split_join tl_nl nl_ok (by simp) fun p hp => ?_
  rcases List.mem_append.mp hp with hp | hp
  · unfold lines at hp
    obtain ⟨q, mq, rfl⟩ := List.mem_map.mp hp
    obtain ⟨i, e1, e2⟩ := enumP_mem mq
    have h4 := hs.2 i q.2 e1
    have e : q.1 = i := by omega
    rw [← e] at h4
    exact join_no10 fun w hw c hc => ws_lt h4 hw hc
  · rw [List.mem_singleton.mp hp, out_join (by have := ho.1; intro z; rw [z] at this; simp at this)]
    exact join_no10 fun w hw c hc => owords_lt hw hc
end K57
set_option maxHeartbeats 4000000
namespace K57
open PySem L2 Vs TL
theorem dSplit_ok {a b : Str} (hb : (b.length == 0) = false) (h : a.length + 2 ≤ 100000) : dSplit (.str a) [.str b] = .ok (.lst true ((Txt.split a b).map .str)) := if_pos ⟨hb, h⟩
theorem b1 : ((" " : Str).length == 0) = false := by decide +kernel
theorem b2 : (("\n" : Str).length == 0) = false := by decide +kernel
theorem lines_get {ss : List St} {i : Nat} {s : St} (h : ss[i]? = some s) : (lines ss)[i]? = some (s.tx i) := by
  unfold lines
  rw [List.getElem?_map, enumP_get h, Nat.zero_add]
  rfl
theorem text_len {ss : List St} {outs : List Nat} (hs : Steps ss) (ho : Outs ss.length outs) : (text ss outs).length ≤ 40000 := by
  have h1 := text_sum hs ho
  have h2 := join_len "\n" (lines ss ++ [oline outs])
  rw [l5] at h2
  exact Nat.le_trans h2 h1
theorem St.notNon (s : St) : Vs.isNon s.d = false := by cases s <;> rfl
theorem read_program_ok {ss : List St} {outs : List Nat} (hs : Steps ss) (ho : Outs ss.length outs) : a_read_program [.str (text ss outs)] = .ok (objD true ss outs) := by
  obtain ⟨d, hd, q⟩ : Oks (a_read_program [.str (text ss outs)]) fun d => d = objD true ss outs := by
    refine oks_run ?_
    have h1 := dSplit_ok b2 (a := text ss outs) (by have := text_len hs ho; omega)
    rw [split_text hs ho] at h1
    have hL : (lines ss ++ [oline outs]).length = ss.length + 1 := by rw [List.length_append, lines_len]; rfl
    have hne : outs ≠ [] := by
      have := ho.1
      intro z
      rw [z] at this
      simp at this
    have hst : a_Straight [.lst false (ss.map St.d), .lst false (outD outs)] = .ok (objD true ss outs) :=
      straight_gen hs (by have := ho.2.1; omega) ho.2.2 (by simp [outD_frz]; exact frozen_outsL (by have := ho.2.1; omega))
    generalize hLL : lines ss ++ [oline outs] = L at h1 hL
    have h3 := hs.1
    simp [sb_read_program, chk_str, h1]
    refine rets_forT (fun i e => i ≤ ss.length ∧ ∃ o7, e = [none, some (.lst false (L.map .str)), some (.lst true ((ss.take i).map St.d)), none, none, none, none, o7]) ⟨Nat.zero_le _, _, rfl⟩ (fun i d e hd hI => ?_) fun e hI => ?_
    · obtain ⟨hi, o7, rfl⟩ := hI
      obtain ⟨x, hx, rfl⟩ := enumL_inv hd
      rw [List.getElem?_map] at hx
      rw [Nat.zero_add]
      refine ⟨_, rfl, ?_⟩
      by_cases hlt : i < ss.length
      · have hg : ss[i]? = some ss[i] := List.getElem?_eq_getElem hlt
        have hline : L[i]? = some ((ss[i]).tx i) := by
          rw [← hLL, List.getElem?_append_left (by rw [lines_len]; exact hlt)]
          exact lines_get hg
        rw [hline] at hx
        cases hx
        have hok := hs.2 i _ hg
        generalize ss[i] = s at hg hok
        have h4 := dSplit_ok b1 (a := s.tx i) (by have := tx_len (by omega) hok; omega)
        rw [split_tx hok] at h4
        have h5 := are_outputs_f (o := false) i s
        have h6 := read_step_ok (o := false) (k := i) (s := s) (by omega) hok
        have h7 : (ss.take i).length < 100000 := by rw [List.length_take]; omega
        have h8 : ss.take (i + 1) = ss.take i ++ [s] := by rw [List.take_add_one, hg]; rfl
        have h9 : min i ss.length < 100000 := by omega
        simp [h4, h5, h6, h9, chk_str, St.notNon, s.hard.2, s.hard.1, h8]
        omega
      · have he : i = ss.length := by omega
        subst he
        have hline : L[ss.length]? = some (oline outs) := by
          rw [← hLL, List.getElem?_append_right (by rw [lines_len]; exact Nat.le_refl _), lines_len, Nat.sub_self]
          rfl
        rw [hline] at hx
        cases hx
        have h4 := dSplit_ok b1 (a := oline outs) (by have := oline_len hs.1 ho; omega)
        rw [split_out hne] at h4
        have h5 := are_outputs_t (o := false) hs.1 ho
        have hl : outs.length ≤ 100000 := by have := ho.2.1; omega
        simp [h4, h5, chk_str, hL]
        rw [owords_d]
        simp [frzs_strs, ocut, hasFzs_strs, hl, sts_frz]
        rw [lc_map (g := fun n : Nat => D.int (n : Nat))]
        · have hst2 : a_Straight [.lst false (ss.map St.d), .lst false (outs.map fun (n : Nat) => D.int n)] = .ok (objD true ss outs) := hst
          simp [frzs_ints, hst2, sts_frz]
        · intro n mn
          have := ho.2.2 n mn
          exact ⟨_, rfl, rfl, by simp [dInt_num (n := n) (by omega)]⟩
    · obtain ⟨hi, _⟩ := hI
      rw [enumL_len, List.length_map, hL] at hi
      omega
  rw [hd, q]
end K57
set_option maxHeartbeats 4000000
namespace K57
open PySem L2 Vs TL
theorem dStr_str {z : Str} (h : z.length ≤ 100000) : dStr [.str z] = .ok (.str z) := if_pos h
theorem dAdd_lst (o o2 : Bool) (xs ys : List D) : dAdd (.lst o xs) (.lst o2 ys) = if xs.length + ys.length ≤ 100000 then .ok (.lst true (xs ++ ys)) else .stk := rfl
theorem ws_sum {k : Nat} {s : St} (hk : k < 400) (h : s.Ok k) : ((s.ws k).map (fun (x : Str) => x.length)).sum + (s.ws k).length * (" " : Str).length ≤ 100000 := by
  rw [l1]
  have hk2 := strI_len14 (n := k) (by omega)
  cases s with
  | inp n =>
    have hg := good_len h
    simp [St.ws]
    rw [l2]
    omega
  | num v =>
    have hv : v < 10000000000000 := h
    have := strI_len14 (n := v) (by omega)
    simp [St.ws]
    rw [l3]
    omega
  | op w a b =>
    obtain ⟨ha, hb⟩ : a < k ∧ b < k := h
    have h1 := strI_len14 (n := a) (by omega)
    have h2 := strI_len14 (n := b) (by omega)
    have h3 := opW_len w
    simp [St.ws]
    omega
theorem join_ws {k : Nat} {s : St} {o : Bool} {xs : List D} (hk : k < 400) (h : s.Ok k) (hx : strs? xs = some (s.ws k)) : dJoin (.str " ") [.lst o xs] = .ok (.str (s.tx k)) := dJoin_of hx (ws_sum hk h)
theorem fld1 (o : Bool) (ss : List St) (outs : List Nat) : dFld cf "steps" (objD o ss outs) = .ok (.tup (ss.map St.d)) := rfl
theorem fld2 (o : Bool) (ss : List St) (outs : List Nat) : dFld cf "outputs" (objD o ss outs) = .ok (.tup (outD outs)) := rfl
theorem frz_obj (o : Bool) (ss : List St) (outs : List Nat) : frz (objD o ss outs) = objD false ss outs := by
  show D.obj false "Straight" ["steps", "outputs"] (frzs [.tup (ss.map St.d), .tup (outD outs)]) = _
  simp [sts_frz, outD_frz, objD]
theorem has_obj (ss : List St) (outs : List Nat) : hasFz (objD false ss outs) = true := rfl
theorem has_objt (ss : List St) (outs : List Nat) : hasFz (objD true ss outs) = false := by
  show (false || hasFzs [.tup (ss.map St.d), .tup (outD outs)]) = false
  simp [sts_has, outD_has]
theorem isi_obj (o : Bool) (ss : List St) (outs : List Nat) : dIsi ci [objD o ss outs, .cls "Straight"] = .ok (.bl true) := rfl
theorem take_lines {ss : List St} {i : Nat} {s : St} (h : ss[i]? = some s) : (lines ss).take (i + 1) = (lines ss).take i ++ [s.tx i] := by
  rw [List.take_add_one, lines_get h]
  rfl
theorem is_kept_ok {o : Bool} {ss : List St} {outs : List Nat} (hs : Steps ss) (ho : Outs ss.length outs) : a_law_is_kept [.lst o (ss.map St.d), .tup (outD outs)] = .ok (.bl true) := by
  obtain ⟨d, hd, q⟩ : Oks (a_law_is_kept [.lst o (ss.map St.d), .tup (outD outs)]) fun d => d = .bl true := by
    refine oks_run ?_
    have h3 := hs.1
    have hl : outs.length ≤ 100000 := by have := ho.2.1; omega
    simp [sb_law_is_kept, sts_frz, dRng_nat (show ss.length ≤ 1000000 by omega)]
    refine rets_forT (fun i e => ∃ o3, e = [some (.lst o (ss.map St.d)), some (.tup (outD outs)), some (.lst true (((lines ss).take i).map .str)), o3, none, none, none, none, none, none]) ⟨none, rfl⟩ (fun i d e hd hI => ?_) fun e hI => ?_
    · obtain ⟨o3, rfl⟩ := hI
      obtain ⟨hi, rfl⟩ := rngL_get hd
      have hg : ss[i]? = some ss[i] := List.getElem?_eq_getElem hi
      have hok := hs.2 i _ hg
      generalize ss[i] = s at hg hok
      have hx : dIx (.lst false (ss.map St.d)) (.int (i : Nat)) = .ok s.d := dIx_lst (by rw [List.getElem?_map, hg]; rfl)
      have hk := dStr_nat (n := i) (by omega)
      have ht := take_lines hg
      have hmin : min i (lines ss).length < 100000 := by omega
      refine ⟨_, rfl, ?_⟩
      cases s with
      | inp n =>
        have hgl := good_len hok
        have hj : ∀ o, dJoin (.str " ") [.lst o [.str (strI (i : Int)), .str "input", .str n]] = .ok (.str ((St.inp n).tx i)) := fun o => join_ws (by omega) hok rfl
        have e1 : dStr [.str "input"] = .ok (.str "input") := rfl
        simp [hk, sts_frz, hx, St.d, e1, dStr_str (z := n) (by omega), dAdd_lst, chk_str, hj, hmin, ht]
      | num v =>
        have hv : v < 10000000000000 := hok
        have hj : ∀ o, dJoin (.str " ") [.lst o [.str (strI (i : Int)), .str "number", .str (strI (v : Int))]] = .ok (.str ((St.num v).tx i)) := fun o => join_ws (by omega) hok rfl
        have e1 : dStr [.str "number"] = .ok (.str "number") := rfl
        simp [hk, sts_frz, hx, St.d, e1, dStr_nat (n := v) (by omega), dAdd_lst, chk_str, hj, hmin, ht]
      | op w a b =>
        have hok2 := hok
        obtain ⟨ha, hb⟩ : a < i ∧ b < i := hok2
        have hj : ∀ o, dJoin (.str " ") [.lst o [.str (strI (i : Int)), .str (opW w), .str (strI (a : Int)), .str (strI (b : Int))]] = .ok (.str ((St.op w a b).tx i)) := fun o => join_ws (by omega) hok rfl
        have e1 := dStr_str (z := opW w) (by have := opW_len w; omega)
        simp [hk, sts_frz, hx, St.d, e1, dStr_nat (n := a) (by omega), dStr_nat (n := b) (by omega), dAdd_lst, chk_str, hj, hmin, ht]
    · obtain ⟨o3, rfl⟩ := hI
      rw [rngL_len, List.take_of_length_le (by rw [lines_len]; exact Nat.le_refl _)]
      have ol : (outD outs).length ≤ 100000 := by
        unfold outD
        rw [List.length_map]
        omega
      have hj1 : ∀ o, dJoin (.str " ") [.lst o (outs.map fun (n : Nat) => D.str (strI (n : Int)))] = .ok (.str (Txt.join " " (outs.map fun (n : Nat) => strI (n : Int)))) := fun o => dJoin_of (strs_map outs _) (by
        have := outs_sum hs.1 ho
        have := ho.2.1
        rw [l1, List.length_map]
        omega)
      have hsz : (("outputs " : Str).length + (Txt.join " " (outs.map fun (n : Nat) => strI (n : Int))).length) ≤ 100000 := by
        have := oline_len hs.1 ho
        unfold oline at this
        rw [len_app] at this
        omega
      have ha : dAdd (.str "outputs ") (.str (Txt.join " " (outs.map fun (n : Nat) => strI (n : Int)))) = .ok (.str (oline outs)) := if_pos hsz
      have hj2 : ∀ o, dJoin (.str "\n") [.lst o ((lines ss).map .str ++ [.str (oline outs)])] = .ok (.str (text ss outs)) := fun o => dJoin_of (strs_app ((strs_map (lines ss) fun x => x).trans (by rw [List.map_id'])) rfl) (by
        have := text_sum hs ho
        rw [l5]
        exact Nat.le_trans this (by decide))
      have hst : a_Straight [.lst false (ss.map St.d), .tup (outD outs)] = .ok (objD true ss outs) :=
        straight_gen hs (by have := ho.2.1; omega) ho.2.2 (by simp [outD_frz]; exact frozen_outs (by have := ho.2.1; omega))
      have hll : (lines ss).length < 100000 := by rw [lines_len]; omega
      simp [outD_frz, outD_has, ol]
      have hlc : lcGo [some (D.lst o (ss.map St.d)), some (D.tup (outD outs)), some (D.lst true ((lines ss).map D.str)), o3, none, none, none, none, none, none] (tgN 8) yes (app dStr (argC (ld 8) argN)) (outD outs) = .ok (outs.map fun (n : Nat) => D.str (strI (n : Int))) := lc_map (fa := fun (n : Nat) => D.int n) fun n mn => by
        have := ho.2.2 n mn
        exact ⟨_, rfl, rfl, by simp [dStr_nat (n := n) (by omega)]⟩
      simp [hlc, frzs_strs, chk_str, hj1, ha, hll, frzs_append, hj2, sts_frz, outD_frz, hst, has_objt]
      refine rets_forT (fun i e => ∃ o5 o6 o7, e = [some (.lst o (ss.map St.d)), some (.tup (outD outs)), none, none, some (.str (text ss outs)), some (objD o5 ss outs), o6, o7, none, none]) ⟨_, _, _, rfl⟩ (fun i d e hd hI => ?_) fun e hI => ?_
      · obtain ⟨o5, o6, o7, rfl⟩ := hI
        refine ⟨_, rfl, ?_⟩
        have p1 := program_text_ok (o := false) hs ho
        have p2 := read_program_ok hs ho
        have p3 := same_steps h3
        have p4 := same_outs (outs := outs) (by have := ho.2.1; omega)
        simp [frz_obj, p1, same_text, p2, has_objt, isi_obj, fld1, fld2, sts_frz, outD_frz, p3, p4, has_obj]
      · obtain ⟨o5, o6, o7, rfl⟩ := hI
        simp
  rw [hd, q]
end K57
set_option maxHeartbeats 4000000
namespace K57
open PySem L2 Vs TL
/-! ### names -/
def goodB (n : Str) : Bool := match tl n with
  | c :: r => LET.contains c && ((c :: r).all fun x => SIG.contains x) && decide ((c :: r).length ≤ 40)
  | [] => false
theorem goodB_ok {n : Str} (h : goodB n = true) : Good n := by
  unfold goodB at h
  split at h
  · rename_i c r e
    simp only [Bool.and_eq_true, List.all_eq_true, List.contains_iff_mem, decide_eq_true_eq] at h
    exact ⟨c, r, e, h.1.1, h.1.2, h.2⟩
  · cases h
/-- an item of a list, its place known to be within -/
theorem dIx_in {o : Bool} {xs : List D} {j : Int} {P : D → Prop} (h : ∀ x ∈ xs, P x) (h0 : 0 ≤ j) (h1 : j < xs.length) : ∃ d, dIx (.lst o xs) (.int j) = .ok d ∧ P d := by
  have hj : j.toNat < xs.length := by omega
  refine ⟨xs[j.toNat], dIx_lst' j.toNat (by omega) (List.getElem?_eq_getElem hj), h _ (List.getElem_mem hj)⟩
theorem dIx_inT {xs : List D} {j : Int} {P : D → Prop} (h : ∀ x ∈ xs, P x) (h0 : 0 ≤ j) (h1 : j < xs.length) : ∃ d, dIx (.tup xs) (.int j) = .ok d ∧ P d := by
  have hj : j.toNat < xs.length := by omega
  refine ⟨xs[j.toNat], dIx_tup' j.toNat (by omega) (List.getElem?_eq_getElem hj), h _ (List.getElem_mem hj)⟩
def IsName (d : D) : Prop := ∃ n, d = .str n ∧ Good n
theorem is_name_lit {n : Str} (h : goodB n = true) : IsName (.str n) := ⟨n, rfl, goodB_ok h⟩
theorem names_ok (x : Int) : Oks (a_law_names [.int x]) fun d => ∃ a b c e : Str, d = .lst true [.str a, .str b, .str c, .str e] ∧ Good a ∧ Good b ∧ Good c ∧ Good e := by
  refine oks_run ?_
  have hm : ∀ d ∈ [D.str "a", .str "x[10]", .str "b", .str "x[2]", .str "ab", .str "z", .str "a1", .str "x[2,-1]"], IsName d := by
    intro d m
    simp at m
    rcases m with rfl | rfl | rfl | rfl | rfl | rfl | rfl | rfl <;> exact is_name_lit (by decide +kernel)
  have hr : dRng [.int 4] = .ok [.int 0, .int 1, .int 2, .int 3] := rfl
  have m0 : mulOk 3 0 := mulOk_of (by decide) (by decide)
  have m1 : mulOk 3 1 := mulOk_of (by decide) (by decide)
  have m2 : mulOk 3 2 := mulOk_of (by decide) (by decide)
  have m3 : mulOk 3 3 := mulOk_of (by decide) (by decide)
  have key : ∀ y : Int, ∃ n, dIx (.lst false [D.str "a", .str "x[10]", .str "b", .str "x[2]", .str "ab", .str "z", .str "a1", .str "x[2,-1]"]) (.int (y % 8)) = .ok (.str n) ∧ Good n := fun y => by
    obtain ⟨d, h1, n, rfl, h2⟩ := dIx_in (o := false) hm (Int.emod_nonneg y (show (8 : Int) ≠ 0 by decide)) (Int.emod_lt_of_pos y (by decide))
    exact ⟨n, h1, h2⟩
  obtain ⟨n0, e0, g0⟩ := key x
  obtain ⟨n1, e1, g1⟩ := key (x + 3)
  obtain ⟨n2, e2, g2⟩ := key (x + 6)
  obtain ⟨n3, e3, g3⟩ := key (x + 9)
  simp [sb_law_names, hr, dMul_int m0, dMul_int m1, dMul_int m2, dMul_int m3, dMod_int, e0, e1, e2, e3]
  refine ⟨n0, n1, n2, n3, ?_⟩
  simp [g0, g1, g2, g3]
theorem letS (c : Nat) (h : c < 26) : ∃ x, tl ("abcdefghijklmnopqrstuvwxyz" : Str) = tl ("abcdefghijklmnopqrstuvwxyz" : Str) ∧ LET[c]? = some x := by
  have hl : LET.length = 26 := by decide +kernel
  exact ⟨LET[c], rfl, List.getElem?_eq_getElem (by omega)⟩
theorem dIx_strN {z : Str} {j : Int} (hl : z.length ≤ 100000) (h0 : 0 ≤ j) (h1 : j < (tl z).length) : ∃ c, dIx (.str z) (.int j) = .ok (.str ⟨#[c]⟩) ∧ c ∈ tl z := by
  have hj : j.toNat < (tl z).length := by omega
  refine ⟨(tl z)[j.toNat], ?_, List.getElem_mem hj⟩
  show (if z.length ≤ SZ then (match atI z.cps.toList j with | some c => R.ok (D.str ⟨#[c]⟩) | none => .stk) else .stk) = _
  have e : atI z.cps.toList ((j.toNat : Nat) : Int) = some (tl z)[j.toNat] := atI_nat (List.getElem?_eq_getElem hj)
  have e2 : ((j.toNat : Nat) : Int) = j := by omega
  rw [e2] at e
  rw [if_pos (show z.length ≤ SZ from hl), e]
def longSz : List Int := [26, 40, 3] ++ List.replicate 39 40
theorem row_at {sz row : List Int} {n : Nat} (h : RowN n sz row) {j : Nat} {s : Int} (hj : j < n) (hs : sz[j]? = some s) : ∃ r, row[j]? = some r ∧ 0 ≤ r ∧ r < s := h.at hj hs
theorem dIx_row {o : Bool} {row : List Int} {j : Nat} {r : Int} (h : row[j]? = some r) (k : Int) (hk : k = j) : dIx (.lst o (row.map .int)) (.int k) = .ok (.int r) := dIx_lst' j hk (map_at h)
theorem cat_chars (c : Nat) (cs : List Nat) : tl (((⟨#[c]⟩ : Str)) ++ Txt.join "" (cs.map fun x => (⟨#[x]⟩ : Str))) = c :: cs := by
  rw [tl_append, join_eq, tl_join]
  have e : tl ("" : Str) = [] := by decide +kernel
  rw [e]
  show c :: joinL [] ((cs.map fun x => (⟨#[x]⟩ : Str)).map tl) = _
  congr 1
  induction cs with
  | nil => rfl
  | cons x xs ih =>
    cases xs with
    | nil => rfl
    | cons y ys =>
      show [x] ++ ([] ++ joinL [] ((( y :: ys).map fun x => (⟨#[x]⟩ : Str)).map tl)) = _
      rw [ih]
      rfl
theorem long_ok {o : Bool} {row : List Int} (h : RowN 42 longSz row) : Oks (a_law_long_name [.lst o (row.map .int)]) fun d => ∃ n, d = .str n ∧ Good n := by
  refine oks_run ?_
  obtain ⟨r0, e0, p0, q0⟩ := h.at (j := 0) (s := 26) (by decide) rfl
  obtain ⟨r1, e1, p1, q1⟩ := h.at (j := 1) (s := 40) (by decide) rfl
  obtain ⟨r2, e2, p2, q2⟩ := h.at (j := 2) (s := 3) (by decide) rfl
  have d0 := fun o => dIx_row (o := o) e0 0 rfl
  have d1 := fun o => dIx_row (o := o) e1 1 rfl
  have d2 := fun o => dIx_row (o := o) e2 2 rfl
  have hm : ∀ d ∈ [D.int r1, .int r1, .int 39], ∃ m : Nat, d = .int (m : Nat) ∧ m ≤ 39 := by
    intro d m
    simp at m
    rcases m with rfl | rfl
    · exact ⟨r1.toNat, by rw [Int.toNat_of_nonneg p1], by omega⟩
    · exact ⟨39, rfl, by decide⟩
  obtain ⟨dm, em, m, rfl, hmm⟩ := dIx_in (o := true) hm p2 (by simpa using q2)
  have ha : dAdd (.str "abcdefghijklmnopqrstuvwxyz") (.str "0123456789[],-") = .ok (.str "abcdefghijklmnopqrstuvwxyz0123456789[],-") := rfl
  have hL : (tl ("abcdefghijklmnopqrstuvwxyz" : Str)).length = 26 := by decide +kernel
  have hS : (tl ("abcdefghijklmnopqrstuvwxyz0123456789[],-" : Str)).length = 40 := by decide +kernel
  obtain ⟨c0, ec, mc⟩ := dIx_strN (z := "abcdefghijklmnopqrstuvwxyz") (j := r0) (by decide +kernel) p0 (by rw [hL]; exact q0)
  have hcut : ∀ o, dSl (.lst o (row.map .int)) (some 3) (some (3 + (m : Int))) = .ok (.lst true ((cut row (some 3) (some (3 + (m : Int)))).map .int)) := fun o => by
    unfold dSl cut
    simp [List.map_drop, List.map_take]
  have hcl : cut row (some 3) (some (3 + (m : Int))) = (row.drop 3).take m := by
    have hrl := h.1
    have a1 : HT.sIx row.length 0 (some 3) = 3 := by rw [hrl]; rfl
    have a2 : HT.sIx row.length row.length (some (3 + (m : Int))) = 3 + m := by
      have : (3 + (m : Int)) = ((3 + m : Nat) : Int) := by omega
      rw [this, HT.sIx_nat, hrl]
      omega
    unfold cut
    rw [a1, a2, Nat.add_sub_cancel_left]
  rw [hcl] at hcut
  have hin : ∀ x ∈ (row.drop 3).take m, 0 ≤ x ∧ x < 40 := fun x mx => by
    obtain ⟨i, hi⟩ := List.mem_iff_getElem?.mp (List.mem_of_mem_take mx)
    rw [List.getElem?_drop] at hi
    have hlt : 3 + i < row.length := (List.getElem?_eq_some_iff.mp hi).1
    rw [h.1] at hlt
    have hs : longSz[3 + i]? = some 40 := by
      unfold longSz
      rw [List.getElem?_append_right (by simp), List.getElem?_replicate]
      simp
      omega
    exact h.2 _ _ _ hs hi
  have hlen : ((row.drop 3).take m).length ≤ 39 := by rw [List.length_take]; omega
  generalize (row.drop 3).take m = ds at hcut hin hlen
  -- each digit's sign
  have hch : ∃ g : Int → Nat, ∀ x ∈ ds, dIx (.str "abcdefghijklmnopqrstuvwxyz0123456789[],-") (.int x) = .ok (.str ⟨#[g x]⟩) ∧ g x ∈ SIG := by
    have hx : ∀ x : Int, ∃ c : Nat, x ∈ ds → dIx (.str "abcdefghijklmnopqrstuvwxyz0123456789[],-") (.int x) = .ok (.str ⟨#[c]⟩) ∧ c ∈ SIG := fun x => by
      by_cases hx : x ∈ ds
      · obtain ⟨c, h1, h2⟩ := dIx_strN (z := "abcdefghijklmnopqrstuvwxyz0123456789[],-") (j := x) (by decide +kernel) (hin x hx).1 (by rw [hS]; exact (hin x hx).2)
        exact ⟨c, fun _ => ⟨h1, h2⟩⟩
      · exact ⟨0, fun z => absurd z hx⟩
    exact ⟨fun x => (hx x).choose, fun x m => (hx x).choose_spec m⟩
  obtain ⟨g, hg⟩ := hch
  have hjoin : ∀ o, dJoin (.str "") [.lst o (ds.map fun x => D.str ⟨#[g x]⟩)] = .ok (.str (Txt.join "" (ds.map fun x => (⟨#[g x]⟩ : Str)))) := fun o => dJoin_of (strs_map ds fun x => (⟨#[g x]⟩ : Str)) (by
    have : ((ds.map fun x => (⟨#[g x]⟩ : Str)).map (fun (x : Str) => x.length)).sum ≤ 1 * (ds.map fun x => (⟨#[g x]⟩ : Str)).length := sum_le fun x mx => by
      obtain ⟨y, _, rfl⟩ := List.mem_map.mp mx
      exact Nat.le_refl 1
    have e : ("" : Str).length = 0 := by decide +kernel
    rw [e]
    rw [List.length_map] at this ⊢
    omega)
  have hle : ds.length ≤ 100000 := by omega
  have jl : (Txt.join "" (ds.map fun x => (⟨#[g x]⟩ : Str))).length ≤ 39 := by
    have := congrArg List.length (cat_chars 0 (ds.map g))
    rw [tl_append, List.length_append, ← len_tl, ← len_tl] at this
    simp [List.map_map] at this
    have e1 : (⟨#[0]⟩ : Str).length = 1 := rfl
    have e2 : (fun x => (⟨#[x]⟩ : Str)) ∘ g = fun x => (⟨#[g x]⟩ : Str) := rfl
    rw [e1, e2] at this
    omega
  have hadd : dAdd (.str ⟨#[c0]⟩) (.str (Txt.join "" (ds.map fun x => (⟨#[g x]⟩ : Str)))) = .ok (.str ((⟨#[c0]⟩ : Str) ++ Txt.join "" (ds.map fun x => (⟨#[g x]⟩ : Str)))) := if_pos (by
    have e1 : (⟨#[c0]⟩ : Str).length = 1 := rfl
    rw [e1]
    show _ ≤ 100000
    omega)
  simp [sb_law_long_name, d0, d1, d2, em, ha, hcut, hle]
  have hlc : ∀ e : Vs.Env, e = [some (D.lst o (row.map D.int)), some (D.str "abcdefghijklmnopqrstuvwxyz"), some (D.str "abcdefghijklmnopqrstuvwxyz0123456789[],-"), some (D.int (m : Nat)), none] → lcGo e (tgN 4) yes (Vs.bin dIx (ld 2) (ld 4)) (ds.map D.int) = .ok (ds.map fun x => D.str ⟨#[g x]⟩) := fun e he => by
    subst he
    exact lc_map fun x mx => ⟨_, rfl, rfl, by simp [(hg x mx).1]⟩
  rw [hlc _ rfl]
  simp [ec, chk_str, frzs_strs, hjoin, hadd]
  have hsub : ∀ c ∈ LET, c ∈ SIG := by
    have e : LET.all (fun c => SIG.contains c) = true := by decide +kernel
    intro c mc
    exact List.contains_iff_mem.mp (List.all_eq_true.mp e c mc)
  refine ⟨c0, ds.map g, ?_, mc, fun x mx => ?_, by rw [List.length_cons, List.length_map]; omega⟩
  · have z := cat_chars c0 (ds.map g)
    rw [List.map_map] at z
    exact z
  · rcases List.mem_cons.mp mx with rfl | mx
    · exact hsub _ mc
    · obtain ⟨y, my, rfl⟩ := List.mem_map.mp mx
      exact (hg y my).2
end K57
set_option maxHeartbeats 4000000
namespace K57
open PySem L2 Vs TL
/-! ### the drawn program -/
def progSz : List Int := [4, 8, 8, 6, 8, 5, 8, 5, 8, 5, 8, 5, 10, 6, 12, 10, 6, 12, 10, 6, 12, 10, 6, 12, 10, 6, 12, 10, 6, 12, 10, 6, 12, 10, 6, 12, 10, 6, 12]
theorem Steps.app {ss : List St} {s : St} (h : Steps ss) (h2 : s.Ok ss.length) (hl : ss.length < 400) : Steps (ss ++ [s]) := by
  refine ⟨by rw [List.length_append]; show ss.length + 1 ≤ 400; omega, fun i t e => ?_⟩
  by_cases hi : i < ss.length
  · rw [List.getElem?_append_left hi] at e
    exact h.2 i t e
  · rw [List.getElem?_append_right (by omega)] at e
    have : i - ss.length = 0 := by
      obtain ⟨hlt, _⟩ := List.getElem?_eq_some_iff.mp e
      simp at hlt
      omega
    rw [this] at e
    cases e
    have : i = ss.length := by omega
    rw [this]
    exact h2
theorem Steps.nil : Steps [] := ⟨by decide, fun i s e => by cases e⟩
def isLit (P : Int → Prop) (d : D) : Prop := ∃ i : Int, d = .int i ∧ P i
theorem lit_in {o : Bool} {ns : List Int} {P : Int → Prop} {j : Int} (h : ∀ x ∈ ns, P x) (h0 : 0 ≤ j) (h1 : j < ns.length) : ∃ i, dIx (.lst o (ns.map .int)) (.int j) = .ok (.int i) ∧ P i := by
  obtain ⟨d, e, i, rfl, p⟩ := dIx_in (o := o) (xs := ns.map .int) (P := isLit P) (fun x m => by
    obtain ⟨y, my, rfl⟩ := List.mem_map.mp m
    exact ⟨y, rfl, h y my⟩) h0 (by rw [List.length_map]; exact h1)
  exact ⟨i, e, p⟩
theorem sz8 : ∀ k : Nat, k < 4 → progSz[4 + 2 * k]? = some 8 ∧ progSz[5 + 2 * k]? = some 5 := by decide
theorem sz3 : ∀ k : Nat, k < 9 → progSz[12 + 3 * k]? = some 10 ∧ progSz[12 + 3 * k + 1]? = some 6 ∧ progSz[12 + 3 * k + 2]? = some 12 := by decide
def nmD (a b c e : Str) : List D := [.str a, .str b, .str c, .str e]
theorem nm_in {o : Bool} {a b c e : Str} (ga : Good a) (gb : Good b) (gc : Good c) (ge : Good e) {j : Int} (h0 : 0 ≤ j) (h1 : j < 4) : ∃ n, dIx (.lst o (nmD a b c e)) (.int j) = .ok (.str n) ∧ Good n := by
  obtain ⟨d, h, n, rfl, g⟩ := dIx_in (o := o) (xs := nmD a b c e) (P := IsName) (fun x m => by
    simp [nmD] at m
    rcases m with rfl | rfl | rfl | rfl
    · exact ⟨_, rfl, ga⟩
    · exact ⟨_, rfl, gb⟩
    · exact ⟨_, rfl, gc⟩
    · exact ⟨_, rfl, ge⟩) h0 (by simpa [nmD] using h1)
  exact ⟨n, h, g⟩
theorem nmD_frz (a b c e : Str) : frzs (nmD a b c e) = nmD a b c e := rfl
theorem nmD_len (a b c e : Str) : (nmD a b c e).length = 4 := rfl
/-- ahead of the turn i of the first loop -/
def PI1 (row : List Int) (o o2 : Bool) (nm : List D) (cap : Int) (L i : Nat) (env : Vs.Env) : Prop := ∃ (ss : List St) (ds : List Int) (o6 o10 : Option D), Steps ss ∧ ss.length = i ∧ ds.length = i ∧
  env = [some (.lst o (row.map .int)), some (.lst o2 nm), some (.int cap), some (.lst true (ss.map St.d)), some (.lst true (ds.map .int)), some (.int (L : Int)), o6, none, none, none, o10, none, none, none, none, none]
/-- .. of the second -/
def PI2 (row : List Int) (o : Bool) (cap : Int) (L I i : Nat) (env : Vs.Env) : Prop := ∃ (ss : List St) (ds : List Int) (o6 : Option D), Steps ss ∧ ss.length = L + i ∧ ds.length = L + i ∧
  env = [some (.lst o (row.map .int)), none, some (.int cap), some (.lst true (ss.map St.d)), some (.lst true (ds.map .int)), some (.int (L : Int)), o6, some (.int (I : Int)), none, none, none, none, none, none, none, none]
theorem piece_ok {o : Bool} {row : List Int} {n i : Nat} {a b c : Int} (hn : row.length = n) (hi : 15 + 3 * i ≤ n) (h0 : row[12 + 3 * i]? = some a) (h1 : row[12 + 3 * i + 1]? = some b) (h2 : row[12 + 3 * i + 2]? = some c) :
    dSl (.lst o (row.map .int)) (some (12 + 3 * (i : Int))) (some (15 + 3 * (i : Int))) = .ok (.lst true [.int a, .int b, .int c]) := by
  have e1 : (12 + 3 * (i : Int)) = ((12 + 3 * i : Nat) : Int) := by omega
  have e2 : (15 + 3 * (i : Int)) = ((15 + 3 * i : Nat) : Int) := by omega
  show R.ok (D.lst true (cut (row.map .int) (some (12 + 3 * (i : Int))) (some (15 + 3 * (i : Int))))) = _
  unfold cut
  rw [e1, e2, HT.sIx_nat, HT.sIx_nat, List.length_map, hn, Nat.min_eq_left (by omega), Nat.min_eq_left (by omega)]
  have e3 : 15 + 3 * i - (12 + 3 * i) = 3 := by omega
  rw [e3]
  congr 2
  refine List.ext_getElem? fun j => ?_
  rw [List.getElem?_take]
  match j with
  | 0 => simp [h0]
  | 1 => simp [h1]
  | 2 => simp [h2]
  | j + 3 => rw [if_neg (by omega)]; rfl
def E2 (row : List Int) (o : Bool) (cap : Int) (ss : List St) (ds : List Int) (L i I : Nat) (x0 x1 x2 : Int) (M : Nat) (y z : Int) (p : Option D) : Vs.Env :=
  [some (.lst o (row.map .int)), none, some (.int cap), some (.lst true (ss.map St.d)), some (.lst true (ds.map .int)), some (.int (L : Int)), some (.int (i : Int)), some (.int (I : Int)), none, none, none, some (.lst true [.int x0, .int x1, .int x2]), some (.int (M : Int)), some (.int y), some (.int z), p]
def PA (row : List Int) (o : Bool) (cap : Int) (ss : List St) (ds : List Int) (L i I : Nat) (x0 x1 x2 : Int) (M : Nat) (e : Vs.Env) : Prop := ∃ y z : Int, 0 ≤ y ∧ y < M ∧ 0 ≤ z ∧ z < M ∧ e = E2 row o cap ss ds L i I x0 x1 x2 M y z none
def PB (row : List Int) (o : Bool) (cap : Int) (ss : List St) (ds : List Int) (L i I : Nat) (x0 x1 x2 : Int) (M : Nat) (e : Vs.Env) : Prop := ∃ (y z : Int) (a b : Nat), 0 ≤ y ∧ y < M ∧ 0 ≤ z ∧ z < M ∧ a < M ∧ b < M ∧ e = E2 row o cap ss ds L i I x0 x1 x2 M y z (some (.tup [.int (a : Nat), .int (b : Nat)]))
def Prog (d : D) : Prop := ∃ ss outs, d = .lst true [.tup (ss.map St.d), .tup (outD outs)] ∧ Steps ss ∧ Outs ss.length outs ∧ 5 ≤ ss.length ∧ ss.length ≤ 13 ∧ outs.length ≤ 3
theorem program_ok {o o2 : Bool} {row : List Int} {a b c e : Str} {cap : Int} (h : RowN 39 progSz row) (ga : Good a) (gb : Good b) (gc : Good c) (ge : Good e) :
    Oks (a_law_program [.lst o (row.map .int), .lst o2 (nmD a b c e), .int cap]) Prog := by
  refine oks_run ?_
  obtain ⟨r0, e0, p0, q0⟩ := h.at (j := 0) (s := 4) (by decide) rfl
  obtain ⟨r1, e1, p1, q1⟩ := h.at (j := 1) (s := 8) (by decide) rfl
  obtain ⟨r2, e2, p2, q2⟩ := h.at (j := 2) (s := 8) (by decide) rfl
  obtain ⟨r3, e3, p3, q3⟩ := h.at (j := 3) (s := 6) (by decide) rfl
  have d0 := fun o => dIx_row (o := o) e0 0 rfl
  have d1 := fun o => dIx_row (o := o) e1 1 rfl
  have d2 := fun o => dIx_row (o := o) e2 2 rfl
  have d3 := fun o => dIx_row (o := o) e3 3 rfl
  obtain ⟨Li, eL, L1, L4⟩ := lit_in (o := true) (ns := [3, 2, 4, 1]) (P := fun i => 1 ≤ i ∧ i ≤ 4) (by simp) p0 (by simpa using q0)
  obtain ⟨L, rfl⟩ : ∃ L : Nat, Li = L := ⟨Li.toNat, by omega⟩
  obtain ⟨Ii, eI, I1, I4⟩ := lit_in (o := true) (ns := [7, 8, 6, 9, 8, 7, 9, 4]) (P := fun i => 4 ≤ i ∧ i ≤ 9) (by simp) p1 (by simpa using q1)
  obtain ⟨I, rfl⟩ : ∃ I : Nat, Ii = I := ⟨Ii.toNat, by omega⟩
  have eL : dIx (.lst true [.int 3, .int 2, .int 4, .int 1]) (.int r0) = .ok (.int (L : Int)) := eL
  have eI : dIx (.lst true [.int 7, .int 8, .int 6, .int 9, .int 8, .int 7, .int 9, .int 4]) (.int r1) = .ok (.int (I : Int)) := eI
  simp [sb_law_program, d0, eL, dRng_nat (show L ≤ 1000000 by omega)]
  refine rets_for0 (PI1 row o o2 (nmD a b c e) cap L) ⟨[], [], _, _, .nil, rfl, rfl, rfl⟩ (fun i d env hd hI => ?_) fun env hI => ?_
  · obtain ⟨ss, ds, o6, o10, hss, hl, hdl, rfl⟩ := hI
    obtain ⟨hi, rfl⟩ := rngL_get hd
    refine ⟨_, rfl, ?_⟩
    obtain ⟨s1, s2⟩ := sz8 i (by omega)
    obtain ⟨x1, f1, u1, v1⟩ := h.at (by omega) s1
    obtain ⟨x2, f2, u2, v2⟩ := h.at (by omega) s2
    have g1 := fun o => dIx_row (o := o) f1 (4 + 2 * (i : Int)) (by omega)
    have g2 := fun o => dIx_row (o := o) f2 (5 + 2 * (i : Int)) (by omega)
    have m1 : mulOk 2 (i : Int) := mulOk_of (by decide) (by omega)
    obtain ⟨n1, w1, gn1⟩ := nm_in (o := false) ga gb gc ge (j := (i : Int) % 4) (by omega) (by omega)
    obtain ⟨n2, w2, gn2⟩ := nm_in (o := false) ga gb gc ge (j := x2 % 4) (by omega) (by omega)
    obtain ⟨vi, w3, vb⟩ := lit_in (o := true) (ns := [2, 1, 0, 3, 7]) (P := fun i => 0 ≤ i ∧ i ≤ 7) (by simp) u2 (by simpa using v2)
    obtain ⟨v, rfl⟩ : ∃ v : Nat, vi = v := ⟨vi.toNat, by omega⟩
    have w3 : dIx (.lst true [.int 2, .int 1, .int 0, .int 3, .int 7]) (.int x2) = .ok (.int (v : Int)) := w3
    have hl1 : ss.length < 100000 := by omega
    have hl2 : ds.length < 100000 := by omega
    have hI : St.Ok ss.length (.inp n1) := gn1
    have hI2 : St.Ok ss.length (.inp n2) := gn2
    have hV : St.Ok ss.length (.num v) := show v < 10000000000000 by omega
    have hln : (ss.length : Nat) < 400 := by omega
    have fin : ∀ s : St, s.Ok ss.length → ∀ o6 o10, PI1 row o o2 (nmD a b c e) cap L (i + 1) [some (.lst o (row.map .int)), some (.lst o2 (nmD a b c e)), some (.int cap), some (.lst true (ss.map St.d ++ [s.d])), some (.lst true (ds.map .int ++ [.int 1])), some (.int (L : Int)), o6, none, none, none, o10, none, none, none, none, none] := fun s hs o6 o10 =>
      ⟨ss ++ [s], ds ++ [1], o6, o10, hss.app hs hln, by simp [hl], by simp [hdl], by simp⟩
    have fI := fin _ hI
    have fI2 := fin _ hI2
    have fV := fin _ hV
    simp only [St.d] at fI fI2 fV
    by_cases c1 : x1 < 6
    · simp [dMul_int m1, g1, c1, nmD_frz, nmD_len, dMod_int, w1, hl1, hl2, fI]
    · by_cases c5 : x1 = 6
      · simp [dMul_int m1, g1, g2, c5, nmD_frz, nmD_len, dMod_int, w2, hl1, hl2, fI2]
      · by_cases c2 : x1 = 7
        · by_cases c3 : i = 0
          · subst c3
            have g1' : ∀ o, dIx (.lst o (row.map .int)) (.int 4) = .ok (.int x1) := g1
            have g2' : ∀ o, dIx (.lst o (row.map .int)) (.int 5) = .ok (.int x2) := g2
            have m1' : mulOk 2 0 := m1
            have w1' : dIx (.lst false (nmD a b c e)) (.int 0) = .ok (.str n1) := w1
            by_cases c4 : 0 < r2
            · simp [dMul_int m1', g1', d2, c2, c4, nmD_frz, nmD_len, dMod_int, w1', hl1, hl2, fI]
            · simp [dMul_int m1', g1', g2', d2, c2, c4, w3, hl1, hl2, fV]
          · simp [dMul_int m1, g1, g2, c2, c3, w3, hl1, hl2, fV]
        · simp [dMul_int m1, g1, g2, c1, c2, c5, w3, hl1, hl2, fV]
  · obtain ⟨ss, ds, o6, o10, hss, hl, hdl, rfl⟩ := hI
    rw [rngL_len] at hl hdl
    simp [d1, eI, dRng_nat (show I ≤ 1000000 by omega)]
    refine rets_for0 (PI2 row o cap L I) ⟨ss, ds, none, hss, hl, hdl, rfl⟩ (fun i d env hd hI => ?_) fun env hI => ?_
    · obtain ⟨ss, ds, o6, hss, hl, hdl, rfl⟩ := hI
      obtain ⟨hi, rfl⟩ := rngL_get hd
      refine ⟨_, rfl, ?_⟩
      obtain ⟨s1, s2, s3⟩ := sz3 i (by omega)
      obtain ⟨x0, f0, u0, v0⟩ := h.at (by omega) s1
      obtain ⟨x1, f1, u1, v1⟩ := h.at (by omega) s2
      obtain ⟨x2, f2, u2, v2⟩ := h.at (by omega) s3
      have m1 : mulOk 3 (i : Int) := mulOk_of (by decide) (by omega)
      have hp : ∀ o, dSl (.lst o (row.map .int)) (some (12 + 3 * (i : Int))) (some (15 + 3 * (i : Int))) = .ok (.lst true [.int x0, .int x1, .int x2]) := fun o => piece_ok h.1 (by omega) f0 f1 f2
      obtain ⟨t1, et1, t10, t11⟩ := lit_in (o := true) (ns := [0, 1, 0, 2, 1, 0]) (P := fun i => 0 ≤ i ∧ i ≤ 2) (by simp) u1 (by simpa using v1)
      have et1 : dIx (.lst true [.int 0, .int 1, .int 0, .int 2, .int 1, .int 0]) (.int x1) = .ok (.int t1) := et1
      have hLp : (0 : Int) < L := by omega
      generalize hM : ss.length = M at hl hdl
      have hM1 : (1 : Int) ≤ M := by omega
      have hmm : (0 : Int) < (if (4 : Int) < (M : Int) then 4 else (M : Int)) := by split <;> omega
      simp [dMul_int m1, hp, hM, et1, dMod_int _ hLp, -ifS_ev]
      -- two, by the wide draw
      refine turn_step (P := PA row o cap ss ds L i I x0 x1 x2 M) ?_ fun env hP => ?_
      · have hz0 : 0 ≤ x2 % (L : Int) := Int.emod_nonneg _ (by omega)
        have hz1 : x2 % (L : Int) < L := Int.emod_lt_of_pos _ hLp
        simp only [sts_frz, List.length_map, hM]
        obtain ⟨y, hy, y0, y1⟩ : ∃ y : Int, (if t1 < (M : Int) - 1 then (M : Int) - 1 - t1 else 0) = y ∧ 0 ≤ y ∧ y < M := ⟨_, rfl, by split <;> omega, by split <;> omega⟩
        rw [hy]
        have hw0 : 0 ≤ x2 % (if (4 : Int) < (M : Int) then 4 else (M : Int)) := Int.emod_nonneg _ (by omega)
        have hw1 : x2 % (if (4 : Int) < (M : Int) then 4 else (M : Int)) < (if (4 : Int) < (M : Int) then 4 else (M : Int)) := Int.emod_lt_of_pos _ hmm
        have hw2 : (if (4 : Int) < (M : Int) then 4 else (M : Int)) ≤ M := by split <;> omega
        have fin1 : ∀ z : Int, 0 ≤ z → z < M → PA row o cap ss ds L i I x0 x1 x2 M [some (.lst o (row.map .int)), none, some (.int cap), some (.lst true (ss.map St.d)), some (.lst true (ds.map .int)), some (.int (L : Int)), some (.int (i : Int)), some (.int (I : Int)), none, none, none, some (.lst true [.int x0, .int x1, .int x2]), some (.int (M : Int)), some (.int y), some (.int z), none] := fun z z0 z1 => ⟨y, z, y0, y1, z0, z1, rfl⟩
        have f1 := fin1 (x2 % (L : Int)) hz0 (by omega)
        have hdm := dMod_int x2 hmm
        have f2 := fin1 ((M : Int) - 1 - x2 % (if (4 : Int) < (M : Int) then 4 else (M : Int))) (by omega) (by omega)
        by_cases c6 : 6 ≤ x2
        · simp [c6, hdm, f2]
        · by_cases c7 : 6 ≤ x0
          · simp [c6, c7, hdm, f2]
          · simp [c6, c7, f1]
      · obtain ⟨y, z, y0, y1, z0, z1, rfl⟩ := hP
        simp only [E2, seqS_ev]
        refine turn_step (P := PA row o cap ss ds L i I x0 x1 x2 M) ?_ fun env hP => ?_
        · have fin1 : ∀ y z : Int, 0 ≤ y → y < M → 0 ≤ z → z < M → PA row o cap ss ds L i I x0 x1 x2 M [some (.lst o (row.map .int)), none, some (.int cap), some (.lst true (ss.map St.d)), some (.lst true (ds.map .int)), some (.int (L : Int)), some (.int (i : Int)), some (.int (I : Int)), none, none, none, some (.lst true [.int x0, .int x1, .int x2]), some (.int (M : Int)), some (.int y), some (.int z), none] := fun y z y0 y1 z0 z1 => ⟨y, z, y0, y1, z0, z1, rfl⟩
          have f1 := fin1 y z y0 y1 z0 z1
          have hw0 : 0 ≤ x2 % 3 := Int.emod_nonneg _ (by decide)
          have f2 := fin1 ((M : Int) - 1) (if (M : Int) - 2 - x2 % 3 > 0 then (M : Int) - 2 - x2 % 3 else 0) (by omega) (by omega) (by split <;> omega) (by split <;> omega)
          by_cases c8 : (i : Int) = (I : Int) - 1
          · simp only [gt_iff_lt] at f2
            rw [c8] at f2
            have hiff : (0 < (M : Int) - 2 - x2 % 3) ↔ x2 % 3 < (M : Int) - 2 := by omega
            simp only [hiff] at f2
            simp [c8, dMod_int, f2]
          · simp [c8, f1]
        · obtain ⟨y, z, y0, y1, z0, z1, rfl⟩ := hP
          simp only [E2, seqS_ev]
          refine turn_step (P := PB row o cap ss ds L i I x0 x1 x2 M) ?_ fun env hP => ?_
          · have fin1 : ∀ a b : Nat, a < M → b < M → PB row o cap ss ds L i I x0 x1 x2 M [some (.lst o (row.map .int)), none, some (.int cap), some (.lst true (ss.map St.d)), some (.lst true (ds.map .int)), some (.int (L : Int)), some (.int (i : Int)), some (.int (I : Int)), none, none, none, some (.lst true [.int x0, .int x1, .int x2]), some (.int (M : Int)), some (.int y), some (.int z), some (.tup [.int (a : Nat), .int (b : Nat)])] := fun a b ha hb => ⟨y, z, a, b, y0, y1, z0, z1, ha, hb, rfl⟩
            have f1 := fin1 y.toNat z.toNat (by omega) (by omega)
            have f2 := fin1 z.toNat y.toNat (by omega) (by omega)
            rw [Int.toNat_of_nonneg y0, Int.toNat_of_nonneg z0] at f1 f2
            by_cases c9 : x0 % 2 = 1
            · simp [c9, dMod_int, f2]
            · simp [c9, dMod_int, f1]
          · obtain ⟨y, z, a, b, y0, y1, z0, z1, ha, hb, rfl⟩ := hP
            have hdl2 : (ds.length : Int) = M := by omega
            obtain ⟨v1, gy, _⟩ := lit_in (o := false) (ns := ds) (P := fun _ => True) (fun _ _ => trivial) y0 (by omega)
            obtain ⟨v2, gz, _⟩ := lit_in (o := false) (ns := ds) (P := fun _ => True) (fun _ _ => trivial) z0 (by omega)
            have fin1 : ∀ (w : Bool) (v : Int) (o6 : Option D), PI2 row o cap L I (i + 1) [some (.lst o (row.map .int)), none, some (.int cap), some (.lst true (ss.map St.d ++ [.tup [.str (opW w), .int (a : Nat), .int (b : Nat)]])), some (.lst true (ds.map .int ++ [.int v])), some (.int (L : Int)), o6, some (.int (I : Int)), none, none, none, none, none, none, none, none] := fun w v o6 =>
              ⟨ss ++ [.op w a b], ds ++ [v], o6, hss.app (s := .op w a b) (show a < ss.length ∧ b < ss.length from ⟨by omega, by omega⟩) (by omega), by rw [List.length_append, hM, hl]; rfl, by rw [List.length_append, hdl]; rfl, by simp [St.d]⟩
            have f1 := fin1 true
            have f2 := fin1 false
            have w1 : opW true = "plus" := rfl
            have w2 : opW false = "times" := rfl
            rw [w1] at f1
            rw [w2] at f2
            have hl1 : ss.length < 100000 := by omega
            have hl2 : ds.length < 100000 := by omega
            by_cases c10 : x0 < 6
            · by_cases c11 : v1 + v2 ≤ cap
              · simp [E2, c10, c11, gy, gz, hl1, hl2, f2]
              · simp [E2, c10, c11, gy, gz, hl1, hl2, f1]
            · simp [E2, c10, gy, gz, hl1, hl2, f1]
    · obtain ⟨ss, ds, o6, hss, hl, hdl, rfl⟩ := hI
      rw [rngL_len] at hl
      generalize hM : ss.length = M at hl
      have hM5 : 5 ≤ M := by omega
      have hM13 : M ≤ 13 := by omega
      have k1 : ((M : Int) - 1) = ((M - 1 : Nat) : Int) := by omega
      have k2 : ((M : Int) - 1 - 1) = ((M - 2 : Nat) : Int) := by omega
      have k3 : (if 2 < (M : Int) - 1 then (M : Int) - 1 - 2 else 0) = ((M - 3 : Nat) : Int) := by split <;> omega
      have hall : ∀ d ∈ [D.tup [D.int ((M : Int) - 1)], D.tup [D.int ((M : Int) - 1)], D.tup [D.int ((M : Int) - 1)], D.tup [D.int ((M : Int) - 1), D.int ((M : Int) - 1 - 1)], D.tup [D.int ((M : Int) - 1), D.int 0, D.int ((M : Int) - 1)],
          D.tup [D.int (if 2 < (M : Int) - 1 then (M : Int) - 1 - 2 else 0), D.int ((M : Int) - 1)]], ∃ outs, d = .tup (outD outs) ∧ Outs M outs ∧ outs.length ≤ 3 := by
        intro d m
        rw [k3, k2, k1] at m
        simp only [List.mem_cons, List.not_mem_nil, or_false] at m
        rcases m with rfl | rfl | rfl | rfl | rfl | rfl
        · exact ⟨[M - 1], rfl, ⟨by simp, by simp, fun n mn => by simp at mn; omega⟩, by simp⟩
        · exact ⟨[M - 1], rfl, ⟨by simp, by simp, fun n mn => by simp at mn; omega⟩, by simp⟩
        · exact ⟨[M - 1], rfl, ⟨by simp, by simp, fun n mn => by simp at mn; omega⟩, by simp⟩
        · exact ⟨[M - 1, M - 2], rfl, ⟨by simp, by simp, fun n mn => by simp at mn; omega⟩, by simp⟩
        · exact ⟨[M - 1, 0, M - 1], rfl, ⟨by simp, by simp, fun n mn => by simp at mn; omega⟩, by simp⟩
        · exact ⟨[M - 3, M - 1], rfl, ⟨by simp, by simp, fun n mn => by simp at mn; omega⟩, by simp⟩
      obtain ⟨d, ed, outs, rfl, ho, ho3⟩ := dIx_in (o := true) hall p3 (by simpa using q3)
      have hfin : Prog (.lst true [.tup (ss.map St.d), .tup (outD outs)]) := ⟨ss, outs, rfl, hss, by rw [hM]; exact ho, by omega, by omega, ho3⟩
      simp [sts_frz, hM, d3, ed, outD_has, outD_frz, sts_has, hfin]
end K57
set_option maxHeartbeats 4000000
namespace K57
open PySem L2 Vs TL
/-! ### the law -/
def moreSz : List Int := [13, 13, 4, 5, 1000000000001, 2, 130, 12]
theorem long_sz : ∀ s ∈ longSz, 0 < s ∧ s < 18446744073709551616 := by decide
theorem prog_sz : ∀ s ∈ progSz, 0 < s ∧ s < 18446744073709551616 := by decide
theorem more_sz : ∀ s ∈ moreSz, 0 < s ∧ s < 18446744073709551616 := by decide
theorem cut_take {α : Type} (xs : List α) (k : Nat) : cut xs none (some (k : Int)) = xs.take k := by
  unfold cut
  rw [HT.sIx_none, HT.sIx_nat, List.drop_zero, Nat.sub_zero]
  exact List.take_eq_take_min.symm
theorem dSl_lst1 (o : Bool) (ss : List St) : dSl (.lst o (ss.map St.d)) none (some 1) = .ok (.lst true ((ss.take 1).map St.d)) := by
  show R.ok (D.lst true (cut (ss.map St.d) none (some ((1 : Nat) : Int)))) = _
  rw [cut_take, List.map_take]
theorem dSl_tupN (xs : List D) (k : Nat) : dSl (.tup xs) none (some (k : Int)) = .ok (.tup (xs.take k)) := by
  show R.ok (D.tup (cut xs none (some (k : Int)))) = _
  rw [cut_take]
theorem dAdd_tup (xs ys : List D) : dAdd (.tup xs) (.tup ys) = if xs.length + ys.length ≤ 100000 then .ok (.tup (xs ++ ys)) else .stk := rfl
theorem Steps.set {ss : List St} {i : Nat} {s : St} (h : Steps ss) (hs : s.Ok i) : Steps (ss.set i s) := by
  refine ⟨by rw [List.length_set]; exact h.1, fun j t e => ?_⟩
  rw [List.getElem?_set] at e
  split at e
  · split at e
    · cases e
      rename_i hij _
      rw [← hij]
      exact hs
    · cases e
  · exact h.2 j t e
theorem Steps.take1 {ss : List St} (h : Steps ss) : Steps (ss.take 1) := by
  refine ⟨by rw [List.length_take]; omega, fun j t e => ?_⟩
  rw [List.getElem?_take] at e
  split at e
  · exact h.2 j t e
  · cases e
theorem map_set_d (ss : List St) (i : Nat) (s : St) : (ss.map St.d).set i s.d = (ss.set i s).map St.d := (List.map_set).symm
theorem ixN_in {n i : Nat} (h : i < n) : ixN n (i : Int) = some i := by
  unfold ixN
  rw [if_pos (by omega), if_pos (by omega), Int.toNat_natCast]
theorem ne6 : ("input" : Str) ≠ "number" := by decide +kernel
theorem ixN_last (n : Nat) (h : 0 < n) : ixN n (-1) = some (n - 1) := by
  unfold ixN
  rw [if_neg (by decide), if_pos (by omega)]
  congr 1
  omega
theorem set_last (xs : List D) (a b : D) : (xs ++ [a]).set xs.length b = xs ++ [b] := by
  rw [List.set_append_right _ _ (Nat.le_refl _), Nat.sub_self]
  rfl
def NmE (ns row more : List Int) (e : Vs.Env) : Prop := ∃ a b c e' : Str, Good a ∧ Good b ∧ Good c ∧ Good e' ∧ e = [some (.scr ns), some (.lst true (row.map .int)), some (.lst true (nmD a b c e')), some (.lst true (more.map .int)), none, none, none, none]
def LI1 (nm : List D) (more : List Int) (s4 : D) (n i : Nat) (e : Vs.Env) : Prop := ∃ (ss : List St) (o6 : Option D), Steps ss ∧ ss.length = n ∧
  e = [none, none, some (.lst true nm), some (.lst true (more.map .int)), some s4, some (.lst true (ss.map St.d)), o6, none]
def LI2 (nm : List D) (more : List Int) (s4 : D) (n i : Nat) (e : Vs.Env) : Prop := ∃ (ss : List St) (o6 : Option D), Steps ss ∧ ss.length = n + i ∧
  e = [none, none, some (.lst true nm), some (.lst true (more.map .int)), some s4, some (.lst true (ss.map St.d)), o6, none]
def LO (ss : List St) (e : Vs.Env) : Prop := ∃ (outs : List Nat) (o2 o3 o4 o6 : Option D), Outs ss.length outs ∧ e = [none, none, o2, o3, o4, some (.lst true (ss.map St.d)), o6, some (.tup (outD outs))]
def LP (more : List Int) (ss : List St) (m : Nat) (e : Vs.Env) : Prop := ∃ (outs : List Nat) (o2 o4 o6 : Option D), Outs ss.length outs ∧ outs.length ≤ m ∧ e = [none, none, o2, some (.lst true (more.map .int)), o4, some (.lst true (ss.map St.d)), o6, some (.tup (outD outs))]
theorem outD_app (a b : List Nat) : outD a ++ outD b = outD (a ++ b) := by
  unfold outD
  rw [List.map_append]
theorem outD_len (a : List Nat) : (outD a).length = a.length := List.length_map _
theorem law_ok (ns : List Int) (hn : ns.length ≤ 63) : Oks (a_law [.scr ns]) fun d => d = .bl true := by
  refine oks_run ?_
  obtain ⟨_, ec0, c0, rfl⟩ := cell_ok ns 0 (by decide)
  obtain ⟨_, ec1, c1, rfl⟩ := cell_ok ns 1 (by decide)
  obtain ⟨_, ec2, c2, rfl⟩ := cell_ok ns 2 (by decide)
  obtain ⟨_, ec3, c3, rfl⟩ := cell_ok ns 3 (by decide)
  have ec0 : a_law_cell [.scr ns, .int 0] = .ok (.int c0) := ec0
  have ec1 : a_law_cell [.scr ns, .int 1] = .ok (.int c1) := ec1
  have ec2 : a_law_cell [.scr ns, .int 2] = .ok (.int c2) := ec2
  have ec3 : a_law_cell [.scr ns, .int 3] = .ok (.int c3) := ec3
  obtain ⟨_, er, row, rfl, hrow⟩ := digits_ok c0 false progSz prog_sz (by decide)
  obtain ⟨_, em, more, rfl, hmore⟩ := digits_ok c1 false moreSz more_sz (by decide)
  obtain ⟨_, el2, row2, rfl, hrow2⟩ := digits_ok c2 false longSz long_sz (by decide)
  obtain ⟨_, el3, row3, rfl, hrow3⟩ := digits_ok c3 false longSz long_sz (by decide)
  obtain ⟨r2, f2, _, _⟩ := hrow.at (j := 2) (s := 8) (by decide) rfl
  have d2 := fun o => dIx_row (o := o) f2 2 rfl
  obtain ⟨_, enm, a, b, c, e, rfl, ga, gb, gc, ge⟩ := names_ok r2
  have hpow : dPow (.int 10) (.int 12) = .ok (.int 1000000000000) := rfl
  have hpow2 : dPow (.int 10) (.int 30) = .ok (.int 1000000000000000000000000000000) := rfl
  obtain ⟨m0, g0, u0, v0⟩ := hmore.at (j := 0) (s := 13) (by decide) rfl
  obtain ⟨m1, g1, u1, v1⟩ := hmore.at (j := 1) (s := 13) (by decide) rfl
  obtain ⟨m2, g2, u2, v2⟩ := hmore.at (j := 2) (s := 4) (by decide) rfl
  obtain ⟨m3, g3, u3, v3⟩ := hmore.at (j := 3) (s := 5) (by decide) rfl
  obtain ⟨m4, g4, u4, v4⟩ := hmore.at (j := 4) (s := 1000000000001) (by decide) rfl
  obtain ⟨m5, g5, u5, v5⟩ := hmore.at (j := 5) (s := 2) (by decide) rfl
  obtain ⟨m6, g6, u6, v6⟩ := hmore.at (j := 6) (s := 130) (by decide) rfl
  obtain ⟨m7, g7, u7, v7⟩ := hmore.at (j := 7) (s := 12) (by decide) rfl
  have e0 := fun o => dIx_row (o := o) g0 0 rfl
  have e1 := fun o => dIx_row (o := o) g1 1 rfl
  have e2 := fun o => dIx_row (o := o) g2 2 rfl
  have e3 := fun o => dIx_row (o := o) g3 3 rfl
  have e4 := fun o => dIx_row (o := o) g4 4 rfl
  have e5 := fun o => dIx_row (o := o) g5 5 rfl
  have e6 := fun o => dIx_row (o := o) g6 6 rfl
  have e7 := fun o => dIx_row (o := o) g7 7 rfl
  have hsz : ([4, 8, 8, 6, 8, 5, 8, 5, 8, 5, 8, 5, 10, 6, 12, 10, 6, 12, 10, 6, 12, 10, 6, 12, 10, 6, 12, 10, 6, 12, 10, 6, 12, 10, 6, 12, 10, 6, 12].map D.int) = progSz.map D.int := rfl
  have hso := sizes_ok
  rw [hsz] at hso
  have em : a_law_digits [.int c1, .lst false [.int 13, .int 13, .int 4, .int 5, .int 1000000000001, .int 2, .int 130, .int 12]] = .ok (.lst true (more.map .int)) := em
  obtain ⟨R39, hr4, hlong⟩ : ∃ R39 : List D, dMul (.lst true [.int 40]) (.int 39) = .ok (.lst true R39) ∧ ∀ o o2, dAdd (.lst o [.int 26, .int 40, .int 3]) (.lst o2 R39) = .ok (.lst true (longSz.map .int)) := ⟨_, rfl, fun _ _ => rfl⟩
  -- the names
  simp [sb_law, ec0, ec1, hso, er, d2, enm, em, hpow, -ifS_ev, -setS_ev]
  have x0 : ixN 4 0 = some 0 := rfl
  have x1 : ixN 4 1 = some 1 := rfl
  have x2 : ixN 4 2 = some 2 := rfl
  refine rets_step (P := NmE ns row more) ?_ fun env hP => ?_
  · have fin1 : ∀ a b c e : Str, Good a → Good b → Good c → Good e → NmE ns row more [some (D.scr ns), some (.lst true (row.map .int)), some (.lst true [.str a, .str b, .str c, .str e]), some (.lst true (more.map .int)), none, none, none, none] := fun a b c e ga gb gc ge => ⟨a, b, c, e, ga, gb, gc, ge, rfl⟩
    by_cases c7 : m7 < 6
    · obtain ⟨_, en1, n1, rfl, gn1⟩ := dIx_in (o := true) (xs := [.str "outputs", .str "plus", .str "input", .str "number", .str "times", .str "level"]) (P := IsName) (fun d m => by
        simp at m
        rcases m with rfl | rfl | rfl | rfl | rfl | rfl <;> exact is_name_lit (by decide +kernel)) u7 (by simpa using c7)
      obtain ⟨_, en2, n2, rfl, gn2⟩ := dIx_in (o := true) (xs := [.str "times", .str "outputs", .str "plus", .str "input", .str "number", .str "q-1"]) (P := IsName) (fun d m => by
        simp at m
        rcases m with rfl | rfl | rfl | rfl | rfl | rfl <;> exact is_name_lit (by decide +kernel)) u7 (by simpa using c7)
      have f := fin1 n2 b n1 e gn2 gb gn1 ge
      simp [e7, c7, en1, en2, x0, x2, f]
    · have f := fin1 a b c e ga gb gc ge
      simp [e7, c7, f]
  · obtain ⟨a, b, c, e, ga, gb, gc, ge, rfl⟩ := hP
    simp only [seqS_ev]
    refine rets_step (P := NmE ns row more) ?_ fun env hP => ?_
    · have fin1 : ∀ a b c e : Str, Good a → Good b → Good c → Good e → NmE ns row more [some (D.scr ns), some (.lst true (row.map .int)), some (.lst true [.str a, .str b, .str c, .str e]), some (.lst true (more.map .int)), none, none, none, none] := fun a b c e ga gb gc ge => ⟨a, b, c, e, ga, gb, gc, ge, rfl⟩
      by_cases c5 : m5 = 0
      · obtain ⟨_, en1, n1, rfl, gn1⟩ := long_ok (o := false) hrow2
        obtain ⟨_, en2, n2, rfl, gn2⟩ := long_ok (o := false) hrow3
        have f := fin1 n1 n2 c e gn1 gn2 gc ge
        simp [nmD, e5, c5, ec2, ec3, hr4, hlong, el2, el3, en1, en2, x0, x1, f]
      · have f := fin1 a b c e ga gb gc ge
        simp [nmD, e5, c5, f]
    · obtain ⟨a, b, c, e, ga, gb, gc, ge, rfl⟩ := hP
      obtain ⟨_, ep, ss, outs, rfl, hss, ho, hs5, hs13, ho3⟩ := program_ok (o := false) (o2 := false) (cap := 1000000000000000000000000000000) hrow ga gb gc ge
      simp [hpow2, nmD_frz, ep, sts_frz, sts_has, outD_frz, outD_has, dRng_nat (show ss.length ≤ 1000000 by omega)]
      have hs4 : ∀ o, dIx (.lst o [.tup (ss.map St.d), .tup (outD outs)]) (.int 1) = .ok (.tup (outD outs)) := fun _ => rfl
      generalize hN : ss.length = N at ho hs5 hs13
      generalize hS4 : D.lst true [.tup (ss.map St.d), .tup (outD outs)] = S4
      have hS4f : frz S4 = .lst false [.tup (ss.map St.d), .tup (outD outs)] := by rw [← hS4]; simp [sts_frz, outD_frz]
      refine rets_for0 (LI1 (nmD a b c e) more S4 N) ⟨ss, none, hss, hN, rfl⟩ (fun i d env hd hI => ?_) fun env hI => ?_
      · obtain ⟨ss, o6, hss, hl, rfl⟩ := hI
        obtain ⟨hi, rfl⟩ := rngL_get hd
        refine ⟨_, rfl, ?_⟩
        have hg : ss[i]? = some ss[i] := List.getElem?_eq_getElem (by omega)
        have hx : ∀ o, dIx (.lst o (ss.map St.d)) (.int (i : Nat)) = .ok (ss[i]).d := fun o => dIx_lst (by rw [List.getElem?_map, hg]; rfl)
        have fin0 : ∀ o6, LI1 (nmD a b c e) more S4 N (i + 1) [none, none, some (.lst true (nmD a b c e)), some (.lst true (more.map .int)), some S4, some (.lst true (ss.map St.d)), o6, none] := fun o6 => ⟨ss, o6, hss, hl, rfl⟩
        have hix : ixN N (i : Int) = some i := ixN_in hi
        generalize ss[i] = s at hg hx
        cases s with
        | inp n => simp [sts_frz, hx, St.d, ne6, fin0]
        | op w x y => simp [sts_frz, hx, St.d, ne3, fin0]
        | num v =>
          by_cases c3 : 0 < m3
          · have q1 : mulOk 9001 (i : Int) := mulOk_of (by decide) (by omega)
            have q2 : mulOk m4 (9001 * (i : Int) + m3) := mulOk_of (by omega) (by omega)
            have q3 : mulOk (i : Int) m3 := mulOk_of (by omega) (by omega)
            have w0 : 0 ≤ (i : Int) * m3 % 3 := Int.emod_nonneg _ (by decide)
            have w1 : (i : Int) * m3 % 3 < 3 := Int.emod_lt_of_pos _ (by decide)
            have w2 : 0 < 1 + (i : Int) * m3 % 3 := by omega
            have z0 : 0 ≤ m4 * (9001 * (i : Int) + m3) % 1000000000001 := Int.emod_nonneg _ (by decide)
            have z1 : m4 * (9001 * (i : Int) + m3) % 1000000000001 < 1000000000001 := Int.emod_lt_of_pos _ (by decide)
            have q4 : dMod (.int (m4 * (9001 * (i : Int) + m3))) (.int 1000000000001) = .ok (.int (m4 * (9001 * (i : Int) + m3) % 1000000000001)) := dMod_int _ (by decide)
            have q5 := dDiv64 (m4 * (9001 * (i : Int) + m3) % 1000000000001) w2 (by omega)
            have q6 : dMod (.int ((i : Int) * m3)) (.int 3) = .ok (.int ((i : Int) * m3 % 3)) := dMod_int _ (by decide)
            generalize m4 * (9001 * (i : Int) + m3) % 1000000000001 = X at z0 z1 q4 q5
            generalize (i : Int) * m3 % 3 = Y at w0 w1 w2 q5 q6
            have y0 : 0 ≤ X / (1 + Y) := Int.ediv_nonneg z0 (by omega)
            have y1 : X / (1 + Y) ≤ X := Int.ediv_le_self _ z0
            obtain ⟨u, hu⟩ : ∃ u : Nat, X / (1 + Y) = u := ⟨(X / (1 + Y)).toNat, by omega⟩
            have fin1 : ∀ o6, LI1 (nmD a b c e) more S4 N (i + 1) [none, none, some (.lst true (nmD a b c e)), some (.lst true (more.map .int)), some S4, some (.lst true ((ss.map St.d).set i (.tup [.str "number", .int (u : Nat)]))), o6, none] := fun o6 =>
              ⟨ss.set i (.num u), o6, hss.set (show u < 10000000000000 by omega), by rw [List.length_set]; exact hl, by rw [← map_set_d]; rfl⟩
            rw [hu] at q5
            simp [sts_frz, hx, St.d, e3, e4, c3, dMul_int q1, dMul_int q2, dMul_int q3, hpow, q4, q5, q6, hl, hix, fin1]
          · simp [sts_frz, hx, St.d, e3, c3, fin0]
      · obtain ⟨ss, o6, hss, hl, rfl⟩ := hI
        obtain ⟨ti, et, t0, t1⟩ := lit_in (o := true) (ns := [0, 0, 0, m6]) (P := fun i => 0 ≤ i ∧ i ≤ 129) (by intro x m; simp at m; omega) u2 (by simpa using v2)
        obtain ⟨t, rfl⟩ : ∃ t : Nat, ti = t := ⟨ti.toNat, by omega⟩
        have et : dIx (.lst true [.int 0, .int 0, .int 0, .int m6]) (.int m2) = .ok (.int (t : Int)) := et
        simp [e2, e6, et, dRng_nat (show t ≤ 1000000 by omega)]
        refine rets_for0 (LI2 (nmD a b c e) more S4 N) ⟨ss, none, hss, hl, rfl⟩ (fun i d env hd hI => ?_) fun env hI => ?_
        · obtain ⟨ss, o6, hss, hl, rfl⟩ := hI
          obtain ⟨hi, rfl⟩ := rngL_get hd
          refine ⟨_, rfl, ?_⟩
          generalize hM : ss.length = M at hl
          have hMp : (0 : Int) < M := by omega
          obtain ⟨w, ew⟩ : ∃ w : Bool, dIx (.lst true [.str "plus", .str "times"]) (.int ((m0 + (i : Int) * (i : Int)) % 2)) = .ok (.str (opW w)) := by
            obtain ⟨d, h1, w, rfl⟩ := dIx_in (o := true) (xs := [.str "plus", .str "times"]) (P := fun d => ∃ w, d = .str (opW w)) (fun d m => by
              simp at m
              rcases m with rfl | rfl
              · exact ⟨true, rfl⟩
              · exact ⟨false, rfl⟩) (Int.emod_nonneg (m0 + (i : Int) * (i : Int)) (show (2 : Int) ≠ 0 by decide)) (Int.emod_lt_of_pos _ (by decide))
            exact ⟨w, h1⟩
          have q1 : mulOk (i : Int) (i : Int) := mulOk_of (by omega) (by omega)
          have q2 : mulOk m1 (i : Int) := mulOk_of (by omega) (by omega)
          have q3 := dMod_int (m0 + (i : Int) * (i : Int)) (show (0 : Int) < 2 by decide)
          have q4 := dMod_int (m1 * (i : Int) + m0) hMp
          have a0 : 0 ≤ (m1 * (i : Int) + m0) % (M : Int) := Int.emod_nonneg _ (by omega)
          have a1 : (m1 * (i : Int) + m0) % (M : Int) < M := Int.emod_lt_of_pos _ hMp
          have b0 : 0 ≤ (i : Int) % 3 := Int.emod_nonneg _ (by decide)
          have b1 : (i : Int) % 3 < 3 := Int.emod_lt_of_pos _ (by decide)
          obtain ⟨A, hA⟩ : ∃ A : Nat, (m1 * (i : Int) + m0) % (M : Int) = A := ⟨((m1 * (i : Int) + m0) % (M : Int)).toNat, by omega⟩
          obtain ⟨B, hB⟩ : ∃ B : Nat, (M : Int) - 1 - (i : Int) % 3 = B := ⟨((M : Int) - 1 - (i : Int) % 3).toNat, by omega⟩
          have hlen : M < 100000 := by omega
          have fin0 : ∀ (s : St) (o6 : Option D), s.Ok M → LI2 (nmD a b c e) more S4 N (i + 1) [none, none, some (.lst true (nmD a b c e)), some (.lst true (more.map .int)), some S4, some (.lst true (ss.map St.d ++ [s.d])), o6, none] := fun s o6 hs =>
            ⟨ss ++ [s], o6, hss.app (by rw [hM]; exact hs) (by omega), by rw [List.length_append, hM, hl]; rfl, by simp⟩
          have f0 := fun o6 => fin0 (.op w A B) o6 (show A < M ∧ B < M from ⟨by omega, by omega⟩)
          rw [hA] at q4
          simp only [St.d] at f0
          by_cases c6 : (i : Int) % 6 = 5
          · obtain ⟨n1, w1, gn1⟩ := nm_in (o := false) ga gb gc ge (j := (m0 + (i : Int)) % 4) (by omega) (by omega)
            obtain ⟨d, h1, s, rfl, hsM⟩ := dIx_in (o := true) (xs := [.tup [.str "input", .str n1], .tup [.str "number", .int (i : Nat)]]) (P := fun d => ∃ s : St, d = s.d ∧ s.Ok M) (fun d m => by
              simp at m
              rcases m with rfl | rfl
              · exact ⟨.inp n1, rfl, gn1⟩
              · exact ⟨.num i, rfl, show i < 10000000000000 by omega⟩) (Int.emod_nonneg (m1 + (i : Int)) (show (2 : Int) ≠ 0 by decide)) (Int.emod_lt_of_pos _ (by decide))
            have f1 := fun o6 => fin0 s o6 hsM
            have q5 := dMod_int (m1 + (i : Int)) (show (0 : Int) < 2 by decide)
            have q6 := dMod_int (m0 + (i : Int)) (show (0 : Int) < 4 by decide)
            have hix : ixN (M + 1) (-1) = some M := ixN_last (M + 1) (by omega)
            have hset : (ss.map St.d ++ [D.tup [.str (opW w), .int (A : Nat), .int (B : Nat)]]).set M s.d = ss.map St.d ++ [s.d] := by
              have := set_last (ss.map St.d) (D.tup [.str (opW w), .int (A : Nat), .int (B : Nat)]) s.d
              rw [List.length_map, hM] at this
              exact this
            simp [e0, e1, dMul_int q1, dMul_int q2, q3, q4, q5, q6, ew, hM, sts_frz, dMod_int, hB, hlen, c6, nmD_frz, w1, h1, s.hard.2, hix, hset, f1]
          · simp [e0, e1, dMul_int q1, dMul_int q2, q3, q4, ew, hM, sts_frz, dMod_int, hB, hlen, c6, f0]
        · obtain ⟨ss, o6, hss, hl, rfl⟩ := hI
          rw [rngL_len] at hl
          generalize hM : ss.length = M at hl
          have hMp : (0 : Int) < M := by omega
          have a0 : 0 ≤ m0 % (M : Int) := Int.emod_nonneg _ (by omega)
          have a1 : m0 % (M : Int) < M := Int.emod_lt_of_pos _ hMp
          have b0 : 0 ≤ m4 % (M : Int) := Int.emod_nonneg _ (by omega)
          have b1 : m4 % (M : Int) < M := Int.emod_lt_of_pos _ hMp
          have q1 := dMod_int m0 hMp
          have q2 := dMod_int m4 hMp
          obtain ⟨A, hA⟩ : ∃ A : Nat, m0 % (M : Int) = A := ⟨(m0 % (M : Int)).toNat, by omega⟩
          obtain ⟨B, hB⟩ : ∃ B : Nat, m4 % (M : Int) = B := ⟨(m4 % (M : Int)).toNat, by omega⟩
          rw [hA] at q1
          rw [hB] at q2
          obtain ⟨k, hk, hk3⟩ : ∃ k : Nat, m2 % 3 = k ∧ k < 3 := ⟨(m2 % 3).toNat, by omega, by omega⟩
          have q3 : dMod (.int m2) (.int 3) = .ok (.int (k : Int)) := by rw [dMod_int _ (by decide), hk]
          have hsl := dSl_tupN [.int (A : Nat), .int (B : Nat)] k
          have htk : [D.int (A : Nat), .int (B : Nat)].take k = outD ([A, B].take k) := by
            unfold outD
            rw [List.map_take]
            rfl
          rw [htk] at hsl
          have hAB : ∀ n ∈ [A, B].take k, n < M := fun n mn => by
            have := List.mem_of_mem_take mn
            simp at this
            omega
          have hkl : ([A, B].take k).length ≤ 2 := by
            rw [List.length_take]
            exact Nat.min_le_right _ _
          have hadd := dAdd_tup (outD outs) (outD ([A, B].take k))
          rw [outD_len, outD_len, if_pos (by omega), outD_app] at hadd
          have hO : Outs M (outs ++ [A, B].take k) := ⟨by rw [List.length_append]; have := ho.1; omega, by rw [List.length_append]; omega, fun n mn => by
            rcases List.mem_append.mp mn with mn | mn
            · have := ho.2.2 n mn
              omega
            · exact hAB n mn⟩
          have hO5 : (outs ++ [A, B].take k).length ≤ 5 := by rw [List.length_append]; omega
          generalize outs ++ [A, B].take k = outs2 at hadd hO hO5
          generalize hT : [A, B].take k = T at hsl hadd
          have fin0 : LP more ss 5 [none, none, some (.lst true (nmD a b c e)), some (.lst true (more.map .int)), some S4, some (.lst true (ss.map St.d)), o6, some (.tup (outD outs2))] := ⟨outs2, _, _, _, by rw [hM]; exact hO, by omega, rfl⟩
          simp only [seqS_ev]
          refine rets_step (P := LP more ss 5) ?_ fun env hP => ?_
          · simp [hS4f, hs4, e0, e2, e4, sts_frz, hM, q1, q2, q3, hsl, hadd, outD_has, fin0]
          · obtain ⟨outs3, o2, o4, o6, hO3, hO10, rfl⟩ := hP
            refine rets_step (P := LP more ss 10) ?_ fun env hP => ?_
            · by_cases c2 : m2 = 3
              · have hlast : ((M : Int) - 1) = ((M - 1 : Nat) : Int) := by omega
                have h1 := dAdd_tup (outD [M - 1]) (outD outs3)
                rw [outD_len, outD_len, if_pos (by simp; omega), outD_app] at h1
                have h1 : dAdd (.tup [.int ((M - 1 : Nat) : Int)]) (.tup (outD outs3)) = .ok (.tup (outD ((M - 1) :: outs3))) := h1
                rw [← hlast] at h1
                rw [hM] at hO3
                have fin1 : ∀ o2 o4 o6, LP more ss 10 [none, none, o2, some (.lst true (more.map .int)), o4, some (.lst true (ss.map St.d)), o6, some (.tup (outD ((M - 1) :: outs3)))] := fun o2 o4 o6 => ⟨(M - 1) :: outs3, o2, o4, o6, by
                  rw [hM]
                  refine ⟨by simp, by simp; omega, fun n mn => ?_⟩
                  rcases List.mem_cons.mp mn with rfl | mn
                  · omega
                  · exact hO3.2.2 n mn, by rw [List.length_cons]; omega, rfl⟩
                simp [e2, c2, sts_frz, hM, outD_frz, h1, outD_has, fin1]
              · have fin1 : ∀ o2 o4 o6, LP more ss 10 [none, none, o2, some (.lst true (more.map .int)), o4, some (.lst true (ss.map St.d)), o6, some (.tup (outD outs3))] := fun o2 o4 o6 => ⟨outs3, o2, o4, o6, hO3, by omega, rfl⟩
                simp [e2, c2, fin1]
            · obtain ⟨outs4, o2, o4, o6, hO4, hO11, rfl⟩ := hP
              have k1 := is_kept_ok (o := false) hss hO4
              have hss1 := hss.take1
              have h1 : (ss.take 1).length = 1 := by rw [List.length_take]; omega
              have k2 : ∀ o, a_law_is_kept [.lst o ((ss.take 1).map St.d), .tup [.int 0]] = .ok (.bl true) := fun o => is_kept_ok (outs := [0]) hss1 ⟨by decide, by decide, fun n mn => by
                rw [h1]
                simp at mn
                omega⟩
              have k3 : ∀ o, a_law_is_kept [.lst o (List.take 1 (ss.map St.d)), .tup [.int 0]] = .ok (.bl true) := fun o => by rw [← List.map_take]; exact k2 o
              have k4 : frzs (List.take 1 (ss.map St.d)) = List.take 1 (ss.map St.d) := by rw [← List.map_take, sts_frz]
              simp [sts_frz, outD_frz, k1, dSl_lst1, k3, k4]
theorem a_law_true (ns : List Int) (h : ns.length ≤ 63) : a_law [.scr ns] = .ok (.bl true) := by
  obtain ⟨d, hd, rfl⟩ := law_ok ns h
  exact hd
end K57
namespace K57
abbrev R : PySem.W.OpenRow := PySem.W.OpenLaw.row PySem.Challenge.rw_shallowsums_k57_program_texts
def loose0 : List PySem.Str := ["_wall", "ShallowError", "BadStep", "BadOutput", "OutputsDiffer", "BadLine", "LETTERS", "NAME_SIGNS", "NAME_LENGTH", "consists_of", "is_name", "frozen", "is_whole", "is_index", "step_is_right", "is_inner", "shifted", "joined_steps", "Straight", "DIGITS", "LONGEST", "is_number", "step_text", "program_text", "read_step", "are_outputs", "read_program", "_law_whole", "_law_cell", "_law_digits"]
def loose1 : List PySem.Str := ["_law_same", "_law_names", "_law_program_sizes", "_law_program", "_law_long_name", "_law_is_kept"]
abbrev hk : PySem.W.Hook := Vs.hookV 4 fa fn more
def ob (s : PySem.W.SharedT) : He.AlD × Bool := Vs.obsV 4 fa fn more (HandSHeadRun.getT s)
theorem ob_eq (s : PySem.W.SharedT) : ob s = hk.obs s.abs := Vs.obsV_hook (HandSHeadRun.getT_eq s)
theorem run (w : PySem.World) : HandSHeadRun.RunEq R (PySem.W.view R.prog [42]) hk ob 6000 (K57.loose0 ++ K57.loose1) w := by
  intro os
  kernel_rfl
end K57
open PySem PySem.W PySem.Calls PyProof.Rows
theorem PySem.Challenge.cw_shallowsums_k57_program_texts_holds : PySem.Challenge.rw_shallowsums_k57_program_texts.Holds := by
  w_on; o_law
  refine HandSHeadRun.head_any (r := OpenLaw.row PySem.Challenge.rw_shallowsums_k57_program_texts) (q := view (OpenLaw.row PySem.Challenge.rw_shallowsums_k57_program_texts).prog [42]) (H := K57.hk) (ob := K57.ob) (M := 6000) (loose := K57.loose0 ++ K57.loose1) (d := HandSHeadRun.topDef (OpenLaw.row PySem.Challenge.rw_shallowsums_k57_program_texts).prog 42) (kwd := []) K57.ob_eq
    (by kernel_rfl) (fun s => by kernel_rfl) K57.run (by kernel_rfl) (by kernel_rfl) (by kernel_rfl) (by rfl) (by first | assumption | decide +kernel) (by decide +kernel) ⟨rfl, rfl, rfl, rfl, rfl, by decide +kernel⟩ ?hw ?hc
  case hw => w_witness2
  case hc =>
    refine Vs.vs_walk (l := PySem.Challenge.rw_shallowsums_k57_program_texts) (most := 63) (lev := 36) (x := "_law_script") rfl (by decide) (by kernel_rfl) ⟨rfl, by decide, by decide⟩ ?F
    intro w mg f h Y G hmg0
    obtain ⟨K, KX, c, hm⟩ := Y
    have e : (HandSHeadRun.topDef (OpenLaw.row PySem.Challenge.rw_shallowsums_k57_program_texts).prog 42).name = ("law" : PySem.Str) := by kernel_rfl
    rw [e] at hmg0
    obtain ⟨fd, hb, hF⟩ := K57.facts (P := (PySem.Challenge.rw_shallowsums_k57_program_texts).prog) (w := w) KX G hmg0 c hm
    exact ⟨K, fd, K57.a_law, KX, hb, K57.a_law_true, hF⟩
