import PyProof.Rows.All
import KE.KeyNested
import HandS.ForMost
import HandS.More
import HandS.Style
import HandS.TupAny
import HandS.Conv
import HandS.IsInst
import HandS.Deep
import KE.KDictKeyed
import HandS.DictComp
import HandS.SortInts
import HandS.TupLen
import KE.SortData
import KE.DataMinMax
import HandS.Small
import KE.GoesEnum
import PySem.Challenge.RW_wholewalks_k51_whole_fewest_hands
import HandS.Head0
import HandS.Head1
import HandS.Head2
import HandS.HeadEnd
import HandS.HeadHook1
import HandS.HeadHook2
set_option Elab.async false
set_option linter.all false
set_option maxRecDepth 100000
/-! The pure machine: values, stores, predicate transformers, step lemmas. -/
namespace Ab
open PySem

/-- a value: tuples by value, everything that may change by its number in the store -/
inductive D where
  | non | bl (b : Bool) | int (i : Int) | str (x : Str) | tup (xs : List D) | ref (n : Nat) | fl (xs : List D)
mutual
def dk : NestedKey → D
  | .none => .non
  | .num i => .int i
  | .text x => .str x
  | .tup ks => .tup (dks ks)
def dks : List NestedKey → List D
  | [] => []
  | k :: ks => dk k :: dks ks
end
theorem dks_map : ∀ ks, dks ks = ks.map dk
  | [] => by simp [dks]
  | k :: ks => by simp [dks, dks_map ks]
mutual
theorem dk_inj : ∀ a b : NestedKey, dk a = dk b → a = b
  | .none, .none, _ => rfl
  | .num a, .num b, h => by simp [dk] at h; rw [h]
  | .text a, .text b, h => by simp [dk] at h; rw [h]
  | .tup a, .tup b, h => by simp only [dk, D.tup.injEq] at h; rw [dks_inj a b h]
  | .none, .num _, h => by simp [dk] at h
  | .none, .text _, h => by simp [dk] at h
  | .none, .tup _, h => by simp [dk] at h
  | .num _, .none, h => by simp [dk] at h
  | .num _, .text _, h => by simp [dk] at h
  | .num _, .tup _, h => by simp [dk] at h
  | .text _, .none, h => by simp [dk] at h
  | .text _, .num _, h => by simp [dk] at h
  | .text _, .tup _, h => by simp [dk] at h
  | .tup _, .none, h => by simp [dk] at h
  | .tup _, .num _, h => by simp [dk] at h
  | .tup _, .text _, h => by simp [dk] at h
theorem dks_inj : ∀ a b : List NestedKey, dks a = dks b → a = b
  | [], [], _ => rfl
  | a :: as, b :: bs, h => by
    simp only [dks, List.cons.injEq] at h
    rw [dk_inj a b h.1, dks_inj as bs h.2]
  | [], _ :: _, h => by simp [dks] at h
  | _ :: _, [], h => by simp [dks] at h
end

/-- what may change -/
inductive MO where
  | lst (xs : List D)
  | dt (lk : Bool) (kvs : List (NestedKey × D))
  | di (lk : Bool) (kvs : List (Int × D))
  | ins (C : Nat) (fs : List (Str × D))

abbrev Store := List MO
abbrev Env := List (Option D)
abbrev DK := D → Store → Prop
abbrev AE := Env → Store → DK → Prop
abbrev AT := Env → Store → (Bool → Store → Prop) → Prop
abbrev AL := Env → Store → (List D → Store → Prop) → Prop
structure AEnds where
  nx : Env → Store → Prop
  rt : DK
  bk : Env → Store → Prop := fun _ _ => False
  ct : Env → Store → Prop := fun _ _ => False
abbrev AS := AEnds → Env → Store → Prop
abbrev P1 := D → Store → DK → Prop
abbrev P2 := D → D → Store → DK → Prop
abbrev P3 := D → D → D → Store → (Store → Prop) → Prop
abbrev ASp := List D → Store → DK → Prop

def LIM : Nat := 16000000

/-! ### reading lists and dicts -/
def ixN (n : Nat) (i : Int) : Option Nat := if 0 ≤ i then (if i < n then some i.toNat else none) else if -(n : Int) ≤ i then some (i + n).toNat else none
def atI {α : Type} (xs : List α) (i : Int) : Option α := (ixN xs.length i).bind fun j => xs[j]?
section
variable {κ : Type} [DecidableEq κ] {α : Type}
def val (kvs : List (κ × α)) (k : κ) : Option α := (kvs.find? fun kv => decide (kv.1 = k)).map (·.2)
def put (kvs : List (κ × α)) (k : κ) (v : α) : List (κ × α) :=
  if kvs.any (fun kv => decide (kv.1 = k)) then kvs.map fun kv => if kv.1 = k then (kv.1, v) else kv else kvs ++ [(k, v)]
end

/-! ### targets -/
inductive Pat where
  | nm (i : Nat) | pr (i j : Nat)
def bindP : Pat → D → Env → (Env → Prop) → Prop
  | .nm i, x, env, Q => Q (env.set i (some x))
  | .pr i j, x, env, Q => ∃ a b, x = .tup [a, b] ∧ Q ((env.set i (some a)).set j (some b))
def Pat.slots : Pat → List Nat
  | .nm i => [i]
  | .pr i j => [i, j]
def wipeE (env : Env) : List Nat → Env
  | [] => env
  | v :: vs => (wipeE env vs).set v none

/-! ### expressions -/
def aVar (i : Nat) : AE := fun env st Q => ∃ d, env[i]? = some (some d) ∧ Q d st
def aC (d : D) : AE := fun _ st Q => Q d st
def aO1 (p : P1) (a : AE) : AE := fun env st Q => a env st fun x st1 => p x st1 Q
def aO2 (p : P2) (a b : AE) : AE := fun env st Q => a env st fun x st1 => b env st1 fun y st2 => p x y st2 Q
def alNil : AL := fun _ st Q => Q [] st
def alCons (a : AE) (l : AL) : AL := fun env st Q => a env st fun x st1 => l env st1 fun xs st2 => Q (x :: xs) st2
def aTup (l : AL) : AE := fun env st Q => l env st fun xs st1 => xs.length ≤ 1000 ∧ Q (.tup xs) st1
def aLst (l : AL) : AE := fun env st Q => l env st fun xs st1 => xs.length ≤ 1000 ∧ Q (.ref st1.length) (st1 ++ [.lst xs])
/-- {}: keys that are tuples, or ints -/
def aDNew : AE := fun _ st Q => Q (.ref st.length) (st ++ [.dt false []]) ∨ Q (.ref st.length) (st ++ [.di false []])
def aCall (sp : ASp) (l : AL) : AE := fun env st Q => l env st fun ds st1 => sp ds st1 Q
/-- C(..) -/
def aMake (C : Nat) (sp : ASp) (l : AL) : AE := fun env st Q => l env st fun ds st1 => sp (.ref st1.length :: ds) (st1 ++ [.ins C []]) fun v st2 => v = .non ∧ Q (.ref st1.length) st2
/-- o.m(..), o an instance of class C that has no attribute m of its own -/
def aMeth (C : Nat) (m : Str) (sp : ASp) (a : AE) (l : AL) : AE := fun env st Q => a env st fun x st1 => ∃ n fs, x = .ref n ∧ st1[n]? = some (.ins C fs) ∧ fs.lookup m = none ∧ l env st1 fun ds st2 => sp (x :: ds) st2 Q
def aFld (cs : List Nat) (f : Str) (a : AE) : AE := fun env st Q => a env st fun x st1 => ∃ n C fs v, x = .ref n ∧ st1[n]? = some (.ins C fs) ∧ C ∈ cs ∧ fs.lookup f = some v ∧ Q v st1
/-- the branch of a test -/
def Br (b : Bool) (A B : Prop) : Prop := (b = true → A) ∧ (b = false → B)
def atB (a : AE) : AT := fun env st Q => a env st fun x st1 => ∃ b, x = .bl b ∧ Q b st1
def atAnd (t u : AT) : AT := fun env st Q => t env st fun b st1 => Br b (u env st1 Q) (Q false st1)
def atOr (t u : AT) : AT := fun env st Q => t env st fun b st1 => Br b (Q true st1) (u env st1 Q)
def atNot (t : AT) : AT := fun env st Q => t env st fun b st1 => Q (!b) st1
def aAndV (a b : AE) : AE := fun env st Q => a env st fun x st1 => ∃ c, x = .bl c ∧ Br c (b env st1 Q) (Q (.bl false) st1)
def aOrV (a b : AE) : AE := fun env st Q => a env st fun x st1 => ∃ c, x = .bl c ∧ Br c (Q (.bl true) st1) (b env st1 Q)
def aNotV (a : AE) : AE := fun env st Q => a env st fun x st1 => ∃ c, x = .bl c ∧ Q (.bl (!c)) st1
def aIfE (t : AT) (a b : AE) : AE := fun env st Q => t env st fun c st1 => Br c (a env st1 Q) (b env st1 Q)
/-- a op b op' c -/
def aChain (p q : P2) (a b c : AE) : AE := fun env st Q => a env st fun x st1 => b env st1 fun y st2 => p x y st2 fun z st3 => ∃ k, z = .bl k ∧ Br k (c env st3 fun w st4 => q y w st4 Q) (Q (.bl false) st3)

/-! ### slices -/
abbrev AO := Env → Store → (Option Int → Store → Prop) → Prop
def aoNone : AO := fun _ st Q => Q none st
def aoSome (a : AE) : AO := fun env st Q => a env st fun x st1 => ∃ i, x = .int i ∧ Q (some i) st1
def sIx (n d : Nat) : Option Int → Nat
  | none => d
  | some v => if v < 0 then (v + (n : Int)).toNat else min v.toNat n
def cut {α : Type} (xs : List α) (lo hi : Option Int) : List α := (xs.drop (sIx xs.length 0 lo)).take (sIx xs.length xs.length hi - sIx xs.length 0 lo)
def aSl (a : AE) (lo hi : AO) : AE := fun env st Q => a env st fun x st1 => lo env st1 fun l st2 => hi env st2 fun h st3 =>
  (∃ xs, x = .tup xs ∧ Q (.tup (cut xs l h)) st3) ∨ (∃ xs, x = .fl xs ∧ Q (.ref st3.length) (st3 ++ [.lst (cut xs l h)])) ∨ (∃ n xs, x = .ref n ∧ st3[n]? = some (.lst xs) ∧ Q (.ref st3.length) (st3 ++ [.lst (cut xs l h)]))
/-- xs[::-1] -/
def aRev (a : AE) : AE := fun env st Q => a env st fun x st1 => ∃ n xs, x = .ref n ∧ st1[n]? = some (.lst xs) ∧ Q (.ref st1.length) (st1 ++ [.lst xs.reverse])

/-! ### operators by values -/
def pAdd : P2 := fun x y st Q => (∃ i j, x = .int i ∧ y = .int j ∧ Q (.int (i + j)) st) ∨
  (∃ xs ys, x = .tup xs ∧ y = .tup ys ∧ xs.length + ys.length ≤ LIM ∧ Q (.tup (xs ++ ys)) st) ∨
  (∃ n k xs ys, x = .ref n ∧ y = .ref k ∧ st[n]? = some (.lst xs) ∧ st[k]? = some (.lst ys) ∧ xs.length + ys.length ≤ LIM ∧ Q (.ref st.length) (st ++ [.lst (xs ++ ys)]))
def pSub : P2 := fun x y st Q => ∃ i j, x = .int i ∧ y = .int j ∧ Q (.int (i - j)) st
def pMul : P2 := fun x y st Q => (∃ i j, x = .int i ∧ y = .int j ∧ ((-(2 ^ 64) < i ∧ i < 2 ^ 64) ∨ (-(2 ^ 64) < j ∧ j < 2 ^ 64)) ∧ Q (.int (i * j)) st) ∨
  (∃ n k xs, x = .ref n ∧ y = .int k ∧ st[n]? = some (.lst xs) ∧ 0 ≤ k ∧ k ≤ 100000 ∧ xs.length ≤ 100 ∧ Q (.ref st.length) (st ++ [.lst (List.replicate k.toNat xs).flatten]))
def pFdiv : P2 := fun x y st Q => ∃ i j, x = .int i ∧ y = .int j ∧ 0 < j ∧ j < 1073741824 ∧ Q (.int (i / j)) st
def pMod : P2 := fun x y st Q => ∃ i j, x = .int i ∧ y = .int j ∧ 0 < j ∧ Q (.int (i % j)) st
def pPow : P2 := fun x y st Q => ∃ i j, x = .int i ∧ y = .int j ∧ 0 ≤ j ∧ j ≤ 1000000 ∧ i.natAbs < 2 ^ 64 ∧ Q (.int (i ^ j.toNat)) st
def pNeg : P1 := fun x st Q => ∃ i, x = .int i ∧ Q (.int (-i)) st
def pCmp (f : Int → Int → Bool) : P2 := fun x y st Q => ∃ i j, x = .int i ∧ y = .int j ∧ Q (.bl (f i j)) st
abbrev pLt : P2 := pCmp fun i j => decide (i < j)
abbrev pLe : P2 := pCmp fun i j => decide (i ≤ j)
abbrev pGt : P2 := pCmp fun i j => decide (j < i)
abbrev pGe : P2 := pCmp fun i j => decide (j ≤ i)
mutual
/-- texts of plain signs -/
def keyOk : NestedKey → Bool
  | .text x => x.cps.all (· < 128)
  | .tup ks => keysOk ks
  | _ => true
def keysOk : List NestedKey → Bool
  | [] => true
  | k :: ks => keyOk k && keysOk ks
end
/-- data without references (and without truth values), as a key is -/
def pEq : P2 := fun x y st Q => (∃ i j, x = .int i ∧ y = .int j ∧ Q (.bl (decide (i = j))) st) ∨ (∃ i j, x = .str i ∧ y = .str j ∧ Q (.bl (decide (i = j))) st) ∨
  (∃ a b : NestedKey, x = dk a ∧ y = dk b ∧ a.depth ≤ 8 ∧ b.depth ≤ 8 ∧ keyOk a = true ∧ keyOk b = true ∧ Q (.bl (decide (a = b))) st)
def pNe : P2 := fun x y st Q => (∃ i j, x = .int i ∧ y = .int j ∧ Q (.bl (!decide (i = j))) st) ∨ (∃ i j, x = .str i ∧ y = .str j ∧ Q (.bl (!decide (i = j))) st) ∨
  (∃ a b : NestedKey, x = dk a ∧ y = dk b ∧ a.depth ≤ 8 ∧ b.depth ≤ 8 ∧ keyOk a = true ∧ keyOk b = true ∧ Q (.bl (!decide (a = b))) st)
/-- what a value is found in, by ==: a list, a tuple -/
def items (st : Store) (y : D) (xs : List D) : Prop := y = .tup xs ∨ ∃ n, y = .ref n ∧ st[n]? = some (.lst xs)
def pInB (neg : Bool) : P2 := fun x y st Q =>
  (∃ (a : NestedKey) (ks : List NestedKey), x = dk a ∧ items st y (ks.map dk) ∧ a.depth ≤ 7 ∧ (∀ k ∈ ks, k.depth ≤ 7) ∧ Q (.bl (if neg then !decide (a ∈ ks) else decide (a ∈ ks))) st) ∨
  (∃ (k : NestedKey) (n : Nat) (lk : Bool) (kvs : List (NestedKey × D)), x = dk k ∧ k.depth ≤ 8 ∧ (∃ ks, k = .tup ks) ∧ y = .ref n ∧ st[n]? = some (.dt lk kvs) ∧ Q (.bl (if neg then !(val kvs k).isSome else (val kvs k).isSome)) st) ∨
  (∃ c s, x = .str ⟨#[c]⟩ ∧ y = .str s ∧ Q (.bl (if neg then !decide (c ∈ s.cps.toList) else decide (c ∈ s.cps.toList))) st)
abbrev pIn : P2 := pInB false
abbrev pNotIn : P2 := pInB true
def isNon : D → Bool
  | .non => true
  | _ => false
def pIs : P2 := fun x y st Q => y = .non ∧ Q (.bl (isNon x)) st
def pIsNot : P2 := fun x y st Q => (y = .non ∧ Q (.bl (!isNon x)) st) ∨ (∃ a b, x = .bl a ∧ y = .bl b ∧ Q (.bl (!decide (a = b))) st)
def pIx : P2 := fun x y st Q => (∃ xs i v, x = .tup xs ∧ y = .int i ∧ atI xs i = some v ∧ Q v st) ∨
  (∃ n xs i v, x = .ref n ∧ y = .int i ∧ st[n]? = some (.lst xs) ∧ atI xs i = some v ∧ Q v st) ∨
  (∃ n lk kvs k v, x = .ref n ∧ y = dk k ∧ k.depth ≤ 8 ∧ (∃ ks, k = .tup ks) ∧ st[n]? = some (.dt lk kvs) ∧ val kvs k = some v ∧ Q v st) ∨
  (∃ s i c, x = .str s ∧ y = .int i ∧ s.length ≤ LIM ∧ atI s.cps.toList i = some c ∧ Q (.str ⟨#[c]⟩) st)

/-! ### built-ins by values -/
def pLen : P1 := fun x st Q => (∃ xs, x = .tup xs ∧ Q (.int xs.length) st) ∨ (∃ n xs, x = .ref n ∧ st[n]? = some (.lst xs) ∧ Q (.int xs.length) st) ∨
  (∃ n lk kvs, x = .ref n ∧ st[n]? = some (.dt lk kvs) ∧ kvs.length ≤ LIM ∧ Q (.int kvs.length) st) ∨ (∃ s, x = .str s ∧ s.length ≤ LIM ∧ Q (.int s.length) st)
inductive Ki where
  | int | bool | str | tuple
def pIsi (k : Ki) : P1 := fun x st Q => match k, x with
  | .int, .int _ => Q (.bl true) st
  | .bool, .int _ => Q (.bl false) st
  | .str, .str _ => Q (.bl true) st
  | .tuple, .tup _ => Q (.bl true) st
  | _, _ => False
def pAll : P1 := fun x st Q => ∃ (n : Nat) (bs : List Bool), x = .ref n ∧ st[n]? = some (.lst (bs.map .bl)) ∧ Q (.bl (bs.all id)) st
def pAny : P1 := fun x st Q => ∃ (n : Nat) (bs : List Bool), x = .ref n ∧ st[n]? = some (.lst (bs.map .bl)) ∧ Q (.bl (bs.any id)) st
def pTuple : P1 := fun x st Q => ∃ xs, items st x xs ∧ Q (.tup xs) st
/-- what list() and sorted() read -/
def source (st : Store) (x : D) (xs : List D) : Prop := items st x xs ∨ (∃ n lk kvs, x = .ref n ∧ st[n]? = some (.dt lk kvs) ∧ xs = kvs.map fun p => dk p.1) ∨
  (∃ n lk kvs, x = .ref n ∧ st[n]? = some (.di lk kvs) ∧ xs = kvs.map fun p => .int p.1)
def pList : P1 := fun x st Q => ∃ xs, source st x xs ∧ xs.length ≤ LIM ∧ Q (.ref st.length) (st ++ [.lst xs])
/-- the kinds of things that are sorted -/
inductive Ty where
  | int | seq (t : Ty) | pr (a b : Ty)
def HasTy : Ty → D → Prop
  | .int, .int _ => True
  | .seq t, .tup xs => ∀ x ∈ xs, HasTy t x
  | .pr a b, .tup [x, y] => HasTy a x ∧ HasTy b y
  | _, _ => False
def Ty.ok : Ty → Bool
  | .int => true
  | .pr _ _ => true
  | .seq _ => false
def Ty.dep : Ty → Nat
  | .int => 0
  | .seq t => t.dep + 1
  | .pr a b => max a.dep b.dep + 1
def pSorted : P1 := fun x st Q => ∃ xs t, source st x xs ∧ xs.length ≤ LIM ∧ Ty.ok t = true ∧ t.dep ≤ 8 ∧ (∀ y ∈ xs, HasTy t y) ∧
  ∀ ys, ys.Perm xs → (∀ is : List Int, xs = is.map .int → ∃ js : List Int, ys = js.map .int ∧ js.Pairwise (· ≤ ·)) → Q (.ref st.length) (st ++ [.lst ys])
def pInt : P1 := fun x st Q => ∃ i, x = .int i ∧ Q (.int i) st
def pAbs : P1 := fun x st Q => ∃ i, x = .int i ∧ Q (.int (if i < 0 then -i else i)) st
def pSum : P1 := fun x st Q => ∃ (n : Nat) (is : List Int), x = .ref n ∧ st[n]? = some (.lst (is.map .int)) ∧ Q (.int is.sum) st
def pMax : P1 := fun x st Q => ∃ is : List Int, x = .tup (is.map .int) ∧ 0 < is.length ∧ ∀ m, m ∈ is → (∀ y, y ∈ is → y ≤ m) → Q (.int m) st
def pMax2 : P2 := fun x y st Q => ∃ i j, x = .int i ∧ y = .int j ∧ Q (.int (if j > i then j else i)) st
def pMin2 : P2 := fun x y st Q => ∃ i j, x = .int i ∧ y = .int j ∧ Q (.int (if j < i then j else i)) st
def pAppend : P2 := fun x y st Q => ∃ n xs, x = .ref n ∧ st[n]? = some (.lst xs) ∧ xs.length < LIM ∧ Q .non (st.set n (.lst (xs ++ [y])))
def pExtend : P2 := fun x y st Q => ∃ n k xs ys, x = .ref n ∧ y = .ref k ∧ st[n]? = some (.lst xs) ∧ st[k]? = some (.lst ys) ∧ xs.length + ys.length ≤ LIM ∧ Q .non (st.set n (.lst (xs ++ ys)))
def pPop : P1 := fun x st Q => ∃ n xs y, x = .ref n ∧ st[n]? = some (.lst (xs ++ [y])) ∧ Q y (st.set n (.lst xs))
def pPopAt : P2 := fun x i st Q => ∃ n xs y, x = .ref n ∧ i = .int 0 ∧ st[n]? = some (.lst (y :: xs)) ∧ Q y (st.set n (.lst xs))
/-- no two of these keys hash alike -/
def apart (ks : List NestedKey) : Prop := ∀ w : World, (ks.map (NestedKey.hash w)).Nodup
/-- d.update(e) -/
def pUpdate : P2 := fun x y st Q => ∃ n k lk kvs more, x = .ref n ∧ y = .ref k ∧ n ≠ k ∧ st[n]? = some (.dt false kvs) ∧ st[k]? = some (.dt lk more) ∧ (kvs ≠ [] ∨ apart (more.map (·.1))) ∧
  kvs.length + more.length ≤ LIM ∧ Q .non (st.set n (.dt false (more.foldl (fun acc kv => put acc kv.1 kv.2) kvs)))
/-- o.update(e), the receiver known first -/
def aUpd (a b : AE) : AE := fun env st Q => a env st fun x st1 => (∃ n kvs, x = .ref n ∧ st1[n]? = some (.dt false kvs)) ∧ b env st1 fun y st2 => pUpdate x y st2 Q
/-- o.m(e), o a list that is known first -/
def aM1 (p : P2) (a b : AE) : AE := fun env st Q => a env st fun x st1 => (∃ n xs, x = .ref n ∧ st1[n]? = some (.lst xs)) ∧ b env st1 fun y st2 => p x y st2 Q
/-- o[i] = v -/
def pSet : P3 := fun o i v st Q => (∃ n k xs j, o = .ref n ∧ i = .int k ∧ st[n]? = some (.lst xs) ∧ ixN xs.length k = some j ∧ Q (st.set n (.lst (xs.set j v)))) ∨
  (∃ n kvs k, o = .ref n ∧ i = dk k ∧ k.depth ≤ 8 ∧ (∃ ks, k = .tup ks) ∧ st[n]? = some (.dt false kvs) ∧ kvs.length < LIM ∧ Q (st.set n (.dt false (put kvs k v)))) ∨
  (∃ n kvs k, o = .ref n ∧ i = .int k ∧ st[n]? = some (.di false kvs) ∧ kvs.length < LIM ∧ Q (st.set n (.di false (put kvs k v))))

/-! ### what is walked -/
structure Itm where
  xs : List D
  chk : Store → Prop
abbrev ASrc := Env → Store → (Itm → Store → Prop) → Prop
def chars (s : Str) : List D := s.cps.toList.map fun c => .str ⟨#[c]⟩
def sItems (a : AE) : ASrc := fun env st R => a env st fun x st1 => (∃ xs, x = .tup xs ∧ R ⟨xs, fun _ => True⟩ st1) ∨
  (∃ n xs, x = .ref n ∧ st1[n]? = some (.lst xs) ∧ R ⟨xs, fun st => st[n]? = some (.lst xs)⟩ st1) ∨ (∃ s, x = .str s ∧ R ⟨chars s, fun _ => True⟩ st1)
def rng (lo : Int) (n : Nat) : List D := (List.range n).map fun (i : Nat) => .int (lo + (i : Int))
def sRng1 (l : AL) : ASrc := fun env st R => l env st fun ds st1 => ∃ j, ds = [.int j] ∧ -(2 ^ 62) ≤ j ∧ j < 2 ^ 62 ∧ R ⟨rng 0 j.toNat, fun _ => True⟩ st1
def sRng2 (l : AL) : ASrc := fun env st R => l env st fun ds st1 => ∃ i j, ds = [.int i, .int j] ∧ (-(2 ^ 62) ≤ i ∧ i < 2 ^ 62 ∧ -(2 ^ 62) ≤ j ∧ j < 2 ^ 62) ∧ R ⟨rng i (j - i).toNat, fun _ => True⟩ st1
def enumD (xs : List D) : List D := (List.range xs.length).map fun (i : Nat) => .tup [.int (i : Int), xs.getD i .non]
/-- enumerate of a tuple -/
def sEnum (a : AE) : ASrc := fun env st R => a env st fun x st1 => ∃ xs, x = .tup xs ∧ R ⟨enumD xs, fun _ => True⟩ st1

/-- list(range(..)) -/
def aListR1 (a : AE) : AE := fun env st Q => a env st fun x st1 => ∃ j, x = .int j ∧ 0 ≤ j ∧ j ≤ (LIM : Int) ∧ Q (.ref st1.length) (st1 ++ [.lst (rng 0 j.toNat)])
def aListR2 (a b : AE) : AE := fun env st Q => a env st fun x st1 => b env st1 fun y st2 => ∃ i j, x = .int i ∧ y = .int j ∧ 0 ≤ i ∧ i ≤ (LIM : Int) ∧ 0 ≤ j ∧ j ≤ (LIM : Int) ∧ Q (.ref st2.length) (st2 ++ [.lst (rng i (j - i).toNat)])

/-! ### comprehensions -/
def lcRun (it : Itm) (p : Pat) (t : AT) (e : AE) (vs : List Nat) : AE := fun env st Q => ∃ I : Nat → List D → Store → Prop, I 0 [] st ∧ it.xs.length ≤ LIM ∧
  (∀ i acc st, I i acc st → it.chk st) ∧
  (∀ i x acc st, it.xs[i]? = some x → I i acc st → bindP p x (wipeE env vs) fun env' => t env' st fun b st2 => Br b (e env' st2 fun y st3 => I (i + 1) (acc ++ [y]) st3) (I (i + 1) acc st2)) ∧
  (∀ acc st, I it.xs.length acc st → Q (.ref st.length) (st ++ [.lst acc]))
def aLc (src : ASrc) (p : Pat) (t : AT) (e : AE) (vs : List Nat) : AE := fun env st Q => src env st fun it st1 => lcRun it p t e vs env st1 Q
/-- over a dict: it is locked while it is walked -/
def aLcD (a : AE) (p : Pat) (t : AT) (e : AE) (vs : List Nat) : AE := fun env st Q => ∃ (n : Nat) (kvs : List (NestedKey × D)), st[n]? = some (.dt false kvs) ∧ a env (st.set n (.dt true kvs)) fun x st1 => x = .ref n ∧
  lcRun ⟨kvs.map fun q => dk q.1, fun _ => True⟩ p t e vs env st1 fun r st' => Q r (st'.set n (.dt false kvs))
/-- .. of a name or the like: a list, a tuple, a dict -/
def aLcU (a : AE) (p : Pat) (t : AT) (e : AE) (vs : List Nat) : AE := fun env st Q => aLc (sItems a) p t e vs env st Q ∨ aLcD a p t e vs env st Q
/-- {k: v for .. in ..}, keys tuples -/
def dcRun (it : Itm) (p : Pat) (k e : AE) (vs : List Nat) : AE := fun env st Q => ∃ I : Nat → List (NestedKey × D) → Store → Prop, I 0 [] st ∧ it.xs.length ≤ LIM ∧
  (∀ i kvs st, I i kvs st → it.chk st) ∧
  (∀ i x kvs st, it.xs[i]? = some x → I i kvs st → bindP p x (wipeE env vs) fun env' => k env' st fun y st2 => e env' st2 fun z st3 => ∃ q : NestedKey, y = dk q ∧ q.depth ≤ 8 ∧ (∃ ks, q = .tup ks) ∧ I (i + 1) (put kvs q z) st3) ∧
  (∀ kvs st, I it.xs.length kvs st → Q (.ref st.length) (st ++ [.dt false kvs]))
def aDc (src : ASrc) (p : Pat) (k e : AE) (vs : List Nat) : AE := fun env st Q => src env st fun it st1 => dcRun it p k e vs env st1 Q
def aDcD (a : AE) (p : Pat) (k e : AE) (vs : List Nat) : AE := fun env st Q => ∃ (n : Nat) (kvs : List (NestedKey × D)), st[n]? = some (.dt false kvs) ∧ a env (st.set n (.dt true kvs)) fun x st1 => x = .ref n ∧
  dcRun ⟨kvs.map fun q => dk q.1, fun _ => True⟩ p k e vs env st1 fun r st' => Q r (st'.set n (.dt false kvs))
def aDcU (a : AE) (p : Pat) (k e : AE) (vs : List Nat) : AE := fun env st Q => aDc (sItems a) p k e vs env st Q ∨ aDcD a p k e vs env st Q
/-- [e for p in src for p1 in src1]: the second clause -/
def lc2In (N : List D → Store → Prop) (p1 : Pat) (e : AE) (vs1 : List Nat) (acc : List D) (env : Env) : Itm → Store → Prop := fun it1 st2 => ∃ J : Nat → List D → Store → Prop, J 0 acc st2 ∧ it1.xs.length ≤ 1000 ∧
  (∀ j acc st, J j acc st → it1.chk st) ∧
  (∀ j y acc st, it1.xs[j]? = some y → J j acc st → bindP p1 y (wipeE env vs1) fun env' => e env' st fun z st3 => J (j + 1) (acc ++ [z]) st3) ∧
  (∀ acc st, J it1.xs.length acc st → N acc st)
def lc2Run (it : Itm) (p : Pat) (src1 : ASrc) (p1 : Pat) (e : AE) (vs vs1 : List Nat) : AE := fun env st Q => ∃ I : Nat → List D → Store → Prop, I 0 [] st ∧ it.xs.length ≤ 1000 ∧
  (∀ i acc st, I i acc st → it.chk st) ∧
  (∀ i x acc st, it.xs[i]? = some x → I i acc st → bindP p x (wipeE env vs) fun env' => src1 env' st (lc2In (I (i + 1)) p1 e vs1 acc env')) ∧
  (∀ acc st, I it.xs.length acc st → Q (.ref st.length) (st ++ [.lst acc]))
def aLc2 (src : ASrc) (p : Pat) (src1 : ASrc) (p1 : Pat) (e : AE) (vs vs1 : List Nat) : AE := fun env st Q => src env st fun it st1 => lc2Run it p src1 p1 e vs vs1 env st1 Q

/-! ### targets of an assignment -/
abbrev AG := D → Env → Store → (Env → Store → Prop) → Prop
def agNm (i : Nat) : AG := fun x env st Q => Q (env.set i (some x)) st
def agTup (g h : AG) : AG := fun x env st Q => ∃ a b, x = .tup [a, b] ∧ g a env st fun env1 st1 => h b env1 st1 Q
def agSub (o i : AE) : AG := fun v env st Q => o env st fun x st1 => i env st1 fun y st2 => pSet x y v st2 fun st3 => Q env st3

/-! ### statements -/
def aNext : AS := fun E env st => E.nx env st
def aSeq (s t : AS) : AS := fun E env st => s { E with nx := t E } env st
def aAsg (a : AE) (g : AG) : AS := fun E env st => a env st fun x st1 => g x env st1 E.nx
/-- a, b = x, y with plain names -/
def aPar (i j : Nat) (l : AL) : AS := fun E env st => l env st fun ds st1 => ∃ x y, ds = [x, y] ∧ E.nx ((env.set i (some x)).set j (some y)) st1
def putF (f : Str) (v : D) : List (Str × D) → List (Str × D)
  | [] => [(f, v)]
  | (g, x) :: r => if g = f then (g, v) :: r else (g, x) :: putF f v r
/-- o.f = v -/
def aSetF (cs : List Nat) (o : AE) (f : Str) (a : AE) : AS := fun E env st => a env st fun v st1 => o env st1 fun x st2 => ∃ n C fs, x = .ref n ∧ st2[n]? = some (.ins C fs) ∧ C ∈ cs ∧ fs.length < 100 ∧ E.nx env (st2.set n (.ins C (putF f v fs)))
def aExp (a : AE) : AS := fun E env st => a env st fun _ st1 => E.nx env st1
def aIf (t : AT) (s u : AS) : AS := fun E env st => t env st fun b st1 => Br b (s E env st1) (u E env st1)
def aRet (a : AE) : AS := fun E env st => a env st E.rt
def aRetN : AS := fun E _ st => E.rt .non st
def aBrk : AS := fun E env st => E.bk env st
def aCnt : AS := fun E env st => E.ct env st
def aNever : AS := fun _ _ _ => False
def aNeverE : AE := fun _ _ _ => False
def forRun (it : Itm) (p : Pat) (b : AS) : AS := fun E env st => ∃ I : Nat → Env → Store → Prop, I 0 env st ∧ (∀ i env st, I i env st → it.chk st) ∧
  (∀ i x env st, it.xs[i]? = some x → I i env st → bindP p x env fun env' => b { nx := I (i + 1), ct := I (i + 1), bk := E.nx, rt := E.rt } env' st) ∧
  (∀ env st, I it.xs.length env st → E.nx env st)
def aFor (src : ASrc) (p : Pat) (b : AS) : AS := fun E env st => src env st fun it st1 => forRun it p b E env st1
def unlock (n : Nat) (kvs : List (NestedKey × D)) (E : AEnds) : AEnds where
  nx := fun env st => E.nx env (st.set n (.dt false kvs))
  bk := fun env st => E.bk env (st.set n (.dt false kvs))
  ct := fun env st => E.ct env (st.set n (.dt false kvs))
  rt := fun d st => E.rt d (st.set n (.dt false kvs))
def aForD (a : AE) (p : Pat) (b : AS) : AS := fun E env st => ∃ (n : Nat) (kvs : List (NestedKey × D)), st[n]? = some (.dt false kvs) ∧ a env (st.set n (.dt true kvs)) fun x st1 => x = .ref n ∧
  forRun ⟨kvs.map fun q => dk q.1, fun _ => True⟩ p b (unlock n kvs E) env st1
def aForU (a : AE) (p : Pat) (b : AS) : AS := fun E env st => aFor (sItems a) p b E env st ∨ aForD a p b E env st
def aWhile (t : AT) (b : AS) : AS := fun E env st => ∃ I : Nat → Env → Store → Prop, (∃ m, I m env st) ∧ ∀ m env st, I m env st →
  t env st fun c st1 => Br c (b { nx := fun e s => ∃ m', m' < m ∧ I m' e s, ct := fun e s => ∃ m', m' < m ∧ I m' e s, bk := E.nx, rt := E.rt } env st1) (E.nx env st1)
/-- a def's body: n names in all -/
def runDef (n : Nat) (b : AS) : ASp := fun ds st Q => b { nx := fun _ st' => Q .non st', rt := Q } (ds.map some ++ List.replicate (n - ds.length) none) st
end Ab

set_option Elab.async false
set_option linter.all false
set_option maxRecDepth 100000
set_option maxHeartbeats 2000000
/-! How the pure machine's values and stores stand in the abstract heap; what a lifted transformer is; the rules that need no operator. -/
namespace Ab
open PySem PySem.Spec PyProof.Rows L2

structure G where
  P : Program
  w : World
  K : PySem.W.Frag
abbrev gX (X : Cx) : G := ⟨X.prog, X.w, X.K⟩

/-- a list that nobody changes -/
def Fz (g : G) (H : Hp) (a : Addr) (vs : List V) : Prop := (∃ o, H a = some (.frz o (.lst vs))) ∨
  ∃ (o : Obj) (its : Array Value) (n : Nat), g.K.lookup a = some o ∧ o.cls = .type "list" ∧ o.dict = none ∧ o.data = .seq its n ∧ its.size ≤ sizeLine ∧ Vals vs its.toList
theorem Fz.sq {g : G} {H : Hp} {a : Addr} {vs : List V} (h : Fz g H a vs) : SqL g.K H a vs := by
  rcases h with ⟨o, h⟩ | h
  · exact .inl (.inr ⟨o, h⟩)
  · exact .inr h

mutual
inductive Rp (g : G) (m : List Addr) (H : Hp) : V → D → Prop
  | non : Rp g m H .non .non
  | bl (b : Bool) : Rp g m H (.bl b) (.bl b)
  | int (i : Int) : Rp g m H (.int i) (.int i)
  | str (x : Str) : Rp g m H (.str x) (.str x)
  | tup {a : Addr} {vs : List V} {xs : List D} : SqT g.K H a vs → RpL g m H vs xs → Rp g m H (.ref a) (.tup xs)
  | ref {a : Addr} {n : Nat} : m[n]? = some a → Rp g m H (.ref a) (.ref n)
  | fl {a : Addr} {vs : List V} {xs : List D} : Fz g H a vs → RpL g m H vs xs → Rp g m H (.ref a) (.fl xs)
inductive RpL (g : G) (m : List Addr) (H : Hp) : List V → List D → Prop
  | nil : RpL g m H [] []
  | cons {v : V} {vs : List V} {d : D} {ds : List D} : Rp g m H v d → RpL g m H vs ds → RpL g m H (v :: vs) (d :: ds)
end

section
variable {g : G} {m m' m1 m2 : List Addr} {H H' H1 H2 : Hp} {v : V} {d : D} {vs : List V} {ds : List D}
theorem RpL.length : ∀ {vs : List V} {ds : List D}, RpL g m H vs ds → vs.length = ds.length
  | _, _, .nil => rfl
  | _, _, .cons _ t => by simp [RpL.length t]
theorem RpL.get : ∀ {vs : List V} {ds : List D} {i : Nat} {d : D}, RpL g m H vs ds → ds[i]? = some d → ∃ v, vs[i]? = some v ∧ Rp g m H v d
  | _, _, _, _, .nil, e => by simp at e
  | _, _, 0, _, .cons r _, e => by simp at e; subst e; exact ⟨_, rfl, r⟩
  | _, _, i + 1, d, .cons _ t, e => by
    obtain ⟨v, h1, h2⟩ := RpL.get (i := i) (d := d) t (by simpa using e)
    exact ⟨v, by simpa using h1, h2⟩
theorem RpL.getV : ∀ {vs : List V} {ds : List D} {i : Nat} {v : V}, RpL g m H vs ds → vs[i]? = some v → ∃ d, ds[i]? = some d ∧ Rp g m H v d
  | _, _, _, _, .nil, e => by simp at e
  | _, _, 0, _, .cons r _, e => by simp at e; subst e; exact ⟨_, rfl, r⟩
  | _, _, i + 1, d, .cons _ t, e => by
    obtain ⟨v, h1, h2⟩ := RpL.getV (i := i) (v := d) t (by simpa using e)
    exact ⟨v, by simpa using h1, h2⟩
theorem RpL.append : ∀ {vs ws : List V} {ds es : List D}, RpL g m H vs ds → RpL g m H ws es → RpL g m H (vs ++ ws) (ds ++ es)
  | _, _, _, _, .nil, s => s
  | _, _, _, _, .cons r t, s => .cons r (RpL.append t s)
theorem RpL.one (h : Rp g m H v d) : RpL g m H [v] [d] := .cons h .nil
theorem RpL.set (h : Rp g m H v d) : ∀ {vs : List V} {ds : List D} (i : Nat), RpL g m H vs ds → RpL g m H (vs.set i v) (ds.set i d)
  | _, _, _, .nil => .nil
  | _, _, 0, .cons _ t => .cons h t
  | _, _, i + 1, .cons q t => .cons q (RpL.set h i t)
theorem RpL.take : ∀ {vs : List V} {ds : List D} (n : Nat), RpL g m H vs ds → RpL g m H (vs.take n) (ds.take n)
  | _, _, 0, _ => .nil
  | _, _, _ + 1, .nil => .nil
  | _, _, n + 1, .cons r t => .cons r (RpL.take n t)
theorem RpL.drop : ∀ {vs : List V} {ds : List D} (n : Nat), RpL g m H vs ds → RpL g m H (vs.drop n) (ds.drop n)
  | _, _, 0, r => r
  | _, _, _ + 1, .nil => .nil
  | _, _, n + 1, .cons _ t => RpL.drop n t
theorem RpL.reverse : ∀ {vs : List V} {ds : List D}, RpL g m H vs ds → RpL g m H vs.reverse ds.reverse
  | _, _, .nil => .nil
  | _, _, .cons r t => by rw [List.reverse_cons, List.reverse_cons]; exact (RpL.reverse t).append (.one r)
theorem RpL.dropLast : ∀ {vs : List V} {ds : List D}, RpL g m H vs ds → RpL g m H vs.dropLast ds.dropLast
  | _, _, .nil => .nil
  | _, _, .cons r .nil => .nil
  | _, _, .cons r (.cons q t) => .cons r (RpL.dropLast (.cons q t))
theorem RpL.ints : ∀ {vs : List V} {is : List Int}, RpL g m H vs (is.map .int) → vs = is.map .int
  | [], [], _ => rfl
  | _ :: _, [], h => by cases h
  | [], _ :: _, h => by cases h
  | v :: vs, i :: is, h => by
    cases h with
    | cons r t =>
      cases r
      rw [RpL.ints t]; rfl
theorem RpL.ofInts : ∀ (is : List Int), RpL g m H (is.map .int) (is.map .int)
  | [] => .nil
  | i :: is => .cons (.int i) (RpL.ofInts is)
theorem RpL.bls : ∀ {vs : List V} {bs : List Bool}, RpL g m H vs (bs.map .bl) → vs = bs.map .bl
  | [], [], _ => rfl
  | _ :: _, [], h => by cases h
  | [], _ :: _, h => by cases h
  | v :: vs, i :: is, h => by
    cases h with
    | cons r t =>
      cases r
      rw [RpL.bls t]; rfl
theorem RpL.rep (h : RpL g m H vs ds) : ∀ k : Nat, RpL g m H (List.replicate k vs).flatten (List.replicate k ds).flatten
  | 0 => .nil
  | k + 1 => by
    rw [List.replicate_succ, List.replicate_succ, List.flatten_cons, List.flatten_cons]
    exact h.append (RpL.rep h k)

/-- what values lean on -/
structure Mon (g : G) (m : List Addr) (H : Hp) (m' : List Addr) (H' : Hp) : Prop where
  ix : ∀ (n : Nat) (a : Addr), m[n]? = some a → m'[n]? = some a
  tp : ∀ a vs, SqT g.K H a vs → SqT g.K H' a vs
  fz : ∀ a vs, Fz g H a vs → Fz g H' a vs
mutual
theorem Rp.mono (M : Mon g m H m' H') : ∀ {d : D} {v : V}, Rp g m H v d → Rp g m' H' v d
  | .non, _, h => by cases h; exact .non
  | .bl _, _, h => by cases h; exact .bl _
  | .int _, _, h => by cases h; exact .int _
  | .str _, _, h => by cases h; exact .str _
  | .tup xs, _, h => by
    cases h with
    | tup h1 h2 => exact .tup (M.tp _ _ h1) (RpL.mono M h2)
  | .ref n, _, h => by
    cases h with
    | ref h1 => exact .ref (M.ix _ _ h1)
  | .fl xs, _, h => by
    cases h with
    | fl h1 h2 => exact .fl (M.fz _ _ h1) (RpL.mono M h2)
theorem RpL.mono (M : Mon g m H m' H') : ∀ {ds : List D} {vs : List V}, RpL g m H vs ds → RpL g m' H' vs ds
  | [], _, h => by cases h; exact .nil
  | d :: ds, _, h => by
    cases h with
    | cons h1 h2 => exact .cons (Rp.mono M h1) (RpL.mono M h2)
end

/-! ### dicts whose keys are tuples -/
/-- the dict at a holds these entries: key, the key's place, value -/
def dPhi (g : G) (a : Addr) (xs : List (NestedKey × Addr × Value)) : Heap → Prop := fun h => ∃ o es ep, h.get? a = some o ∧ o.ExactDict ∧ o.data = .dict es ep ∧ es.toList = xs.map (entryOfKey (nestedKind g.P g.w)) ∧
  (xs.map (·.1)).Nodup ∧ (a == sysModules) = false ∧ xs.length ≤ sizeLine
/-- one entry -/
def En (g : G) (m : List Addr) (H : Hp) (p : NestedKey × D) (q : NestedKey × Addr × Value) : Prop :=
  p.1 = q.1 ∧ Rp g m H (.ref q.2.1) (dk p.1) ∧ (∃ ks, p.1 = .tup ks) ∧ p.1.depth ≤ 8 ∧ ∃ v, RelV v q.2.2 ∧ Rp g m H v p.2
/-- what stands at a -/
def RO (g : G) (m : List Addr) (H : Hp) (a : Addr) : MO → Prop
  | .lst xs => ∃ vs, H a = some (.lst vs) ∧ RpL g m H vs xs
  | .dt lk kvs => ∃ xs, (if lk = true then ∃ o, H a = some (.frz o (.ext (dPhi g a xs))) else H a = some (.ext (dPhi g a xs))) ∧ Paired (En g m H) kvs xs
  | .di lk kvs => ∃ ws : List (Key × V), lk = false ∧ H a = some (.dK ws) ∧ Paired (fun (p : Int × D) (q : Key × V) => q.1 = .inl p.1 ∧ Rp g m H q.2 p.2) kvs ws
  | .ins C fs => ∃ (dx : Addr) (ws : List (Str × V)), H a = some (.ins C dx ws) ∧ Paired (fun (p : Str × D) (q : Str × V) => p.1 = q.1 ∧ Rp g m H q.2 p.2) fs ws
theorem En.mono (M : Mon g m H m' H') {p : NestedKey × D} {q : NestedKey × Addr × Value} (h : En g m H p q) : En g m' H' p q := by
  obtain ⟨h1, h2, h3, h4, v, h5, h6⟩ := h
  exact ⟨h1, h2.mono M, h3, h4, v, h5, h6.mono M⟩
theorem RO.mono (M : Mon g m H m' H') {a : Addr} (e : H' a = H a) : ∀ {o : MO}, RO g m H a o → RO g m' H' a o
  | .lst xs, h => by
    obtain ⟨vs, h1, h2⟩ := h
    exact ⟨vs, by rw [e]; exact h1, h2.mono M⟩
  | .dt lk kvs, h => by
    obtain ⟨xs, h1, h2⟩ := h
    refine ⟨xs, ?_, L2.Paired.mapP h2 fun p q r => r.mono M⟩
    rw [e]; exact h1
  | .di lk kvs, h => by
    obtain ⟨ws, h0, h1, h2⟩ := h
    exact ⟨ws, h0, by rw [e]; exact h1, L2.Paired.mapP h2 fun p q r => ⟨r.1, r.2.mono M⟩⟩
  | .ins C fs, h => by
    obtain ⟨dx, ws, h1, h2⟩ := h
    exact ⟨dx, ws, by rw [e]; exact h1, L2.Paired.mapP h2 fun p q r => ⟨r.1, r.2.mono M⟩⟩
/-- what a store's object is not -/
def isMut : HO → Bool
  | .lst _ => true
  | .dK _ => true
  | .ins _ _ _ => true
  | .ext _ => true
  | .frz _ (.ext _) => true
  | _ => false
theorem RO.mut {a : Addr} : ∀ {o : MO}, RO g m H a o → ∃ u, H a = some u ∧ isMut u = true
  | .lst xs, h => by
    obtain ⟨vs, h1, h2⟩ := h
    exact ⟨_, h1, rfl⟩
  | .dt lk kvs, h => by
    obtain ⟨xs, h1, h2⟩ := h
    cases lk with
    | true =>
      rw [if_pos rfl] at h1
      obtain ⟨o, h1⟩ := h1
      exact ⟨_, h1, rfl⟩
    | false =>
      rw [if_neg (by decide)] at h1
      exact ⟨_, h1, rfl⟩
  | .di lk kvs, h => by
    obtain ⟨ws, h0, h1, h2⟩ := h
    exact ⟨_, h1, rfl⟩
  | .ins C fs, h => by
    obtain ⟨dx, ws, h1, h2⟩ := h
    exact ⟨_, h1, rfl⟩

/-- the store stands in the heap -/
structure Rs (g : G) (m : List Addr) (st : Store) (H : Hp) : Prop where
  len : m.length = st.length
  nd : m.Nodup
  ob : ∀ (n : Nat) (o : MO), st[n]? = some o → ∃ a, m[n]? = some a ∧ RO g m H a o
theorem Rs.isM {st : Store} (R : Rs g m st H) {a : Addr} (h : a ∈ m) : ∃ u, H a = some u ∧ isMut u = true := by
  obtain ⟨n, hn, e⟩ := List.getElem_of_mem h
  have h1 : m[n]? = some a := by rw [List.getElem?_eq_getElem hn, e]
  have h2 : n < st.length := by rw [← R.len]; exact hn
  obtain ⟨b, h3, h4⟩ := R.ob n _ (List.getElem?_eq_getElem h2)
  rw [h1] at h3; cases h3
  exact h4.mut
theorem Rs.notFree {st : Store} (R : Rs g m st H) {a : Addr} (h : H a = none) : a ∉ m := fun hm => by
  obtain ⟨u, e, _⟩ := R.isM hm
  rw [h] at e; cases e

/-- what happened between two moments -/
structure Ext (g : G) (m : List Addr) (H : Hp) (m' : List Addr) (H' : Hp) : Prop where
  pre : ∃ t, m' = m ++ t ∧ ∀ a ∈ t, a ∉ m ∧ H a = none
  frm : ∀ a o, H a = some o → a ∉ m → H' a = some o
  tp : ∀ a vs, SqT g.K H a vs → SqT g.K H' a vs
  fz : ∀ a vs, Fz g H a vs → Fz g H' a vs
  fr : ∀ a o u, H a = some (.frz o u) → H' a = some (.frz o u)
theorem Ext.mon (E : Ext g m H m' H') : Mon g m H m' H' := ⟨fun n a h => by
  obtain ⟨t, e, _⟩ := E.pre
  rw [e, List.getElem?_append_left (List.getElem?_eq_some_iff.mp h).1]; exact h, E.tp, E.fz⟩
theorem Ext.refl (g : G) (m : List Addr) (H : Hp) : Ext g m H m H := ⟨⟨[], by simp, fun a h => by simp at h⟩, fun _ _ h _ => h, fun _ _ h => h, fun _ _ h => h, fun _ _ _ h => h⟩
theorem Ext.trans (E : Ext g m H m1 H1) (F : Ext g m1 H1 m2 H2) : Ext g m H m2 H2 where
  pre := by
    obtain ⟨t, e, f⟩ := E.pre
    obtain ⟨u, e2, f2⟩ := F.pre
    refine ⟨t ++ u, by rw [e2, e, List.append_assoc], fun a ha => ?_⟩
    rcases List.mem_append.mp ha with ha | ha
    · exact f a ha
    · have hn : a ∉ m := fun z => (f2 a ha).1 (by rw [e]; exact List.mem_append_left _ z)
      refine ⟨hn, ?_⟩
      cases q : H a with
      | none => rfl
      | some o =>
        have := E.frm a o q hn
        rw [(f2 a ha).2] at this; cases this
  frm := fun a o h hm => by
    obtain ⟨t, e, f⟩ := E.pre
    refine F.frm a o (E.frm a o h hm) fun h1 => ?_
    rw [e] at h1
    rcases List.mem_append.mp h1 with h1 | h1
    · exact hm h1
    · rw [(f a h1).2] at h; cases h
  tp := fun a vs h => F.tp a vs (E.tp a vs h)
  fz := fun a vs h => F.fz a vs (E.fz a vs h)
  fr := fun a o u h => F.fr a o u (E.fr a o u h)

/-! ### the three ways the heap changes -/
theorem SqT.updN {K : PySem.W.Frag} {H : Hp} {p a : Addr} {o : HO} {vs : List V} (hp : H p = none) (h : SqT K H a vs) : SqT K (upd H p o) a vs := by
  rcases h with (h | ⟨ob, h⟩) | h
  · exact .inl (.inl (by rw [upd_ne (ne_of_none h hp)]; exact h))
  · exact .inl (.inr ⟨ob, by rw [upd_ne (ne_of_none h hp)]; exact h⟩)
  · exact .inr h
theorem Fz.updN {H : Hp} {p a : Addr} {o : HO} {vs : List V} (hp : H p = none) (h : Fz g H a vs) : Fz g (upd H p o) a vs := by
  rcases h with ⟨ob, h⟩ | h
  · exact .inl ⟨ob, by rw [upd_ne (ne_of_none h hp)]; exact h⟩
  · exact .inr h
theorem SqT.updM {K : PySem.W.Frag} {H : Hp} {p a : Addr} {o u : HO} {vs : List V} (hp : H p = some u) (hu : isMut u = true) (h : SqT K H a vs) : SqT K (upd H p o) a vs := by
  have ne : ∀ x, H a = some x → isMut x = false → a ≠ p := fun x hx hf e => by
    subst e; rw [hp] at hx; cases hx; rw [hu] at hf; cases hf
  rcases h with (h | ⟨ob, h⟩) | h
  · exact .inl (.inl (by rw [upd_ne (ne _ h rfl)]; exact h))
  · exact .inl (.inr ⟨ob, by rw [upd_ne (ne _ h rfl)]; exact h⟩)
  · exact .inr h
theorem Fz.updM {H : Hp} {p a : Addr} {o u : HO} {vs : List V} (hp : H p = some u) (hu : isMut u = true) (h : Fz g H a vs) : Fz g (upd H p o) a vs := by
  have ne : ∀ x, H a = some x → isMut x = false → a ≠ p := fun x hx hf e => by
    subst e; rw [hp] at hx; cases hx; rw [hu] at hf; cases hf
  rcases h with ⟨ob, h⟩ | h
  · exact .inl ⟨ob, by rw [upd_ne (ne _ h rfl)]; exact h⟩
  · exact .inr h
/-- a new thing that no store knows -/
theorem Ext.free {p : Addr} {o : HO} (hp : H p = none) : Ext g m H m (upd H p o) :=
  ⟨⟨[], by simp, fun a h => by simp at h⟩, fun a ob h _ => by rw [upd_ne (ne_of_none h hp)]; exact h, fun _ _ h => SqT.updN hp h, fun _ _ h => Fz.updN hp h, fun a ob u h => by rw [upd_ne (ne_of_none h hp)]; exact h⟩
theorem Rs.free {st : Store} {p : Addr} {o : HO} (R : Rs g m st H) (hp : H p = none) : Rs g m st (upd H p o) := by
  refine ⟨R.len, R.nd, fun n ob e => ?_⟩
  obtain ⟨a, h1, h2⟩ := R.ob n ob e
  obtain ⟨u, h3, _⟩ := h2.mut
  exact ⟨a, h1, h2.mono (Ext.free hp).mon (upd_ne (ne_of_none h3 hp))⟩
/-- a new thing of the store -/
theorem Ext.new {st : Store} {p : Addr} {o : HO} (R : Rs g m st H) (hp : H p = none) : Ext g m H (m ++ [p]) (upd H p o) :=
  ⟨⟨[p], rfl, fun a h => by
    have e : a = p := by simpa using h
    subst e
    exact ⟨R.notFree hp, hp⟩⟩, fun a ob h _ => by rw [upd_ne (ne_of_none h hp)]; exact h, fun _ _ h => SqT.updN hp h, fun _ _ h => Fz.updN hp h, fun a ob u h => by rw [upd_ne (ne_of_none h hp)]; exact h⟩
theorem Rs.new {st : Store} {p : Addr} {o : HO} {ob : MO} (R : Rs g m st H) (hp : H p = none) (h : RO g (m ++ [p]) (upd H p o) p ob) : Rs g (m ++ [p]) (st ++ [ob]) (upd H p o) := by
  refine ⟨by simp [R.len], ?_, fun n x e => ?_⟩
  · rw [List.nodup_append]
    refine ⟨R.nd, by simp, fun a ha b hb => ?_⟩
    have e : b = p := by simpa using hb
    subst e
    exact fun z => R.notFree hp (z ▸ ha)
  · by_cases hn : n < st.length
    · rw [List.getElem?_append_left hn] at e
      obtain ⟨a, h1, h2⟩ := R.ob n x e
      obtain ⟨u, h3, _⟩ := h2.mut
      exact ⟨a, by rw [List.getElem?_append_left (by rw [R.len]; exact hn)]; exact h1, h2.mono (Ext.new R hp).mon (upd_ne (ne_of_none h3 hp))⟩
    · have hl : n = st.length := by
        have := (List.getElem?_eq_some_iff.mp e).1
        rw [List.length_append, List.length_singleton] at this
        omega
      subst hl
      rw [List.getElem?_append_right (Nat.le_refl _)] at e
      simp at e
      subst e
      exact ⟨p, by rw [← R.len]; simp, h⟩
theorem Rs.newRef {st : Store} {p : Addr} (R : Rs g m st H) : Rp g (m ++ [p]) H' (.ref p) (.ref st.length) := .ref (by rw [← R.len]; simp)
/-- a thing of the store is written -/
def isWr : HO → Bool
  | .lst _ => true
  | .dK _ => true
  | .ins _ _ _ => true
  | .ext _ => true
  | _ => false
theorem isWr.mut {u : HO} (h : isWr u = true) : isMut u = true := by cases u <;> first | rfl | cases h
theorem Ext.write {p : Addr} {o u : HO} (hm : p ∈ m) (hp : H p = some u) (hu : isWr u = true) : Ext g m H m (upd H p o) :=
  ⟨⟨[], by simp, fun a h => by simp at h⟩, fun a ob h hn => by rw [upd_ne (show a ≠ p from fun z => hn (by rw [z]; exact hm))]; exact h, fun _ _ h => SqT.updM hp (isWr.mut hu) h, fun _ _ h => Fz.updM hp (isWr.mut hu) h, fun a ob w h => by
    rw [upd_ne (fun z => by rw [z, hp] at h; cases h; cases hu)]; exact h⟩
/-- .. or locked, or unlocked -/
theorem Rs.put {st : Store} {n : Nat} {p : Addr} {o u : HO} {ob : MO} (R : Rs g m st H) (hn : m[n]? = some p) (hp : H p = some u) (hu : isMut u = true) (h : RO g m (upd H p o) p ob) : Rs g m (st.set n ob) (upd H p o) := by
  have hm : p ∈ m := List.mem_of_getElem? hn
  refine ⟨by simp [R.len], R.nd, fun k x e => ?_⟩
  by_cases hk : n = k
  · subst hk
    have hl : n < st.length := by rw [← R.len]; exact (List.getElem?_eq_some_iff.mp hn).1
    rw [List.getElem?_set_self hl] at e
    cases e
    exact ⟨p, hn, h⟩
  · rw [List.getElem?_set_ne hk] at e
    obtain ⟨a, h1, h2⟩ := R.ob k x e
    have ne : a ≠ p := fun z => by
      subst z
      obtain ⟨l1, e1⟩ := List.getElem?_eq_some_iff.mp hn
      obtain ⟨l2, e2⟩ := List.getElem?_eq_some_iff.mp h1
      exact hk ((List.getElem_inj R.nd).mp (e1.trans e2.symm))
    exact ⟨a, h1, h2.mono ⟨fun _ _ h => h, fun _ _ h => SqT.updM hp hu h, fun _ _ h => Fz.updM hp hu h⟩ (upd_ne ne)⟩
theorem Rs.write {st : Store} {n : Nat} {p : Addr} {o u : HO} {ob : MO} (R : Rs g m st H) (hn : m[n]? = some p) (hp : H p = some u) (hu : isWr u = true) (h : RO g m (upd H p o) p ob) : Rs g m (st.set n ob) (upd H p o) := R.put hn hp (isWr.mut hu) h
theorem Mon.put {p : Addr} {o u : HO} (hp : H p = some u) (hu : isMut u = true) : Mon g m H m (upd H p o) := ⟨fun _ _ h => h, fun _ _ h => SqT.updM hp hu h, fun _ _ h => Fz.updM hp hu h⟩

/-- what happened while a thing was locked -/
theorem Ext.unlock {d : Addr} {od : Obj} {u : HO} (hm : d ∈ m) (hd : H d = some u) (hu : isWr u = true) (hf : isMut (.frz od u) = true) (E : Ext g m (upd H d (.frz od u)) m' H') : Ext g m H m' (upd H' d u) := by
  have h1 : H' d = some (.frz od u) := E.fr d od u upd_same
  refine ⟨?_, fun a o h hn => ?_, fun a vs h => SqT.updM h1 hf (E.tp a vs (SqT.updM hd (isWr.mut hu) h)), fun a vs h => Fz.updM h1 hf (E.fz a vs (Fz.updM hd (isWr.mut hu) h)), fun a o w h => ?_⟩
  · obtain ⟨t, e, f⟩ := E.pre
    refine ⟨t, e, fun a ha => ?_⟩
    obtain ⟨f1, f2⟩ := f a ha
    refine ⟨f1, ?_⟩
    rw [upd_ne (fun z => f1 (by rw [z]; exact hm))] at f2
    exact f2
  · have ne : a ≠ d := fun z => hn (by rw [z]; exact hm)
    rw [upd_ne ne]
    exact E.frm a o (by rw [upd_ne ne]; exact h) hn
  · have ne : a ≠ d := fun z => by rw [z, hd] at h; cases h; cases hu
    rw [upd_ne ne]
    exact E.fr a o w (by rw [upd_ne ne]; exact h)

/-! ### slots -/
def RpO (g : G) (m : List Addr) (H : Hp) : Option V → Option D → Prop
  | _, none => True
  | some v, some d => Rp g m H v d
  | none, some _ => False
def Re (g : G) (m : List Addr) (H : Hp) (σ : L2.St) (env : Env) : Prop := env.length = σ.length ∧ ∀ (i : Nat) (d : D), env[i]? = some (some d) → ∃ v, σ[i]? = some (some v) ∧ Rp g m H v d
variable {σ : L2.St} {env : Env}
theorem Re.mono (M : Mon g m H m' H') (h : Re g m H σ env) : Re g m' H' σ env := ⟨h.1, fun i d e => by
  obtain ⟨v, h1, h2⟩ := h.2 i d e
  exact ⟨v, h1, h2.mono M⟩⟩
theorem Re.set (h : Re g m H σ env) (r : Rp g m H v d) (i : Nat) : Re g m H (σ.set i (some v)) (env.set i (some d)) := ⟨by simp [h.1], fun j x e => by
  by_cases hj : i = j
  · subst hj
    by_cases hl : i < env.length
    · rw [List.getElem?_set_self hl] at e
      cases e
      exact ⟨v, by rw [List.getElem?_set_self (by rw [← h.1]; exact hl)], r⟩
    · rw [List.getElem?_eq_none (by simpa using Nat.le_of_not_lt hl)] at e; cases e
  · rw [List.getElem?_set_ne hj] at e
    obtain ⟨w, h1, h2⟩ := h.2 j x e
    exact ⟨w, by rw [List.getElem?_set_ne hj]; exact h1, h2⟩⟩
theorem Re.none (h : Re g m H σ env) (i : Nat) : Re g m H (σ.set i Option.none) (env.set i Option.none) := ⟨by simp [h.1], fun j x e => by
  by_cases hj : i = j
  · subst hj
    by_cases hl : i < env.length
    · rw [List.getElem?_set_self hl] at e; cases e
    · rw [List.getElem?_eq_none (by simpa using Nat.le_of_not_lt hl)] at e; cases e
  · rw [List.getElem?_set_ne hj] at e
    obtain ⟨w, h1, h2⟩ := h.2 j x e
    exact ⟨w, by rw [List.getElem?_set_ne hj]; exact h1, h2⟩⟩
theorem Re.wipe (h : Re g m H σ env) : ∀ vs : List Nat, Re g m H (L2.wipe σ vs) (wipeE env vs)
  | [] => h
  | v :: vs => by
    unfold L2.wipe wipeE
    exact (Re.wipe h vs).none v

/-! ### lifted transformers -/
def CE (g : G) (m : List Addr) (H : Hp) (QA : DK) (Q : VK) : Prop := ∀ d st' v m' H', Ext g m H m' H' → Rs g m' st' H' → Rp g m' H' v d → QA d st' → Q v H'
def CT (g : G) (m : List Addr) (H : Hp) (QA : Bool → Store → Prop) (Q : Bool → Hp → Prop) : Prop := ∀ b st' m' H', Ext g m H m' H' → Rs g m' st' H' → QA b st' → Q b H'
def CL (g : G) (m : List Addr) (H : Hp) (QA : List D → Store → Prop) (Q : List V → Hp → Prop) : Prop := ∀ ds st' vs m' H', Ext g m H m' H' → Rs g m' st' H' → RpL g m' H' vs ds → QA ds st' → Q vs H'
structure CS (g : G) (m : List Addr) (H : Hp) (EA : AEnds) (E : Ends) : Prop where
  nx : ∀ env' st' σ' m' H', Ext g m H m' H' → Rs g m' st' H' → Re g m' H' σ' env' → EA.nx env' st' → E.nx σ' H'
  bk : ∀ env' st' σ' m' H', Ext g m H m' H' → Rs g m' st' H' → Re g m' H' σ' env' → EA.bk env' st' → E.bk σ' H'
  ct : ∀ env' st' σ' m' H', Ext g m H m' H' → Rs g m' st' H' → Re g m' H' σ' env' → EA.ct env' st' → E.ct σ' H'
  rt : CE g m H EA.rt E.rt
def liftE (g : G) (a : AE) : TE := fun σ H Q => ∃ m st env QA, Rs g m st H ∧ Re g m H σ env ∧ a env st QA ∧ CE g m H QA Q
def liftT (g : G) (a : AT) : TT := fun σ H Q => ∃ m st env QA, Rs g m st H ∧ Re g m H σ env ∧ a env st QA ∧ CT g m H QA Q
def liftL (g : G) (a : AL) : TA := fun σ H Q => ∃ m st env QA, Rs g m st H ∧ Re g m H σ env ∧ a env st QA ∧ CL g m H QA Q
def liftS (g : G) (a : AS) : TS := fun E σ H => ∃ m st env EA, Rs g m st H ∧ Re g m H σ env ∧ a EA env st ∧ CS g m H EA E
def liftP (g : G) (sp : ASp) : Sp := fun vs H Q _ => ∃ m st ds QA, Rs g m st H ∧ RpL g m H vs ds ∧ sp ds st QA ∧ CE g m H QA Q
theorem CE.mono {QA : DK} {Q : VK} (E : Ext g m H m1 H1) (h : CE g m H QA Q) : CE g m1 H1 QA Q := fun d st' v m' H' F R r q => h d st' v m' H' (E.trans F) R r q
theorem CT.mono {QA : Bool → Store → Prop} {Q : Bool → Hp → Prop} (E : Ext g m H m1 H1) (h : CT g m H QA Q) : CT g m1 H1 QA Q := fun b st' m' H' F R q => h b st' m' H' (E.trans F) R q
theorem CL.mono {QA : List D → Store → Prop} {Q : List V → Hp → Prop} (E : Ext g m H m1 H1) (h : CL g m H QA Q) : CL g m1 H1 QA Q := fun d st' v m' H' F R r q => h d st' v m' H' (E.trans F) R r q
theorem CS.mono {EA : AEnds} {D : Ends} (E : Ext g m H m1 H1) (h : CS g m H EA D) : CS g m1 H1 EA D :=
  ⟨fun e s σ' m' H' F R r q => h.nx e s σ' m' H' (E.trans F) R r q, fun e s σ' m' H' F R r q => h.bk e s σ' m' H' (E.trans F) R r q, fun e s σ' m' H' F R r q => h.ct e s σ' m' H' (E.trans F) R r q, h.rt.mono E⟩
end

/-! ### weaker readings -/
theorem PE.weak {X : Cx} {e : Expr} {t t' : TE} (h : PE X e t) (w : ∀ σ H Q, t' σ H Q → t σ H Q) : PE X e t' := ⟨fun pins s σ H Q I q => h.run pins s σ H Q I (w σ H Q q)⟩
theorem PT.weak {X : Cx} {e : Expr} {t t' : TT} (h : PT X e t) (w : ∀ σ H Q, t' σ H Q → t σ H Q) : PT X e t' := ⟨fun pins s σ H Q I q => h.run pins s σ H Q I (w σ H Q q)⟩
theorem PW.weak {X : Cx} {e : Expr} {t t' : TT} (h : PW X e t) (w : ∀ σ H Q, t' σ H Q → t σ H Q) : PW X e t' := ⟨fun wh pins s σ H Q I q => h.run wh pins s σ H Q I (w σ H Q q)⟩
theorem PA.weak {X : Cx} {e : List Expr} {t t' : TA} (h : PA X e t) (w : ∀ σ H Q, t' σ H Q → t σ H Q) : PA X e t' := ⟨fun pos pins s σ H Q I q => h.run pos pins s σ H Q I (w σ H Q q)⟩
theorem PS.weak {X : Cx} {st : Stmt} {t t' : TS} (h : PS X st t) (w : ∀ D σ H, t' D σ H → t D σ H) : PS X st t' := ⟨fun pins s σ H D I q => h.run pins s σ H D I (w D σ H q)⟩
theorem PSs.weak {X : Cx} {st : List Stmt} {t t' : TS} (h : PSs X st t) (w : ∀ D σ H, t' D σ H → t D σ H) : PSs X st t' := ⟨fun pins s σ H D I q => h.run pins s σ H D I (w D σ H q)⟩
theorem PI.weak {X : Cx} {tg e : Expr} {t t' : TI} (h : PI X tg e t) (w : ∀ σ H R, t' σ H R → t σ H R) : PI X tg e t' := ⟨fun pins s σ H R I q => h.run pins s σ H R I (w σ H R q)⟩
theorem PE.or {X : Cx} {e : Expr} {t t' : TE} (h : PE X e t) (h' : PE X e t') : PE X e (fun σ H Q => t σ H Q ∨ t' σ H Q) := ⟨fun pins s σ H Q I q => q.elim (h.run pins s σ H Q I) (h'.run pins s σ H Q I)⟩
theorem PS.or {X : Cx} {st : Stmt} {t t' : TS} (h : PS X st t) (h' : PS X st t') : PS X st (fun D σ H => t D σ H ∨ t' D σ H) := ⟨fun pins s σ H D I q => q.elim (h.run pins s σ H D I) (h'.run pins s σ H D I)⟩
end Ab

set_option Elab.async false
set_option linter.all false
set_option maxRecDepth 100000
set_option maxHeartbeats 2000000
/-! Expressions: names, operators, tests, argument lists, displays, calls. -/
namespace Ab
open PySem PySem.Spec PyProof.Rows L2

section
variable {X : Cx} {g : G} {σ : L2.St} {H : Hp}
/-! ### by values -/
def SO1 (g : G) (r : V → Hp → VK → Prop) (p : P1) : Prop := ∀ m st H v x QA Q, Rs g m st H → Rp g m H v x → p x st QA → CE g m H QA Q → r v H Q
def SO2 (g : G) (r : R2) (p : P2) : Prop := ∀ m st H v u x y QA Q, Rs g m st H → Rp g m H v x → Rp g m H u y → p x y st QA → CE g m H QA Q → r v u H Q
def SON (g : G) (r : List V → Hp → VK → Prop) (p : List D → Store → DK → Prop) : Prop := ∀ m st H vs ds QA Q, Rs g m st H → RpL g m H vs ds → p ds st QA → CE g m H QA Q → r vs H Q
theorem CE.same {m : List Addr} {st : Store} {QA : DK} {Q : VK} {d : D} {v : V} (c : CE g m H QA Q) (R : Rs g m st H) (r : Rp g m H v d) (q : QA d st) : Q v H := c d st v m H (Ext.refl g m H) R r q

/-! ### names, constants -/
theorem ce_var {i : Nat} (h : liftE g (aVar i) σ H Q) : tVar i σ H Q := by
  obtain ⟨m, st, env, QA, R, re, ⟨d, e, q⟩, c⟩ := h
  obtain ⟨v, e1, r⟩ := re.2 i d e
  exact ⟨v, e1, c.same R r q⟩
theorem aj_var {e : Expr} {i : Nat} (h : PE X e (tVar i)) : PE X e (liftE g (aVar i)) := PE.weak h fun _ _ _ => ce_var
theorem aj_c {e : Expr} {v : V} {d : D} (h : PE X e (tC v)) (r : ∀ m H, Rp g m H v d) : PE X e (liftE g (aC d)) := PE.weak h fun σ H Q ⟨m, st, env, QA, R, re, q, c⟩ => c.same R (r m H) q
theorem aj_int {i : Int} {j : Nat} {pos : Pos} : PE X (.Constant (.int i) j pos) (liftE g (aC (.int i))) := aj_c pe_int fun _ _ => .int i
theorem aj_bl {i : Bool} {j : Nat} {pos : Pos} : PE X (.Constant (.bool i) j pos) (liftE g (aC (.bl i))) := aj_c pe_bl fun _ _ => .bl i
theorem aj_str {i : Str} {j : Nat} {pos : Pos} : PE X (.Constant (.str i) j pos) (liftE g (aC (.str i))) := aj_c pe_str fun _ _ => .str i
theorem aj_non {j : Nat} {pos : Pos} : PE X (.Constant .none j pos) (liftE g (aC .non)) := aj_c pe_non fun _ _ => .non

/-! ### one, two operands -/
theorem lift1 {r : V → Hp → VK → Prop} {p : P1} {a : AE} (hs : SO1 g r p) {Q : VK} (h : liftE g (aO1 p a) σ H Q) : tUn r (liftE g a) σ H Q := by
  obtain ⟨m, st, env, QA, R, re, q, c⟩ := h
  exact ⟨m, st, env, _, R, re, q, fun x st1 v m1 H1 E1 R1 r1 q1 => hs m1 st1 H1 v x QA Q R1 r1 q1 (c.mono E1)⟩
theorem lift2 {r : R2} {p : P2} {a b : AE} (hs : SO2 g r p) {Q : VK} (h : liftE g (aO2 p a b) σ H Q) : tOp r (liftE g a) (liftE g b) σ H Q := by
  obtain ⟨m, st, env, QA, R, re, q, c⟩ := h
  exact ⟨m, st, env, _, R, re, q, fun x st1 v m1 H1 E1 R1 r1 q1 => ⟨m1, st1, env, _, R1, re.mono E1.mon, q1, fun y st2 u m2 H2 E2 R2 r2 q2 => hs m2 st2 H2 v u x y QA Q R2 (r1.mono E2.mon) r2 q2 (c.mono (E1.trans E2))⟩⟩
theorem aj_bin {op : Operator} {a b : Expr} {a' b' : AE} {pos : Pos} {r : R2} {p : P2} (ho : OpR X (binaryOp op) r) (hs : SO2 g r p) (ha : PE X a (liftE g a')) (hb : PE X b (liftE g b')) : PE X (.BinOp a op b pos) (liftE g (aO2 p a' b')) :=
  PE.weak (pe_op ho ha hb) fun _ _ _ => lift2 hs
theorem aj_un {op : UnaryOp} {a : Expr} {a' : AE} {pos : Pos} {r : V → Hp → VK → Prop} {p : P1} (ho : UnR X (unaryOp op) r) (hs : SO1 g r p) (ha : PE X a (liftE g a')) : PE X (.UnaryOp op a pos) (liftE g (aO1 p a')) :=
  PE.weak (pe_un ho ha) fun _ _ _ => lift1 hs
theorem aj_cmp {op : CmpOp} {a b : Expr} {a' b' : AE} {pos : Pos} {r : R2} {p : P2} (ho : OpR X (compareOp op) r) (hs : SO2 g r p) (ha : PE X a (liftE g a')) (hb : PE X b (liftE g b')) (hm : behindInMarks op b = false) : PE X (.Compare a [op] [b] pos) (liftE g (aO2 p a' b')) :=
  PE.weak (pe_cmpR ho ha hb hm) fun _ _ _ => lift2 hs
theorem aj_ix {a b : Expr} {a' b' : AE} {pos : Pos} {r : R2} {p : P2} (ho : IxR X r) (hs : SO2 g r p) (ha : PE X a (liftE g a')) (hb : PE X b (liftE g b')) (hx : PlainIx b) : PE X (.Subscript a b pos) (liftE g (aO2 p a' b')) :=
  PE.weak (pe_ix ho ha hb hx) fun _ _ _ => lift2 hs
theorem lift_chain {r r' : R2} {p q : P2} {a b c : AE} (hs : SO2 g r p) (hs' : SO2 g r' q) {Q : VK} (h : liftE g (aChain p q a b c) σ H Q) : tChain r r' (liftE g a) (liftE g b) (liftE g c) σ H Q := by
  obtain ⟨m, st, env, QA, R, re, h1, c0⟩ := h
  refine ⟨m, st, env, _, R, re, h1, fun x st1 v m1 H1 E1 R1 r1 q1 => ⟨m1, st1, env, _, R1, re.mono E1.mon, q1, fun y st2 u m2 H2 E2 R2 r2 q2 => ?_⟩⟩
  refine hs m2 st2 H2 v u x y _ _ R2 (r1.mono E2.mon) r2 q2 fun z st3 w m3 H3 E3 R3 r3 q3 => ?_
  obtain ⟨k, rfl, br⟩ := q3
  cases r3
  refine ⟨k, rfl, ?_⟩
  cases k with
  | true =>
    rw [if_pos rfl]
    exact ⟨m3, st3, env, _, R3, re.mono ((E1.trans E2).trans E3).mon, br.1 rfl, fun z' st4 w' m4 H4 E4 R4 r4 q4 => hs' m4 st4 H4 u w' y z' QA Q R4 (r2.mono (E3.trans E4).mon) r4 q4 (c0.mono (((E1.trans E2).trans E3).trans E4))⟩
  | false =>
    rw [if_neg (by decide)]
    exact c0 _ _ _ _ _ ((E1.trans E2).trans E3) R3 (.bl false) (br.2 rfl)
theorem aj_chain {op op' : CmpOp} {a b c : Expr} {a' b' c' : AE} {pos : Pos} {r r' : R2} {p q : P2} (ho : OpR X (compareOp op) r) (hs : SO2 g r p) (ho' : OpR X (compareOp op') r') (hs' : SO2 g r' q) (ha : PE X a (liftE g a')) (hb : PE X b (liftE g b')) (hc : PE X c (liftE g c'))
    (hm : lastMarks [op, op'] [b, c] = false := by with_unfolding_all rfl) : PE X (.Compare a [op, op'] [b, c] pos) (liftE g (aChain p q a' b' c')) :=
  PE.weak (pe_chain ho ho' ha hb hc hm) fun _ _ _ => lift_chain hs hs'

/-! ### tests -/
theorem lift_tB {a : AE} {Q : Bool → Hp → Prop} (h : liftT g (atB a) σ H Q) : liftE g a σ H fun x H' => ∃ k, x = .bl k ∧ Q k H' := by
  obtain ⟨m, st, env, QA, R, re, q, c⟩ := h
  refine ⟨m, st, env, _, R, re, q, fun x st1 v m1 H1 E1 R1 r1 ⟨b, e, q1⟩ => ?_⟩
  subst e
  cases r1
  exact ⟨b, rfl, c b st1 m1 H1 E1 R1 q1⟩
theorem lift_tTest {r : R2} {p : P2} {a b : AE} (hs : SO2 g r p) {Q : Bool → Hp → Prop} (h : liftT g (atB (aO2 p a b)) σ H Q) : tTest (tOp r (liftE g a) (liftE g b)) σ H Q := lift2 hs (lift_tB h)
theorem ajt_cmp {op : CmpOp} {a b : Expr} {a' b' : AE} {pos : Pos} {r : R2} {p : P2} (ho : OpR X (compareOp op) r) (hs : SO2 g r p) (ha : PE X a (liftE g a')) (hb : PE X b (liftE g b')) (hm : behindInMarks op b = false) : PT X (.Compare a [op] [b] pos) (liftT g (atB (aO2 p a' b'))) :=
  PT.weak (pt_cmpR ho ha hb hm) fun _ _ _ => lift_tTest hs
theorem ajt_chain {op op' : CmpOp} {a b c : Expr} {a' b' c' : AE} {pos : Pos} {r r' : R2} {p q : P2} (ho : OpR X (compareOp op) r) (hs : SO2 g r p) (ho' : OpR X (compareOp op') r') (hs' : SO2 g r' q) (ha : PE X a (liftE g a')) (hb : PE X b (liftE g b')) (hc : PE X c (liftE g c'))
    (hm : lastMarks [op, op'] [b, c] = false := by with_unfolding_all rfl) : PT X (.Compare a [op, op'] [b, c] pos) (liftT g (atB (aChain p q a' b' c'))) :=
  PT.weak (pt_chain ho ho' ha hb hc hm) fun _ _ _ h => lift_chain hs hs' (lift_tB h)
/-- a name, a call: by truth -/
theorem ajt_val {a : Expr} {a' : AE} (ha : PE X a (liftE g a')) (he : ∀ whole, isTrue a X.env whole = (do let v ← whole; standAt a.pos; holding [v] (truthy v)) := by intro _; rfl) : PT X a (liftT g (atB a')) :=
  PT.weak (pt_truth ha he) fun σ H Q h => by
    obtain ⟨m, st, env, QA, R, re, q, c⟩ := lift_tB h
    refine ⟨m, st, env, QA, R, re, q, fun d st' v m' H' E' R' r' q' => ?_⟩
    obtain ⟨k, e, q2⟩ := c d st' v m' H' E' R' r' q'
    subst e
    exact ⟨k, rfl, q2⟩
theorem ajt_not {a : Expr} {t : AT} {pos : Pos} (ha : PT X a (liftT g t)) : PT X (.UnaryOp .Not a pos) (liftT g (atNot t)) := PT.weak (pt_not ha) fun σ H Q h => by
  obtain ⟨m, st, env, QA, R, re, q, c⟩ := h
  exact ⟨m, st, env, _, R, re, q, fun b st' m' H' E' R' q' => c (!b) st' m' H' E' R' q'⟩
theorem ajw_and1 {a : Expr} {t : AT} {pos : Pos} (ha : PT X a (liftT g t)) : PW X (.BoolOp .And [a] pos) (liftT g t) := pw_and1 ha
theorem ajw_or1 {a : Expr} {t : AT} {pos : Pos} (ha : PT X a (liftT g t)) : PW X (.BoolOp .Or [a] pos) (liftT g t) := pw_or1 ha
theorem ajw_and {a b : Expr} {rest : List Expr} {t u : AT} {pos : Pos} (ha : PT X a (liftT g t)) (hb : PW X (.BoolOp .And (b :: rest) pos) (liftT g u)) : PW X (.BoolOp .And (a :: b :: rest) pos) (liftT g (atAnd t u)) := PW.weak (pw_and ha hb) fun σ H Q h => by
  obtain ⟨m, st, env, QA, R, re, q, c⟩ := h
  refine ⟨m, st, env, _, R, re, q, fun b st' m' H' E' R' q' => ?_⟩
  cases b with
  | true => exact ⟨m', st', env, QA, R', re.mono E'.mon, q'.1 rfl, c.mono E'⟩
  | false => exact c false st' m' H' E' R' (q'.2 rfl)
theorem ajw_or {a b : Expr} {rest : List Expr} {t u : AT} {pos : Pos} (ha : PT X a (liftT g t)) (hb : PW X (.BoolOp .Or (b :: rest) pos) (liftT g u)) : PW X (.BoolOp .Or (a :: b :: rest) pos) (liftT g (atOr t u)) := PW.weak (pw_or ha hb) fun σ H Q h => by
  obtain ⟨m, st, env, QA, R, re, q, c⟩ := h
  refine ⟨m, st, env, _, R, re, q, fun b st' m' H' E' R' q' => ?_⟩
  cases b with
  | false => exact ⟨m', st', env, QA, R', re.mono E'.mon, q'.2 rfl, c.mono E'⟩
  | true => exact c true st' m' H' E' R' (q'.1 rfl)
/-! .. as values -/
theorem aj_one {op : BoolOp} {a : Expr} {a' : AE} {pos : Pos} (ha : PE X a (liftE g a')) : PE X (.BoolOp op [a] pos) (liftE g a') := pe_one ha
theorem aj_and {a b : Expr} {rest : List Expr} {t u : AE} {pos : Pos} (ha : PE X a (liftE g t)) (hb : PE X (.BoolOp .And (b :: rest) pos) (liftE g u)) : PE X (.BoolOp .And (a :: b :: rest) pos) (liftE g (aAndV t u)) := PE.weak (pe_and ha hb) fun σ H Q h => by
  obtain ⟨m, st, env, QA, R, re, q, c⟩ := h
  refine ⟨m, st, env, _, R, re, q, fun b st' v m' H' E' R' r' ⟨k, e, q'⟩ => ?_⟩
  subst e
  cases r'
  refine ⟨k, rfl, ?_⟩
  cases k with
  | true => rw [if_pos rfl]; exact ⟨m', st', env, QA, R', re.mono E'.mon, q'.1 rfl, c.mono E'⟩
  | false => rw [if_neg (by decide)]; exact c _ st' _ m' H' E' R' (.bl false) (q'.2 rfl)
theorem aj_or {a b : Expr} {rest : List Expr} {t u : AE} {pos : Pos} (ha : PE X a (liftE g t)) (hb : PE X (.BoolOp .Or (b :: rest) pos) (liftE g u)) : PE X (.BoolOp .Or (a :: b :: rest) pos) (liftE g (aOrV t u)) := PE.weak (pe_or ha hb) fun σ H Q h => by
  obtain ⟨m, st, env, QA, R, re, q, c⟩ := h
  refine ⟨m, st, env, _, R, re, q, fun b st' v m' H' E' R' r' ⟨k, e, q'⟩ => ?_⟩
  subst e
  cases r'
  refine ⟨k, rfl, ?_⟩
  cases k with
  | false => rw [if_neg (by decide)]; exact ⟨m', st', env, QA, R', re.mono E'.mon, q'.2 rfl, c.mono E'⟩
  | true => rw [if_pos rfl]; exact c _ st' _ m' H' E' R' (.bl true) (q'.1 rfl)
theorem aj_not {a : Expr} {t : AE} {pos : Pos} (ha : PE X a (liftE g t)) : PE X (.UnaryOp .Not a pos) (liftE g (aNotV t)) := PE.weak (pe_not ha) fun σ H Q h => by
  obtain ⟨m, st, env, QA, R, re, q, c⟩ := h
  refine ⟨m, st, env, _, R, re, q, fun b st' v m' H' E' R' r' ⟨k, e, q'⟩ => ?_⟩
  subst e
  cases r'
  exact ⟨k, rfl, c _ st' _ m' H' E' R' (.bl _) q'⟩
theorem aj_ifE {t : Expr} {a b : Expr} {t' : AT} {a' b' : AE} {pos : Pos} (ht : PT X t (liftT g t')) (ha : PE X a (liftE g a')) (hb : PE X b (liftE g b')) : PE X (.IfExp t a b pos) (liftE g (aIfE t' a' b')) := PE.weak (pe_ifExp ht ha hb) fun σ H Q h => by
  obtain ⟨m, st, env, QA, R, re, q, c⟩ := h
  refine ⟨m, st, env, _, R, re, q, fun k st' m' H' E' R' q' => ?_⟩
  cases k with
  | true => rw [if_pos rfl]; exact ⟨m', st', env, QA, R', re.mono E'.mon, q'.1 rfl, c.mono E'⟩
  | false => rw [if_neg (by decide)]; exact ⟨m', st', env, QA, R', re.mono E'.mon, q'.2 rfl, c.mono E'⟩

/-! ### argument lists, displays -/
theorem aja_nil : PA X [] (liftL g alNil) := PA.weak pa_nil fun σ H Q ⟨m, st, env, QA, R, re, q, c⟩ => c [] st [] m H (Ext.refl g m H) R .nil q
theorem aja_cons {e : Expr} {es : List Expr} {a : AE} {l : AL} (ha : PE X e (liftE g a)) (hr : PA X es (liftL g l)) (hs : starEach (e :: es) X.env = (false, eval e X.env) :: starEach es X.env := by rfl) : PA X (e :: es) (liftL g (alCons a l)) :=
  PA.weak (pa_cons ha hr hs) fun σ H Q h => by
    obtain ⟨m, st, env, QA, R, re, q, c⟩ := h
    exact ⟨m, st, env, _, R, re, q, fun x st1 v m1 H1 E1 R1 r1 q1 => ⟨m1, st1, env, _, R1, re.mono E1.mon, q1, fun xs st2 vs m2 H2 E2 R2 r2 q2 => c _ st2 _ m2 H2 (E1.trans E2) R2 (.cons (r1.mono E2.mon) r2) q2⟩⟩
theorem big1000 {n : Nat} (h : n ≤ 1000) : n ≤ sizeLine := Nat.le_trans h (by decide)
theorem bigLIM {n : Nat} (h : n ≤ LIM) : n ≤ sizeLine := Nat.le_trans h (by decide)
theorem bigLT {n : Nat} (h : n < LIM) : n < sizeLine := Nat.lt_of_lt_of_le h (by decide)
theorem sq_t {K : PySem.W.Frag} {H : Hp} {a : Addr} {vs : List V} (h : H a = some (.tup vs)) : SqT K H a vs := .inl (.inl h)
theorem aj_tup {es : List Expr} {l : AL} {k : Nat} {pos : Pos} (h : PA X es (liftL g l)) : PE X (.Tuple es k pos) (liftE g (aTup l)) := PE.weak (pe_tup h) fun σ H Q hq => by
  obtain ⟨m, st, env, QA, R, re, q, c⟩ := hq
  refine ⟨m, st, env, _, R, re, q, fun xs st1 vs m1 H1 E1 R1 r1 ⟨hl, q1⟩ => ⟨by rw [r1.length]; exact big1000 hl, fun p hp => ?_⟩⟩
  exact c _ st1 _ m1 _ (E1.trans (Ext.free hp)) (R1.free hp) (.tup (sq_t upd_same) (r1.mono (Ext.free hp).mon)) q1
theorem ro_lst {m : List Addr} {p : Addr} {vs : List V} {xs : List D} (r : RpL g m H vs xs) (hp : H p = none) : RO g (m ++ [p]) (upd H p (.lst vs)) p (.lst xs) := by
  refine ⟨vs, upd_same, r.mono ⟨fun n a h => ?_, fun _ _ h => SqT.updN hp h, fun _ _ h => Fz.updN hp h⟩⟩
  rw [List.getElem?_append_left (List.getElem?_eq_some_iff.mp h).1]; exact h
/-- a new list -/
theorem CE.newL {m : List Addr} {st : Store} {QA : DK} {Q : VK} {p : Addr} {vs : List V} {xs : List D} (c : CE g m H QA Q) (R : Rs g m st H) (r : RpL g m H vs xs) (hp : H p = none) (q : QA (.ref st.length) (st ++ [.lst xs])) : Q (.ref p) (upd H p (.lst vs)) :=
  c _ _ _ _ _ (Ext.new R hp) (R.new hp (ro_lst r hp)) R.newRef q
/-- a new tuple -/
theorem CE.newT {m : List Addr} {st : Store} {QA : DK} {Q : VK} {p : Addr} {vs : List V} {xs : List D} (c : CE g m H QA Q) (R : Rs g m st H) (r : RpL g m H vs xs) (hp : H p = none) (q : QA (.tup xs) st) : Q (.ref p) (upd H p (.tup vs)) :=
  c _ _ _ _ _ (Ext.free hp) (R.free hp) (.tup (sq_t upd_same) (r.mono (Ext.free hp).mon)) q
theorem aj_lst {es : List Expr} {l : AL} {pos : Pos} (h : PA X es (liftL g l)) : PE X (.List es pos) (liftE g (aLst l)) := PE.weak (pe_lst h) fun σ H Q hq => by
  obtain ⟨m, st, env, QA, R, re, q, c⟩ := hq
  refine ⟨m, st, env, _, R, re, q, fun xs st1 vs m1 H1 E1 R1 r1 ⟨hl, q1⟩ => ⟨by rw [r1.length]; exact big1000 hl, fun p hp => ?_⟩⟩
  exact (c.mono E1).newL R1 r1 hp q1

/-! ### calls of defs -/
theorem aj_call {x : Str} {p pos : Pos} {e : Expr} {es : List Expr} {k : Nat} {f : Addr} {fd : FuncData} {ps : List Str} {sp : ASp} {l : AL} (F : FnOk X.prog X.w X.K X.mg X.base CX0 k f fd ps (liftP (gX X) sp)) (hr : Room k X.A) (hg : Gl X x) (hm : X.mg x = some (.ref f)) (hk : PySem.W.keepIn X.K (.ref f) = true)
    (hb : Binds X.K fd ps []) (ha : PA X (e :: es) (liftL (gX X) l)) (hdb : (x == ("__debug__" : Str)) = false := by decide) (he : starEach (e :: es) X.env = (false, eval e X.env) :: starEach es X.env := by rfl) (hpl : (backTo pos (starEach es X.env)).any (·.1) = false := by rfl) :
    PE X (.Call (.Name x p) (e :: es) [] pos) (liftE (gX X) (aCall sp l)) := PE.weak (pe_call F hr hg hm hk hb .nil pass0 ha hdb he hpl) fun σ H Q h => by
  obtain ⟨m, st, env, QA, R, re, q, c⟩ := h
  refine ⟨m, st, env, _, R, re, q, fun ds st1 vs m1 H1 E1 R1 r1 q1 => ?_⟩
  show liftP (gX X) sp (vs ++ []) H1 Q E0
  rw [List.append_nil]
  exact ⟨m1, st1, ds, QA, R1, r1, q1, c.mono E1⟩
end
end Ab

set_option Elab.async false
set_option linter.all false
set_option maxRecDepth 100000
set_option maxHeartbeats 2000000
/-! Statements, loops. -/
namespace Ab
open PySem PySem.Spec PyProof.Rows L2

section
variable {X : Cx} {g : G} {σ : L2.St} {H : Hp}
theorem CS.thenE {m : List Addr} {EA : AEnds} {D : Ends} (c : CS g m H EA D) : CE g m H EA.rt D.rt := c.rt
theorem ass_nil : PSs X [] (liftS g aNext) := PSs.weak pss_nil fun D σ H ⟨m, st, env, EA, R, re, q, c⟩ => c.nx env st σ m H (Ext.refl g m H) R re q
theorem ass_cons {s : Stmt} {rest : List Stmt} {a b : AS} (h1 : PS X s (liftS g a)) (h2 : PSs X rest (liftS g b)) : PSs X (s :: rest) (liftS g (aSeq a b)) := PSs.weak (pss_cons h1 h2) fun D σ H ⟨m, st, env, EA, R, re, q, c⟩ =>
  ⟨m, st, env, { EA with nx := b EA }, R, re, q, ⟨fun env' st' σ' m' H' E' R' re' q' => ⟨m', st', env', EA, R', re', q', c.mono E'⟩, c.bk, c.ct, c.rt⟩⟩
theorem ass_one {s : Stmt} {a : AS} (h1 : PS X s (liftS g a)) : PSs X [s] (liftS g a) := pss_one h1
theorem as_pass {pos : Pos} : PS X (.Pass pos) (liftS g aNext) := PS.weak ps_pass fun D σ H ⟨m, st, env, EA, R, re, q, c⟩ => c.nx env st σ m H (Ext.refl g m H) R re q
theorem as_break {pos : Pos} : PS X (.Break pos) (liftS g aBrk) := PS.weak ps_break fun D σ H ⟨m, st, env, EA, R, re, q, c⟩ => c.bk env st σ m H (Ext.refl g m H) R re q
theorem as_continue {pos : Pos} : PS X (.Continue pos) (liftS g aCnt) := PS.weak ps_continue fun D σ H ⟨m, st, env, EA, R, re, q, c⟩ => c.ct env st σ m H (Ext.refl g m H) R re q
theorem as_never {s : Stmt} : PS X s (liftS g aNever) := PS.weak ps_never fun D σ H ⟨m, st, env, EA, R, re, q, c⟩ => q
theorem as_ret {e : Expr} {a : AE} {pos : Pos} (h : PE X e (liftE g a)) : PS X (.Return (some e) pos) (liftS g (aRet a)) := PS.weak (ps_ret h) fun D σ H ⟨m, st, env, EA, R, re, q, c⟩ => ⟨m, st, env, EA.rt, R, re, q, c.rt⟩
theorem as_retN {pos : Pos} : PS X (.Return none pos) (liftS g aRetN) := PS.weak ps_retN fun D σ H ⟨m, st, env, EA, R, re, q, c⟩ => c.rt.same R .non q
theorem as_expr {e : Expr} {a : AE} {pos : Pos} (h : PE X e (liftE g a)) (hs : swapsWith e none pos.line X.env = pure false := by rfl) : PS X (.Expr e pos) (liftS g (aExp a)) := PS.weak (ps_expr h hs) fun D σ H ⟨m, st, env, EA, R, re, q, c⟩ =>
  ⟨m, st, env, _, R, re, q, fun d st' v m' H' E' R' r' q' => c.nx env st' σ m' H' E' R' (re.mono E'.mon) q'⟩
theorem as_if {t : Expr} {a b : List Stmt} {t' : AT} {a' b' : AS} {pos : Pos} (ht : PT X t (liftT g t')) (ha : PSs X a (liftS g a')) (hb : PSs X b (liftS g b')) : PS X (.If t a b pos) (liftS g (aIf t' a' b')) := PS.weak (ps_if ht ha hb) fun D σ H ⟨m, st, env, EA, R, re, q, c⟩ => by
  refine ⟨m, st, env, _, R, re, q, fun k st' m' H' E' R' q' => ?_⟩
  cases k with
  | true => rw [if_pos rfl]; exact ⟨m', st', env, EA, R', re.mono E'.mon, q'.1 rfl, c.mono E'⟩
  | false => rw [if_neg (by decide)]; exact ⟨m', st', env, EA, R', re.mono E'.mon, q'.2 rfl, c.mono E'⟩

/-! ### targets -/
/-- a lifted target: at m, H, the store, the slots and the value -/
def liftG (g : G) (a : AG) : TG := fun v σ H Q => ∃ m st env d QA, Rs g m st H ∧ Re g m H σ env ∧ Rp g m H v d ∧ a d env st QA ∧
  ∀ env' st' σ' m' H', Ext g m H m' H' → Rs g m' st' H' → Re g m' H' σ' env' → QA env' st' → Q σ' H'
theorem PG.weak {tg : Expr} {t t' : TG} (h : PG X tg t) (w : ∀ v σ H Q, t' v σ H Q → t v σ H Q) : PG X tg t' := ⟨fun pins s σ H v u Q I r q => h.run pins s σ H v u Q I r (w v σ H Q q)⟩
theorem ag_nm {x : Expr} {i : Nat} (h : PG X x (gName i)) : PG X x (liftG g (agNm i)) := PG.weak h fun v σ H Q ⟨m, st, env, d, QA, R, re, r, q, c⟩ => c _ st _ m H (Ext.refl g m H) R (re.set r i) q
theorem ag_tup {a b : Expr} {k : Nat} {pos : Pos} {ga gb : AG} (hc : X.calm = true) (ha : PG X a (liftG (gX X) ga)) (hb : PG X b (liftG (gX X) gb))
    (hs1 : (assignEach [a, b] X.env).map (·.2) = assign a X.env :: (assignEach [b] X.env).map (·.2) := by rfl) (hs2 : (assignEach [b] X.env).map (·.2) = assign b X.env :: (assignEach [] X.env).map (·.2) := by rfl)
    (hn : (assignEach [a, b] X.env).length = 2 := by rfl) (hst : (assignEach [a, b] X.env).findIdx? (·.1) = none := by rfl) : PG X (.Tuple [a, b] k pos) (liftG (gX X) (agTup ga gb)) :=
  PG.weak (pg_tup hc (pgs_cons ha (pgs_cons hb pgs_nil hs2) hs1) hn hst) fun v σ H Q ⟨m, st, env, d, QA, R, re, r, q, c⟩ => by
    obtain ⟨d1, d2, rfl, q⟩ := q
    cases r with
    | @tup a vs xs h1 h2 =>
      cases h2 with
      | @cons v1 vs1 _ _ r1 t =>
        cases t with
        | @cons v2 vs2 _ _ r2 t2 =>
          cases t2
          refine ⟨a, [v1, v2], rfl, h1, rfl, v1, [v2], rfl, m, st, env, d1, _, R, re, r1, q, fun env' st' σ' m' H' E' R' re' q' => ?_⟩
          exact ⟨v2, [], rfl, m', st', env', d2, _, R', re', r2.mono E'.mon, q', fun env2 st2 σ2 m2 H2 E2 R2 re2 q2 => ⟨rfl, c env2 st2 σ2 m2 H2 (E'.trans E2) R2 re2 q2⟩⟩
/-- o[i] = v by values -/
def SO3 (g : G) (t : TSet) (p : P3) : Prop := ∀ m st H o i v x y z QA (Q : Hp → Prop), Rs g m st H → Rp g m H o x → Rp g m H i y → Rp g m H v z → p x y z st QA → (∀ st' m' H', Ext g m H m' H' → Rs g m' st' H' → QA st' → Q H') → t o i v H Q
theorem ag_sub {o i : Expr} {o' i' : AE} {t : TSet} {pos : Pos} (ho : PE X o (liftE g o')) (hi : PE X i (liftE g i')) (hs : PSet X t) (hp : SO3 g t pSet)
    (ha : ∀ v, assign (.Subscript o i pos) X.env v = (do
      let ov ← holding [v] (eval o X.env)
      let iv ← holding [v, ov] (eval i X.env)
      standAt pos
      holding [v, ov, iv] (setItem ov iv v)
      release [v, ov, iv] []) := by intro _; rfl) : PG X (.Subscript o i pos) (liftG g (agSub o' i')) :=
  PG.weak (pg_sub ho hi hs ha) fun v σ H Q ⟨m, st, env, d, QA, R, re, r, q, c⟩ =>
    ⟨m, st, env, _, R, re, q, fun x st1 v1 m1 H1 E1 R1 r1 q1 => ⟨m1, st1, env, _, R1, re.mono E1.mon, q1, fun y st2 v2 m2 H2 E2 R2 r2 q2 =>
      hp m2 st2 H2 v1 v2 v x y d _ _ R2 (r1.mono E2.mon) r2 (r.mono (E1.trans E2).mon) q2 fun st3 m3 H3 E3 R3 q3 => c env st3 σ m3 H3 ((E1.trans E2).trans E3) R3 (re.mono ((E1.trans E2).trans E3).mon) q3⟩⟩
theorem as_asg {tg e : Expr} {a : AE} {t : AG} {pos : Pos} (he : PE X e (liftE g a)) (hg : PG X tg (liftG g t)) (hs : swapsWithSole [tg] e pos.line X.env = pure false := by rfl) (hw : swappedStores [tg] e X.env = pure none := by rfl)
    (h1 : (assignEach [tg] X.env).map (·.2) = [assign tg X.env] := by rfl) : PS X (.Assign [tg] e pos) (liftS g (aAsg a t)) := PS.weak (ps_asg he hg hs hw h1) fun D σ H ⟨m, st, env, EA, R, re, q, c⟩ =>
  ⟨m, st, env, _, R, re, q, fun d st' v m' H' E' R' r' q' => ⟨m', st', env, d, _, R', re.mono E'.mon, r', q', fun env2 st2 σ2 m2 H2 E2 R2 re2 q2 => c.nx env2 st2 σ2 m2 H2 (E'.trans E2) R2 re2 q2⟩⟩
theorem as_par {i j : Nat} {x y : Str} {a b : Expr} {l : AL} {px py pt pos : Pos} {kt k2 : Nat} {pt2 : Pos} (hc : X.calm = true) (hN : X.N.Nodup) (hi : X.N[i]? = some x) (hj : X.N[j]? = some y) (hij : i ≠ j)
    (hx : X.env.scope.names.lookup x = some .local) (hy : X.env.scope.names.lookup y = some .local) (ha : PA X [a, b] (liftL g l))
    (hw : swappedStores [.Tuple [.Name x px, .Name y py] kt pt] (.Tuple [a, b] k2 pt2) X.env = pure (some [x, y]))
    (hs : swapsWithSole [.Tuple [.Name x px, .Name y py] kt pt] (.Tuple [a, b] k2 pt2) pos.line X.env = pure false := by rfl) :
    PS X (.Assign [.Tuple [.Name x px, .Name y py] kt pt] (.Tuple [a, b] k2 pt2) pos) (liftS g (aPar i j l)) :=
  PS.weak (ps_par hc hN hi hj hij hx hy ha hw hs) fun D σ H ⟨m, st, env, EA, R, re, q, c⟩ => by
    refine ⟨m, st, env, _, R, re, q, fun ds st1 vs m1 H1 E1 R1 r1 ⟨x, y, e, q1⟩ => ?_⟩
    subst e
    cases r1 with
    | cons r1 t =>
      cases t with
      | cons r2 t2 =>
        cases t2
        exact ⟨_, _, rfl, c.nx _ st1 _ m1 H1 E1 R1 (((re.mono E1.mon).set r1 i).set r2 j) q1⟩

/-! ### attributes, instances -/
theorem fs_look {m : List Addr} {fs : List (Str × D)} {ws : List (Str × V)} (h : Paired (fun (p : Str × D) (q : Str × V) => p.1 = q.1 ∧ Rp g m H q.2 p.2) fs ws) {f : Str} {d : D} (e : fs.lookup f = some d) : ∃ v, ws.lookup f = some v ∧ Rp g m H v d := by
  induction h with
  | nil => simp at e
  | @cons p q fs ws r t ih =>
    obtain ⟨p1, p2⟩ := p
    obtain ⟨q1, q2⟩ := q
    obtain ⟨r1, r2⟩ := r
    simp only at r1 r2
    subst r1
    simp only [List.lookup_cons] at e ⊢
    cases hb : f == p1 with
    | true => rw [hb] at e; cases e; exact ⟨q2, rfl, r2⟩
    | false => rw [hb] at e; exact ih e
theorem fs_none {m : List Addr} {fs : List (Str × D)} {ws : List (Str × V)} (h : Paired (fun (p : Str × D) (q : Str × V) => p.1 = q.1 ∧ Rp g m H q.2 p.2) fs ws) {f : Str} (e : fs.lookup f = none) : ws.lookup f = none := by
  induction h with
  | nil => rfl
  | @cons p q fs ws r t ih =>
    obtain ⟨p1, p2⟩ := p
    obtain ⟨q1, q2⟩ := q
    obtain ⟨r1, r2⟩ := r
    simp only at r1 r2
    subst r1
    simp only [List.lookup_cons] at e ⊢
    cases hb : f == p1 with
    | true => rw [hb] at e; cases e
    | false => rw [hb] at e; exact ih e
theorem fs_put {m : List Addr} {f : Str} {d : D} {v : V} (r : Rp g m H v d) : ∀ {fs : List (Str × D)} {ws : List (Str × V)}, Paired (fun (p : Str × D) (q : Str × V) => p.1 = q.1 ∧ Rp g m H q.2 p.2) fs ws → Paired (fun (p : Str × D) (q : Str × V) => p.1 = q.1 ∧ Rp g m H q.2 p.2) (putF f d fs) (L2.putF f v ws)
  | [], _, .nil => .cons ⟨rfl, r⟩ .nil
  | (k, x) :: fs, _, .cons (b := (k', x')) h t => by
    obtain ⟨h1, h2⟩ := h
    simp only at h1 h2
    subst h1
    unfold putF L2.putF
    by_cases hk : k = f
    · rw [if_pos hk, if_pos hk]; exact .cons ⟨rfl, r⟩ t
    · rw [if_neg hk, if_neg hk]; exact .cons ⟨rfl, h2⟩ (fs_put r t)
theorem fs_len {m : List Addr} {fs : List (Str × D)} {ws : List (Str × V)} (h : Paired (fun (p : Str × D) (q : Str × V) => p.1 = q.1 ∧ Rp g m H q.2 p.2) fs ws) : fs.length = ws.length := Paired.length h
theorem aj_fld {e : Expr} {a : AE} {f : Str} {cs : List Nat} {pos : Pos} (he : PE X e (liftE (gX X) a)) (hC : ∀ C ∈ cs, Cls X.K C ∧ NoAttr X.K C f) (hb : attributeBase e f X.env (eval e X.env) = eval e X.env := by rfl) : PE X (.Attribute e f pos) (liftE (gX X) (aFld cs f a)) :=
  PE.weak (pe_fld he hb) fun σ H Q ⟨m, st, env, QA, R, re, q, c⟩ => by
    refine ⟨m, st, env, _, R, re, q, fun d st1 v m1 H1 E1 R1 r1 ⟨n, C, fs, x, e, e1, hc, e2, q1⟩ => ?_⟩
    subst e
    cases r1 with
    | @ref a _ h1 =>
      obtain ⟨b, h2, h3⟩ := R1.ob n _ e1
      rw [h1] at h2; cases h2
      obtain ⟨dx, ws, h4, h5⟩ := h3
      obtain ⟨w, h6, h7⟩ := fs_look h5 e2
      obtain ⟨k1, k2⟩ := hC C hc
      exact ⟨a, C, dx, ws, w, rfl, h4, k1, k2, h6, c _ st1 _ m1 H1 E1 R1 h7 q1⟩
theorem as_setF {o value : Expr} {f : Str} {cs : List Nat} {pos pos' : Pos} {o' a : AE} (ho : PE X o (liftE (gX X) o')) (hv : PE X value (liftE (gX X) a)) (hC : ∀ C ∈ cs, Cls X.K C ∧ NoAttr X.K C f) (hs : swapsWith value (some (.Attribute o f pos')) pos.line X.env = pure false := by rfl) :
    PS X (.Assign [.Attribute o f pos'] value pos) (liftS (gX X) (aSetF cs o' f a)) := PS.weak (ps_fld ho hv hs) fun D σ H ⟨m, st, env, EA, R, re, q, c⟩ => by
  refine ⟨m, st, env, _, R, re, q, fun d st1 v m1 H1 E1 R1 r1 q1 => ⟨m1, st1, env, _, R1, re.mono E1.mon, q1, fun x st2 u m2 H2 E2 R2 r2 ⟨n, C, fs, e, e1, hc, hl, q2⟩ => ?_⟩⟩
  subst e
  cases r2 with
  | @ref b _ h1 =>
    obtain ⟨b', h2, h3⟩ := R2.ob n _ e1
    rw [h1] at h2; cases h2
    obtain ⟨dx, ws, h4, h5⟩ := h3
    obtain ⟨k1, k2⟩ := hC C hc
    have hm : b ∈ m2 := List.mem_of_getElem? h1
    have E3 := Ext.write (g := gX X) (o := .ins C dx (L2.putF f v ws)) hm h4 rfl
    have hz := fs_len h5
    refine ⟨b, C, dx, ws, rfl, h4, k1, k2, by omega, c.nx env _ σ m2 _ ((E1.trans E2).trans E3) (R2.write h1 h4 rfl ?_) (re.mono ((E1.trans E2).trans E3).mon) q2⟩
    refine ⟨dx, _, upd_same, fs_put ((r1.mono E2.mon).mono E3.mon) (L2.Paired.mapP h5 fun p q r => ⟨r.1, r.2.mono E3.mon⟩)⟩
theorem aj_make {x : Str} {p pos : Pos} {e : Expr} {es : List Expr} {k : Nat} {C f : Addr} {fd : FuncData} {ps : List Str} {sp : ASp} {l : AL} (M : Mk X.K C f) (F : FnOk X.prog X.w X.K X.mg X.base CX0 k f fd ps (liftP (gX X) sp)) (hr : Room (k + 1) X.A) (hg : Gl X x) (hm : X.mg x = some (.ref C))
    (hb : Binds X.K fd ps []) (ha : PA X (e :: es) (liftL (gX X) l)) (hdb : (x == ("__debug__" : Str)) = false := by decide) (he : starEach (e :: es) X.env = (false, eval e X.env) :: starEach es X.env := by rfl) (hpl : (backTo pos (starEach es X.env)).any (·.1) = false := by rfl) :
    PE X (.Call (.Name x p) (e :: es) [] pos) (liftE (gX X) (aMake C sp l)) := PE.weak (pe_make M F hr hg hm hb .nil pass0 ha hdb he hpl) fun σ H Q ⟨m, st, env, QA, R, re, q, c⟩ => by
  refine ⟨m, st, env, _, R, re, q, fun ds st1 vs m1 H1 E1 R1 r1 q1 y dx hy hdx hne => ?_⟩
  rw [List.append_nil]
  have ny : upd H1 dx (.own y) y = none := by rw [upd_ne (Ne.symm hne)]; exact hy
  have E2 := (Ext.free (g := gX X) (m := m1) (o := .own y) hdx)
  have R2 := R1.free (o := .own y) hdx
  have E3 := Ext.new (o := .ins C dx []) R2 ny
  have R3 : Rs (gX X) (m1 ++ [y]) (st1 ++ [.ins C []]) (upd (upd H1 dx (.own y)) y (.ins C dx [])) := R2.new ny ⟨dx, [], upd_same, .nil⟩
  refine ⟨m1 ++ [y], _, _, _, R3, .cons R1.newRef (r1.mono (E2.trans E3).mon), q1, fun d st' v m' H' E' R' r' ⟨e, q'⟩ => ?_⟩
  subst e
  cases r'
  exact ⟨rfl, c _ st' _ m' H' (((E1.trans E2).trans E3).trans E') R' (R1.newRef.mono E'.mon) q'⟩
theorem aj_meth {o e : Expr} {es : List Expr} {mn : Str} {apos pos : Pos} {k : Nat} {C f : Addr} {fd : FuncData} {ps : List Str} {sp : ASp} {a : AE} {l : AL} {pl : Sem Bool} (ho : PE X o (liftE (gX X) a)) (cl : Cls X.K C) (hm : Meth X.K C mn f)
    (F : FnOk X.prog X.w X.K X.mg X.base CX0 k f fd ps (liftP (gX X) sp)) (hr : Room k X.A) (hb : Binds X.K fd ps []) (ha : PA X (e :: es) (liftL (gX X) l))
    (hst : starEach (e :: es) X.env = (false, eval e X.env) :: starEach es X.env := by rfl) (hpl : (backTo pos (starEach es X.env)).any (·.1) = false := by rfl)
    (ht : eval (.Call (.Attribute o mn apos) (e :: es) [] pos) X.env = (do
      let ov ← eval o X.env
      standAt apos.atName
      let (f, first) ← holding [ov] (getMethod ov mn pl)
      callWith pos f first (backTo pos (starEach (e :: es) X.env)) (backToKw pos (keywordEach [] X.env))) := by rfl) :
    PE X (.Call (.Attribute o mn apos) (e :: es) [] pos) (liftE (gX X) (aMeth C mn sp a l)) := PE.weak (pe_meth ho cl hm F hr hb .nil pass0 ha hst hpl ht) fun σ H Q ⟨m, st, env, QA, R, re, q, c⟩ => by
  refine ⟨m, st, env, _, R, re, q, fun x st1 v m1 H1 E1 R1 r1 ⟨n, fs, e, e1, e2, q1⟩ => ?_⟩
  subst e
  have r1' := r1
  cases r1 with
  | @ref b _ h1 =>
    obtain ⟨b', h2, h3⟩ := R1.ob n _ e1
    rw [h1] at h2; cases h2
    obtain ⟨dx, ws, h4, h5⟩ := h3
    refine ⟨b, dx, ws, rfl, h4, fs_none h5 e2, m1, st1, env, _, R1, re.mono E1.mon, q1, fun ds st2 vs m2 H2 E2 R2 r2 q2 => ?_⟩
    show liftP (gX X) sp (V.ref b :: (vs ++ [])) H2 Q E0
    rw [List.append_nil]
    exact ⟨m2, st2, _, QA, R2, .cons (r1'.mono E2.mon) r2, q2, c.mono (E1.trans E2)⟩
end
end Ab

set_option Elab.async false
set_option linter.all false
set_option maxRecDepth 100000
set_option maxHeartbeats 2000000
/-! What is walked; for, while; comprehensions. -/
namespace Ab
open PySem PySem.Spec PyProof.Rows L2

section
variable {X : Cx} {g : G} {σ : L2.St} {H : Hp}
/-- what a walk leans on -/
structure Sees (g : G) (m : List Addr) (H : Hp) (m' : List Addr) (H' : Hp) : Prop extends Mon g m H m' H' where
  fr : ∀ a o u, H a = some (.frz o u) → H' a = some (.frz o u)
theorem Sees.mon {m m' : List Addr} {H' : Hp} (E : Sees g m H m' H') : Mon g m H m' H' := E.toMon
theorem Ext.sees {m m' : List Addr} {H' : Hp} (E : Ext g m H m' H') : Sees g m H m' H' := { toMon := E.mon, fr := E.fr }
theorem Sees.trans {m m1 m2 : List Addr} {H1 H2 : Hp} (E : Sees g m H m1 H1) (F : Sees g m1 H1 m2 H2) : Sees g m H m2 H2 :=
  { toMon := ⟨fun n a h => F.ix n a (E.ix n a h), fun a vs h => F.tp a vs (E.tp a vs h), fun a vs h => F.fz a vs (E.fz a vs h)⟩, fr := fun a o u h => F.fr a o u (E.fr a o u h) }
/-- the iterator J yields the items of it, as long as they may be walked -/
def ItRep (g : G) (m : List Addr) (H : Hp) (J : It) (it : Itm) : Prop := ∀ (i : Nat) m1 st1 H1, Sees g m H m1 H1 → Rs g m1 st1 H1 → it.chk st1 →
  (∀ d, it.xs[i]? = some d → J.go i H1 ∧ ∀ x H2, J.yld i H1 x H2 → Ext g m1 H1 m1 H2 ∧ Rs g m1 st1 H2 ∧ Rp g m1 H2 x d) ∧ (it.xs.length ≤ i → J.stop i H1)
def liftI (g : G) (s : ASrc) : TI := fun σ H R => ∃ m st env RA, Rs g m st H ∧ Re g m H σ env ∧ s env st RA ∧ ∀ it st1 m1 H1 J, Ext g m H m1 H1 → Rs g m1 st1 H1 → ItRep g m1 H1 J it → RA it st1 → R J H1
theorem ai_range1 {tg a : Expr} {l : AL} {p pos : Pos} (hg : Gl X "range") (hm : X.mg "range" = none) (ha : PA X [a] (liftL g l)) (hs : starEach [a] X.env = [(false, eval a X.env)] := by rfl) : PI X tg (.Call (.Name "range" p) [a] [] pos) (liftI g (sRng1 l)) :=
  PI.weak (pi_range1 hg hm ha hs) fun σ H R ⟨m, st, env, RA, Rr, re, q, c⟩ => by
    refine ⟨m, st, env, _, Rr, re, q, fun ds st1 vs m1 H1 E1 R1 r1 ⟨j, e, b1, b2, q1⟩ => ?_⟩
    subst e
    cases r1 with
    | cons r t =>
      cases r
      cases t
      refine ⟨j, rfl, b1, b2, c _ st1 m1 H1 _ E1 R1 (fun i m2 st2 H2 E2 R2 _ => ⟨fun d e => ?_, fun hl => ?_⟩) q1⟩
      · have e' : (rng 0 j.toNat)[i]? = some d := e
        unfold rng at e'
        rw [List.getElem?_map] at e'
        obtain ⟨k, e2, e3⟩ := Option.map_eq_some_iff.mp e'
        have hk := List.getElem?_eq_some_iff.mp e2
        obtain ⟨hk1, hk2⟩ := hk
        rw [List.getElem_range] at hk2
        rw [List.length_range] at hk1
        subst hk2
        subst e3
        refine ⟨hk1, fun x H3 y => ?_⟩
        obtain ⟨rfl, rfl⟩ := y
        exact ⟨Ext.refl _ _ _, R2, .int _⟩
      · have hl' : (rng 0 j.toNat).length ≤ i := hl
        unfold rng at hl'
        rw [List.length_map, List.length_range] at hl'
        exact hl'
theorem ai_range2 {tg a b : Expr} {l : AL} {p pos : Pos} (hg : Gl X "range") (hm : X.mg "range" = none) (ha : PA X [a, b] (liftL g l)) (hs : starEach [a, b] X.env = [(false, eval a X.env), (false, eval b X.env)] := by rfl) (hs2 : starEach [b] X.env = [(false, eval b X.env)] := by rfl) : PI X tg (.Call (.Name "range" p) [a, b] [] pos) (liftI g (sRng2 l)) :=
  PI.weak (pi_range2 hg hm ha hs hs2) fun σ H R ⟨m, st, env, RA, Rr, re, q, c⟩ => by
    refine ⟨m, st, env, _, Rr, re, q, fun ds st1 vs m1 H1 E1 R1 r1 ⟨lo, j, e, b1, q1⟩ => ?_⟩
    subst e
    cases r1 with
    | cons r t =>
      cases r
      cases t with
      | cons r t =>
        cases r
        cases t
        refine ⟨lo, j, rfl, b1, c _ st1 m1 H1 _ E1 R1 (fun i m2 st2 H2 E2 R2 _ => ⟨fun d e => ?_, fun hl => ?_⟩) q1⟩
        · have e' : (rng lo (j - lo).toNat)[i]? = some d := e
          unfold rng at e'
          rw [List.getElem?_map] at e'
          obtain ⟨k, e2, e3⟩ := Option.map_eq_some_iff.mp e'
          have hk := List.getElem?_eq_some_iff.mp e2
          obtain ⟨hk1, hk2⟩ := hk
          rw [List.getElem_range] at hk2
          rw [List.length_range] at hk1
          subst hk2
          subst e3
          refine ⟨hk1, fun x H3 y => ?_⟩
          obtain ⟨rfl, rfl⟩ := y
          exact ⟨Ext.refl _ _ _, R2, .int _⟩
        · have hl' : (rng lo (j - lo).toNat).length ≤ i := hl
          unfold rng at hl'
          rw [List.length_map, List.length_range] at hl'
          exact hl'
theorem Itt_rep {m : List Addr} {a : Addr} {vs : List V} {xs : List D} (hI : ∀ H ys, SqT g.K H a ys → SqT g.K H a vs → ys = vs) (h : SqT g.K H a vs) (r : RpL g m H vs xs) : ItRep g m H (Itt g.K a) ⟨xs, fun _ => True⟩ := by
  intro i m1 st1 H1 E1 R1 _
  have h1 := E1.tp _ _ h
  refine ⟨fun d e => ?_, fun hl => ⟨vs, h1, by rw [r.length]; exact hl⟩⟩
  obtain ⟨v, e1, r1⟩ := r.get e
  refine ⟨⟨vs, v, h1, e1⟩, fun x H2 y => ?_⟩
  obtain ⟨rfl, y⟩ := y
  have := y vs h1
  rw [e1] at this; cases this
  exact ⟨Ext.refl _ _ _, R1, r1.mono E1.mon⟩
theorem Itl_rep {m : List Addr} {st : Store} {n : Nat} {a : Addr} {xs : List D} (hn : m[n]? = some a) : ItRep g m H (Itl g.K a) ⟨xs, fun st => st[n]? = some (.lst xs)⟩ := by
  intro i m1 st1 H1 E1 R1 hc
  have hn1 := E1.mon.ix n a hn
  obtain ⟨b, e0, vs, e1, r1⟩ := R1.ob n _ hc
  rw [hn1] at e0; cases e0
  have sq : SqL g.K H1 a vs := .inl (.inl e1)
  refine ⟨fun d e => ?_, fun hl => ⟨vs, sq, by rw [r1.length]; exact hl⟩⟩
  obtain ⟨v, e2, r2⟩ := r1.get e
  refine ⟨⟨vs, v, sq, e2⟩, fun x H2 y => ?_⟩
  obtain ⟨rfl, y⟩ := y
  have := y vs sq
  rw [e2] at this; cases this
  exact ⟨Ext.refl _ _ _, R1, r2⟩
theorem Its_rep {m : List Addr} {s : Str} : ItRep g m H (Its s) ⟨chars s, fun _ => True⟩ := by
  intro i m1 st1 H1 E1 R1 _
  refine ⟨fun d e => ?_, fun hl => ?_⟩
  · have e' : (s.cps.toList.map fun c => D.str ⟨#[c]⟩)[i]? = some d := e
    rw [List.getElem?_map] at e'
    obtain ⟨c, e2, e3⟩ := Option.map_eq_some_iff.mp e'
    subst e3
    have e4 : s.cps[i]? = some c := by simpa using e2
    refine ⟨(Array.getElem?_eq_some_iff.mp e4).1, fun x H2 y => ?_⟩
    obtain ⟨rfl, c', e5, rfl⟩ := y
    rw [e4] at e5; cases e5
    exact ⟨Ext.refl _ _ _, R1, .str _⟩
  · have hl' : (s.cps.toList.map fun c => D.str ⟨#[c]⟩).length ≤ i := hl
    show s.cps.size ≤ i
    simpa using hl'
/-- a name or the like: a tuple, a list, a text -/
theorem ai_items {tg e : Expr} {a : AE} (he : PE X e (liftE (gX X) a)) : PI X tg e (liftI (gX X) (sItems a)) := by
  refine ⟨fun pins s σ H R I h => ?_⟩
  obtain ⟨m, st, env, RA, Rr, re, q, c⟩ := h
  refine thn (he.run pins s σ H _ I ⟨m, st, env, _, Rr, re, q, fun d st' v m' H' E' R' r' q' => (show ∃ (d : D) (st' : Store) (m' : List Addr), Ext (gX X) m H m' H' ∧ Rs (gX X) m' st' H' ∧ Rp (gX X) m' H' v d ∧ _ from ⟨d, st', m', E', R', r', q'⟩)⟩) fun u s1 ⟨x, H1, I1, rx, d, st1, m1, E1, R1, r1, q1⟩ => ?_
  rcases q1 with ⟨xs, rfl, q1⟩ | ⟨n, xs, rfl, hn, q1⟩ | ⟨z, rfl, q1⟩
  · cases r1 with
    | @tup b vs _ h1 h2 =>
      cases rx
      obtain ⟨its, rv, p, hz⟩ := I1.tuple h1
      refine wpAny_pyIter_tuple (show s1.heap.IsTuple b its.toArray from p) ?_
      refine ⟨s1.heap.objs.size, [s1.heap.objs.size], _, _, H1, rfl, I1.kept (t' := s1.toks) fun b o e => Heap.get?_push_of_some _ e, turn_tuple b _, ⟨_, Heap.get?_push_size _ rfl, rfl, rfl⟩, fun b hb => ?_, c _ st1 m1 H1 _ E1 R1 ?_ q1⟩
      · have e : b = s1.heap.objs.size := by simpa using hb
        subst e
        exact I1.fpOk (Nat.le_refl _) (I1.hok.fresh (Nat.le_refl _))
      · intro i m2 st2 H2 E2 R2 _
        have h3 := E2.tp _ _ h1
        refine ⟨fun d e => ?_, fun hl => ⟨vs, h3, by rw [h2.length]; exact hl⟩⟩
        obtain ⟨v, e1, r3⟩ := h2.get e
        refine ⟨⟨vs, v, h3, e1⟩, fun x H3 y => ?_⟩
        obtain ⟨rfl, y⟩ := y
        have := y vs h3
        rw [e1] at this; cases this
        exact ⟨Ext.refl _ _ _, R2, r3.mono E2.mon⟩
  · cases r1 with
    | @ref b _ h1 =>
      cases rx
      obtain ⟨b', e0, vs, e1, r1⟩ := R1.ob n _ hn
      rw [h1] at e0; cases e0
      have sq : SqL X.K H1 b vs := .inl (.inl e1)
      obtain ⟨its, rv, p, hz⟩ := I1.list sq
      refine wpAny_pyIter_list p.isList ?_
      refine ⟨s1.heap.objs.size, [s1.heap.objs.size], _, _, H1, rfl, I1.kept (t' := s1.toks) fun b o e => Heap.get?_push_of_some _ e, turn_list b _, ⟨_, Heap.get?_push_size _ rfl, rfl, rfl⟩, fun b hb => ?_, c _ st1 m1 H1 _ E1 R1 (Itl_rep (st := st1) h1) q1⟩
      have e : b = s1.heap.objs.size := by simpa using hb
      subst e
      exact I1.fpOk (Nat.le_refl _) (I1.hok.fresh (Nat.le_refl _))
  · cases r1
    obtain ⟨t, rfl⟩ := rx
    cases ha : z.cps.all (· < 128)
    · exact wpAny_pyIter_wide ha (pi_one (tk := s1.toks) I1 _ (turn_str _ z t "str_iterator" (.inr rfl)) ⟨_, Heap.get?_push_size _ rfl, rfl, rfl⟩ (c _ st1 m1 H1 _ E1 R1 Its_rep q1))
    · exact wpAny_pyIter_ascii ha (pi_one (tk := s1.toks) I1 _ (turn_str _ z t "str_ascii_iterator" (.inl rfl)) ⟨_, Heap.get?_push_size _ rfl, rfl, rfl⟩ (c _ st1 m1 H1 _ E1 R1 Its_rep q1))

/-! ### the loop's target -/
def gP (g : G) : Pat → TG
  | .nm i => gName i
  | .pr i j => gTup g.K 2 (gCons (gName i) (gCons (gName j) gNil))
theorem gP_ok {m : List Addr} {p : Pat} {v : V} {d : D} {env : Env} {QE : Env → Prop} {Q : L2.St → Hp → Prop} (re : Re g m H σ env) (r : Rp g m H v d) (h : bindP p d env QE) (k : ∀ σ' env', Re g m H σ' env' → QE env' → Q σ' H) : gP g p v σ H Q := by
  cases p with
  | nm i => exact k _ _ (re.set r i) h
  | pr i j =>
    obtain ⟨a, b, e, q⟩ := h
    subst e
    cases r with
    | @tup ad vs _ h1 h2 =>
      cases h2 with
      | @cons v1 _ _ _ r1 t =>
        cases t with
        | @cons v2 _ _ _ r2 t2 =>
          cases t2
          exact ⟨ad, _, rfl, h1, rfl, v1, _, rfl, v2, _, rfl, rfl, k _ _ ((re.set r1 i).set r2 j) q⟩
theorem pg_pr {a b : Expr} {i j k : Nat} {pos : Pos} (hc : X.calm = true) (ha : PG X a (gName i)) (hb : PG X b (gName j))
    (hs1 : (assignEach [a, b] X.env).map (·.2) = assign a X.env :: (assignEach [b] X.env).map (·.2) := by rfl) (hs2 : (assignEach [b] X.env).map (·.2) = assign b X.env :: (assignEach [] X.env).map (·.2) := by rfl)
    (hn : (assignEach [a, b] X.env).length = 2 := by rfl) (hst : (assignEach [a, b] X.env).findIdx? (·.1) = none := by rfl) : PG X (.Tuple [a, b] k pos) (gP (gX X) (.pr i j)) :=
  pg_tup hc (pgs_cons ha (pgs_cons hb pgs_nil hs2) hs1) hn hst

/-! ### for -/
theorem lift_for {m1 : List Addr} {H1 : Hp} {st1 : Store} {env : Env} {it : Itm} {J : It} {p : Pat} {b : AS} {EA : AEnds} {D : Ends} (R1 : Rs g m1 st1 H1) (re : Re g m1 H1 σ env) (rep : ItRep g m1 H1 J it) (q : forRun it p b EA env st1) (c : CS g m1 H1 EA D) :
    ∃ W : Nat → Nat → L2.St → Hp → Prop, (∃ m, W 0 m σ H1) ∧ ∀ i m σ H, W i m σ H →
      (J.stop i H ∧ D.nx σ H) ∨ (J.go i H ∧ ∃ N : L2.St → Hp → Prop, (∀ σ' H', N σ' H' → ∃ m', m' < m ∧ W (i + 1) m' σ' H') ∧ ∀ x H', J.yld i H x H' → gP g p x σ H' fun σ2 H2 => liftS g b { D with nx := N, ct := N, bk := D.nx } σ2 H2) := by
  obtain ⟨I, h0, hchk, hstep, hend⟩ := q
  refine ⟨fun i k σ' H' => k = it.xs.length - i ∧ i ≤ it.xs.length ∧ ∃ m' st' env', Ext g m1 H1 m' H' ∧ Rs g m' st' H' ∧ Re g m' H' σ' env' ∧ I i env' st', ⟨it.xs.length, by simp, Nat.zero_le _, m1, st1, env, Ext.refl _ _ _, R1, re, h0⟩, ?_⟩
  rintro i k σ' H' ⟨rfl, hi, m', st', env', E', R', re', hI⟩
  have hr := rep i m' st' H' E'.sees R' (hchk i env' st' hI)
  by_cases hl : i < it.xs.length
  · have e : it.xs[i]? = some it.xs[i] := List.getElem?_eq_getElem hl
    obtain ⟨go, yl⟩ := hr.1 _ e
    refine .inr ⟨go, fun σ2 H2 => ∃ m2 st2 env2, Ext g m1 H1 m2 H2 ∧ Rs g m2 st2 H2 ∧ Re g m2 H2 σ2 env2 ∧ I (i + 1) env2 st2, fun σ2 H2 ⟨m2, st2, env2, E2, R2, re2, h2⟩ => ⟨it.xs.length - (i + 1), by omega, rfl, hl, m2, st2, env2, E2, R2, re2, h2⟩, fun x H2 hy => ?_⟩
    obtain ⟨E2, R2, r2⟩ := yl x H2 hy
    have E3 := E'.trans E2
    refine gP_ok (re'.mono E2.mon) r2 (hstep i _ env' st' e hI) fun σ2 env2 re2 hb => ⟨m', st', env2, _, R2, re2, hb, ?_⟩
    exact ⟨fun e s σ3 m3 H3 F R3 r3 q3 => ⟨m3, s, e, E3.trans F, R3, r3, q3⟩, fun e s σ3 m3 H3 F R3 r3 q3 => c.nx e s σ3 m3 H3 (E3.trans F) R3 r3 q3, fun e s σ3 m3 H3 F R3 r3 q3 => ⟨m3, s, e, E3.trans F, R3, r3, q3⟩, c.rt.mono E3⟩
  · have e : i = it.xs.length := by omega
    subst e
    exact .inl ⟨hr.2 (Nat.le_refl _), c.nx env' st' σ' m' H' E' R' re' (hend env' st' hI)⟩
theorem as_for {tg iter : Expr} {body : List Stmt} {src : ASrc} {p : Pat} {b : AS} {pos : Pos} (hp : PassesOwn (model X.prog X.w) X.A X.env X.xe) (hc : X.calm = true) (hi : PI X tg iter (liftI g src)) (hg : PG X tg (gP g p)) (hb : PSs X body (liftS g b))
    (hs : ∀ x, foldedSetIterable iter X.env x = pure x := by intro _; rfl) : PS X (.For tg iter body [] pos) (liftS g (aFor src p b)) :=
  PS.weak (ps_for hp hc hi hg hb hs) fun D σ H ⟨m, st, env, EA, R, re, q, c⟩ =>
    ⟨m, st, env, _, R, re, q, fun it st1 m1 H1 J E1 R1 rep q1 => lift_for R1 (re.mono E1.mon) rep q1 (c.mono E1)⟩

/-! ### while -/
theorem as_while {t : Expr} {body : List Stmt} {t' : AT} {b : AS} {pos : Pos} (hp : PassesOwn (model X.prog X.w) X.A X.env X.xe) (hc : PT X t (liftT g t')) (hb : PSs X body (liftS g b)) : PS X (.While t body [] pos) (liftS g (aWhile t' b)) :=
  PS.weak (ps_while hp hc hb) fun D σ H ⟨m, st, env, EA, R, re, ⟨I, ⟨k0, h0⟩, turn⟩, c⟩ => by
    refine ⟨fun k σ' H' => ∃ m' st' env', Ext g m H m' H' ∧ Rs g m' st' H' ∧ Re g m' H' σ' env' ∧ I k env' st', ⟨k0, m, st, env, Ext.refl _ _ _, R, re, h0⟩, ?_⟩
    rintro k σ1 H1 ⟨m1, st1, env1, E1, R1, re1, h1⟩
    refine ⟨m1, st1, env1, _, R1, re1, turn k env1 st1 h1, fun z st2 m2 H2 E2 R2 br => ?_⟩
    have E12 := E1.trans E2
    cases z with
    | true =>
      refine iteT ?_
      refine ⟨fun σ3 H3 => ∃ k', k' < k ∧ ∃ m' st' env', Ext g m H m' H3 ∧ Rs g m' st' H3 ∧ Re g m' H3 σ3 env' ∧ I k' env' st', fun σ3 H3 h => h, ?_⟩
      refine ⟨m2, st2, env1, _, R2, re1.mono E2.mon, br.1 rfl, ?_⟩
      exact ⟨fun e s σ3 m3 H3 F R3 r3 ⟨k', hk, q3⟩ => ⟨k', hk, m3, s, e, E12.trans F, R3, r3, q3⟩, fun e s σ3 m3 H3 F R3 r3 q3 => c.nx e s σ3 m3 H3 (E12.trans F) R3 r3 q3, fun e s σ3 m3 H3 F R3 r3 ⟨k', hk, q3⟩ => ⟨k', hk, m3, s, e, E12.trans F, R3, r3, q3⟩, c.rt.mono E12⟩
    | false =>
      refine iteF ?_
      exact c.nx env1 st2 σ1 m2 H2 E12 R2 (re1.mono E2.mon) (br.2 rfl)
end
end Ab

set_option Elab.async false
set_option linter.all false
set_option maxRecDepth 100000
set_option maxHeartbeats 2000000
/-! Keys and dicts. -/
namespace Ab
open PySem PySem.Spec PyProof.Rows L2

section
variable {X : Cx} {pins : List (Addr × Obj)} {σ : L2.St} {H : Hp} {s : Shared} {m : List Addr}
mutual
theorem Rp.key (I : Inv X pins σ H s) : ∀ (k : NestedKey) (v : V) (u : Value), Rp (gX X) m H v (dk k) → RelV v u → NestedIs s.heap k u
  | .none, v, u, h, r => by
    unfold dk at h; cases h; cases r; exact .none
  | .num i, v, u, h, r => by
    unfold dk at h; cases h; obtain ⟨t, rfl⟩ := r; exact .int i t
  | .text x, v, u, h, r => by
    unfold dk at h; cases h; obtain ⟨t, rfl⟩ := r; exact .text x t
  | .tup ks, v, u, h, r => by
    unfold dk at h
    cases h with
    | @tup a vs _ h1 h2 =>
      cases r
      obtain ⟨its, rv, ⟨o, e1, e2, n, e3⟩, hz⟩ := I.tuple h1
      refine .tup e1 e2 e3 ?_
      exact RpL.keys I ks vs its h2 rv
theorem RpL.keys (I : Inv X pins σ H s) : ∀ (ks : List NestedKey) (vs : List V) (us : List Value), RpL (gX X) m H vs (dks ks) → Vals vs us → NestedAll s.heap ks us
  | [], vs, us, h, r => by
    unfold dks at h; cases h; cases r; exact .nil
  | k :: ks, vs, us, h, r => by
    unfold dks at h
    cases h with
    | cons h1 h2 =>
      cases r with
      | cons r1 r2 => exact .cons (Rp.key I k _ _ h1 r1) (RpL.keys I ks _ _ h2 r2)
end
end

section
variable {g : G} {m : List Addr} {H : Hp}
theorem val_pos {κ α : Type} [DecidableEq κ] {p : κ × α} {r : List (κ × α)} {k : κ} (e : p.1 = k) : val (p :: r) k = some p.2 := by simp [val, List.find?_cons, e]
theorem val_neg {κ α : Type} [DecidableEq κ] {p : κ × α} {r : List (κ × α)} {k : κ} (e : ¬ p.1 = k) : val (p :: r) k = val r k := by simp [val, List.find?_cons, e]
theorem val_any {κ α : Type} [DecidableEq κ] (k : κ) : ∀ kvs : List (κ × α), (kvs.any fun kv => decide (kv.1 = k)) = (val kvs k).isSome
  | [] => rfl
  | p :: r => by
    rw [List.any_cons]
    by_cases e : p.1 = k
    · simp only [val_pos e, decide_eq_true e, Bool.true_or, Option.isSome_some]
    · rw [val_neg e, decide_eq_false e, Bool.false_or]; exact val_any k r
abbrev Ens (g : G) (m : List Addr) (H : Hp) : List (NestedKey × D) → List (NestedKey × Addr × Value) → Prop := Paired (En g m H)
theorem Ens.val {kvs : List (NestedKey × D)} {xs : List (NestedKey × Addr × Value)} (r : Ens g m H kvs xs) (k : NestedKey) :
    (val kvs k = none ∧ atKey xs k = none) ∨ ∃ d p v, val kvs k = some d ∧ atKey xs k = some p ∧ RelV v p.2 ∧ Rp g m H v d := by
  induction r with
  | nil => exact .inl ⟨rfl, rfl⟩
  | @cons p q ps qs h t ih =>
    obtain ⟨h1, _, _, _, v, h2, h3⟩ := h
    by_cases e : p.1 = k
    · have e' : q.1 = k := h1.symm.trans e
      have b : atKey (q :: qs) k = some q.2 := by simp [atKey, List.find?_cons, e']
      rw [val_pos e, b]; exact .inr ⟨_, _, v, rfl, rfl, h2, h3⟩
    · have e' : ¬ q.1 = k := fun z => e (h1.trans z)
      have b : atKey (q :: qs) k = atKey qs k := by simp [atKey, List.find?_cons, e']
      rw [val_neg e, b]; exact ih
theorem Ens.isSome {kvs : List (NestedKey × D)} {xs : List (NestedKey × Addr × Value)} (r : Ens g m H kvs xs) (k : NestedKey) : (Ab.val kvs k).isSome = (atKey xs k).isSome := by
  rcases r.val k with ⟨e1, e2⟩ | ⟨d, p, v, e1, e2, _⟩ <;> rw [e1, e2] <;> rfl
theorem Ens.repl {kvs : List (NestedKey × D)} {xs : List (NestedKey × Addr × Value)} (r : Ens g m H kvs xs) (k : NestedKey) {d : D} {v : V} {u : Value} (rv : RelV v u) (rp : Rp g m H v d) :
    Ens g m H (kvs.map fun kv => if kv.1 = k then (kv.1, d) else kv) (xs.map (putAt k u)) := by
  induction r with
  | nil => exact .nil
  | @cons p q ps qs h t ih =>
    rw [List.map_cons, List.map_cons]
    refine .cons ?_ ih
    obtain ⟨h1, h2, h3, h4, w, h5, h6⟩ := h
    unfold putAt
    by_cases e : p.1 = k
    · rw [if_pos e, if_pos (h1.symm.trans e)]; exact ⟨h1, h2, h3, h4, v, rv, rp⟩
    · rw [if_neg e, if_neg (fun z => e (h1.trans z))]; exact ⟨h1, h2, h3, h4, w, h5, h6⟩
theorem Paired.snoc' {α β : Type} {F : α → β → Prop} {a : α} {b : β} (f : F a b) : ∀ {l : List α} {k : List β}, Paired F l k → Paired F (l ++ [a]) (k ++ [b])
  | _, _, .nil => .cons f .nil
  | _, _, .cons r t => .cons r (Paired.snoc' f t)
theorem Ens.put {kvs : List (NestedKey × D)} {xs : List (NestedKey × Addr × Value)} (r : Ens g m H kvs xs) (k : NestedKey) {b : Addr} {d : D} {v : V} {u : Value} (hk : Rp g m H (.ref b) (dk k)) (ht : ∃ ks, k = .tup ks) (hd : k.depth ≤ 8) (rv : RelV v u) (rp : Rp g m H v d) :
    Ens g m H (Ab.put kvs k d) (storedH xs k b u) := by
  unfold Ab.put storedH
  rw [val_any, r.isSome]
  by_cases q : (atKey xs k).isSome = true
  · rw [if_pos q, if_pos q]; exact r.repl k rv rp
  · rw [if_neg q, if_neg q]; exact Paired.snoc' ⟨rfl, hk, ht, hd, v, rv, rp⟩ r
theorem put_le {κ α : Type} [DecidableEq κ] (kvs : List (κ × α)) (k : κ) (v : α) : (Ab.put kvs k v).length ≤ kvs.length + 1 := by
  unfold Ab.put
  split
  · rw [List.length_map]; omega
  · rw [List.length_append]; exact Nat.le_refl _
end

section
variable {X : Cx} {pins : List (Addr × Obj)} {σ : L2.St} {H : Hp} {s : Shared} {m : List Addr} {a : Addr}
/-- the dict at a, read -/
def DtAt (g : G) (m : List Addr) (H : Hp) (a : Addr) (kvs : List (NestedKey × D)) (xs : List (NestedKey × Addr × Value)) : Prop := Rd H a (.ext (dPhi g a xs)) ∧ Ens g m H kvs xs
theorem RO.dtAt {g : G} {lk : Bool} {kvs : List (NestedKey × D)} (h : RO g m H a (.dt lk kvs)) : ∃ xs, DtAt g m H a kvs xs := by
  obtain ⟨xs, h1, h2⟩ := h
  refine ⟨xs, ?_, h2⟩
  cases lk with
  | true =>
    rw [if_pos rfl] at h1
    obtain ⟨o, h1⟩ := h1
    exact .inr ⟨o, h1⟩
  | false =>
    rw [if_neg (by decide)] at h1
    exact .inl h1
theorem DtAt.dictH {kvs : List (NestedKey × D)} {xs : List (NestedKey × Addr × Value)} (I : Inv X pins σ H s) (h : DtAt (gX X) m H a kvs xs) : s.heap.DictOfH (nestedKind X.prog X.w) a xs ∧ (a == sysModules) = false ∧ xs.length ≤ sizeLine := by
  obtain ⟨h1, h2⟩ := h
  have q : ObjOk X.prog X.w H s.heap a (.ext (dPhi (gX X) a xs)) := h1.ok I.hok
  obtain ⟨⟨o, es, ep, e1, e2, e3, e4, e5, e6, e7⟩, _, _⟩ := q
  refine ⟨⟨o, es, ep, e1, e2, e3, e4, fun y hy => ?_, e5⟩, e6, e7⟩
  have all : ∀ {kvs : List (NestedKey × D)} {xs : List (NestedKey × Addr × Value)}, Ens (gX X) m H kvs xs → ∀ y ∈ xs, (nestedKind X.prog X.w).is s.heap y.1 y.2.1 := by
    intro kvs xs r
    induction r with
    | nil => intro y hy; cases hy
    | @cons p q ps qs h t ih =>
      intro y hy
      rcases List.mem_cons.mp hy with rfl | hy
      · obtain ⟨h1, h2, h3, h4, _⟩ := h
        refine ⟨?_, by rw [← h1]; exact h4⟩
        rw [← h1]
        exact Rp.key I p.1 _ _ h2 rfl
      · exact ih y hy
  exact all h2 y hy
theorem key_is {k : NestedKey} {b : Addr} (I : Inv X pins σ H s) (h : Rp (gX X) m H (.ref b) (dk k)) (hd : k.depth ≤ 8) : (nestedKind X.prog X.w).is s.heap k b := ⟨Rp.key I k _ _ h rfl, hd⟩
theorem key_ref {g : G} {k : NestedKey} {v : V} (h : Rp g m H v (dk k)) (ht : ∃ ks, k = .tup ks) : ∃ b, v = .ref b := by
  obtain ⟨ks, rfl⟩ := ht
  unfold dk at h
  cases h with
  | @tup b _ _ _ _ => exact ⟨b, rfl⟩

/-! ### k in d, d[k], d[k] = v -/
def rDIn (g : G) (neg : Bool) : R2 := fun x y H Q => ∃ (m : List Addr) (a : Addr) (kvs : List (NestedKey × D)) (xs : List (NestedKey × Addr × Value)) (k : NestedKey) (b : Addr), y = .ref a ∧ x = .ref b ∧ DtAt g m H a kvs xs ∧ Rp g m H (.ref b) (dk k) ∧ k.depth ≤ 8 ∧ Q (.bl (if neg then !(val kvs k).isSome else (val kvs k).isSome)) H
theorem op_dIn (hu : X.A.units + 64 < cLine) : OpR X (compareOp .In) (rDIn (gX X) false) := by
  intro pins s σ H x y v u Q I rx ry h
  obtain ⟨m, a, kvs, xs, k, b, rfl, rfl, hd, hk, hz, q⟩ := h
  cases rx; cases ry
  obtain ⟨dh, hs, hl⟩ := hd.dictH I
  refine wpAny_in_heap (knd := nestedKind X.prog X.w) (show X.A.in1.units + 8 < cLine by simp only [Around.in1_units]; omega) (key_is I hk hz) hs dh ?_
  rw [← hd.2.isSome k]
  exact ⟨.bl _, H, I.tok _, rfl, q⟩
theorem op_dNotIn (hu : X.A.units + 64 < cLine) : OpR X (compareOp .NotIn) (rDIn (gX X) true) := by
  intro pins s σ H x y v u Q I rx ry h
  obtain ⟨m, a, kvs, xs, k, b, rfl, rfl, hd, hk, hz, q⟩ := h
  cases rx; cases ry
  obtain ⟨dh, hs, hl⟩ := hd.dictH I
  refine wpAny_notIn_heap (knd := nestedKind X.prog X.w) (show X.A.in1.units + 8 < cLine by simp only [Around.in1_units]; omega) (key_is I hk hz) hs dh ?_
  rw [← hd.2.isSome k]
  exact ⟨.bl _, H, I.tok _, rfl, q⟩
def rDIx (g : G) : R2 := fun x y H Q => ∃ (m : List Addr) (a : Addr) (kvs : List (NestedKey × D)) (xs : List (NestedKey × Addr × Value)) (k : NestedKey) (b : Addr) (d : D), x = .ref a ∧ y = .ref b ∧ DtAt g m H a kvs xs ∧ Rp g m H (.ref b) (dk k) ∧ k.depth ≤ 8 ∧ val kvs k = some d ∧ ∀ v, Rp g m H v d → Q v H
theorem ix_d (hu : X.A.units + 64 < cLine) : IxR X (rDIx (gX X)) := by
  intro value slice pins s σ H x y v u Q I rx ry h hs
  obtain ⟨m, a, kvs, xs, k, b, d, rfl, rfl, hd, hk, hz, hv, q⟩ := h
  cases rx; cases ry
  obtain ⟨dh, hm, hl⟩ := hd.dictH I
  rcases hd.2.val k with ⟨e1, e2⟩ | ⟨d', p, w, e1, e2, e3, e4⟩
  · rw [hv] at e1; cases e1
  · rw [hv] at e1; cases e1
    refine tail_any dh.typeIs PySem.F.slot_dict_getitem.lookup (wpAny_getItem_heap (knd := nestedKind X.prog X.w) (show X.A.in1.units + 8 < cLine by simp only [Around.in1_units]; omega) (key_is I hk hz) dh e2 ?_) hs
    exact ⟨w, H, I.tok _, e3, q w e4⟩
/-- o[i] = v -/
def rDSet (g : G) : TSet := fun o i v H Q => ∃ (m : List Addr) (a : Addr) (kvs : List (NestedKey × D)) (xs : List (NestedKey × Addr × Value)) (k : NestedKey) (b : Addr) (d : D), o = .ref a ∧ i = .ref b ∧ H a = some (.ext (dPhi g a xs)) ∧ Ens g m H kvs xs ∧ Rp g m H (.ref b) (dk k) ∧ (∃ ks, k = .tup ks) ∧ k.depth ≤ 8 ∧ kvs.length < sizeLine ∧ Rp g m H v d ∧
  ∀ xs', Ens g m H (put kvs k d) xs' → Q (upd H a (.ext (dPhi g a xs')))
theorem ext_stay {g : G} {a : Addr} {xs : List (NestedKey × Addr × Value)} (h1 h2 : Heap) (h : dPhi g a xs h1) (k : ∀ o, h1.get? a = some o → h2.get? a = some o) : dPhi g a xs h2 := by
  obtain ⟨o, es, ep, e1, e⟩ := h
  exact ⟨o, es, ep, k o e1, e⟩
theorem stored_le (xs : List (NestedKey × Addr × Value)) (k : NestedKey) (b : Addr) (u : Value) : (storedH xs k b u).length ≤ xs.length + 1 := by
  unfold storedH
  split
  · rw [List.length_map]; omega
  · rw [List.length_append]; exact Nat.le_refl _
theorem set_d (hu : X.A.units + 64 < cLine) : PSet X (rDSet (gX X)) := by
  intro pins s σ H o i v ov iv u Q I ro ri rv h
  obtain ⟨m, a, kvs, xs, k, b, d, rfl, rfl, hH, hE, hk, ht, hz, hl, hd, q⟩ := h
  cases ro; cases ri
  obtain ⟨dh, hm, hl2⟩ := DtAt.dictH I (show DtAt (gX X) m H a kvs xs from ⟨.inl hH, hE⟩)
  have hxl : kvs.length = xs.length := Paired.length hE
  refine wpAny_setItem_heap (hsz := hl2) (knd := nestedKind X.prog X.w) (show X.A.in1.units + 8 < cLine by simp only [Around.in1_units]; omega) (key_is I hk hz) dh fun h' dh' hs => ?_
  obtain ⟨ob, es, ep, e1, e2, e3, e4, e5, e6⟩ := dh'
  refine ⟨_, L2.d_write I (by rw [hH]; exact True.intro) hs ⟨ob, e1⟩ (ob := .ext (dPhi (gX X) a (storedH xs k b u))) ⟨⟨ob, es, ep, e1, e2, e3, e4, e6, hm, ?_⟩, ⟨ob, e1⟩, fun h1 h2 p kk => ext_stay h1 h2 p kk⟩, q _ (hE.put k hk ht hz rv hd)⟩
  have := stored_le xs k b u
  omega
/-! ### {} -/
theorem pe_dnewE {pos : Pos} : PE X (.Dict [] [] pos) (fun _ H Q => ∀ p, H p = none → Q (.ref p) (upd H p (.ext (dPhi (gX X) p [])))) := ⟨fun pins s σ H Q I h =>
  wpAny_Dict_empty ⟨.ref s.heap.objs.size, _, I.laid (a := s.heap.objs.size) (o := .ext (dPhi (gX X) s.heap.objs.size [])) (t' := s.toks) (fun _ _ q => Heap.get?_push_of_some _ q) (Nat.le_refl _)
    ⟨⟨_, #[], 0, Heap.get?_push_size _ rfl, ⟨rfl, rfl, rfl⟩, rfl, rfl, List.nodup_nil, beq_eq_false_iff_ne.mpr (Ne.symm (Nat.ne_of_lt I.big)), Nat.zero_le _⟩, ⟨_, Heap.get?_push_size _ rfl⟩, fun h1 h2 p kk => ext_stay h1 h2 p kk⟩, rfl, h _ (I.hok.fresh (Nat.le_refl _))⟩⟩
theorem aj_dnew {pos : Pos} : PE X (.Dict [] [] pos) (liftE (gX X) aDNew) := PE.weak (PE.or pe_dnewE pe_dnewK) fun σ H Q ⟨m, st, env, QA, R, re, q, c⟩ => by
  rcases q with q | q
  · exact .inl fun p hp => c _ _ _ _ _ (Ext.new R hp) (R.new hp (ob := .dt false []) ⟨[], by rw [if_neg (by decide)]; exact upd_same, .nil⟩) R.newRef q
  · exact .inr fun p hp => c _ _ _ _ _ (Ext.new R hp) (R.new hp (ob := .di false []) ⟨[], rfl, upd_same, .nil⟩) R.newRef q
end
end Ab

set_option Elab.async false
set_option linter.all false
set_option maxRecDepth 100000
set_option maxHeartbeats 2000000
/-! A dict with nested keys walked by its keys. -/
namespace Ab
open PySem PySem.Spec PyProof.Rows L2

section
variable {X : Cx} {pins : List (Addr × Obj)} {σ : L2.St} {H : Hp} {s : Shared} {m : List Addr} {d : Addr} {od : Obj} {xs : List (NestedKey × Addr × Value)}
/-- what a locked dict's object is -/
theorem locked (I : Inv X pins σ H s) (h : H d = some (.frz od (.ext (dPhi (gX X) d xs)))) : (d == sysModules) = false ∧ s.heap.get? d = some od ∧ od.ExactDict ∧
    ∃ (es : Array DictEntry) (ep : Nat), od.data = .dict es ep ∧ es.size = xs.length ∧ ∀ (i : Nat) (x : NestedKey × Addr × Value), xs[i]? = some x → ∃ en : DictEntry, es[i]? = some en ∧ en.key = .ref x.2.1 := by
  have q := I.hok d _ h
  obtain ⟨e0, ⟨o, es, ep, e1, e2, e3, e4, e5, e6, e7⟩, _⟩ := q
  rw [e0] at e1
  cases e1
  have hsz : es.size = xs.length := by
    have := congrArg List.length e4
    simpa using this
  refine ⟨e6, e0, e2, es, ep, e3, hsz, fun i x hx => ⟨entryOfKey (nestedKind X.prog X.w) x, ?_, rfl⟩⟩
  rw [← Array.getElem?_toList, e4, List.getElem?_map, hx]
  rfl
/-- the keys' places, one by one -/
def ItD (g : G) (d : Addr) (od : Obj) (xs : List (NestedKey × Addr × Value)) : It where
  go := fun i H => H d = some (.frz od (.ext (dPhi g d xs))) ∧ i < xs.length
  yld := fun i H x H' => H' = H ∧ ∃ y, xs[i]? = some y ∧ x = .ref y.2.1
  stop := fun i H => H d = some (.frz od (.ext (dPhi g d xs))) ∧ xs.length ≤ i
theorem turnD {P : Program} {w : World} {K : PySem.W.Frag} {tg : Expr} {es : Array DictEntry} {ep : Nat} (it : Addr) (hd : od.data = .dict es ep) : Turn P w K tg (ItD ⟨P, w, K⟩ d od xs) [it] it (fun i h => h.IsKeyIter it d i xs.length ep) where
  mem := List.mem_singleton.mpr rfl
  obj := by
    intro i h st b hb
    rw [List.mem_singleton] at hb
    subst hb
    obtain ⟨oi, e1, _, e3⟩ := st
    exact ⟨oi, e1, fun v z => by rw [e3] at z; cases z⟩
  keep := fun i h h' st k => st.at fun oi e => k it (List.mem_singleton.mpr rfl) oi e
  item := by
    intro X hP hw hK hc i pins s σ H E I hf st hg
    subst hP; subst hw; subst hK
    obtain ⟨hH, hi⟩ := hg
    obtain ⟨_, g0, _, es', ep', g1, g2, g3⟩ := locked I hH
    rw [hd] at g1
    cases g1
    obtain ⟨n0, n1, _, n3, n4, n5⟩ := hf it (List.mem_singleton.mpr rfl)
    have hx := List.getElem?_eq_getElem hi
    obtain ⟨en, e1, e2⟩ := g3 i _ hx
    refine next_key_item st g0 hd g2 e1 fun h' st' sb => ?_
    have J : Inv X pins σ H { s with heap := h' } := I.turned (t' := s.toks) (fun b ob hb e => (sb.2 b hb).trans e) n0 n1 n3 n4 n5
    obtain ⟨oi, k1, k2, k3⟩ := id st'
    refine ⟨en.key, rfl, go_of (s := { s with heap := h' }) k1 k2 k3 (by decide) ⟨.ref xs[i].2.1, H, J, e2, ⟨rfl, _, hx, rfl⟩, st', fun b hb => (hf b hb).1⟩⟩
  done := by
    intro X hP hw hK hc i pins s σ H E I hf st hg
    subst hP; subst hw; subst hK
    obtain ⟨hH, hi⟩ := hg
    obtain ⟨_, g0, _, es', ep', g1, g2, g3⟩ := locked I hH
    rw [hd] at g1
    cases g1
    obtain ⟨n0, n1, _, n3, n4, n5⟩ := hf it (List.mem_singleton.mpr rfl)
    exact next_key_end (I.ok.hd hc) st g0 hd g2 hi fun h' eb => ⟨rfl, I.turned (t' := s.toks) (fun b ob hb e => eb b ob hb e) n0 n1 n3 n4 n5⟩
  self := by
    intro A i s Q E st h
    refine wpAny_pyIter_slot st.typeIs F.slot_dict_keyiterator_iter (wpAny_call_entry F.slot_dict_keyiterator_iter st.typeIs F.entry_dict_keyiterator_iter ?_ (F.args_dict_keyiterator_iter_1 _))
    exact (show wpAny _ _ (ret (.ref it)) _ _ s from wpAny_pure ⟨_, rfl, "dict_keyiterator", _, st.typeIs, F.slot_dict_keyiterator_next.lookup, h⟩)
def iD (g : G) (td : TE) : TI := fun σ H R => td σ H fun x H1 => ∃ d od xs, x = .ref d ∧ H1 d = some (.frz od (.ext (dPhi g d xs))) ∧ R (ItD g d od xs) H1
theorem pi_D {tg e : Expr} {td : TE} (he : PE X e td) : PI X tg e (iD (gX X) td) := by
  refine ⟨fun pins s σ H R I h => thn (he.run pins s σ H _ I h) fun u s1 ⟨x, H1, I1, rx, d, od, xs, ex, hH, q⟩ => ?_⟩
  subst ex
  cases rx
  obtain ⟨g00, g0, gx, es, ep, g1, g2, g3⟩ := locked I1 hH
  refine iter_keys g00 g0 gx g1 (pi_one (tk := s1.toks) I1 _ (turnD _ g1) ⟨_, Heap.get?_push_size _ rfl, rfl, ?_⟩ q)
  rw [g2] <;> rfl
theorem ItD_rep {g : G} {kvs : List (NestedKey × D)} (hH : H d = some (.frz od (.ext (dPhi g d xs)))) (hE : Ens g m H kvs xs) : ItRep g m H (ItD g d od xs) ⟨kvs.map fun q => dk q.1, fun _ => True⟩ := by
  intro i m1 st1 H1 E1 R1 _
  have hH1 := E1.fr _ _ _ hH
  have hl : kvs.length = xs.length := Paired.length hE
  refine ⟨fun x hx => ?_, fun h => ⟨hH1, by rw [List.length_map] at h; omega⟩⟩
  rw [List.getElem?_map] at hx
  obtain ⟨p, h1, h2⟩ := Option.map_eq_some_iff.mp hx
  have hi := (List.getElem?_eq_some_iff.mp h1).1
  obtain ⟨q, h3, h4⟩ := L2.paired_get hE h1
  refine ⟨⟨hH1, by omega⟩, fun y H2 hy => ?_⟩
  obtain ⟨e, z, h5, h6⟩ := hy
  subst e
  rw [h3] at h5; cases h5
  subst h6
  obtain ⟨_, k2, _⟩ := h4
  rw [← h2]
  exact ⟨Ext.refl _ _ _, R1, k2.mono E1.mon⟩

/-! ### locking -/
/-- a dict of the store, locked: the store and the values stand -/
theorem lock_in {g : G} {st : Store} {n : Nat} {kvs : List (NestedKey × D)} (R : Rs g m st H) (hn : st[n]? = some (.dt false kvs)) : ∃ d xs, m[n]? = some d ∧ H d = some (.ext (dPhi g d xs)) ∧ Ens g m H kvs xs ∧
    ∀ od, Rs g m (st.set n (.dt true kvs)) (upd H d (.frz od (.ext (dPhi g d xs)))) ∧ Mon g m H m (upd H d (.frz od (.ext (dPhi g d xs)))) ∧ Ens g m (upd H d (.frz od (.ext (dPhi g d xs)))) kvs xs := by
  obtain ⟨d, h1, xs, h2, h3⟩ := R.ob n _ hn
  rw [if_neg (by decide)] at h2
  refine ⟨d, xs, h1, h2, h3, fun od => ?_⟩
  have M : Mon g m H m (upd H d (.frz od (.ext (dPhi g d xs)))) := Mon.put h2 rfl
  have E := L2.Paired.mapP h3 fun p q r => r.mono M
  exact ⟨R.put h1 h2 rfl ⟨xs, by rw [if_pos rfl]; exact ⟨od, upd_same⟩, E⟩, M, E⟩
theorem lock_out {g : G} {st' : Store} {n : Nat} {kvs : List (NestedKey × D)} {m' : List Addr} {H' : Hp} (hm : m[n]? = some d) (hd : H d = some (.ext (dPhi g d xs))) (hE : Ens g m (upd H d (.frz od (.ext (dPhi g d xs)))) kvs xs)
    (E : Ext g m (upd H d (.frz od (.ext (dPhi g d xs)))) m' H') (R : Rs g m' st' H') : H' d = some (.frz od (.ext (dPhi g d xs))) ∧ Ext g m H m' (upd H' d (.ext (dPhi g d xs))) ∧ Rs g m' (st'.set n (.dt false kvs)) (upd H' d (.ext (dPhi g d xs))) ∧ Mon g m' H' m' (upd H' d (.ext (dPhi g d xs))) := by
  have h1 := E.fr d od _ upd_same
  have M : Mon g m' H' m' (upd H' d (.ext (dPhi g d xs))) := Mon.put h1 rfl
  exact ⟨h1, Ext.unlock (List.mem_of_getElem? hm) hd rfl rfl E, R.put (E.mon.ix n d hm) h1 rfl ⟨xs, by rw [if_neg (by decide)]; exact upd_same, L2.Paired.mapP hE fun p q r => (r.mono E.mon).mono M⟩, M⟩
theorem as_forD {tg e : Expr} {body : List Stmt} {a : AE} {p : Pat} {b : AS} {pos : Pos} (hp : PassesOwn (model X.prog X.w) X.A X.env X.xe) (hc : X.calm = true) (he : PE X e (liftE (gX X) a)) (hg : PG X tg (gP (gX X) p)) (hb : PSs X body (liftS (gX X) b))
    (hs : ∀ x, foldedSetIterable e X.env x = pure x := by intro _; rfl) : PS X (.For tg e body [] pos) (liftS (gX X) (aForD a p b)) :=
  PS.weak (ps_lock (ps_for hp hc (pi_D he) hg hb hs)) fun D σ H ⟨m, st, env, EA, R, re, ⟨n, kvs, hn, q⟩, c⟩ => by
    obtain ⟨d, xs, h1, h2, h3, h4⟩ := lock_in R hn
    refine ⟨d, _, h2, True.intro, fun od => ?_⟩
    obtain ⟨R', M, hE⟩ := h4 od
    refine ⟨m, _, env, _, R', re.mono M, q, fun x st1 v m1 H1 E1 R1 r1 ⟨ex, q1⟩ => ?_⟩
    subst ex
    cases r1 with
    | @ref d' _ k1 =>
      have : d' = d := by
        have := E1.mon.ix n d h1
        rw [k1] at this
        exact Option.some.inj this
      subst this
      have hH1 := E1.fr d' od _ upd_same
      refine ⟨d', od, xs, rfl, hH1, lift_for (EA := unlock n kvs EA) R1 (re.mono ⟨fun _ _ h => (E1.mon.ix _ _ (M.ix _ _ h)), fun _ _ h => E1.mon.tp _ _ (M.tp _ _ h), fun _ _ h => E1.mon.fz _ _ (M.fz _ _ h)⟩) (ItD_rep hH1 (L2.Paired.mapP hE fun p q r => r.mono E1.mon)) q1 ?_⟩
      refine ⟨fun e s σ' m' H' F R r q2 => ?_, fun e s σ' m' H' F R r q2 => ?_, fun e s σ' m' H' F R r q2 => ?_, fun x s v m' H' F R r q2 => ?_⟩
      · obtain ⟨k2, k3, k4, k5⟩ := lock_out h1 h2 hE (E1.trans F) R
        exact ⟨k2, c.nx e _ σ' m' _ k3 k4 (r.mono k5) q2⟩
      · obtain ⟨k2, k3, k4, k5⟩ := lock_out h1 h2 hE (E1.trans F) R
        exact ⟨k2, c.bk e _ σ' m' _ k3 k4 (r.mono k5) q2⟩
      · obtain ⟨k2, k3, k4, k5⟩ := lock_out h1 h2 hE (E1.trans F) R
        exact ⟨k2, c.ct e _ σ' m' _ k3 k4 (r.mono k5) q2⟩
      · obtain ⟨k2, k3, k4, k5⟩ := lock_out h1 h2 hE (E1.trans F) R
        exact ⟨k2, c.rt x _ v m' _ k3 k4 (r.mono k5) q2⟩
theorem as_forU {tg e : Expr} {body : List Stmt} {a : AE} {p : Pat} {b : AS} {pos : Pos} (hp : PassesOwn (model X.prog X.w) X.A X.env X.xe) (hc : X.calm = true) (he : PE X e (liftE (gX X) a)) (hg : PG X tg (gP (gX X) p)) (hb : PSs X body (liftS (gX X) b))
    (hs : ∀ x, foldedSetIterable e X.env x = pure x := by intro _; rfl) : PS X (.For tg e body [] pos) (liftS (gX X) (aForU a p b)) :=
  PS.weak (PS.or (as_for hp hc (ai_items he) hg hb hs) (as_forD hp hc he hg hb hs)) fun D σ H ⟨m, st, env, EA, R, re, q, c⟩ => by
    rcases q with q | q
    · exact .inl ⟨m, st, env, EA, R, re, q, c⟩
    · exact .inr ⟨m, st, env, EA, R, re, q, c⟩
end
end Ab

set_option Elab.async false
set_option linter.all false
set_option maxRecDepth 100000
set_option maxHeartbeats 2000000
/-! Comprehensions. -/
namespace Ab
open PySem PySem.Spec PyProof.Rows L2

theorem wipe_set {σ : L2.St} {i : Nat} {x : Option V} : ∀ {vs : List Nat}, i ∈ vs → L2.wipe (σ.set i x) vs = L2.wipe σ vs
  | v :: vs, h => by
    unfold L2.wipe
    by_cases e : i = v
    · subst e
      by_cases h' : i ∈ vs
      · rw [wipe_set h']
      · have : ∀ ws : List Nat, i ∉ ws → L2.wipe (σ.set i x) ws = (L2.wipe σ ws).set i x := fun ws hw => by
          induction ws with
          | nil => rfl
          | cons w ws ih =>
            unfold L2.wipe
            rw [ih fun z => hw (List.mem_cons_of_mem _ z), List.set_comm _ _ (fun z => hw (by rw [z]; exact List.mem_cons_self))]
        rw [this vs h', List.set_set]
    · rw [wipe_set ((List.mem_cons.mp h).resolve_left e)]
theorem wipe_twice {σ : L2.St} : ∀ (vs ws : List Nat), (∀ v ∈ vs, v ∈ ws) → L2.wipe (L2.wipe σ vs) ws = L2.wipe σ ws
  | [], _, _ => rfl
  | v :: vs, ws, h => by
    show L2.wipe ((L2.wipe σ vs).set v none) ws = _
    rw [wipe_set (h v List.mem_cons_self), wipe_twice vs ws fun x hx => h x (List.mem_cons_of_mem _ hx)]

section
variable {g : G} {m : List Addr} {H : Hp} {σ : L2.St}
theorem gP_ok2 {p : Pat} {v : V} {d : D} {env : Env} {QE : Env → Prop} {Q : L2.St → Hp → Prop} {vs : List Nat} (hv : ∀ i ∈ p.slots, i ∈ vs) (re : Re g m H σ env) (r : Rp g m H v d) (h : bindP p d env QE)
    (k : ∀ σ' env', L2.wipe σ' vs = L2.wipe σ vs → Re g m H σ' env' → QE env' → Q σ' H) : gP g p v σ H Q := by
  cases p with
  | nm i => exact k _ _ (wipe_set (hv i List.mem_cons_self)) (re.set r i) h
  | pr i j =>
    obtain ⟨a, b, e, q⟩ := h
    subst e
    cases r with
    | @tup ad ws _ h1 h2 =>
      cases h2 with
      | @cons v1 _ _ _ r1 t =>
        cases t with
        | @cons v2 _ _ _ r2 t2 =>
          cases t2
          exact ⟨ad, _, rfl, h1, rfl, v1, _, rfl, v2, _, rfl, rfl, k _ _ (by rw [wipe_set (hv j (List.mem_cons_of_mem _ List.mem_cons_self)), wipe_set (hv i List.mem_cons_self)]) ((re.set r1 i).set r2 j) q⟩

/-! ### a thing that is being made -/
/-- D holds o, and the store does not know it: since H, where D was free -/
structure Own (g : G) (m : List Addr) (H : Hp) (p : Addr) (o : HO) (m' : List Addr) (st' : Store) (H' : Hp) : Prop where
  ext : Ext g m H m' H'
  rs : Rs g m' st' H'
  out : p ∉ m'
  at_ : H' p = some o
variable {m1 m2 : List Addr} {H1 H2 : Hp} {st1 st2 : Store} {p : Addr} {o o' : HO}
theorem Own.start {st : Store} (R : Rs g m st H) (hp : H p = none) : Own g m H p o m st (upd H p o) := ⟨Ext.free hp, R.free hp, R.notFree hp, upd_same⟩
theorem Own.step (w : Own g m H p o m1 st1 H1) (E : Ext g m1 H1 m2 H2) (R : Rs g m2 st2 H2) : Own g m H p o m2 st2 H2 := by
  refine ⟨w.ext.trans E, R, fun hm => ?_, E.frm _ _ w.at_ w.out⟩
  obtain ⟨t, e, f⟩ := E.pre
  rw [e] at hm
  rcases List.mem_append.mp hm with hm | hm
  · exact w.out hm
  · have := (f p hm).2
    rw [w.at_] at this; cases this
theorem Own.put (w : Own g m H p o m1 st1 H1) (hp : H p = none) (hu : isWr o = true) : Own g m H p o' m1 st1 (upd H1 p o') ∧ Mon g m1 H1 m1 (upd H1 p o') := by
  have M : Mon g m1 H1 m1 (upd H1 p o') := Mon.put w.at_ (isWr.mut hu)
  refine ⟨⟨⟨w.ext.pre, fun a ob h hn => ?_, fun a vs h => M.tp a vs (w.ext.tp a vs h), fun a vs h => M.fz a vs (w.ext.fz a vs h), fun a ob u h => ?_⟩, ⟨w.rs.len, w.rs.nd, fun n ob e => ?_⟩, w.out, upd_same⟩, M⟩
  · rw [upd_ne (ne_of_none h hp)]
    exact w.ext.frm a ob h hn
  · rw [upd_ne (ne_of_none h hp)]
    exact w.ext.fr a ob u h
  · obtain ⟨a, h1, h2⟩ := w.rs.ob n ob e
    refine ⟨a, h1, h2.mono M (upd_ne fun z => w.out ?_)⟩
    rw [← z]
    exact List.mem_of_getElem? h1
/-- it is done: the store knows it -/
theorem Own.adopt {ob : MO} (w : Own g m H p o m1 st1 H1) (hp : H p = none) (h : RO g (m1 ++ [p]) H1 p ob) : Ext g m H (m1 ++ [p]) H1 ∧ Rs g (m1 ++ [p]) (st1 ++ [ob]) H1 := by
  have M : Mon g m1 H1 (m1 ++ [p]) H1 := ⟨fun n a e => by rw [List.getElem?_append_left (List.getElem?_eq_some_iff.mp e).1]; exact e, fun _ _ h => h, fun _ _ h => h⟩
  refine ⟨⟨?_, w.ext.frm, w.ext.tp, w.ext.fz, w.ext.fr⟩, ⟨by simp [w.rs.len], ?_, fun n x e => ?_⟩⟩
  · obtain ⟨t, e, f⟩ := w.ext.pre
    refine ⟨t ++ [p], by rw [e, List.append_assoc], fun a ha => ?_⟩
    rcases List.mem_append.mp ha with ha | ha
    · exact f a ha
    · have : a = p := by simpa using ha
      subst this
      refine ⟨fun z => w.out ?_, hp⟩
      rw [e]
      exact List.mem_append_left _ z
  · rw [List.nodup_append]
    refine ⟨w.rs.nd, by simp, fun a ha b hb => ?_⟩
    have e : b = p := by simpa using hb
    subst e
    exact fun z => w.out (by rw [← z]; exact ha)
  · by_cases hn : n < st1.length
    · rw [List.getElem?_append_left hn] at e
      obtain ⟨a, h1, h2⟩ := w.rs.ob n x e
      exact ⟨a, M.ix _ _ h1, h2.mono M rfl⟩
    · have hl : n = st1.length := by
        have := (List.getElem?_eq_some_iff.mp e).1
        rw [List.length_append, List.length_singleton] at this
        omega
      subst hl
      rw [List.getElem?_append_right (Nat.le_refl _)] at e
      simp at e
      subst e
      exact ⟨p, by rw [← w.rs.len]; simp, h⟩
theorem Own.ref (w : Own g m H p o m1 st1 H1) : Rp g (m1 ++ [p]) H' (.ref p) (.ref st1.length) := .ref (by rw [← w.rs.len]; simp)

/-! ### the loop of a list comprehension -/
theorem lift_lc {it : Itm} {J : It} {pt : Pat} {t : AT} {e : AE} {vs : List Nat} {env : Env} {QA : DK} {Q : VK} {st : Store} (hv : ∀ i ∈ pt.slots, i ∈ vs) (R : Rs g m st H) (re : Re g m H σ env) (rep : ItRep g m H J it) (q : lcRun it pt t e vs env st QA) (c : CE g m H QA Q) :
    ∀ Dn, H Dn = none → ∃ W : Nat → Nat → Hp → Prop, (∃ k, W 0 k (upd H Dn (.lst []))) ∧ ∀ i k H', W i k H' →
      (J.stop i H' ∧ Q (.ref Dn) H') ∨ (J.go i H' ∧ ∃ Nx : Hp → Prop, (∀ H'', Nx H'' → ∃ k', k' < k ∧ W (i + 1) k' H'') ∧ ∀ x H2, J.yld i H' x H2 → gP g pt x (L2.wipe σ vs) H2 fun σ2 H2 => L2.wipe σ2 vs = L2.wipe σ vs ∧ liftT g t σ2 H2 fun b H3 =>
        if b = true then liftE g e σ2 H3 fun y H4 => ∃ acc, H4 Dn = some (.lst acc) ∧ acc.length < sizeLine ∧ Nx (upd H4 Dn (.lst (acc ++ [y]))) else Nx H3) := by
  intro Dn hD
  obtain ⟨I, h0, hlim, hchk, hstep, hend⟩ := q
  refine ⟨fun i k H' => k = it.xs.length - i ∧ i ≤ it.xs.length ∧ ∃ m' st' acc vacc, Own g m H Dn (.lst vacc) m' st' H' ∧ RpL g m' H' vacc acc ∧ acc.length ≤ i ∧ I i acc st', ⟨it.xs.length, by simp, Nat.zero_le _, m, st, [], [], Own.start R hD, .nil, Nat.le_refl _, h0⟩, ?_⟩
  rintro i k H' ⟨rfl, hi, m', st', acc, vacc, w, ra, hla, hI⟩
  have hr := rep i m' st' H' w.ext.sees w.rs (hchk i acc st' hI)
  by_cases hl : i < it.xs.length
  · have e1 : it.xs[i]? = some it.xs[i] := List.getElem?_eq_getElem hl
    obtain ⟨go, yl⟩ := hr.1 _ e1
    refine .inr ⟨go, fun H3 => ∃ m3 st3 acc3 vacc3, Own g m H Dn (.lst vacc3) m3 st3 H3 ∧ RpL g m3 H3 vacc3 acc3 ∧ acc3.length ≤ i + 1 ∧ I (i + 1) acc3 st3, fun H3 h => ⟨it.xs.length - (i + 1), by omega, rfl, hl, h⟩, fun x H2 hy => ?_⟩
    obtain ⟨E2, R2, r2⟩ := yl x H2 hy
    have w2 := w.step E2 R2
    refine gP_ok2 hv ((re.wipe vs).mono w2.ext.mon) r2 (hstep i _ acc st' e1 hI) fun σ2 env2 hw re2 hb => ⟨by rw [hw, wipe_twice vs vs fun _ h => h], m', st', env2, _, R2, re2, hb, fun b st3 m3 H3 E3 R3 br => ?_⟩
    have w3 := w2.step E3 R3
    have ra3 := (ra.mono E2.mon).mono E3.mon
    cases b with
    | true =>
      refine iteT ?_
      refine ⟨m3, st3, env2, _, R3, re2.mono E3.mon, br.1 rfl, fun y st4 vy m4 H4 E4 R4 r4 hI4 => ?_⟩
      have w4 := w3.step E4 R4
      have hz : vacc.length < sizeLine := by
        have := ra.length
        have := bigLIM hlim
        omega
      obtain ⟨w5, M5⟩ := w4.put (o' := .lst (vacc ++ [vy])) hD rfl
      exact ⟨vacc, w4.at_, hz, m4, st4, acc ++ [y], _, w5, ((ra3.mono E4.mon).append (.one r4)).mono M5, by simp; omega, hI4⟩
    | false =>
      refine iteF ?_
      exact ⟨m3, st3, acc, vacc, w3, ra3, by omega, br.2 rfl⟩
  · have e1 : i = it.xs.length := by omega
    subst e1
    obtain ⟨E5, R5⟩ := w.adopt (ob := .lst acc) hD ⟨vacc, w.at_, ra.mono ⟨fun n a e => by rw [List.getElem?_append_left (List.getElem?_eq_some_iff.mp e).1]; exact e, fun _ _ h => h, fun _ _ h => h⟩⟩
    exact .inl ⟨hr.2 (Nat.le_refl _), c _ _ _ _ _ E5 R5 w.ref (hend acc st' hI)⟩
end

section
variable {X : Cx}
/-- what a comprehension's parts are, in its own block, whatever the block's entry -/
structure Blk (X : Cx) (scope : Scope) (own : List (Str × Nat)) : Prop where
  hc : X.calm = true
  hN : X.N.Nodup
  ok : BlkOk X.N X.env.scope scope own
abbrev InB (X : Cx) (scope : Scope) (P : Cx → Prop) : Prop := ∀ (s : Shared) (H : Hp) (C : Addr) (cl : List (Str × Addr)) (fp : List Addr), P (X.blk s H scope (compEnvC scope cl C X.env) fp)
theorem pts0 {Y : Cx} {g : G} : PTs Y [] (liftT g (fun _ st Q => Q true st)) := ⟨fun pins s σ H Q I ⟨m, st, env, QA, R, re, q, c⟩ => pts_nil.run pins s σ H Q I (c true st m H (Ext.refl _ _ _) R q)⟩
abbrev atYes : AT := fun _ st Q => Q true st
theorem pts1 {Y : Cx} {g : G} {c : Expr} {t : AT} (h : PT Y c (liftT g t)) : PTs Y [c] (liftT g t) := pts_one h
theorem tLc_of {g : G} {src : ASrc} {pt : Pat} {t : AT} {e : AE} {vs : List Nat} {σ : L2.St} {H : Hp} {Q : VK} (hv : ∀ i ∈ pt.slots, i ∈ vs) (h : liftE g (aLc src pt t e vs) σ H Q) : tLc (liftI g src) (gP g pt) (liftT g t) (liftE g e) vs σ H Q := by
  obtain ⟨m, st, env, QA, R, re, q, c⟩ := h
  exact ⟨m, st, env, _, R, re, q, fun it st1 m1 H1 J E1 R1 rep q1 Dn hD => lift_lc hv R1 (re.mono E1.mon) rep q1 (c.mono E1) Dn hD⟩
theorem aj_lc {elt tg iter : Expr} {ifs : List Expr} {scope : Scope} {own : List (Str × Nat)} {pos : Pos} {src : ASrc} {pt : Pat} {t : AT} {e : AE} (b : Blk X scope own) (hv : ∀ i ∈ pt.slots, i ∈ own.map (·.2)) (hi : PI X tg iter (liftI (gX X) src))
    (hg : InB X scope fun Y => PG Y tg (gP (gX X) pt)) (ht : InB X scope fun Y => PTs Y ifs (liftT (gX X) t)) (he : InB X scope fun Y => PE Y elt (liftE (gX X) e)) (hs : ∀ x, foldedSetIterable iter X.env x = pure x := by intro _; rfl) :
    PE X (.ListComp elt [⟨tg, iter, ifs, 0⟩] scope pos) (liftE (gX X) (aLc src pt t e (own.map (·.2)))) :=
  PE.weak (pe_lc b.hc b.hN hi b.ok hg ht he hs) fun _ _ _ => tLc_of hv
theorem tLcD_of {a : AE} {pt : Pat} {t : AT} {e : AE} {vs : List Nat} {σ : L2.St} {H : Hp} {Q : VK} (hv : ∀ i ∈ pt.slots, i ∈ vs) (h : liftE (gX X) (aLcD a pt t e vs) σ H Q) : tLockE (tLc (iD (gX X) (liftE (gX X) a)) (gP (gX X) pt) (liftT (gX X) t) (liftE (gX X) e) vs) σ H Q := by
    obtain ⟨m, st, env, QA, R, re, ⟨n, kvs, hn, q⟩, c⟩ := h
    obtain ⟨d, xs, h1, h2, h3, h4⟩ := lock_in R hn
    refine ⟨d, _, h2, True.intro, fun od => ?_⟩
    obtain ⟨R', M, hE⟩ := h4 od
    refine ⟨m, _, env, _, R', re.mono M, q, fun x st1 v m1 H1 E1 R1 r1 ⟨ex, q1⟩ => ?_⟩
    subst ex
    cases r1 with
    | @ref d' _ k1 =>
      have : d' = d := by
        have := E1.mon.ix n d h1
        rw [k1] at this
        exact Option.some.inj this
      subst this
      have hH1 := E1.fr d' od _ upd_same
      refine ⟨d', od, xs, rfl, hH1, fun Dn hD => lift_lc (Q := fun v H' => H' d' = some (.frz od (.ext (dPhi (gX X) d' xs))) ∧ Q v (upd H' d' (.ext (dPhi (gX X) d' xs)))) hv R1 (re.mono ⟨fun _ _ h => (E1.mon.ix _ _ (M.ix _ _ h)), fun _ _ h => E1.mon.tp _ _ (M.tp _ _ h), fun _ _ h => E1.mon.fz _ _ (M.fz _ _ h)⟩) (ItD_rep hH1 (L2.Paired.mapP hE fun p q r => r.mono E1.mon)) q1 (fun y s v m' H' F R r q2 => ?_) Dn hD⟩
      obtain ⟨k2, k3, k4, k5⟩ := lock_out h1 h2 hE (E1.trans F) R
      exact ⟨k2, c y _ v m' _ k3 k4 (r.mono k5) q2⟩
theorem aj_lcD {elt tg iter : Expr} {ifs : List Expr} {scope : Scope} {own : List (Str × Nat)} {pos : Pos} {a : AE} {pt : Pat} {t : AT} {e : AE} (b : Blk X scope own) (hv : ∀ i ∈ pt.slots, i ∈ own.map (·.2)) (hi : PE X iter (liftE (gX X) a))
    (hg : InB X scope fun Y => PG Y tg (gP (gX X) pt)) (ht : InB X scope fun Y => PTs Y ifs (liftT (gX X) t)) (he : InB X scope fun Y => PE Y elt (liftE (gX X) e)) (hs : ∀ x, foldedSetIterable iter X.env x = pure x := by intro _; rfl) :
    PE X (.ListComp elt [⟨tg, iter, ifs, 0⟩] scope pos) (liftE (gX X) (aLcD a pt t e (own.map (·.2)))) :=
  PE.weak (pe_lock (pe_lc b.hc b.hN (pi_D hi) b.ok hg ht he hs)) fun _ _ _ => tLcD_of hv
theorem aj_lcU {elt tg iter : Expr} {ifs : List Expr} {scope : Scope} {own : List (Str × Nat)} {pos : Pos} {a : AE} {pt : Pat} {t : AT} {e : AE} (b : Blk X scope own) (hv : ∀ i ∈ pt.slots, i ∈ own.map (·.2)) (hi : PE X iter (liftE (gX X) a))
    (hg : InB X scope fun Y => PG Y tg (gP (gX X) pt)) (ht : InB X scope fun Y => PTs Y ifs (liftT (gX X) t)) (he : InB X scope fun Y => PE Y elt (liftE (gX X) e)) (hs : ∀ x, foldedSetIterable iter X.env x = pure x := by intro _; rfl) :
    PE X (.ListComp elt [⟨tg, iter, ifs, 0⟩] scope pos) (liftE (gX X) (aLcU a pt t e (own.map (·.2)))) :=
  PE.weak (PE.or (aj_lc b hv (ai_items hi) hg ht he hs) (aj_lcD b hv hi hg ht he hs)) fun σ H Q ⟨m, st, env, QA, R, re, q, c⟩ => by
    rcases q with q | q
    · exact .inl ⟨m, st, env, QA, R, re, q, c⟩
    · exact .inr ⟨m, st, env, QA, R, re, q, c⟩
/-- name = [..] -/
theorem as_setLc {i : Nat} {y : Str} {py : Pos} {elt tg iter : Expr} {ifs : List Expr} {scope : Scope} {own : List (Str × Nat)} {pos spos : Pos} {src : ASrc} {pt : Pat} {t : AT} {e : AE} (b : Blk X scope own) (hv : ∀ i ∈ pt.slots, i ∈ own.map (·.2)) (hy : X.N[i]? = some y) (hyl : X.env.scope.names.lookup y = some .local)
    (hsw : swapsWith (.ListComp elt [⟨tg, iter, ifs, 0⟩] scope pos) (some (.Name y py)) spos.line X.env = pure true) (hi : PI X tg iter (liftI (gX X) src))
    (hg : InB X scope fun Y => PG Y tg (gP (gX X) pt)) (ht : InB X scope fun Y => PTs Y ifs (liftT (gX X) t)) (he : InB X scope fun Y => PE Y elt (liftE (gX X) e)) (hs : ∀ x, foldedSetIterable iter X.env x = pure x := by intro _; rfl) :
    PS X (.Assign [.Name y py] (.ListComp elt [⟨tg, iter, ifs, 0⟩] scope pos) spos) (liftS (gX X) (aAsg (aLc src pt t e (own.map (·.2))) (agNm i))) :=
  PS.weak (ps_setLc b.hc b.hN hy hyl hsw hi b.ok hg ht he hs) fun D σ H ⟨m, st, env, EA, R, re, q, c⟩ =>
    tLc_of hv ⟨m, st, env, _, R, re, q, fun d st' v m' H' E' R' r' q' => c.nx _ st' _ m' H' E' R' ((re.mono E'.mon).set r' i) q'⟩
end
end Ab

set_option Elab.async false
set_option linter.all false
set_option maxRecDepth 100000
set_option maxHeartbeats 4000000
/-! Dict comprehensions with nested keys (one clause, no test). -/
namespace Ab
open PySem PySem.Spec PyProof.Rows L2

section
variable {X : Cx}
/-- {k: v for target in iter}: the new dict at Dn is an object that holds its entries -/
def tDcE (g : G) (wi : TI) (tg : TG) (tk tv : TE) (vs : List Nat) : TE := fun σ H Q => wi σ H fun J H1 => ∀ Dn, H1 Dn = none → ∃ W : Nat → Nat → Hp → Prop, (∃ k, W 0 k (upd H1 Dn (.ext (dPhi g Dn [])))) ∧ ∀ i k H', W i k H' →
  (J.stop i H' ∧ Q (.ref Dn) H') ∨ (J.go i H' ∧ ∃ Nx : Hp → Prop, (∀ H'', Nx H'' → ∃ k', k' < k ∧ W (i + 1) k' H'') ∧ ∀ x H2, J.yld i H' x H2 → tg x (L2.wipe σ vs) H2 fun σ2 H2 => L2.wipe σ2 vs = L2.wipe σ vs ∧
    tk σ2 H2 fun y H3 => tv σ2 H3 fun z H4 => rDSet g (.ref Dn) y z H4 Nx)
theorem dce_set {pins : List (Addr × Obj)} {σ : L2.St} {H : Hp} {s : Shared} {E : Value → Shared → Prop} {Dn : Addr} {y z : V} {u r : Value} {N : Hp → Prop} {Q : Unit → Shared → Prop} (hu : X.A.units + 64 < cLine) (I : Inv X pins σ H s) (h : rDSet (gX X) (.ref Dn) y z H N) (ry : RelV y u) (rz : RelV z r)
    (k : ∀ H' s', Inv X pins σ H' s' → N H' → Q () s') : wpAny (model X.prog X.w) X.A (dictSet Dn u r) Q E s := by
  obtain ⟨m, a, kvs, xs, q, b, d, e1, rfl, hH, hE, hk, ht, hz, hl, hd, c⟩ := h
  cases e1
  cases ry
  obtain ⟨dh, hm, hl2⟩ := DtAt.dictH I (show DtAt (gX X) m H Dn kvs xs from ⟨.inl hH, hE⟩)
  have hxl : kvs.length = xs.length := Paired.length hE
  refine wpAny_dictSet_heap (hsz := hl2) (knd := nestedKind X.prog X.w) (show X.A.units + 8 < cLine by omega) (key_is I hk hz) dh fun h' dh' hs => ?_
  obtain ⟨ob, es, ep, o1, o2, o3, o4, o5, o6⟩ := dh'
  refine k _ _ (L2.d_write I (by rw [hH]; exact True.intro) hs ⟨ob, o1⟩ (ob := .ext (dPhi (gX X) Dn (storedH xs q b r))) ⟨⟨ob, es, ep, o1, o2, o3, o4, o6, hm, ?_⟩, ⟨ob, o1⟩, fun h1 h2 p kk => ext_stay h1 h2 p kk⟩) (c _ (hE.put q hk ht hz rz hd))
  have := stored_le xs q b r
  omega
theorem dce_core {pins : List (Addr × Obj)} {s : Shared} {σ : L2.St} {H : Hp} {Q : VK} {kx vx tg iter : Expr} {scope : Scope} {own : List (Str × Nat)} {pos pos' : Pos} {wi : TI} {gt : TG} {tk tv : TE} {use : Option (Value → Sem Unit)} {Qf : Value → Shared → Prop} (hu : X.A.units + 64 < cLine)
    (B : Blk X scope own) (I : Inv X pins σ H s) (hi : PI X tg iter wi) (hg : InB X scope fun Y => PG Y tg gt) (hk : InB X scope fun Y => PE Y kx tk) (he : InB X scope fun Y => PE Y vx tv) (hs : ∀ x, foldedSetIterable iter X.env x = pure x)
    (h : tDcE (gX X) wi gt tk tv (own.map (·.2)) σ H Q)
    (hRR : ∀ Dn C s' m H', Inv X pins σ H' s' → Q (.ref Dn) H' → s'.heap.Ns C m → FpOk X pins H' C → compPost (model X.prog X.w) X.A X.xe use Qf (.ref Dn) C (.ok .next) s') :
    wpAny (model X.prog X.w) X.A (comprehension (.DictComp kx vx [⟨tg, iter, [], 0⟩] scope pos) scope X.env pos' newDict false (eval iter X.env) use) Qf X.xe s := by
  have caught : ∀ y ∈ scope.names, y.2 = .free → ∃ c, X.env.cells.lookup y.1 = some c := by
    intro y hy e
    exact (B.ok.free y hy e).elim (fun k => I.ok.has _ (.inl k)) fun k => I.ok.has _ (.inr k)
  have names : ∀ y ∈ scope.names, y.2 = .local → scope.names.lookup y.1 = some .local := fun y hy e => (B.ok.uniq y hy).trans (congrArg some e)
  refine wpAny_comprehension_free (use := use) rfl hs (closure_ok caught) B.ok.kind names (thn (hi.run pins s σ H _ I h) fun xv sa ha => thn ha fun itv sb hb => ?_)
  obtain ⟨it, fp, tn, J, Hb, rfl, Ib, T, tb, fb, after⟩ := hb
  refine wpAny_newObj_type (newEnv_comp ?_)
  -- the dict
  obtain ⟨Dn, hDn⟩ : ∃ a, a = sb.heap.objs.size := ⟨_, rfl⟩
  have freeD : Hb Dn = none := Ib.hok.fresh (Nat.le_of_eq hDn.symm)
  obtain ⟨W, ⟨k0, start⟩, turn⟩ := after Dn freeD
  obtain ⟨sc, hsc⟩ : ∃ x : Shared, x = { sb with heap := sb.heap.push { cls := .type "dict", data := .dict #[] } } := ⟨_, rfl⟩
  obtain ⟨Hc, hHc⟩ : ∃ x, x = upd Hb Dn (.ext (dPhi (gX X) Dn [])) := ⟨_, rfl⟩
  have heapC : sc.heap = sb.heap.push { cls := .type "dict", data := .dict #[] } := by rw [hsc]
  have Ic : Inv X pins σ Hc sc := by
    rw [hHc, hsc]
    refine Ib.laid (t' := sb.toks) (fun b o e => Heap.get?_push_of_some _ e) (Nat.le_of_eq hDn.symm) ?_
    subst hDn
    exact ⟨⟨_, #[], 0, Heap.get?_push_size _ rfl, ⟨rfl, rfl, rfl⟩, rfl, rfl, List.nodup_nil, beq_eq_false_iff_ne.mpr (Ne.symm (Nat.ne_of_lt Ib.big)), Nat.zero_le _⟩, ⟨_, Heap.get?_push_size _ rfl⟩, fun h1 h2 p kk => ext_stay h1 h2 p kk⟩
  have below : ∀ b ∈ fp, b < sb.heap.objs.size := by
    intro b hb
    obtain ⟨o, e, _⟩ := T.obj _ _ tb b hb
    exact Heap.lt_size e
  have fc : ∀ b ∈ fp, FpOk X pins Hc b ∧ b < sc.heap.objs.size := by
    intro b hb
    refine ⟨⟨?_, (fb b hb).2⟩, ?_⟩
    · rw [hHc, upd_ne (by rw [hDn]; exact Nat.ne_of_lt (below b hb))]
      exact (fb b hb).1
    · rw [heapC, Heap.size_push]
      exact Nat.lt_succ_of_lt (below b hb)
  have tc : tn 0 sc.heap := T.keep _ _ _ tb fun b _ o e => by rw [heapC]; exact Heap.get?_push_of_some _ e
  have Id := block_start Ic B.ok B.hN fc
  obtain ⟨cl, hcl⟩ : ∃ x, x = cellsFrom (sc.heap.objs.size + 1) scope.names (cloFrom X.env.cells scope.names []) := ⟨_, rfl⟩
  obtain ⟨ce, hce⟩ : ∃ x, x = compEnvC scope cl sc.heap.objs.size X.env := ⟨_, rfl⟩
  have pg := hg sc Hc sc.heap.objs.size cl fp
  have pk := hk sc Hc sc.heap.objs.size cl fp
  have pv := he sc Hc sc.heap.objs.size cl fp
  rw [← hce] at pg pk pv
  rw [← hcl, ← hce] at Id
  have ceL : ce.locals = sc.heap.objs.size := by rw [hce]; rfl
  obtain ⟨sd, hsd⟩ : ∃ x : Shared, x = { sc with heap := pushCells (sc.heap.push { cls := .type "dict", data := .dict #[] }) scope.names } := ⟨_, rfl⟩
  rw [← hsd] at Id
  have td : tn 0 sd.heap := T.keep _ _ _ tc fun b _ o e => by rw [hsd]; exact pushCells_keeps _ _ _ _ (Heap.get?_push_of_some _ e)
  have stands : ∀ {σ' : L2.St} {H' : Hp} {s' : Shared}, Inv (X.blk sc Hc scope ce fp) [] σ' H' s' → (∀ b ∈ fp, H' b = none) → ∀ b ∈ fp, FpOk (X.blk sc Hc scope ce fp) [] H' b := by
    intro σ' H' s' I' hn b hb
    exact ⟨hn b hb, (I'.ok.exf b hb).1, I'.ok.exfs b hb, .inl hb, (I'.ok.exf b hb).2, fun p hp => nomatch (show p ∈ ([] : List (Addr × Obj)) from hp)⟩
  have whole : codeAny (model X.prog X.w) X.A (.compLoop (.DictComp kx vx [⟨tg, iter, [], 0⟩] scope pos) 0 (.ref it) (.ref Dn) ce) (compPost (model X.prog X.w) X.A X.xe use Qf (.ref Dn) sc.heap.objs.size) sd := by
    refine compLoop_anyD (fun k s' => ∃ i H', Inv (X.blk sc Hc scope ce fp) [] (L2.wipe σ (own.map (·.2))) H' s' ∧ tn i s'.heap ∧ (∀ b ∈ fp, H' b = none) ∧ W i k H') ?_ k0 ⟨0, Hc, Id, td, fun b hb => (fc b hb).1.1, hHc ▸ start⟩
    rintro k s5 ⟨i, H5, I5, t5, n5, w5⟩
    rcases turn i k H5 w5 with ⟨stop, fin⟩ | ⟨go, Nx, hNx, body⟩
    · refine thnF (T.done (X.blk sc Hc scope ce fp) rfl rfl rfl B.hc i [] s5 _ H5 (fun _ _ => False) I5 (stands I5 n5) t5 stop) fun r s6 ⟨hr, I6⟩ => ?_
      subst hr
      have I7 : Inv X pins σ H5 s6 := Ic.call' (ch := fp) I6.os I6.base I6.hok I6.bare fun b hb => by
        obtain ⟨⟨_, f1, _, f3, f4, f5⟩, _⟩ := fc b hb
        exact ⟨f3, f1, f4, f5⟩
      have fr : H5 ce.locals = none := I6.free
      obtain ⟨mm, hn, _⟩ := I6.loc
      have hn' : s6.heap.Ns ce.locals mm := hn
      rw [ceL] at fr hn'
      exact hRR Dn sc.heap.objs.size s6 mm H5 I7 fin hn' (Ic.fpOk (Nat.le_refl _) fr)
    · refine thnF (T.item (X.blk sc Hc scope ce fp) rfl rfl rfl B.hc i [] s5 _ H5 (fun _ _ => False) I5 (stands I5 n5) t5 go) fun r s6 ⟨u, hr, h6⟩ => ?_
      subst hr
      refine thnF h6 fun _ s7 ⟨x, H7, I7, r7, y7, t7, n7⟩ => ?_
      have I7' := I7.pinned (stands I7 n7) (T.obj _ _ t7)
      refine thnF (pg.run _ s7 _ H7 x u _ I7' r7 (body x H7 y7)) fun _ s8 ⟨σ8, H8, I8, hw8, q8⟩ => ?_
      refine thnF ((pts_nil (X := X.blk sc Hc scope ce fp)).run _ s8 σ8 H8 (fun b H' => b = true ∧ H' = H8) I8 ⟨rfl, rfl⟩) fun b s9 ⟨H9, I9, hb, hH⟩ => ?_
      subst hb
      subst hH
      refine iteT ?_
      refine thnF (pk.run _ s9 σ8 H9 _ I9 q8) fun kv s10 ⟨y, H10, I10, r10, q10⟩ => ?_
      refine thnF (pv.run _ s10 σ8 H10 _ I10 q10) fun vv s11 ⟨z, H11, I11, r11, q11⟩ => ?_
      refine dce_set (X := X.blk sc Hc scope ce fp) hu I11 q11 r10 r11 fun H12 s12 I12 nx => ?_
      obtain ⟨k', hk', w'⟩ := hNx H12 nx
      have keepP : ∀ b ∈ fp, ∀ o, s7.heap.get? b = some o → s12.heap.get? b = some o ∧ H12 b = none := by
        intro b hb o e
        have z := I12.pin (b, o) (List.mem_append_right _ (List.mem_append_right _ (mem_pinsAt hb e)))
        exact ⟨z.1, z.2.1⟩
      refine ⟨k', hk', i + 1, H12, (I12.unpinned (pins := [])).weak (by rw [← hw8, wipe_length]) (fun j v e => ?_), T.keep _ _ _ t7 fun b hb o e => (keepP b hb o e).1, fun b hb => ?_, w'⟩
      · rw [← hw8] at e
        exact (wipe_some e).1
      · obtain ⟨o, e, _⟩ := T.obj _ _ t7 b hb
        exact (keepP b hb o e).2
  have goal := codeAny_compStart_dict whole (T.self X.A 0 _ _ _ td whole)
  rw [hsd, hce, hcl, hsc] at goal
  subst hDn
  exact goal
theorem pe_dce {kx vx tg iter : Expr} {scope : Scope} {own : List (Str × Nat)} {pos : Pos} {wi : TI} {gt : TG} {tk tv : TE} (hu : X.A.units + 64 < cLine) (B : Blk X scope own) (hi : PI X tg iter wi) (hg : InB X scope fun Y => PG Y tg gt) (hk : InB X scope fun Y => PE Y kx tk) (he : InB X scope fun Y => PE Y vx tv)
    (hs : ∀ x, foldedSetIterable iter X.env x = pure x := by intro _; rfl) : PE X (.DictComp kx vx [⟨tg, iter, [], 0⟩] scope pos) (tDcE (gX X) wi gt tk tv (own.map (·.2))) := by
  refine ⟨fun pins s σ H Q I h => ?_⟩
  rw [arm_eval_DictComp]
  refine dce_core hu B I hi hg hk he hs h fun Dn C s' m H' I' q hn f => ⟨m, hn, fun h'' sb => ?_⟩
  obtain ⟨f0, f1, f2, f3, f4, f5⟩ := f
  exact ⟨.ref Dn, H', I'.turned (t' := s'.toks) (fun b o hb e => (sb.2 b hb).trans e) f0 f1 f3 f4 f5, rfl, q⟩
end

section
variable {g : G} {m : List Addr} {H : Hp} {σ : L2.St}
theorem lift_dc {it : Itm} {J : It} {pt : Pat} {kk e : AE} {vs : List Nat} {env : Env} {QA : DK} {Q : VK} {st : Store} (hv : ∀ i ∈ pt.slots, i ∈ vs) (R : Rs g m st H) (re : Re g m H σ env) (rep : ItRep g m H J it) (q : dcRun it pt kk e vs env st QA) (c : CE g m H QA Q) :
    ∀ Dn, H Dn = none → ∃ W : Nat → Nat → Hp → Prop, (∃ k, W 0 k (upd H Dn (.ext (dPhi g Dn [])))) ∧ ∀ i k H', W i k H' →
      (J.stop i H' ∧ Q (.ref Dn) H') ∨ (J.go i H' ∧ ∃ Nx : Hp → Prop, (∀ H'', Nx H'' → ∃ k', k' < k ∧ W (i + 1) k' H'') ∧ ∀ x H2, J.yld i H' x H2 → gP g pt x (L2.wipe σ vs) H2 fun σ2 H2 => L2.wipe σ2 vs = L2.wipe σ vs ∧
        liftE g kk σ2 H2 fun y H3 => liftE g e σ2 H3 fun z H4 => rDSet g (.ref Dn) y z H4 Nx) := by
  intro Dn hD
  obtain ⟨I, h0, hlim, hchk, hstep, hend⟩ := q
  refine ⟨fun i k H' => k = it.xs.length - i ∧ i ≤ it.xs.length ∧ ∃ m' st' kvs xs, Own g m H Dn (.ext (dPhi g Dn xs)) m' st' H' ∧ Ens g m' H' kvs xs ∧ kvs.length ≤ i ∧ I i kvs st', ⟨it.xs.length, by simp, Nat.zero_le _, m, st, [], [], Own.start R hD, .nil, Nat.le_refl _, h0⟩, ?_⟩
  rintro i k H' ⟨rfl, hi, m', st', kvs, xs, w, ra, hla, hI⟩
  have hr := rep i m' st' H' w.ext.sees w.rs (hchk i kvs st' hI)
  by_cases hl : i < it.xs.length
  · have e1 : it.xs[i]? = some it.xs[i] := List.getElem?_eq_getElem hl
    obtain ⟨go, yl⟩ := hr.1 _ e1
    refine .inr ⟨go, fun H3 => ∃ m3 st3 kvs3 xs3, Own g m H Dn (.ext (dPhi g Dn xs3)) m3 st3 H3 ∧ Ens g m3 H3 kvs3 xs3 ∧ kvs3.length ≤ i + 1 ∧ I (i + 1) kvs3 st3, fun H3 h => ⟨it.xs.length - (i + 1), by omega, rfl, hl, h⟩, fun x H2 hy => ?_⟩
    obtain ⟨E2, R2, r2⟩ := yl x H2 hy
    have w2 := w.step E2 R2
    refine gP_ok2 hv ((re.wipe vs).mono w2.ext.mon) r2 (hstep i _ kvs st' e1 hI) fun σ2 env2 hw re2 hb => ⟨by rw [hw, wipe_twice vs vs fun _ h => h], m', st', env2, _, R2, re2, hb, fun y st3 vy m3 H3 E3 R3 r3 q3 => ?_⟩
    have w3 := w2.step E3 R3
    refine ⟨m3, st3, env2, _, R3, re2.mono E3.mon, q3, fun z st4 vz m4 H4 E4 R4 r4 q4 => ?_⟩
    have w4 := w3.step E4 R4
    obtain ⟨q, hq, hd, ht, hI4⟩ := q4
    subst hq
    obtain ⟨b, hb⟩ := key_ref r3 ht
    subst hb
    have hz : kvs.length < sizeLine := by
      have := bigLIM hlim
      omega
    have ra4 := L2.Paired.mapP ra fun p q r => ((r.mono E2.mon).mono E3.mon).mono E4.mon
    refine ⟨m4, Dn, kvs, xs, q, b, z, rfl, rfl, w4.at_, ra4, r3.mono E4.mon, ht, hd, hz, r4, fun xs' hE => ?_⟩
    obtain ⟨w5, M5⟩ := w4.put (o' := .ext (dPhi g Dn xs')) hD rfl
    exact ⟨m4, st4, put kvs q z, xs', w5, L2.Paired.mapP hE fun p q r => r.mono M5, by have := put_le kvs q z; omega, hI4⟩
  · have e1 : i = it.xs.length := by omega
    subst e1
    obtain ⟨E5, R5⟩ := w.adopt (ob := .dt false kvs) hD ⟨xs, by rw [if_neg (by decide)]; exact w.at_, L2.Paired.mapP ra fun p q r => r.mono ⟨fun n a e => by rw [List.getElem?_append_left (List.getElem?_eq_some_iff.mp e).1]; exact e, fun _ _ h => h, fun _ _ h => h⟩⟩
    exact .inl ⟨hr.2 (Nat.le_refl _), c _ _ _ _ _ E5 R5 w.ref (hend kvs st' hI)⟩
end
section
variable {X : Cx}
theorem tDc_of {g : G} {src : ASrc} {pt : Pat} {k e : AE} {vs : List Nat} {σ : L2.St} {H : Hp} {Q : VK} (hv : ∀ i ∈ pt.slots, i ∈ vs) (h : liftE g (aDc src pt k e vs) σ H Q) : tDcE g (liftI g src) (gP g pt) (liftE g k) (liftE g e) vs σ H Q := by
  obtain ⟨m, st, env, QA, R, re, q, c⟩ := h
  exact ⟨m, st, env, _, R, re, q, fun it st1 m1 H1 J E1 R1 rep q1 Dn hD => lift_dc hv R1 (re.mono E1.mon) rep q1 (c.mono E1) Dn hD⟩
theorem aj_dc {kx vx tg iter : Expr} {scope : Scope} {own : List (Str × Nat)} {pos : Pos} {src : ASrc} {pt : Pat} {k e : AE} (hu : X.A.units + 64 < cLine) (b : Blk X scope own) (hv : ∀ i ∈ pt.slots, i ∈ own.map (·.2)) (hi : PI X tg iter (liftI (gX X) src))
    (hg : InB X scope fun Y => PG Y tg (gP (gX X) pt)) (hk : InB X scope fun Y => PE Y kx (liftE (gX X) k)) (he : InB X scope fun Y => PE Y vx (liftE (gX X) e)) (hs : ∀ x, foldedSetIterable iter X.env x = pure x := by intro _; rfl) :
    PE X (.DictComp kx vx [⟨tg, iter, [], 0⟩] scope pos) (liftE (gX X) (aDc src pt k e (own.map (·.2)))) :=
  PE.weak (pe_dce hu b hi hg hk he hs) fun _ _ _ => tDc_of hv
theorem tDcD_of {a : AE} {pt : Pat} {k e : AE} {vs : List Nat} {σ : L2.St} {H : Hp} {Q : VK} (hv : ∀ i ∈ pt.slots, i ∈ vs) (h : liftE (gX X) (aDcD a pt k e vs) σ H Q) : tLockE (tDcE (gX X) (iD (gX X) (liftE (gX X) a)) (gP (gX X) pt) (liftE (gX X) k) (liftE (gX X) e) vs) σ H Q := by
    obtain ⟨m, st, env, QA, R, re, ⟨n, kvs, hn, q⟩, c⟩ := h
    obtain ⟨d, xs, h1, h2, h3, h4⟩ := lock_in R hn
    refine ⟨d, _, h2, True.intro, fun od => ?_⟩
    obtain ⟨R', M, hE⟩ := h4 od
    refine ⟨m, _, env, _, R', re.mono M, q, fun x st1 v m1 H1 E1 R1 r1 ⟨ex, q1⟩ => ?_⟩
    subst ex
    cases r1 with
    | @ref d' _ k1 =>
      have : d' = d := by
        have := E1.mon.ix n d h1
        rw [k1] at this
        exact Option.some.inj this
      subst this
      have hH1 := E1.fr d' od _ upd_same
      refine ⟨d', od, xs, rfl, hH1, fun Dn hD => lift_dc (Q := fun v H' => H' d' = some (.frz od (.ext (dPhi (gX X) d' xs))) ∧ Q v (upd H' d' (.ext (dPhi (gX X) d' xs)))) hv R1 (re.mono ⟨fun _ _ h => (E1.mon.ix _ _ (M.ix _ _ h)), fun _ _ h => E1.mon.tp _ _ (M.tp _ _ h), fun _ _ h => E1.mon.fz _ _ (M.fz _ _ h)⟩) (ItD_rep hH1 (L2.Paired.mapP hE fun p q r => r.mono E1.mon)) q1 (fun y s v m' H' F R r q2 => ?_) Dn hD⟩
      obtain ⟨k2, k3, k4, k5⟩ := lock_out h1 h2 hE (E1.trans F) R
      exact ⟨k2, c y _ v m' _ k3 k4 (r.mono k5) q2⟩
theorem aj_dcD {kx vx tg iter : Expr} {scope : Scope} {own : List (Str × Nat)} {pos : Pos} {a : AE} {pt : Pat} {k e : AE} (hu : X.A.units + 64 < cLine) (b : Blk X scope own) (hv : ∀ i ∈ pt.slots, i ∈ own.map (·.2)) (hi : PE X iter (liftE (gX X) a))
    (hg : InB X scope fun Y => PG Y tg (gP (gX X) pt)) (hk : InB X scope fun Y => PE Y kx (liftE (gX X) k)) (he : InB X scope fun Y => PE Y vx (liftE (gX X) e)) (hs : ∀ x, foldedSetIterable iter X.env x = pure x := by intro _; rfl) :
    PE X (.DictComp kx vx [⟨tg, iter, [], 0⟩] scope pos) (liftE (gX X) (aDcD a pt k e (own.map (·.2)))) :=
  PE.weak (pe_lock (pe_dce hu b (pi_D hi) hg hk he hs)) fun _ _ _ => tDcD_of hv
theorem aj_dcU {kx vx tg iter : Expr} {scope : Scope} {own : List (Str × Nat)} {pos : Pos} {a : AE} {pt : Pat} {k e : AE} (hu : X.A.units + 64 < cLine) (b : Blk X scope own) (hv : ∀ i ∈ pt.slots, i ∈ own.map (·.2)) (hi : PE X iter (liftE (gX X) a))
    (hg : InB X scope fun Y => PG Y tg (gP (gX X) pt)) (hk : InB X scope fun Y => PE Y kx (liftE (gX X) k)) (he : InB X scope fun Y => PE Y vx (liftE (gX X) e)) (hs : ∀ x, foldedSetIterable iter X.env x = pure x := by intro _; rfl) :
    PE X (.DictComp kx vx [⟨tg, iter, [], 0⟩] scope pos) (liftE (gX X) (aDcU a pt k e (own.map (·.2)))) :=
  PE.weak (PE.or (aj_dc hu b hv (ai_items hi) hg hk he hs) (aj_dcD hu b hv hi hg hk he hs)) fun σ H Q ⟨m, st, env, QA, R, re, q, c⟩ => by
    rcases q with q | q
    · exact .inl ⟨m, st, env, QA, R, re, q, c⟩
    · exact .inr ⟨m, st, env, QA, R, re, q, c⟩
end
end Ab

set_option Elab.async false
set_option linter.all false
set_option maxRecDepth 100000
set_option maxHeartbeats 2000000
/-! The operators and built-ins, by values. -/
namespace Ab
open PySem PySem.Spec PyProof.Rows L2

section
variable {g : G}
theorem CE.newS {m : List Addr} {H : Hp} {st : Store} {QA : DK} {Q : VK} (c : CE g m H QA Q) {m' : List Addr} {H' : Hp} (E : Ext g m H m' H') : CE g m' H' QA Q := c.mono E
theorem lst_at {m : List Addr} {st : Store} {H : Hp} {v : V} {n : Nat} {xs : List D} (R : Rs g m st H) (r : Rp g m H v (.ref n)) (h : st[n]? = some (.lst xs)) : ∃ a vs, v = .ref a ∧ m[n]? = some a ∧ H a = some (.lst vs) ∧ RpL g m H vs xs := by
  cases r with
  | @ref a _ h1 =>
    obtain ⟨b, h2, vs, h3, h4⟩ := R.ob n _ h
    rw [h1] at h2; cases h2
    exact ⟨a, vs, rfl, h1, h3, h4⟩
theorem tup_at {m : List Addr} {H : Hp} {v : V} {xs : List D} (r : Rp g m H v (.tup xs)) : ∃ a vs, v = .ref a ∧ SqT g.K H a vs ∧ RpL g m H vs xs := by
  cases r with
  | tup h1 h2 => exact ⟨_, _, rfl, h1, h2⟩
/-- a list of the store is written -/
theorem wr_lst {m : List Addr} {st : Store} {H : Hp} {a : Addr} {n : Nat} {vs ws : List V} {ys : List D} (R : Rs g m st H) (hn : m[n]? = some a) (h : H a = some (.lst vs)) (r : RpL g m H ws ys) : Ext g m H m (upd H a (.lst ws)) ∧ Rs g m (st.set n (.lst ys)) (upd H a (.lst ws)) := by
  have E : Ext g m H m (upd H a (.lst ws)) := Ext.write (List.mem_of_getElem? hn) h rfl
  exact ⟨E, R.write hn h rfl ⟨ws, upd_same, r.mono E.mon⟩⟩

/-! ### arithmetic -/
def rAdd3 (K : PySem.W.Frag) : R2 := fun x y H Q => rI0 (fun i j => .int (i + j)) x y H Q ∨ (rCatA K x y H Q ∨ rCat x y H Q)
theorem op_add3 {X : Cx} : OpR X (binaryOp .Add) (rAdd3 X.K) := op_add.or (op_catA.or op_cat)
theorem so_add : SO2 g (rAdd3 g.K) pAdd := by
  intro m st H v u x y QA Q R rx ry h c
  rcases h with ⟨i, j, rfl, rfl, q⟩ | ⟨xs, ys, rfl, rfl, hl, q⟩ | ⟨n, k, xs, ys, rfl, rfl, hx, hy, hl, q⟩
  · cases rx; cases ry
    exact .inl ⟨i, j, rfl, rfl, c.same R (.int _) q⟩
  · obtain ⟨a, vs, rfl, h1, h2⟩ := tup_at rx
    obtain ⟨b, ws, rfl, h3, h4⟩ := tup_at ry
    refine .inr (.inl ⟨a, b, vs, ws, rfl, rfl, h1, h3, by rw [h2.length, h4.length]; exact bigLIM hl, fun e => ?_, fun e1 e2 => ?_, fun _ _ p hp => ?_⟩)
    · subst e
      cases h2
      exact c.same R ry q
    · subst e2
      cases h4
      rw [List.append_nil] at q
      exact c.same R rx q
    · exact c.newT R (h2.append h4) hp q
  · obtain ⟨a, vs, rfl, h1, h2, h3⟩ := lst_at R rx hx
    obtain ⟨b, ws, rfl, h4, h5, h6⟩ := lst_at R ry hy
    exact .inr (.inr ⟨a, b, vs, ws, rfl, rfl, h2, h5, by rw [h3.length, h6.length]; exact bigLIM hl, fun p hp => c.newL R (h3.append h6) hp q⟩)
theorem so_sub : SO2 g (rI0 fun i j => .int (i - j)) pSub := by
  intro m st H v u x y QA Q R rx ry ⟨i, j, e1, e2, q⟩ c
  subst e1 e2; cases rx; cases ry
  exact ⟨i, j, rfl, rfl, c.same R (.int _) q⟩
def rMul2 : R2 := fun x y H Q => rI CMul (fun i j => .int (i * j)) x y H Q ∨ rRep x y H Q
theorem op_mul2 {X : Cx} : OpR X (binaryOp .Mult) rMul2 := op_mul.or op_rep
theorem so_mul : SO2 g rMul2 pMul := by
  intro m st H v u x y QA Q R rx ry h c
  rcases h with ⟨i, j, rfl, rfl, hc, q⟩ | ⟨n, k, xs, rfl, rfl, hx, h0, h1, hl, q⟩
  · cases rx; cases ry
    exact .inl ⟨i, j, rfl, rfl, hc, c.same R (.int _) q⟩
  · cases ry
    obtain ⟨a, vs, rfl, k1, k2, k3⟩ := lst_at R rx hx
    refine .inr ⟨a, k, vs, rfl, rfl, k2, by omega, by omega, ?_, fun p hp => c.newL R (k3.rep k.toNat) hp q⟩
    rw [k3.length, sizeLine_eq]
    calc xs.length * k.toNat ≤ 100 * 100000 := Nat.mul_le_mul hl (by omega)
      _ ≤ 16777216 := by decide
theorem so_fdiv : SO2 g (rI CDiv fun i j => .int (i / j)) pFdiv := by
  intro m st H v u x y QA Q R rx ry ⟨i, j, e1, e2, h1, h2, q⟩ c
  subst e1 e2; cases rx; cases ry
  exact ⟨i, j, rfl, rfl, ⟨h1, h2⟩, c.same R (.int _) q⟩
theorem so_mod : SO2 g (rI (fun _ j => 0 < j) fun i j => .int (i % j)) pMod := by
  intro m st H v u x y QA Q R rx ry ⟨i, j, e1, e2, h1, q⟩ c
  subst e1 e2; cases rx; cases ry
  exact ⟨i, j, rfl, rfl, h1, c.same R (.int _) q⟩
theorem so_pow : SO2 g (rI CPow fun i j => .int (i ^ j.toNat)) pPow := by
  intro m st H v u x y QA Q R rx ry ⟨i, j, e1, e2, h1, h2, h3, q⟩ c
  subst e1 e2; cases rx; cases ry
  exact ⟨i, j, rfl, rfl, ⟨h1, h2, h3⟩, c.same R (.int _) q⟩
theorem so_neg : SO1 g (rU fun i => .int (-i)) pNeg := by
  intro m st H v x QA Q R rx ⟨i, e1, q⟩ c
  subst e1; cases rx
  exact ⟨i, rfl, c.same R (.int _) q⟩
theorem so_cmp {f : Int → Int → Bool} : SO2 g (rI0 fun i j => .bl (f i j)) (pCmp f) := by
  intro m st H v u x y QA Q R rx ry ⟨i, j, e1, e2, q⟩ c
  subst e1 e2; cases rx; cases ry
  exact ⟨i, j, rfl, rfl, c.same R (.bl _) q⟩

/-! ### == -/
mutual
theorem Rp.dp {m : List Addr} {H : Hp} : ∀ (k : NestedKey) (v : V), Rp g m H v (dk k) → Dp g.K H v k.data
  | .none, v, h => by unfold dk at h; cases h; exact .non
  | .num i, v, h => by unfold dk at h; cases h; exact .int i
  | .text x, v, h => by unfold dk at h; cases h; exact .str x
  | .tup ks, v, h => by
    unfold dk at h
    cases h with
    | tup h1 h2 => exact .tup h1 (RpL.dp ks _ h2)
theorem RpL.dp {m : List Addr} {H : Hp} : ∀ (ks : List NestedKey) (vs : List V), RpL g m H vs (dks ks) → DpAll g.K H vs (NestedKey.datas ks)
  | [], vs, h => by unfold dks at h; cases h; exact .nil
  | k :: ks, vs, h => by
    unfold dks at h
    cases h with
    | cons h1 h2 => exact .cons (Rp.dp k _ h1) (RpL.dp ks _ h2)
end
theorem text_lay {x : Str} (h : x.cps.all (· < 128) = true) : (PyData.str x).canLay0 = true := by
  unfold PyData.canLay0
  unfold PyData.strOk
  rw [Array.all_eq_true] at h ⊢
  intro i hi
  have := h i hi
  simp only [decide_eq_true_eq] at this ⊢
  exact Nat.lt_trans this (by decide)
mutual
theorem key_lay : ∀ k : NestedKey, keyOk k = true → k.data.canLay0 = true
  | .none, _ => rfl
  | .num _, _ => rfl
  | .text _, h => text_lay (by simpa [keyOk] using h)
  | .tup ks, h => by simp only [NestedKey.data, PyData.canLay0]; exact keys_lay ks (by simpa [keyOk] using h)
theorem keys_lay : ∀ ks : List NestedKey, keysOk ks = true → PyData.canLayAll0 (NestedKey.datas ks) = true
  | [], _ => by simp [NestedKey.datas, PyData.canLayAll0]
  | k :: ks, h => by
    simp only [keysOk, Bool.and_eq_true] at h
    simp [NestedKey.datas, PyData.canLayAll0, key_lay k h.1, keys_lay ks h.2]
end
mutual
theorem key_depth : ∀ k : NestedKey, k.data.depth = k.depth
  | .none => rfl
  | .num _ => rfl
  | .text _ => rfl
  | .tup ks => by simp only [NestedKey.data, PyData.depth, NestedKey.depth]; rw [keys_depth ks]
theorem keys_depth : ∀ ks : List NestedKey, PyData.depthAll (NestedKey.datas ks) = NestedKey.depthAll ks
  | [] => by simp [NestedKey.datas, PyData.depthAll, NestedKey.depthAll]
  | k :: ks => by simp [NestedKey.datas, PyData.depthAll, NestedKey.depthAll, key_depth k, keys_depth ks]
end
mutual
theorem key_eqv : ∀ a b : NestedKey, PyData.eqv a.data b.data = NestedKey.beq a b
  | .none, b => by cases b <;> simp [NestedKey.data, PyData.eqv, NestedKey.beq]
  | .num i, b => by cases b <;> simp [NestedKey.data, PyData.eqv, NestedKey.beq, Bool.beq_eq_decide_eq]
  | .text x, b => by cases b <;> simp [NestedKey.data, PyData.eqv, NestedKey.beq, Bool.beq_eq_decide_eq]
  | .tup ks, .tup ls => by simp only [NestedKey.data, PyData.eqv, NestedKey.beq]; exact keys_eqv ks ls
  | .tup ks, .none => by simp [NestedKey.data, PyData.eqv, NestedKey.beq]
  | .tup ks, .num _ => by simp [NestedKey.data, PyData.eqv, NestedKey.beq]
  | .tup ks, .text _ => by simp [NestedKey.data, PyData.eqv, NestedKey.beq]
theorem keys_eqv : ∀ a b : List NestedKey, PyData.eqvAll (NestedKey.datas a) (NestedKey.datas b) = NestedKey.beqAll a b
  | [], [] => by simp [NestedKey.datas, PyData.eqvAll, NestedKey.beqAll]
  | [], _ :: _ => by simp [NestedKey.datas, PyData.eqvAll, NestedKey.beqAll]
  | _ :: _, [] => by simp [NestedKey.datas, PyData.eqvAll, NestedKey.beqAll]
  | x :: xs, y :: ys => by simp [NestedKey.datas, PyData.eqvAll, NestedKey.beqAll, key_eqv x y, keys_eqv xs ys]
end
theorem key_shaped {k : NestedKey} (h : k.depth ≤ 8) (ho : keyOk k = true) : SeqAt.shaped k.data = true := by
  unfold SeqAt.shaped
  rw [key_lay k ho, key_depth, Bool.true_and]
  exact decide_eq_true (by omega)
def rEq2 (K : PySem.W.Frag) : R2 := fun x y H Q => rEq x y H Q ∨ rEqD K x y H Q
def rNe2 (K : PySem.W.Frag) : R2 := fun x y H Q => rNe x y H Q ∨ rNeD K x y H Q
theorem op_eq2 {X : Cx} (hu : X.A.units + 64 < cLine) : OpR X (compareOp .Eq) (rEq2 X.K) := op_eq.or (op_eqD hu)
theorem op_ne2 {X : Cx} (hu : X.A.units + 64 < cLine) : OpR X (compareOp .NotEq) (rNe2 X.K) := op_ne.or (op_neD hu)
theorem dec_congr {p q : Prop} [Decidable p] [Decidable q] (h : p ↔ q) : decide p = decide q := by
  by_cases hp : p
  · rw [decide_eq_true hp, decide_eq_true (h.mp hp)]
  · rw [decide_eq_false hp, decide_eq_false fun x => hp (h.mpr x)]
theorem so_eq : SO2 g (rEq2 g.K) pEq := by
  intro m st H v u x y QA Q R rx ry h c
  rcases h with ⟨i, j, rfl, rfl, q⟩ | ⟨i, j, rfl, rfl, q⟩ | ⟨a, b, rfl, rfl, h1, h2, o1, o2, q⟩
  · cases rx; cases ry
    refine .inl ⟨rfl, c.same R (.bl _) ?_⟩
    rw [dec_congr (q := i = j) ⟨fun e => V.int.inj e, fun e => by rw [e]⟩]; exact q
  · cases rx; cases ry
    refine .inl ⟨rfl, c.same R (.bl _) ?_⟩
    rw [dec_congr (q := i = j) ⟨fun e => V.str.inj e, fun e => by rw [e]⟩]; exact q
  · refine .inr ⟨_, _, Rp.dp a _ rx, Rp.dp b _ ry, key_shaped h1 o1, key_shaped h2 o2, c.same R (.bl _) ?_⟩
    rw [key_eqv, ← NestedKey.decide_eq]; exact q
theorem so_ne : SO2 g (rNe2 g.K) pNe := by
  intro m st H v u x y QA Q R rx ry h c
  rcases h with ⟨i, j, rfl, rfl, q⟩ | ⟨i, j, rfl, rfl, q⟩ | ⟨a, b, rfl, rfl, h1, h2, o1, o2, q⟩
  · cases rx; cases ry
    refine .inl ⟨rfl, c.same R (.bl _) ?_⟩
    rw [dec_congr (q := i = j) ⟨fun e => V.int.inj e, fun e => by rw [e]⟩]; exact q
  · cases rx; cases ry
    refine .inl ⟨rfl, c.same R (.bl _) ?_⟩
    rw [dec_congr (q := i = j) ⟨fun e => V.str.inj e, fun e => by rw [e]⟩]; exact q
  · refine .inr ⟨_, _, Rp.dp a _ rx, Rp.dp b _ ry, key_shaped h1 o1, key_shaped h2 o2, c.same R (.bl _) ?_⟩
    rw [key_eqv, ← NestedKey.decide_eq]; exact q

/-! ### is -/
def rIs1 : R2 := fun x y H Q => y = .non ∧ Q (.bl (decide (x = .non))) H
theorem non_iff {m : List Addr} {H : Hp} {v : V} {d : D} (r : Rp g m H v d) : decide (v = V.non) = isNon d := by cases r <;> simp [isNon]
theorem so_is : SO2 g (fun x y H Q => y = .non ∧ Q (.bl (decide (x = .non))) H) pIs := by
  intro m st H v u x y QA Q R rx ry ⟨e, q⟩ c
  subst e; cases ry
  exact ⟨rfl, c.same R (.bl _) (by rw [non_iff rx]; exact q)⟩
theorem so_isNot : SO2 g (fun x y H Q => (y = .non ∧ Q (.bl (!decide (x = .non))) H) ∨ rNotB x y H Q) pIsNot := by
  intro m st H v u x y QA Q R rx ry h c
  rcases h with ⟨e, q⟩ | ⟨a, b, rfl, rfl, q⟩
  · subst e; cases ry
    exact .inl ⟨rfl, c.same R (.bl _) (by rw [non_iff rx]; exact q)⟩
  · cases rx; cases ry
    exact .inr ⟨a, b, rfl, rfl, c.same R (.bl _) q⟩
theorem op_isNot2 {X : Cx} : OpR X (compareOp .IsNot) (fun x y H Q => (y = .non ∧ Q (.bl (!decide (x = .non))) H) ∨ rNotB x y H Q) := op_notN.or op_notBl

/-! ### o[i] -/
def rIx4 (g : G) : R2 := fun x y H Q => rIx g.K x y H Q ∨ rDIx g x y H Q
theorem ix_4 {X : Cx} (hu : X.A.units + 64 < cLine) : IxR X (rIx4 (gX X)) := ix_seq.or (ix_d hu)
theorem ixN_same (n : Nat) (i : Int) : L2.ixN n i = ixN n i := rfl
theorem atI_rp {m : List Addr} {H : Hp} {vs : List V} {xs : List D} {i : Int} {d : D} (r : RpL g m H vs xs) (h : atI xs i = some d) : ∃ v, L2.atI vs i = some v ∧ Rp g m H v d := by
  unfold atI at h
  obtain ⟨j, h1, h2⟩ := Option.bind_eq_some_iff.mp h
  obtain ⟨v, h3, h4⟩ := r.get h2
  refine ⟨v, ?_, h4⟩
  unfold L2.atI
  rw [ixN_same, r.length, h1]
  exact h3
theorem so_ix : SO2 g (rIx4 g) pIx := by
  intro m st H v u x y QA Q R rx ry h c
  rcases h with ⟨xs, i, d, rfl, rfl, hi, q⟩ | ⟨n, xs, i, d, rfl, rfl, hn, hi, q⟩ | ⟨n, lk, kvs, k, d, rfl, rfl, hd, ht, hn, hv, q⟩ | ⟨s, i, z, rfl, rfl, hl, hi, q⟩
  · cases ry
    obtain ⟨a, vs, rfl, h1, h2⟩ := tup_at rx
    obtain ⟨w, h3, h4⟩ := atI_rp h2 hi
    exact .inl (.inr (.inl ⟨a, vs, i, w, rfl, rfl, h1, h3, c.same R h4 q⟩))
  · cases ry
    obtain ⟨a, vs, rfl, h1, h2, h3⟩ := lst_at R rx hn
    obtain ⟨w, h4, h5⟩ := atI_rp h3 hi
    exact .inl (.inl ⟨a, vs, i, w, rfl, rfl, .inl (.inl h2), h4, c.same R h5 q⟩)
  · cases rx with
    | @ref a _ h1 =>
      obtain ⟨a', h2, h3⟩ := R.ob n _ hn
      rw [h1] at h2; cases h2
      obtain ⟨xs, h4⟩ := h3.dtAt
      obtain ⟨b, rfl⟩ := key_ref ry ht
      exact .inr ⟨m, a, kvs, xs, k, b, d, rfl, rfl, h4, ry, hd, hv, fun w rw => c.same R rw q⟩
  · cases rx; cases ry
    exact .inl (.inr (.inr ⟨s, i, z, rfl, rfl, bigLIM hl, hi, c.same R (.str _) q⟩))
end
end Ab

set_option Elab.async false
set_option linter.all false
set_option maxRecDepth 100000
set_option maxHeartbeats 2000000
/-! in, len, isinstance, all, any, tuple, list, int, abs, sum, max; methods of lists; stores; slices. -/
namespace Ab
open PySem PySem.Spec PyProof.Rows L2

section
variable {X : Cx} {g : G}
/-- args of one, two -/
theorem rpl1 {m : List Addr} {H : Hp} {vs : List V} {d : D} (r : RpL g m H vs [d]) : ∃ v, vs = [v] ∧ Rp g m H v d := by
  cases r with
  | cons h t => cases t; exact ⟨_, rfl, h⟩
theorem rpl2 {m : List Addr} {H : Hp} {vs : List V} {d e : D} (r : RpL g m H vs [d, e]) : ∃ v w, vs = [v, w] ∧ Rp g m H v d ∧ Rp g m H w e := by
  cases r with
  | cons h t => cases t with
    | cons h2 t2 => cases t2; exact ⟨_, _, rfl, h, h2⟩
/-- f(e), f(e, e2), f a built-in -/
def SC1 (g : G) (r : List V → Hp → VK → Prop) (p : P1) : Prop := ∀ m st H v x QA Q, Rs g m st H → Rp g m H v x → p x st QA → CE g m H QA Q → r [v] H Q
def SC2 (g : G) (r : List V → Hp → VK → Prop) (p : P2) : Prop := ∀ m st H v u x y QA Q, Rs g m st H → Rp g m H v x → Rp g m H u y → p x y st QA → CE g m H QA Q → r [v, u] H Q
theorem liftC1 {r : List V → Hp → VK → Prop} {p : P1} {a : AE} {σ : L2.St} {H : Hp} {Q : VK} (hs : SC1 g r p) (h : liftE g (aO1 p a) σ H Q) : tCB r (tCons (liftE g a) tNil) σ H Q := by
  obtain ⟨m, st, env, QA, R, re, q, c⟩ := h
  exact ⟨m, st, env, _, R, re, q, fun x st1 v m1 H1 E1 R1 r1 q1 => hs m1 st1 H1 v x QA Q R1 r1 q1 (c.mono E1)⟩
theorem liftC2 {r : List V → Hp → VK → Prop} {p : P2} {a b : AE} {σ : L2.St} {H : Hp} {Q : VK} (hs : SC2 g r p) (h : liftE g (aO2 p a b) σ H Q) : tCB r (tCons (liftE g a) (tCons (liftE g b) tNil)) σ H Q := by
  obtain ⟨m, st, env, QA, R, re, q, c⟩ := h
  exact ⟨m, st, env, _, R, re, q, fun x st1 v m1 H1 E1 R1 r1 q1 => ⟨m1, st1, env, _, R1, re.mono E1.mon, q1, fun y st2 u m2 H2 E2 R2 r2 q2 => hs m2 st2 H2 v u x y QA Q R2 (r1.mono E2.mon) r2 q2 (c.mono (E1.trans E2))⟩⟩
theorem aj_bi1 {x : Str} {id : String} {e : Expr} {a : AE} {p pos : Pos} {r : List V → Hp → VK → Prop} {pr : P1} (hc : CallR X (.builtin id) r) (hs : SC1 g r pr) (hg : Gl X x) (hm : X.mg x = none) (hv : bootBuiltins x = some (.builtin id)) (ha : PE X e (liftE g a)) (hn : x ≠ "__name__" := by decide) (hdb : (x == ("__debug__" : Str)) = false := by decide)
    (he : starEach (e :: []) X.env = (false, eval e X.env) :: starEach [] X.env := by rfl) (hpl : (backTo pos (starEach [] X.env)).any (·.1) = false := by rfl) : PE X (.Call (.Name x p) [e] [] pos) (liftE g (aO1 pr a)) :=
  PE.weak (pe_callB hc hg hm hv (pa_cons ha pa_nil he) hn hdb he hpl) fun _ _ _ => liftC1 hs
theorem aj_ty1 {x : Str} {T : String} {e : Expr} {a : AE} {p pos : Pos} {r : List V → Hp → VK → Prop} {pr : P1} (hc : CallR X (.type T) r) (hs : SC1 g r pr) (hg : Gl X x) (hm : X.mg x = none) (hv : bootBuiltins x = some (.type T)) (ha : PE X e (liftE g a)) (hn : x ≠ "__name__" := by decide) (hdb : (x == ("__debug__" : Str)) = false := by decide)
    (he : starEach (e :: []) X.env = (false, eval e X.env) :: starEach [] X.env := by rfl) (hpl : (backTo pos (starEach [] X.env)).any (·.1) = false := by rfl) : PE X (.Call (.Name x p) [e] [] pos) (liftE g (aO1 pr a)) :=
  PE.weak (pe_callTy hc hg hm hv (pa_cons ha pa_nil he) hn hdb he hpl) fun _ _ _ => liftC1 hs
theorem aj_bi2 {x : Str} {id : String} {e e2 : Expr} {a b : AE} {p pos : Pos} {r : List V → Hp → VK → Prop} {pr : P2} (hc : CallR X (.builtin id) r) (hs : SC2 g r pr) (hg : Gl X x) (hm : X.mg x = none) (hv : bootBuiltins x = some (.builtin id)) (ha : PE X e (liftE g a)) (hb : PE X e2 (liftE g b)) (hn : x ≠ "__name__" := by decide) (hdb : (x == ("__debug__" : Str)) = false := by decide)
    (he : starEach (e :: [e2]) X.env = (false, eval e X.env) :: starEach [e2] X.env := by rfl) (he2 : starEach (e2 :: []) X.env = (false, eval e2 X.env) :: starEach [] X.env := by rfl) (hpl : (backTo pos (starEach [e2] X.env)).any (·.1) = false := by rfl) : PE X (.Call (.Name x p) [e, e2] [] pos) (liftE g (aO2 pr a b)) :=
  PE.weak (pe_callB hc hg hm hv (pa_cons ha (pa_cons hb pa_nil he2) he) hn hdb he hpl) fun _ _ _ => liftC2 hs

/-! ### in -/
def rInK (g : G) (neg : Bool) : R2 := fun x y H Q => ∃ (m : List Addr) (a : NestedKey) (ks : List NestedKey) (p : Addr) (vs : List V), y = .ref p ∧ (SqL g.K H p vs ∨ SqT g.K H p vs) ∧ Rp g m H x (dk a) ∧ RpL g m H vs (ks.map dk) ∧ a.depth ≤ 7 ∧ (∀ k ∈ ks, k.depth ≤ 7) ∧
  Q (.bl (if neg then !decide (a ∈ ks) else decide (a ∈ ks))) H
open Classical in
/-- which items are the key a -/
noncomputable def eK (h : Heap) (a : NestedKey) (u : Value) : Bool := if q : ∃ k, NestedIs h k u then NestedKey.beq q.choose a else false
theorem eK_of {h : Heap} {a k : NestedKey} {u : Value} (r : NestedIs h k u) : eK h a u = NestedKey.beq k a := by
  have q : ∃ k, NestedIs h k u := ⟨k, r⟩
  unfold eK
  rw [dif_pos q, NestedIs.inj _ _ _ q.choose_spec r]
theorem any_eK {h : Heap} {a : NestedKey} : ∀ {ks : List NestedKey} {us : List Value}, NestedAll h ks us → us.any (eK h a) = decide (a ∈ ks)
  | [], us, r => by cases r; simp
  | k :: ks, us, r => by
    cases r with
    | cons r1 r2 =>
      rw [List.any_cons, eK_of r1, any_eK r2, ← NestedKey.decide_eq]
      by_cases e : k = a
      · simp [e]
      · have e' : ¬ a = k := fun z => e z.symm
        simp [e, e']
theorem keys_mem {h : Heap} : ∀ {ks : List NestedKey} {us : List Value} {u : Value}, NestedAll h ks us → u ∈ us → ∃ k ∈ ks, NestedIs h k u
  | [], us, u, r, hu => by cases r; cases hu
  | k :: ks, us, u, r, hu => by
    cases r with
    | cons r1 r2 =>
      rcases List.mem_cons.mp hu with rfl | hu
      · exact ⟨k, List.mem_cons_self, r1⟩
      · obtain ⟨k', h1, h2⟩ := keys_mem r2 hu
        exact ⟨k', List.mem_cons_of_mem _ h1, h2⟩
theorem op_inK (hu : X.A.units + 64 < cLine) (neg : Bool) : OpR X (compareOp (if neg then .NotIn else .In)) (rInK (gX X) neg) := by
  intro pins s σ H x y v u Q I rx ry h
  obtain ⟨m, a, ks, p, vs, rfl, hp, hx, hvs, hd, hds, q⟩ := h
  cases ry
  have ka := Rp.key I a x v hx rx
  have go : ∀ {its : List Value}, Vals vs its → (∀ z, z ∈ its.toArray → SeqAt.EqAt X.A.in1 s z v (eK s.heap a z)) ∧ its.toArray.any (eK s.heap a) = decide (a ∈ ks) := by
    intro its rv
    have kk : NestedAll s.heap ks its := RpL.keys I ks vs its (by rw [dks_map]; exact hvs) rv
    refine ⟨fun z hz => ?_, ?_⟩
    · obtain ⟨k, h1, h2⟩ := keys_mem kk (by simpa using hz)
      rw [eK_of h2]
      have := hds k h1
      refine eqAt_key k a X.A.in1 s z v h2 ka ?_
      simp only [Around.in1_units]
      omega
    · rw [← Array.any_toList]
      exact any_eK kk
  have fin : EP X pins σ Q (.bool (if neg then !decide (a ∈ ks) else decide (a ∈ ks))) s := ⟨.bl _, H, I, rfl, q⟩
  rcases hp with hp | hp
  · obtain ⟨its, rv, pl, hz⟩ := I.list hp
    obtain ⟨g1, g2⟩ := go rv
    cases neg with
    | true => exact SeqAt.notIn_listAt _ pl.isList g1 (by rw [g2]; exact fin)
    | false => exact SeqAt.in_listAt _ pl.isList g1 (by rw [g2]; exact fin)
  · obtain ⟨its, rv, pl, hz⟩ := I.tuple hp
    obtain ⟨g1, g2⟩ := go rv
    cases neg with
    | true => exact SeqAt.notIn_tupleAt _ pl g1 (by rw [g2]; exact fin)
    | false => exact SeqAt.in_tupleAt _ pl g1 (by rw [g2]; exact fin)
def rIn3 (g : G) (neg : Bool) : R2 := fun x y H Q => rInK g neg x y H Q ∨ (rDIn g neg x y H Q ∨ ∃ (c : Nat) (z : Str), x = .str ⟨#[c]⟩ ∧ y = .str z ∧ Q (.bl (if neg then !decide (c ∈ z.cps.toList) else decide (c ∈ z.cps.toList))) H)
theorem op_in3 (hu : X.A.units + 64 < cLine) : OpR X (compareOp .In) (rIn3 (gX X) false) := (op_inK hu false).or ((op_dIn hu).or op_in_sign)
theorem op_notIn3 (hu : X.A.units + 64 < cLine) : OpR X (compareOp .NotIn) (rIn3 (gX X) true) := (op_inK hu true).or ((op_dNotIn hu).or op_notIn_sign)
theorem items_sq {m : List Addr} {st : Store} {H : Hp} {v : V} {y : D} {xs : List D} (R : Rs g m st H) (r : Rp g m H v y) (h : items st y xs) : ∃ p vs, v = .ref p ∧ (SqL g.K H p vs ∨ SqT g.K H p vs) ∧ RpL g m H vs xs := by
  rcases h with e | ⟨n, e, h⟩
  · subst e
    obtain ⟨a, vs, rfl, h1, h2⟩ := tup_at r
    exact ⟨a, vs, rfl, .inr h1, h2⟩
  · subst e
    obtain ⟨a, vs, rfl, h1, h2, h3⟩ := lst_at R r h
    exact ⟨a, vs, rfl, .inl (.inl (.inl h2)), h3⟩
theorem so_in {neg : Bool} : SO2 g (rIn3 g neg) (pInB neg) := by
  intro m st H v u x y QA Q R rx ry h c
  rcases h with ⟨a, ks, rfl, hi, hd, hds, q⟩ | ⟨k, n, lk, kvs, rfl, hd, ht, rfl, hn, q⟩ | ⟨z, s, rfl, rfl, q⟩
  · obtain ⟨p, vs, rfl, h1, h2⟩ := items_sq R ry hi
    exact .inl ⟨m, a, ks, p, vs, rfl, h1, rx, h2, hd, hds, c.same R (.bl _) q⟩
  · obtain ⟨b, rfl⟩ := key_ref rx ht
    cases ry with
    | @ref a _ h1 =>
      obtain ⟨a', h2, h3⟩ := R.ob n _ hn
      rw [h1] at h2; cases h2
      obtain ⟨xs, h4⟩ := h3.dtAt
      exact .inr (.inl ⟨m, a, kvs, xs, k, b, rfl, rfl, h4, rx, hd, c.same R (.bl _) q⟩)
  · cases rx; cases ry
    exact .inr (.inr ⟨z, s, rfl, rfl, c.same R (.bl _) q⟩)

/-! ### len -/
def rLenD (g : G) : List V → Hp → VK → Prop := fun xs H Q => ∃ (m : List Addr) (a : Addr) (kvs : List (NestedKey × D)) (es : List (NestedKey × Addr × Value)), xs = [.ref a] ∧ DtAt g m H a kvs es ∧ Q (.int (kvs.length : Nat)) H
theorem call_lenE : CallR X (.builtin "len") (rLenD (gX X)) := by
  intro pins s σ H xs us Q I r h
  obtain ⟨m, a, kvs, es, rfl, hd, q⟩ := h
  obtain ⟨u, rfl, rx⟩ := vals1 r
  cases rx
  obtain ⟨dh, hs, hl⟩ := hd.dictH I
  have e : kvs.length = es.length := Paired.length hd.2
  refine call_len_dictH hs dh (by rw [sizeLine_eq] at hl; omega) ⟨.int es.length, H, I.tok _, ⟨_, rfl⟩, ?_⟩
  rw [← e]; exact q
def rLen2 (g : G) : List V → Hp → VK → Prop := fun xs H Q => (∃ x n, xs = [x] ∧ LenV g.K x H n ∧ Q (.int n) H) ∨ rLenD g xs H Q
theorem cr_len2 : CallR X (.builtin "len") (rLen2 (gX X)) := call_len.or call_lenE
theorem sc_len : SC1 g (rLen2 g) pLen := by
  intro m st H v x QA Q R rx h c
  rcases h with ⟨xs, rfl, q⟩ | ⟨n, xs, rfl, hn, q⟩ | ⟨n, lk, kvs, rfl, hn, hl, q⟩ | ⟨s, rfl, hl, q⟩
  · obtain ⟨a, vs, rfl, h1, h2⟩ := tup_at rx
    exact .inl ⟨_, xs.length, rfl, .inr ⟨vs, h1, h2.length.symm⟩, c.same R (.int _) q⟩
  · obtain ⟨a, vs, rfl, h1, h2, h3⟩ := lst_at R rx hn
    exact .inl ⟨_, xs.length, rfl, .inl ⟨vs, .inl (.inl h2), h3.length.symm⟩, c.same R (.int _) q⟩
  · cases rx with
    | @ref a _ h1 =>
      obtain ⟨a', h2, h3⟩ := R.ob n _ hn
      rw [h1] at h2; cases h2
      obtain ⟨es, h4⟩ := h3.dtAt
      exact .inr ⟨m, a, kvs, es, rfl, h4, c.same R (.int _) q⟩
  · cases rx
    exact .inl ⟨_, s.length, rfl, ⟨bigLIM hl, rfl⟩, c.same R (.int _) q⟩

/-! ### isinstance -/
def Ki.name : Ki → String
  | .int => "int"
  | .bool => "bool"
  | .str => "str"
  | .tuple => "tuple"
theorem tup_ty {K : PySem.W.Frag} {H : Hp} {a : Addr} {vs : List V} (h : SqT K H a vs) : TyX K H (.ref a) (.type "tuple") := by
  rcases h with (h | ⟨o, h⟩) | ⟨o, its, n, h1, h2, _⟩
  · exact .base (.tup h)
  · exact .fTuple h
  · exact .kTuple h1 h2
theorem sc_isi {k : Ki} (Q : VK) {m : List Addr} {st : Store} {H : Hp} {v : V} {x : D} {QA : DK} (R : Rs g m st H) (rx : Rp g m H v x) (h : pIsi k x st QA) (c : CE g m H QA Q) : rIsi g.K [v, .ty k.name] H Q := by
  cases k <;> cases x <;> first | exact h.elim | skip
  · cases rx
    exact ⟨_, _, _, _, true, rfl, .ty _, .base (.int _), kit_ty (by decide +kernel), c.same R (.bl _) h⟩
  · cases rx
    exact ⟨_, _, _, _, false, rfl, .ty _, .base (.int _), kit_ty (by decide +kernel), c.same R (.bl _) h⟩
  · cases rx
    exact ⟨_, _, _, _, true, rfl, .ty _, .base (.str _), kit_ty (by decide +kernel), c.same R (.bl _) h⟩
  · obtain ⟨a, vs, rfl, h1, h2⟩ := tup_at rx
    exact ⟨_, _, _, _, true, rfl, .ty _, tup_ty h1, kit_ty (by decide +kernel), c.same R (.bl _) h⟩
theorem aj_isi {e : Expr} {a : AE} {T : Str} {k : Ki} {p p2 pos : Pos} (hg : Gl X "isinstance") (hm : X.mg "isinstance" = none) (hgT : Gl X T) (hmT : X.mg T = none) (hvT : bootBuiltins T = some (.type k.name)) (ha : PE X e (liftE (gX X) a)) (hnT : T ≠ "__name__" := by decide) (hdT : (T == ("__debug__" : Str)) = false := by decide)
    (he : starEach (e :: [.Name T p2]) X.env = (false, eval e X.env) :: starEach [.Name T p2] X.env := by rfl) (he2 : starEach (.Name T p2 :: []) X.env = (false, eval (.Name T p2) X.env) :: starEach [] X.env := by rfl) (hpl : (backTo pos (starEach [.Name T p2] X.env)).any (·.1) = false := by rfl) :
    PE X (.Call (.Name "isinstance" p) [e, .Name T p2] [] pos) (liftE (gX X) (aO1 (pIsi k) a)) :=
  PE.weak (pe_callB call_isi hg hm (by decide +kernel) (pa_cons ha (pa_cons (pe_bltn (v := .ty k.name) hgT hmT hvT rfl hnT hdT) pa_nil he2) he) (by decide) (by decide) he hpl) fun σ H Q ⟨m, st, env, QA, R, re, q, c⟩ =>
    ⟨m, st, env, _, R, re, q, fun x st1 v m1 H1 E1 R1 r1 q1 => sc_isi Q R1 r1 q1 (c.mono E1)⟩

/-! ### all, any, tuple, int, abs, sum, max -/
theorem sc_all : SC1 g (rAll g.K) pAll := by
  intro m st H v x QA Q R rx ⟨n, bs, e, hn, q⟩ c
  subst e
  obtain ⟨a, vs, rfl, h1, h2, h3⟩ := lst_at R rx hn
  have := RpL.bls h3
  subst this
  exact ⟨a, bs, rfl, .inl (.inl h2), c.same R (.bl _) q⟩
theorem sc_any : SC1 g (rAny g.K) pAny := by
  intro m st H v x QA Q R rx ⟨n, bs, e, hn, q⟩ c
  subst e
  obtain ⟨a, vs, rfl, h1, h2, h3⟩ := lst_at R rx hn
  have := RpL.bls h3
  subst this
  exact ⟨a, bs, rfl, .inl (.inl h2), c.same R (.bl _) q⟩
theorem sc_tuple : SC1 g (fun xs H Q => ∃ p ys, xs = [.ref p] ∧ ((SqL g.K H p ys ∧ ∀ l, H l = none → Q (.ref l) (upd H l (.tup ys))) ∨ (SqT g.K H p ys ∧ Q (.ref p) H))) pTuple := by
  intro m st H v x QA Q R rx ⟨xs, hi, q⟩ c
  rcases hi with e | ⟨n, e, hn⟩
  · subst e
    obtain ⟨a, vs, rfl, h1, h2⟩ := tup_at rx
    exact ⟨a, vs, rfl, .inr ⟨h1, c.same R rx q⟩⟩
  · subst e
    obtain ⟨a, vs, rfl, h1, h2, h3⟩ := lst_at R rx hn
    exact ⟨a, vs, rfl, .inl ⟨.inl (.inl h2), fun l hl => c.newT R h3 hl q⟩⟩
theorem sc_int : SC1 g (fun xs H Q => (∃ i, xs = [.int i] ∧ Q (.int i) H) ∨ ∃ k, xs = [.bl k] ∧ Q (.int (if k then 1 else 0)) H) pInt := by
  intro m st H v x QA Q R rx ⟨i, e, q⟩ c
  subst e; cases rx
  exact .inl ⟨i, rfl, c.same R (.int _) q⟩
theorem sc_abs : SC1 g (fun xs H Q => ∃ i, xs = [.int i] ∧ Q (.int (if i < 0 then -i else i)) H) pAbs := by
  intro m st H v x QA Q R rx ⟨i, e, q⟩ c
  subst e; cases rx
  exact ⟨i, rfl, c.same R (.int _) q⟩
theorem sc_sum : SC1 g (rSum g.K) pSum := by
  intro m st H v x QA Q R rx ⟨n, is, e, hn, q⟩ c
  subst e
  obtain ⟨a, vs, rfl, h1, h2, h3⟩ := lst_at R rx hn
  have := RpL.ints h3
  subst this
  exact ⟨a, is, rfl, .inl (.inl h2), c.same R (.int _) q⟩
theorem sc_max2 : SC2 g (fun xs H Q => ∃ i j, xs = [.int i, .int j] ∧ Q (.int (if j > i then j else i)) H) pMax2 := by
  intro m st H v u x y QA Q R rx ry ⟨i, j, e1, e2, q⟩ c
  subst e1 e2; cases rx; cases ry
  exact ⟨i, j, rfl, c.same R (.int _) q⟩
/-- max of a tuple of ints -/
def rMaxT (K : PySem.W.Frag) : List V → Hp → VK → Prop := fun vs H Q => ∃ (a : Addr) (ns : List Int), vs = [V.ref a] ∧ SqT K H a (ns.map V.int) ∧ 0 < ns.length ∧ ∀ m, m ∈ ns → (∀ y, y ∈ ns → y ≤ m) → Q (.int m) H
theorem reads_ints {h : Heap} : ∀ {ns : List Int} {us : List Value}, Vals (ns.map V.int) us → ReadsAll h us (ns.map .int) []
  | [], us, r => by cases r; exact .nil
  | n :: ns, us, r => by
    cases r with
    | cons r1 r2 =>
      obtain ⟨t, rfl⟩ := r1
      exact .cons (as := []) (.int n t) (reads_ints r2)
theorem alike_intsA (ns : List Int) : PySem.W.AlikeAll (ns.map .int) := by
  refine ⟨fun x hx y hy => ?_, fun x hx => ?_⟩
  · obtain ⟨i, _, rfl⟩ := List.mem_map.mp hx
    obtain ⟨j, _, rfl⟩ := List.mem_map.mp hy
    simp [PySem.W.alike]
  · obtain ⟨i, _, rfl⟩ := List.mem_map.mp hx
    exact fun z => nomatch z
theorem max_fold (n : Int) : ∀ ns : List Int, ns.foldl max n ∈ n :: ns ∧ ∀ y ∈ n :: ns, y ≤ ns.foldl max n := by
  intro ns
  induction ns generalizing n with
  | nil => simp
  | cons k ns ih =>
    obtain ⟨h1, h2⟩ := ih (max n k)
    rw [List.foldl_cons]
    refine ⟨?_, fun y hy => ?_⟩
    · rcases List.mem_cons.mp h1 with e | e
      · rw [e]
        rcases Int.le_total n k with z | z
        · rw [Int.max_eq_right z]; simp
        · rw [Int.max_eq_left z]; simp
      · simp [e]
    · have hb := h2 (max n k) List.mem_cons_self
      rcases List.mem_cons.mp hy with e | e
      · have := Int.le_max_left n k; omega
      · rcases List.mem_cons.mp e with e | e
        · have := Int.le_max_right n k; omega
        · exact h2 y (List.mem_cons_of_mem _ e)
theorem cr_maxT (hc : X.calm = true) (hu : X.A.units + 64 < cLine) : CallR X (.builtin "max") (rMaxT X.K) := by
  intro pins s σ H vs us Q I r h
  obtain ⟨a, ns, rfl, hs, hne, q⟩ := h
  obtain ⟨its, rv, hl, _⟩ := I.tuple hs
  rw [Vals.ref1 r]
  cases ns with
  | nil => simp at hne
  | cons n ns =>
    have hr : ReadsAll s.heap its.toArray.toList (.int n :: ns.map .int) [] := reads_ints rv
    refine PySem.W.max_tuple_data (I.ok.hd hc) hl hr (alike_intsA (n :: ns)) ?_ fun i v h' tk bs hv hrd hk => ?_
    · have e : PyData.depthAll (.int n :: ns.map .int) = 0 := PySem.W.depth_ints (n :: ns)
      rw [e]; omega
    · rw [PySem.W.maxD_ints] at hrd
      cases hrd
      obtain ⟨h1, h2⟩ := max_fold n ns
      exact ⟨.int _, H, I.kept hk, ⟨_, rfl⟩, q _ h1 h2⟩
theorem sc_maxT : SC1 g (rMaxT g.K) pMax := by
  intro m st H v x QA Q R rx ⟨is, e, hl, q⟩ c
  subst e
  obtain ⟨a, vs, rfl, h1, h2⟩ := tup_at rx
  have := RpL.ints h2
  subst this
  exact ⟨a, is, rfl, h1, hl, fun mx k1 k2 => c.same R (.int _) (q mx k1 k2)⟩
end
end Ab

set_option Elab.async false
set_option linter.all false
set_option maxRecDepth 100000
set_option maxHeartbeats 2000000
/-! list() and sorted() of whatever is walked. -/
namespace Ab
open PySem PySem.Spec PyProof.Rows L2
open PySem.W (alike alikeAll dataLe dataLe_eq dataLt dataLt_int EachIs keyToks keyToksAll list_sort_data AllAlike)

section
variable {X : Cx} {pins : List (Addr × Obj)} {σ : L2.St} {H : Hp} {s : Shared} {m : List Addr} {st : Store}
/-- a dict of the store, its keys xs -/
structure DSrc (X : Cx) (m : List Addr) (H : Hp) (s : Shared) (a : Addr) (xs : List D) : Prop where
  ex : ∃ (od : Obj) (es : Array DictEntry) (ep : Nat), (a == sysModules) = false ∧ s.heap.get? a = some od ∧ od.ExactDict ∧ od.data = .dict es ep ∧ es.size = xs.length ∧
    ∀ (i : Nat) (d : D), xs[i]? = some d → ∃ (en : DictEntry) (v : V), es[i]? = some en ∧ RelV v en.key ∧ Rp (gX X) m H v d
theorem dsrc_t (I : Inv X pins σ H s) (R : Rs (gX X) m st H) {n : Nat} {lk : Bool} {kvs : List (NestedKey × D)} (hn : st[n]? = some (.dt lk kvs)) : ∃ a, m[n]? = some a ∧ DSrc X m H s a (kvs.map fun p => dk p.1) := by
  obtain ⟨a, h1, h2⟩ := R.ob n _ hn
  refine ⟨a, h1, ?_⟩
  obtain ⟨es, h3⟩ := h2.dtAt
  obtain ⟨hr, hE⟩ := h3
  have q : ObjOk X.prog X.w H s.heap a (.ext (dPhi (gX X) a es)) := hr.ok I.hok
  obtain ⟨⟨o, ds, ep, e1, e2, e3, e4, e5, e6, e7⟩, _, _⟩ := q
  have hl : kvs.length = es.length := Paired.length hE
  have hsz : ds.size = es.length := by
    have := congrArg List.length e4
    simpa using this
  refine ⟨o, ds, ep, e6, e1, e2, e3, by rw [List.length_map]; omega, fun i d hd => ?_⟩
  rw [List.getElem?_map] at hd
  obtain ⟨p, k1, k2⟩ := Option.map_eq_some_iff.mp hd
  obtain ⟨q, k3, k4⟩ := L2.paired_get hE k1
  obtain ⟨_, k5, _⟩ := k4
  subst k2
  refine ⟨entryOfKey (nestedKind X.prog X.w) q, .ref q.2.1, ?_, rfl, k5⟩
  rw [← Array.getElem?_toList, e4, List.getElem?_map, k3]
  rfl
theorem dsrc_i (I : Inv X pins σ H s) (R : Rs (gX X) m st H) {n : Nat} {lk : Bool} {kvs : List (Int × D)} (hn : st[n]? = some (.di lk kvs)) : ∃ a, m[n]? = some a ∧ DSrc X m H s a (kvs.map fun p => .int p.1) := by
  obtain ⟨a, h1, ws, _, h3, h4⟩ := R.ob n _ hn
  refine ⟨a, h1, ?_⟩
  obtain ⟨z, lo, vs, rel, dd⟩ := dk_of I.hok h3
  obtain ⟨ep, o, es, e1, e2, e3, r⟩ := dd.dictAt
  have hl : kvs.length = ws.length := Paired.length h4
  have hl2 : ws.length = vs.length := rel.length
  have key : ∀ {es : List DictEntry} {us : List (Key × Value)} {ws : List (Key × V)} {ks : List (Int × D)}, Pairs (mixKind X.prog X.w) es us → ws.map (·.1) = us.map (·.1) →
      Paired (fun (p : Int × D) (q : Key × V) => q.1 = .inl p.1 ∧ Rp (gX X) m H q.2 p.2) ks ws → es.length = ks.length ∧ ∀ (i : Nat) (p : Int × D), ks[i]? = some p → ∃ en : DictEntry, es[i]? = some en ∧ keyIs (.inl p.1) en.key = true := by
    intro es us ws ks pp
    induction pp generalizing ws ks with
    | nil =>
      intro e1 e2
      cases ws with
      | nil => cases e2; exact ⟨rfl, fun i p h => by simp at h⟩
      | cons _ _ => cases e1
    | @cons en kv es' us' k1 k2 k3 ih =>
      intro e1 e2
      cases ws with
      | nil => cases e1
      | cons w ws' =>
        cases e2 with
        | @cons p _ ps _ g1 g2 =>
          have e1a : w.1 = kv.1 := (List.cons.inj e1).1
          have e1b : ws'.map (·.1) = us'.map (·.1) := (List.cons.inj e1).2
          obtain ⟨j1, j2⟩ := ih e1b g2
          refine ⟨by simp [j1], fun i q h => ?_⟩
          cases i with
          | zero =>
            have hq : p = q := by simpa using h
            subst hq
            refine ⟨en, rfl, ?_⟩
            rw [← g1.1, e1a]
            exact k1
          | succ i =>
            obtain ⟨en', l1, l2⟩ := j2 i q (by simpa using h)
            exact ⟨en', by simpa using l1, l2⟩
  obtain ⟨k1, k2⟩ := key r.2.1 rel.keys h4
  refine ⟨o, es, ep, lo, e1, e2, e3, by rw [List.length_map, ← k1, Array.length_toList], fun i d hd => ?_⟩
  rw [List.getElem?_map] at hd
  obtain ⟨p, k3, k4⟩ := Option.map_eq_some_iff.mp hd
  obtain ⟨en, k5, k6⟩ := k2 i p k3
  subst k4
  exact ⟨en, .int p.1, by rw [← Array.getElem?_toList]; exact k5, keyIs_rel k6, .int _⟩
/-- what is collected from a dict -/
theorem DSrc.vals {a : Addr} {xs : List D} {us : List Value} {es : Array DictEntry} (h : ∀ (i : Nat) (d : D), xs[i]? = some d → ∃ (en : DictEntry) (v : V), es[i]? = some en ∧ RelV v en.key ∧ Rp (gX X) m H v d)
    (hl : us.length = xs.length) (hu : ∀ (i : Nat) (u : Value), us[i]? = some u → ∃ en : DictEntry, es[i]? = some en ∧ u = en.key) : ∃ vs, RpL (gX X) m H vs xs ∧ Vals vs us := by
  suffices go : ∀ (xs : List D) (us : List Value) (k : Nat), us.length = xs.length → (∀ (i : Nat) (d : D), xs[i]? = some d → ∃ (en : DictEntry) (v : V), es[i + k]? = some en ∧ RelV v en.key ∧ Rp (gX X) m H v d) →
      (∀ (i : Nat) (u : Value), us[i]? = some u → ∃ en : DictEntry, es[i + k]? = some en ∧ u = en.key) → ∃ vs, RpL (gX X) m H vs xs ∧ Vals vs us from go xs us 0 hl h hu
  intro xs
  induction xs with
  | nil =>
    intro us k hl _ _
    cases us with
    | nil => exact ⟨[], .nil, .nil⟩
    | cons _ _ => cases hl
  | cons x xs ih =>
    intro us k hl h hu
    cases us with
    | nil => cases hl
    | cons u us =>
      obtain ⟨en, v, e1, e2, e3⟩ := h 0 x rfl
      obtain ⟨en', f1, f2⟩ := hu 0 u rfl
      rw [e1] at f1
      cases f1
      subst f2
      obtain ⟨vs, g1, g2⟩ := ih us (k + 1) (by simpa using hl) (fun i d hd => by
        obtain ⟨en, v, q⟩ := h (i + 1) d (by simpa using hd)
        exact ⟨en, v, by rw [show i + (k + 1) = i + 1 + k by omega]; exact q.1, q.2⟩) (fun i u hd => by
        obtain ⟨en, q⟩ := hu (i + 1) u (by simpa using hd)
        exact ⟨en, by rw [show i + (k + 1) = i + 1 + k by omega]; exact q.1, q.2⟩)
      exact ⟨v :: vs, .cons e3 g1, .cons e2 g2⟩
end

/-! ### list -/
section
variable {X : Cx}
theorem LIM_line {n : Nat} (h : n ≤ LIM) : n ≤ sizeLine := by unfold LIM at h; rw [sizeLine_eq]; omega
/-- what a list or a sorted list is made from -/
def rSrc (X : Cx) (xs : List V) (m : List Addr) (H : Hp) (ds : List D) : Prop := ∃ a, xs = [.ref a] ∧ ((∃ vs, (SqL X.K H a vs ∨ SqT X.K H a vs) ∧ RpL (gX X) m H vs ds) ∨
  ∀ (pins : List (Addr × Obj)) (σ : L2.St) (s : Shared), Inv X pins σ H s → DSrc X m H s a ds)
theorem rSrc.of {m : List Addr} {st : Store} {H : Hp} {v : V} {x : D} {ds : List D} (R : Rs (gX X) m st H) (r : Rp (gX X) m H v x) (h : source st x ds) : rSrc X [v] m H ds := by
  rcases h with (rfl | ⟨n, rfl, hn⟩) | ⟨n, lk, kvs, rfl, hn, rfl⟩ | ⟨n, lk, kvs, rfl, hn, rfl⟩
  · cases r with
    | @tup a vs _ h1 h2 => exact ⟨a, rfl, .inl ⟨vs, .inr h1, h2⟩⟩
  · cases r with
    | @ref a _ h0 =>
      obtain ⟨b, h1, vs, h2, h3⟩ := R.ob n _ hn
      rw [h0] at h1; cases h1
      exact ⟨a, rfl, .inl ⟨vs, .inl (.inl (.inl h2)), h3⟩⟩
  · cases r with
    | @ref a _ h0 =>
      refine ⟨a, rfl, .inr fun pins σ s I => ?_⟩
      obtain ⟨b, h1, h2⟩ := dsrc_t I R hn
      rw [h0] at h1; cases h1
      exact h2
  · cases r with
    | @ref a _ h0 =>
      refine ⟨a, rfl, .inr fun pins σ s I => ?_⟩
      obtain ⟨b, h1, h2⟩ := dsrc_i I R hn
      rw [h0] at h1; cases h1
      exact h2
/-- list(x) -/
def rMk (X : Cx) : List V → Hp → VK → Prop := fun xs H Q => ∃ m ds, rSrc X xs m H ds ∧ ds.length ≤ LIM ∧ ∀ vs l, RpL (gX X) m H vs ds → H l = none → Q (.ref l) (upd H l (.lst vs))
theorem cr_list (hcalm : X.calm = true) : CallR X (.type "list") (rMk X) := by
  intro pins s σ H xs us Q I r h
  obtain ⟨m, ds, ⟨a, rfl, h⟩, hz, q⟩ := h
  rcases h with ⟨vs, h1, h2⟩ | h
  · exact call_list_of pins s σ H _ us Q I r ⟨a, vs, rfl, h1, fun l hl => q vs l h2 hl⟩
  · obtain ⟨od, es, ep, hs, ho, hx, hdt, hsz, hk⟩ := (h pins σ s I).ex
    obtain ⟨u, rfl, rx⟩ := r.one
    cases rx
    refine PySem.W.kdl_call (kdl_raw hs hx hdt) (I.ok.hd hcalm) ho (by rw [hsz]; exact LIM_line hz) fun h' tk acc' c' kp e it => ?_
    have hl : acc'.toList.length = ds.length := by rw [Array.length_toList, it.1, hsz]
    obtain ⟨vs, g1, g2⟩ := DSrc.vals (a := a) hk hl fun i u hu => it.2 i u (by rw [← Array.getElem?_toList]; exact hu)
    refine ⟨.ref s.heap.objs.size, _, I.laid (t' := tk) (o := .lst vs) kp (Nat.le_refl _) ?_, rfl, q vs _ g1 (I.hok.fresh (Nat.le_refl _))⟩
    exact ⟨by rw [g1.length]; exact LIM_line hz, acc'.toList, c', g2, by rw [Array.toArray_toList]; exact e⟩
theorem sc_list : SC1 (gX X) (rMk X) pList := by
  intro m st H v x QA Q R r h c
  obtain ⟨ds, h1, h2, h3⟩ := h
  refine ⟨m, ds, rSrc.of R r h1, h2, fun vs l hv hl => ?_⟩
  exact c.newL R hv hl h3
theorem rgV_rp {g : G} {m : List Addr} {H : Hp} (i : Int) (n : Nat) : RpL g m H ((List.range n).map fun (k : Nat) => V.int (i + (k : Int))) (rng i n) := by
  unfold rng
  induction n with
  | zero => exact .nil
  | succ n ih =>
    rw [List.range_succ, List.map_append, List.map_append]
    exact ih.append (.one (.int _))
theorem aj_listR1 {e : Expr} {a : AE} {p p2 pos pos2 : Pos} (hc : X.calm = true) (hg : Gl X "list") (hm : X.mg "list" = none) (hg2 : Gl X "range") (hm2 : X.mg "range" = none) (ha : PE X e (liftE (gX X) a)) (na : starEach [e] X.env = (false, eval e X.env) :: starEach [] X.env := by rfl)
    (nb : starEach [.Call (.Name "range" p2) [e] [] pos2] X.env = (false, eval (.Call (.Name "range" p2) [e] [] pos2) X.env) :: starEach [] X.env := by rfl) : PE X (.Call (.Name "list" p) [.Call (.Name "range" p2) [e] [] pos2] [] pos) (liftE (gX X) (aListR1 a)) :=
  PE.weak (pe_listRg hc hg hm (prg_1 hg2 hm2 ha na) nb) fun σ H Q hq => by
    obtain ⟨m, st, env, QA, R, re, q, c⟩ := hq
    refine ⟨m, st, env, _, R, re, q, fun x st1 v m1 H1 E1 R1 r1 q1 => ?_⟩
    obtain ⟨j, rfl, h1, h2, q2⟩ := q1
    cases r1
    unfold LIM at h2
    refine ⟨j, rfl, .of_le (by omega) (by omega) (by omega) h1, fun l hl => ?_⟩
    refine (c.mono E1).newL R1 ?_ hl q2
    unfold rgV
    rw [Int.sub_zero]
    exact rgV_rp 0 j.toNat
theorem aj_listR2 {e e2 : Expr} {a b : AE} {p p2 pos pos2 : Pos} (hc : X.calm = true) (hg : Gl X "list") (hm : X.mg "list" = none) (hg2 : Gl X "range") (hm2 : X.mg "range" = none) (ha : PE X e (liftE (gX X) a)) (hb : PE X e2 (liftE (gX X) b)) (na : starEach [e, e2] X.env = (false, eval e X.env) :: starEach [e2] X.env := by rfl) (na2 : starEach [e2] X.env = (false, eval e2 X.env) :: starEach [] X.env := by rfl) (hpl : (backTo pos2 (starEach [e2] X.env)).any (·.1) = false := by rfl)
    (nb : starEach [.Call (.Name "range" p2) [e, e2] [] pos2] X.env = (false, eval (.Call (.Name "range" p2) [e, e2] [] pos2) X.env) :: starEach [] X.env := by rfl) : PE X (.Call (.Name "list" p) [.Call (.Name "range" p2) [e, e2] [] pos2] [] pos) (liftE (gX X) (aListR2 a b)) :=
  PE.weak (pe_listRg hc hg hm (prg_2 hg2 hm2 ha hb na na2 hpl) nb) fun σ H Q hq => by
    obtain ⟨m, st, env, QA, R, re, q, c⟩ := hq
    refine ⟨m, st, env, _, R, re, q, fun x st1 v m1 H1 E1 R1 r1 q1 => ⟨m1, st1, env, _, R1, re.mono E1.mon, q1, fun y st2 w m2 H2 E2 R2 r2 q2 => ?_⟩⟩
    obtain ⟨i, j, rfl, rfl, h1, h2, h3, h4, q2⟩ := q2
    cases r1
    cases r2
    unfold LIM at h2 h4
    refine ⟨i, j, rfl, rfl, .of_le h1 (by omega) (by omega) h3, fun l hl => ?_⟩
    exact (c.mono (E1.trans E2)).newL R2 (rgV_rp i _) hl q2
end

/-! ### sorted -/
mutual
def pd : D → PyData
  | .int i => .int i
  | .tup xs => .tuple (pds xs)
  | _ => .none
def pds : List D → List PyData
  | [] => []
  | x :: xs => pd x :: pds xs
end
theorem pds_map : ∀ xs, pds xs = xs.map pd
  | [] => by simp [pds]
  | x :: xs => by simp [pds, pds_map xs]
theorem ty_alike : ∀ (t : Ty) (a b : D), HasTy t a → HasTy t b → alike (pd a) (pd b) = true
  | .int, a, b, h, h' => by
    cases a <;> first | exact h.elim | skip
    cases b <;> first | exact h'.elim | skip
    simp [pd, alike]
  | .seq t, a, b, h, h' => by
    cases a with
    | tup xs =>
      cases b with
      | tup ys =>
        have h1 : ∀ x ∈ xs, HasTy t x := h
        have h2 : ∀ x ∈ ys, HasTy t x := h'
        simp only [pd, alike]
        have go : ∀ (xs ys : List D), (∀ x ∈ xs, HasTy t x) → (∀ x ∈ ys, HasTy t x) → alikeAll (pds xs) (pds ys) = true := by
          intro xs
          induction xs with
          | nil => intro ys _ _; simp [pds, alikeAll]
          | cons x xs ih =>
            intro ys k1 k2
            cases ys with
            | nil => simp [pds, alikeAll]
            | cons y ys =>
              simp only [pds, alikeAll, Bool.and_eq_true]
              exact ⟨ty_alike t x y (k1 x List.mem_cons_self) (k2 y List.mem_cons_self), ih ys (fun z hz => k1 z (List.mem_cons_of_mem _ hz)) fun z hz => k2 z (List.mem_cons_of_mem _ hz)⟩
        exact go xs ys h1 h2
      | _ => exact h'.elim
    | _ => exact h.elim
  | .pr t u, a, b, h, h' => by
    cases a with
    | tup xs =>
      match xs, h with
      | [x, y], h =>
        cases b with
        | tup ys =>
          match ys, h' with
          | [x', y'], h' =>
            simp only [pd, pds, alike, alikeAll, Bool.and_true, Bool.and_eq_true]
            exact ⟨ty_alike t x x' h.1 h'.1, ty_alike u y y' h.2 h'.2⟩
        | _ => exact h'.elim
    | _ => exact h.elim
theorem ty_depth : ∀ (t : Ty) (a : D), HasTy t a → (pd a).depth ≤ t.dep
  | .int, a, h => by
    cases a <;> first | exact h.elim | skip
    simp [pd, PyData.depth]
  | .seq t, a, h => by
    cases a with
    | tup xs =>
      have h1 : ∀ x ∈ xs, HasTy t x := h
      simp only [pd, PyData.depth, Ty.dep]
      have go : ∀ (xs : List D), (∀ x ∈ xs, HasTy t x) → PyData.depthAll (pds xs) ≤ t.dep := by
        intro xs
        induction xs with
        | nil => intro _; simp [pds, PyData.depthAll]
        | cons x xs ih =>
          intro k1
          simp only [pds, PyData.depthAll]
          exact Nat.max_le.mpr ⟨ty_depth t x (k1 x List.mem_cons_self), ih fun z hz => k1 z (List.mem_cons_of_mem _ hz)⟩
      have := go xs h1
      omega
    | _ => exact h.elim
  | .pr t u, a, h => by
    cases a with
    | tup xs =>
      match xs, h with
      | [x, y], h =>
        simp only [pd, pds, PyData.depth, PyData.depthAll, Ty.dep]
        have h1 := ty_depth t x h.1
        have h2 := ty_depth u y h.2
        omega
    | _ => exact h.elim
section
variable {X : Cx} {pins : List (Addr × Obj)} {σ : L2.St} {H : Hp} {s : Shared} {m : List Addr}
theorem ty_reads (I : Inv X pins σ H s) : ∀ (t : Ty) (d : D) (v : V) (u : Value), HasTy t d → Rp (gX X) m H v d → RelV v u → Reads s.heap u (pd d) []
  | .int, d, v, u, h, r, rv => by
    cases d <;> first | exact h.elim | skip
    cases r
    obtain ⟨tk, rfl⟩ := rv
    simp only [pd]
    exact .int _ _
  | .seq t, d, v, u, h, r, rv => by
    cases d with
    | tup xs =>
      cases r with
      | @tup a vs _ h1 h2 =>
        cases rv
        obtain ⟨its, rv, ⟨o, e1, e2, n, e3⟩, hz⟩ := I.tuple h1
        have go : ∀ (xs : List D) (vs : List V) (its : List Value), (∀ x ∈ xs, HasTy t x) → RpL (gX X) m H vs xs → Vals vs its → ReadsAll s.heap its (pds xs) [] := by
          intro xs
          induction xs with
          | nil =>
            intro vs its _ g1 g2
            cases g1
            cases g2
            simp only [pds]
            exact .nil
          | cons x xs ih =>
            intro vs its k1 g1 g2
            cases g1 with
            | cons p1 p2 =>
              cases g2 with
              | cons q1 q2 =>
                simp only [pds]
                exact .cons (as := []) (bs := []) (ty_reads I t x _ _ (k1 x List.mem_cons_self) p1 q1) (ih _ _ (fun z hz => k1 z (List.mem_cons_of_mem _ hz)) p2 q2)
        simp only [pd]
        exact .tuple e1 e2 e3 (go xs vs its h h2 rv)
    | _ => exact h.elim
  | .pr t u', d, v, u, h, r, rv => by
    cases d with
    | tup xs =>
      match xs, h, r with
      | [x, y], h, r =>
        cases r with
        | @tup a vs _ h1 h2 =>
          cases rv
          obtain ⟨its, rv, ⟨o, e1, e2, n, e3⟩, hz⟩ := I.tuple h1
          obtain ⟨v1, v2, rfl, p1, p2⟩ := rpl2 h2
          cases rv with
          | cons q1 q2 => cases q2 with
            | cons q2 q3 =>
              cases q3
              simp only [pd, pds]
              exact .tuple e1 e2 e3 (.cons (as := []) (bs := []) (ty_reads I t x _ _ h.1 p1 q1) (.cons (as := []) (bs := []) (ty_reads I u' y _ _ h.2 p2 q2) .nil))
    | _ => exact h.elim
end
theorem dle_trans {β : Type} (k : β → PyData) (a b c : β) (h : dataLe false k a b = true) (h' : dataLe false k b c = true) : dataLe false k a c = true := by
  rw [dataLe_eq] at *
  simp only [cond_false, Bool.not_eq_true'] at *
  cases e : dataLt (k c) (k a) with
  | false => rfl
  | true =>
    rcases lex_negTrans (O := itemOrd) _ (keyToks (k b)) _ e with q | q
    · rw [show dataLt (k c) (k b) = true from q] at h'; cases h'
    · rw [show dataLt (k b) (k a) = true from q] at h; cases h
theorem dle_total {β : Type} (k : β → PyData) (a b : β) : (dataLe false k a b || dataLe false k b a) = true := by
  rw [dataLe_eq]
  simp only [cond_false]
  cases e : dataLt (k b) (k a) with
  | false => rfl
  | true =>
    cases e' : dataLt (k a) (k b) with
    | false => rfl
    | true =>
      have := lex_trans (O := itemOrd) _ _ _ e e'
      rw [show PyProof.Rows.lexLt itemOrd (keyToks (k b)) (keyToks (k b)) = false from lex_irrefl _] at this
      cases this
section
variable {X : Cx}
def rSort (X : Cx) : List V → Hp → VK → Prop := fun xs H Q => ∃ m ds t, rSrc X xs m H ds ∧ ds.length ≤ LIM ∧ Ty.ok t = true ∧ t.dep ≤ 8 ∧ (∀ y ∈ ds, HasTy t y) ∧ X.A.units + 64 < cLine ∧
  ∀ ys vs l, ys.Perm ds → (∀ is : List Int, ds = is.map .int → ∃ js : List Int, ys = js.map .int ∧ js.Pairwise (· ≤ ·)) → RpL (gX X) m H vs ys → H l = none → Q (.ref l) (upd H l (.lst vs))
/-- the items: what they are, how they lie -/
def enc (b : D × V) : PyData := pd b.1
theorem each_zip {g : G} {m : List Addr} {H : Hp} : ∀ {ds : List D} {vs : List V} {us : List Value}, RpL g m H vs ds → Vals vs us → ∃ bs : List (D × V), bs.map (·.1) = ds ∧ (∀ b ∈ bs, Rp g m H b.2 b.1) ∧ EachIs (fun (u : Value) (b : D × V) => RelV b.2 u) us bs
  | [], _, _, h, r => by cases h; cases r; exact ⟨[], rfl, by simp, .nil⟩
  | d :: ds, _, _, h, r => by
    cases h with
    | cons h1 h2 =>
      cases r with
      | cons r1 r2 =>
        obtain ⟨bs, e1, e2, e3⟩ := each_zip h2 r2
        exact ⟨(d, _) :: bs, by simp [e1], fun b hb => by
          rcases List.mem_cons.mp hb with rfl | hb
          · exact h1
          · exact e2 b hb, .cons r1 e3⟩
theorem each_and {α β : Type} {R S : α → β → Prop} : ∀ {us : List α} {bs : List β}, EachIs R us bs → (∀ u b, R u b → b ∈ bs → S u b) → EachIs S us bs
  | _, _, .nil, _ => .nil
  | _, _, .cons h t, f => .cons (f _ _ h List.mem_cons_self) (each_and t fun u b r hb => f u b r (List.mem_cons_of_mem _ hb))
theorem each_vals {g : G} {m : List Addr} {H : Hp} : ∀ {us : List Value} {bs : List (D × V)}, EachIs (fun (u : Value) (b : D × V) => RelV b.2 u) us bs → (∀ b ∈ bs, Rp g m H b.2 b.1) → RpL g m H (bs.map (·.2)) (bs.map (·.1)) ∧ Vals (bs.map (·.2)) us
  | _, _, .nil, _ => ⟨.nil, .nil⟩
  | _, _, .cons h t, f => by
    obtain ⟨h1, h2⟩ := each_vals t fun b hb => f b (List.mem_cons_of_mem _ hb)
    exact ⟨.cons (f _ List.mem_cons_self) h1, .cons h h2⟩
theorem ints_of {bs : List (D × V)} : ∀ {is : List Int}, bs.map (·.1) = is.map .int → ∀ b ∈ bs, ∃ i, b.1 = .int i := by
  intro is h b hb
  have : b.1 ∈ is.map D.int := by rw [← h]; exact List.mem_map_of_mem hb
  obtain ⟨i, _, e⟩ := List.mem_map.mp this
  exact ⟨i, e.symm⟩
theorem sorted_ints : ∀ {bs : List (D × V)}, bs.Pairwise (fun a b => dataLe false enc a b = true) → (∀ b ∈ bs, ∃ i, b.1 = .int i) → ∃ js : List Int, bs.map (·.1) = js.map .int ∧ js.Pairwise (· ≤ ·)
  | [], _, _ => ⟨[], rfl, .nil⟩
  | b :: bs, h, f => by
    obtain ⟨js, e1, e2⟩ := sorted_ints (List.pairwise_cons.mp h).2 fun x hx => f x (List.mem_cons_of_mem _ hx)
    obtain ⟨i, ei⟩ := f b List.mem_cons_self
    refine ⟨i :: js, by simp [ei, e1], List.pairwise_cons.mpr ⟨fun j hj => ?_, e2⟩⟩
    have : D.int j ∈ bs.map (·.1) := by rw [e1]; exact List.mem_map_of_mem hj
    obtain ⟨c, hc, ec⟩ := List.mem_map.mp this
    have q := (List.pairwise_cons.mp h).1 c hc
    rw [dataLe_eq] at q
    simp only [cond_false, enc, ei, ec, pd, dataLt_int] at q
    simp at q
    exact q
theorem cr_sorted (hcalm : X.calm = true) : CallR X (.builtin "sorted") (rSort X) := by
  intro pins s σ H xs us Q I r h
  obtain ⟨m, ds, t, ⟨a, rfl, h⟩, hz, ht, htd, hty, hun, q⟩ := h
  obtain ⟨u, rfl, rx⟩ := r.one
  cases rx
  refine Calls.call_function_entry PyProof.Rows.kind_sorted PyProof.Rows.plain_sorted PyProof.Rows.entry_sorted (PyProof.Rows.args_sorted1 _) ?_
  unfold Builtin.«sorted»
  refine wpAny_bind (m := checkCount "sorted" 1 1 _) (wpAny_pure ?_)
  have fin : ∀ (h' : Heap) (tk : Nat) (us : List Value) (vs : List V), (∀ b o, s.heap.get? b = some o → h'.get? b = some o) → RpL (gX X) m H vs ds → Vals vs us →
      wpAny (model X.prog X.w) X.A.in1 (newList us >>= fun l => holding [l] (call (.builtin "list.sort") [l]) >>= fun _ => ret l) (fun f s2 => ∃ v, f = .done (.ret v) ∧ EP X pins σ Q v s2) X.xe { s with heap := h', toks := tk } := by
    intro h' tk us vs hk hv hu
    have hl : us.length = ds.length := by rw [← hu.length, hv.length]
    obtain ⟨bs, e1, e2, e3⟩ := each_zip hv hu
    have hb : bs.length = ds.length := by rw [← e1, List.length_map]
    have I1 : Inv X pins σ H { s with heap := h', toks := tk } := I.kept hk
    refine wpAny_bind (wpAny_newList ?_ (by rw [hl]; exact LIM_line hz))
    have hoL : (h'.push (seqObj "list" us.toArray 0)).get? h'.objs.size = some (seqObj "list" us.toArray 0) := Heap.get?_push_size _ rfl
    show wpAny _ _ _ _ _ { s with heap := h'.push (seqObj "list" us.toArray 0), toks := tk }
    have I2 : Inv X pins σ H { s with heap := h'.push (seqObj "list" us.toArray 0), toks := tk } := I1.kept (t' := tk) fun b o e => Heap.get?_push_of_some _ e
    refine wpAny_bind (wpAny_holding (list_sort_data (enc := enc) (s := { s with heap := h'.push (seqObj "list" us.toArray 0), toks := tk }) hoL e3 ?_ ?_ ?_ (by rw [hb]; exact LIM_line hz) ?_ ?_))
    · exact each_and e3 fun u b rb hb => ⟨[], ty_reads I2 t b.1 b.2 u (hty _ (by rw [← e1]; exact List.mem_map_of_mem hb)) (e2 b hb) rb, by simp⟩
    · intro x hx y hy
      obtain ⟨b, hb, rfl⟩ := List.mem_map.mp hx
      obtain ⟨c, hc, rfl⟩ := List.mem_map.mp hy
      exact ty_alike t b.1 c.1 (hty _ (by rw [← e1]; exact List.mem_map_of_mem hb)) (hty _ (by rw [← e1]; exact List.mem_map_of_mem hc))
    · cases t with
      | int =>
        refine .inr fun d hd => ?_
        obtain ⟨b, hb, rfl⟩ := List.mem_map.mp hd
        have := hty _ (by rw [← e1]; exact List.mem_map_of_mem hb)
        unfold enc
        cases e : b.1 <;> rw [e] at this <;> first | exact this.elim | (simp only [pd]; exact ⟨by simp, fun _ => by simp⟩)
      | seq t => cases ht
      | pr t1 t2 =>
        refine .inl fun d hd => ?_
        obtain ⟨b, hb, rfl⟩ := List.mem_map.mp hd
        have := hty _ (by rw [← e1]; exact List.mem_map_of_mem hb)
        unfold enc
        cases e : b.1 with
        | tup ys =>
          rw [e] at this
          match ys, this with
          | [x, y], _ => simp only [pd, pds]; exact ⟨_, _, rfl⟩
        | _ => rw [e] at this; exact this.elim
    · intro b hb
      have h1 := ty_depth t b.1 (hty _ (by rw [← e1]; exact List.mem_map_of_mem hb))
      have h2 : X.A.in1.units = X.A.units + 1 := rfl
      have h3 : (enc b).depth ≤ 8 := by unfold enc; omega
      show X.A.in1.units + 1 + _ < _
      omega
    · intro out ho hout
      obtain ⟨e', he'⟩ := PyProof.Rows.sortedHeap_at (vs := us) (out := out.toArray) hoL
      have pm : (bs.mergeSort (dataLe false enc)).Perm bs := List.mergeSort_perm _ _
      obtain ⟨g1, g2⟩ := each_vals (g := gX X) (m := m) (H := H) hout fun b hb => e2 b (pm.mem_iff.mp hb)
      have hlen : ((bs.mergeSort (dataLe false enc)).map (·.2)).length ≤ sizeLine := by rw [List.length_map, pm.length_eq, hb]; exact LIM_line hz
      refine wpAny_pure ⟨_, rfl, .ref h'.objs.size, _, I1.laid (t' := tk) (fun b u e => ?_) (Nat.le_refl _)
        (show ObjOk X.prog X.w _ _ _ (.lst ((bs.mergeSort (dataLe false enc)).map (·.2))) from ⟨hlen, out, e', g2, he'⟩), rfl, q ((bs.mergeSort (dataLe false enc)).map (·.1)) _ _ (by rw [← e1]; exact pm.map _) (fun is his => ?_) g1 (I1.hok.fresh (Nat.le_refl _))⟩
      · have hb : b < h'.objs.size := Heap.lt_size e
        show (sortedHeap (h'.push (seqObj "list" us.toArray 0)) h'.objs.size us out.toArray).get? b = _
        rw [PyProof.Rows.sortedHeap_old (Nat.ne_of_lt hb) (by rw [size_push']; exact Nat.lt_succ_of_lt hb)]
        exact Heap.get?_push_of_some _ e
      · exact sorted_ints (List.pairwise_mergeSort (dle_trans enc) (dle_total enc) bs) fun b hb => ints_of (e1.trans his) b (pm.mem_iff.mp hb)
  rcases h with ⟨vs, h1, h2⟩ | h
  · rcases h1 with h1 | h1
    · obtain ⟨its, r', pl, hz'⟩ := I.list h1
      have hlen := r'.length
      obtain ⟨o, ho, hc, n, hd⟩ := pl.isList
      exact wpAny_bind (wpAny_collect_seq a (.inl rfl) ho hc hd (fun h' kp => fin h' s.toks _ vs kp h2 r') (by simp only [List.size_toArray] <;> omega))
    · obtain ⟨its, r', pl, hz'⟩ := I.tuple h1
      have hlen := r'.length
      obtain ⟨o, ho, hc, n, hd⟩ := pl
      exact wpAny_bind (wpAny_collect_seq a (.inr rfl) ho hc hd (fun h' kp => fin h' s.toks _ vs kp h2 r') (by simp only [List.size_toArray] <;> omega))
  · obtain ⟨od, es, ep, hs, ho, hx, hdt, hsz, hk⟩ := (h pins σ s I).ex
    refine wpAny_bind (PySem.W.kdu_collect (A := X.A.in1) (kdl_raw hs hx hdt) (I.ok.hd hcalm) ho (by rw [hsz]; exact LIM_line hz) fun h' tk acc' kp it => ?_)
    have hl : acc'.toList.length = ds.length := by rw [Array.length_toList, it.1, hsz]
    obtain ⟨vs, g1, g2⟩ := DSrc.vals (a := a) hk hl fun i u hu => it.2 i u (by rw [← Array.getElem?_toList]; exact hu)
    exact fin h' tk acc'.toList vs kp g1 g2
theorem sc_sorted (hu : X.A.units + 64 < cLine) : SC1 (gX X) (rSort X) pSorted := by
  intro m st H v x QA Q R r h c
  obtain ⟨ds, t, h1, h2, h3, h4, h5, h6⟩ := h
  refine ⟨m, ds, t, rSrc.of R r h1, h2, h3, h4, h5, hu, fun ys vs l hp hi hv hl => ?_⟩
  exact c.newL R hv hl (h6 ys hp hi)
end
end Ab

set_option Elab.async false
set_option linter.all false
set_option maxRecDepth 100000
set_option maxHeartbeats 2000000
/-! Methods of lists and dicts; stores; slices. -/
namespace Ab
open PySem PySem.Spec PyProof.Rows L2

section
variable {X : Cx}
/-! ### methods of lists -/
theorem ty_list {g : G} {m : List Addr} {st : Store} {H : Hp} {v : V} {n : Nat} {xs : List D} (R : Rs g m st H) (r : Rp g m H v (.ref n)) (hn : st[n]? = some (.lst xs)) : ∃ a vs, v = .ref a ∧ m[n]? = some a ∧ H a = some (.lst vs) ∧ RpL g m H vs xs ∧ tyV g.K "list" v H := by
  cases r with
  | @ref a _ h0 =>
    obtain ⟨b, h1, vs, h2, h3⟩ := R.ob n _ hn
    rw [h0] at h1; cases h1
    exact ⟨a, vs, rfl, h0, h2, h3, .inl ⟨rfl, vs, .inl (.inl h2)⟩⟩
/-- the store after a list is written -/
theorem CE.setL {g : G} {m : List Addr} {st : Store} {H : Hp} {QA : DK} {Q : VK} {n : Nat} {a : Addr} {vs vs' : List V} {xs : List D} {w : V} {d : D} (c : CE g m H QA Q) (R : Rs g m st H) (hn : m[n]? = some a) (ha : H a = some (.lst vs)) (r : RpL g m H vs' xs) (rd : Rp g m H w d)
    (q : QA d (st.set n (.lst xs))) : Q w (upd H a (.lst vs')) := by
  have M : Mon g m H m (upd H a (.lst vs')) := .put ha rfl
  exact c _ _ _ _ _ (Ext.write (List.mem_of_getElem? hn) ha rfl) (R.write hn ha rfl (show RO g m _ a (.lst xs) from ⟨vs', upd_same, r.mono M⟩)) (rd.mono M) q
def SM0 (g : G) (T : String) (r : V → List V → Hp → VK → Prop) (p : P1) : Prop := ∀ m st H v x QA Q, Rs g m st H → Rp g m H v x → p x st QA → CE g m H QA Q → tyV g.K T v H ∧ r v [] H Q
theorem aj_m0 {o : Expr} {a : AE} {name : Str} {apos cpos : Pos} {T id : String} {r : V → List V → Hp → VK → Prop} {p : P1} (pa : PlainAttrs T) (slot : Slot T name id) (hty : typeOf (.builtin id) = pure (.type "method_descriptor")) (hm : MtR X id r) (hs : SM0 (gX X) T r p) (ho : PE X o (liftE (gX X) a))
    (hbase : attributeBase o name X.env (eval o X.env) = eval o X.env := by rfl) (hline : (apos.endLine == cpos.line) = true := by rfl) : PE X (.Call (.Attribute o name apos) [] [] cpos) (liftE (gX X) (aO1 p a)) :=
  PE.weak (pe_bm0 pa slot hty hm ho hbase hline) fun σ H Q hq => by
    obtain ⟨m, st, env, QA, R, re, q, c⟩ := hq
    exact ⟨m, st, env, _, R, re, q, fun x st1 v m1 H1 E1 R1 r1 q1 => hs m1 st1 H1 v x QA Q R1 r1 q1 (c.mono E1)⟩
/-- o.m(e): o a list -/
def SM1 (g : G) (r : V → List V → Hp → VK → Prop) (p : P2) : Prop := ∀ m st H v u x y QA Q, Rs g m st H → Rp g m H v x → Rp g m H u y → p x y st QA → CE g m H QA Q → r v [u] H Q
theorem aj_m1 {o e : Expr} {a b : AE} {name : Str} {apos cpos : Pos} {id : String} {r : V → List V → Hp → VK → Prop} {p : P2} (pa : PlainAttrs "list") (slot : Slot "list" name id) (hty : typeOf (.builtin id) = pure (.type "method_descriptor")) (hm : MtR X id r) (hs : SM1 (gX X) r p) (ho : PE X o (liftE (gX X) a)) (he : PE X e (liftE (gX X) b))
    (hbase : attributeBase o name X.env (eval o X.env) = eval o X.env := by rfl)
    (hfew : ((backTo cpos (starEach [e] X.env)).all (fun x => !x.1) && (backToKw cpos (keywordEach [] X.env)).all (fun x => x.1.isSome)
      && decide (([e] : List Expr).length + ([] : List Keyword).length + (if ([] : List Keyword).isEmpty then 0 else 1) < 30)) = true := by rfl)
    (hline : (apos.endLine == cpos.line) = true := by rfl) (hst : starEach [e] X.env = (false, eval e X.env) :: starEach [] X.env := by rfl) (hplain : (backTo cpos (starEach [] X.env)).any (·.1) = false := by rfl) :
    PE X (.Call (.Attribute o name apos) [e] [] cpos) (liftE (gX X) (aM1 p a b)) :=
  PE.weak (pe_bm pa slot hty hm ho (pa_cons he pa_nil hst) hbase hfew hline hst hplain) fun σ H Q hq => by
    obtain ⟨m, st, env, QA, R, re, q, c⟩ := hq
    refine ⟨m, st, env, _, R, re, q, fun x st1 v m1 H1 E1 R1 r1 ⟨⟨n, xs, hx, hn⟩, q1⟩ => ?_⟩
    subst hx
    obtain ⟨_, _, _, _, _, _, ty⟩ := ty_list R1 r1 hn
    exact ⟨ty, m1, st1, env, _, R1, re.mono E1.mon, q1, fun y st2 u m2 H2 E2 R2 r2 q2 => hs m2 st2 H2 v u (.ref n) y QA Q R2 (r1.mono E2.mon) r2 q2 (c.mono (E1.trans E2))⟩
theorem sm_append : SM1 (gX X) rAppend pAppend := by
  intro m st H v u x y QA Q R rx ry h c
  obtain ⟨n, xs, rfl, hn, hz, q⟩ := h
  obtain ⟨a, vs, rfl, h0, h1, h2, _⟩ := ty_list R rx hn
  exact ⟨a, vs, u, rfl, rfl, h1, by rw [h2.length, sizeLine_eq]; unfold LIM at hz; omega, c.setL R h0 h1 (h2.append (.one ry)) .non q⟩
theorem sm_extend : SM1 (gX X) rExtend pExtend := by
  intro m st H v u x y QA Q R rx ry h c
  obtain ⟨n, k, xs, ys, rfl, rfl, hn, hk, hz, q⟩ := h
  obtain ⟨a, vs, rfl, h0, h1, h2, _⟩ := ty_list R rx hn
  obtain ⟨b, ws, rfl, k0, k1, k2, _⟩ := ty_list R ry hk
  exact ⟨a, b, vs, ws, rfl, rfl, h1, k1, by rw [h2.length, k2.length]; exact LIM_line hz, c.setL R h0 h1 (h2.append k2) .non q⟩
theorem rpl_last {g : G} {m : List Addr} {H : Hp} {vs : List V} {xs : List D} {y : D} (r : RpL g m H vs (xs ++ [y])) : ∃ v, vs[vs.length - 1]? = some v ∧ Rp g m H v y ∧ RpL g m H vs.dropLast xs := by
  have hl := r.length
  rw [List.length_append, List.length_singleton] at hl
  obtain ⟨v, h1, h2⟩ := r.get (i := xs.length) (d := y) (by simp)
  refine ⟨v, by rw [hl]; exact h1, h2, ?_⟩
  have := r.dropLast
  rw [List.dropLast_concat] at this
  exact this
theorem sm_pop : SM0 (gX X) "list" rPop pPop := by
  intro m st H v x QA Q R rx h c
  obtain ⟨n, xs, y, rfl, hn, q⟩ := h
  obtain ⟨a, vs, rfl, h0, h1, h2, ty⟩ := ty_list R rx hn
  obtain ⟨w, k1, k2, k3⟩ := rpl_last h2
  exact ⟨ty, a, vs, w, rfl, rfl, h1, k1, c.setL R h0 h1 k3 k2 q⟩
theorem sm_popAt : SM1 (gX X) rPopAt pPopAt := by
  intro m st H v u x y QA Q R rx ry h c
  obtain ⟨n, xs, z, rfl, rfl, hn, q⟩ := h
  obtain ⟨a, vs, rfl, h0, h1, h2, _⟩ := ty_list R rx hn
  cases ry
  cases h2 with
  | @cons w ws _ _ k1 k2 =>
    refine ⟨a, _, 0, 0, w, rfl, rfl, h1, by decide, by decide, ?_, rfl, c.setL R h0 h1 k2 k1 q⟩
    simp [seqIndex?]
/-! ### o[i] = v -/
def rSet3 (X : Cx) : TSet := fun o i v H Q => rSetL o i v H Q ∨ rDSet (gX X) o i v H Q ∨ rSetD o i v H Q
theorem set_3 (hu : X.A.units + 64 < cLine) : PSet X (rSet3 X) := by
  intro pins s σ H o i v ov iv u Q I ro ri rv h
  rcases h with h | h | h
  · exact set_list pins s σ H o i v ov iv u Q I ro ri rv h
  · exact set_d hu pins s σ H o i v ov iv u Q I ro ri rv h
  · exact set_dict (by omega) pins s σ H o i v ov iv u Q I ro ri rv h
theorem ixN_eq (n : Nat) (i : Int) : L2.ixN n i = Ab.ixN n i := by
  unfold L2.ixN Ab.ixN
  rfl
theorem kvs_put {g : G} {m : List Addr} {H : Hp} {v : V} {z : D} (k : Int) (rz : Rp g m H v z) : ∀ {kvs : List (Int × D)} {ws : List (Key × V)}, Paired (fun (p : Int × D) (q : Key × V) => q.1 = .inl p.1 ∧ Rp g m H q.2 p.2) kvs ws →
    Paired (fun (p : Int × D) (q : Key × V) => q.1 = .inl p.1 ∧ Rp g m H q.2 p.2) (put kvs k z) (putK ws (.inl k) v) := by
  intro kvs ws h
  have an : ∀ {kvs : List (Int × D)} {ws : List (Key × V)}, Paired (fun (p : Int × D) (q : Key × V) => q.1 = .inl p.1 ∧ Rp g m H q.2 p.2) kvs ws → (kvs.any fun kv => decide (kv.1 = k)) = ws.any fun kv => decide (kv.1 = .inl k) := by
    intro kvs ws h
    induction h with
    | nil => rfl
    | @cons p q _ _ h1 h2 ih =>
      rw [List.any_cons, List.any_cons, ih, h1.1]
      congr 1
      simp
  unfold put putK
  rw [an h]
  split
  · clear an
    rename_i hh
    clear hh
    induction h with
    | nil => exact .nil
    | @cons p q _ _ h1 h2 ih =>
      rw [List.map_cons, List.map_cons]
      refine .cons ?_ ih
      by_cases e : p.1 = k
      · rw [if_pos e, if_pos (by rw [h1.1, e])]
        exact ⟨h1.1, rz⟩
      · rw [if_neg e, if_neg (by rw [h1.1]; intro z; exact e (Sum.inl.inj z))]
        exact h1
  · have ap : ∀ {kvs : List (Int × D)} {ws : List (Key × V)}, Paired (fun (p : Int × D) (q : Key × V) => q.1 = .inl p.1 ∧ Rp g m H q.2 p.2) kvs ws → Paired (fun (p : Int × D) (q : Key × V) => q.1 = .inl p.1 ∧ Rp g m H q.2 p.2) (kvs ++ [(k, z)]) (ws ++ [(.inl k, v)]) := by
      intro kvs ws h
      induction h with
      | nil => exact .cons ⟨rfl, rz⟩ .nil
      | cons h1 h2 ih => exact .cons h1 ih
    exact ap h
theorem so_set : SO3 (gX X) (rSet3 X) pSet := by
  intro m st H o i v x y z QA Q R ro ri rv h c
  rcases h with ⟨n, k, xs, j, rfl, rfl, hn, hj, q⟩ | ⟨n, kvs, k, rfl, rfl, hd, ht, hn, hz, q⟩ | ⟨n, kvs, k, rfl, rfl, hn, hz, q⟩
  · obtain ⟨a, vs, rfl, h0, h1, h2, _⟩ := ty_list R ro hn
    cases ri
    refine .inl ⟨a, vs, k, j, rfl, rfl, h1, by rw [h2.length, ixN_eq]; exact hj, ?_⟩
    have M : Mon (gX X) m H m (upd H a (.lst (vs.set j v))) := .put h1 rfl
    exact c _ _ _ (Ext.write (List.mem_of_getElem? h0) h1 rfl) (R.write h0 h1 rfl (show RO (gX X) m _ a (.lst (xs.set j z)) from ⟨_, upd_same, (RpL.set rv j h2).mono M⟩)) q
  · cases ro with
    | @ref a _ h0 =>
      obtain ⟨b, h1, xs, h2, h3⟩ := R.ob n _ hn
      rw [h0] at h1; cases h1
      obtain ⟨ks, rfl⟩ := ht
      have h2' : H a = some (.ext (dPhi (gX X) a xs)) := by
        rw [if_neg (by decide)] at h2; exact h2
      have ri' := ri
      unfold dk at ri'
      cases ri' with
      | @tup ka _ _ t1 t2 =>
        refine .inr (.inl ⟨m, a, kvs, xs, .tup ks, ka, z, rfl, rfl, h2', h3, ri, ⟨ks, rfl⟩, hd, by rw [sizeLine_eq]; unfold LIM at hz; omega, rv, fun xs' hE => ?_⟩)
        have M : Mon (gX X) m H m (upd H a (.ext (dPhi (gX X) a xs'))) := .put h2' rfl
        exact c _ _ _ (Ext.write (List.mem_of_getElem? h0) h2' rfl) (R.write h0 h2' rfl (show RO (gX X) m _ a (.dt false (put kvs (.tup ks) z)) from ⟨xs', by rw [if_neg (by decide)]; exact upd_same, L2.Paired.mapP hE fun p q r => r.mono M⟩)) q
  · cases ro with
    | @ref a _ h0 =>
      obtain ⟨b, h1, ws, _, h2, h3⟩ := R.ob n _ hn
      rw [h0] at h1; cases h1
      cases ri
      have hl : kvs.length = ws.length := Paired.length h3
      refine .inr (.inr ⟨a, _, rfl, .inl ⟨ws, .inl k, h2, rfl, by rw [← hl, sizeLine_eq]; unfold LIM at hz; omega, rfl⟩, ?_⟩)
      have M : Mon (gX X) m H m (upd H a (.dK (putK ws (.inl k) v))) := .put h2 rfl
      exact c _ _ _ (Ext.write (List.mem_of_getElem? h0) h2 rfl) (R.write h0 h2 rfl (show RO (gX X) m _ a (.di false (put kvs k z)) from ⟨_, rfl, upd_same, L2.Paired.mapP (kvs_put k rv h3) fun p q r => ⟨r.1, r.2.mono M⟩⟩)) q
/-! ### slices -/
def liftO (g : G) (a : AO) : TO := fun σ H Q => ∃ m st env QA, Rs g m st H ∧ Re g m H σ env ∧ a env st QA ∧ ∀ o st' m' H', Ext g m H m' H' → Rs g m' st' H' → QA o st' → Q o H'
theorem ao_none : PO X none (liftO (gX X) aoNone) := ⟨fun pins s σ H Q I h => (po_none).run pins s σ H Q I (by
  obtain ⟨m, st, env, QA, R, re, q, c⟩ := h
  exact c none st m H (Ext.refl _ _ _) R q)⟩
theorem ao_some {e : Expr} {a : AE} (he : PE X e (liftE (gX X) a)) : PO X (some e) (liftO (gX X) (aoSome a)) := ⟨fun pins s σ H Q I h => (po_some he).run pins s σ H Q I (by
  obtain ⟨m, st, env, QA, R, re, q, c⟩ := h
  refine ⟨m, st, env, _, R, re, q, fun x st1 v m1 H1 E1 R1 r1 q1 => ?_⟩
  obtain ⟨i, rfl, q1⟩ := q1
  cases r1
  exact ⟨i, rfl, c _ _ _ _ E1 R1 q1⟩)⟩
def rSl3 (X : Cx) : V → Option Int → Option Int → Hp → VK → Prop := fun x lo hi H Q => rSlA X.K x lo hi H Q ∨ rSlL X.K x lo hi H Q
theorem sl_3 : SlR X (rSl3 X) := SlR.or sl_tupA sl_list
theorem rpl_cut {g : G} {m : List Addr} {H : Hp} {vs : List V} {xs : List D} (r : RpL g m H vs xs) (lo hi : Option Int) : RpL g m H (cutV vs lo hi) (cut xs lo hi) := by
  have e : ∀ (n d : Nat) (o : Option Int), HT.sIx n d o = sIx n d o := fun n d o => by cases o <;> rfl
  unfold cutV cut
  rw [e, e, r.length]
  exact (r.drop _).take _
theorem aj_sl {e : Expr} {a : AE} {lo hi : Option Expr} {l h : AO} {p2 pos : Pos} (he : PE X e (liftE (gX X) a)) (hl : PO X lo (liftO (gX X) l)) (hh : PO X hi (liftO (gX X) h)) : PE X (.Subscript e (.Slice lo hi none p2) pos) (liftE (gX X) (aSl a l h)) :=
  PE.weak (pe_slice sl_3 he hl hh) fun σ H Q hq => by
    obtain ⟨m, st, env, QA, R, re, q, c⟩ := hq
    refine ⟨m, st, env, _, R, re, q, fun x st1 v m1 H1 E1 R1 r1 q1 => ⟨m1, st1, env, _, R1, re.mono E1.mon, q1, fun o st2 m2 H2 E2 R2 q2 => ⟨m2, st2, env, _, R2, re.mono (E1.trans E2).mon, q2, fun o2 st3 m3 H3 E3 R3 q3 => ?_⟩⟩⟩
    have r3 := (r1.mono E2.mon).mono E3.mon
    have c3 := c.mono ((E1.trans E2).trans E3)
    rcases q3 with ⟨xs, rfl, q3⟩ | ⟨xs, rfl, q3⟩ | ⟨n, xs, rfl, hn, q3⟩
    · cases r3 with
      | @tup ad vs _ h1 h2 =>
        refine .inl ⟨ad, vs, rfl, h1, fun hw => ?_, fun _ p hp => c3.newT R3 (rpl_cut h2 o o2) hp q3⟩
        refine c3 _ _ _ _ _ (Ext.refl _ _ _) R3 (.tup h1 ?_) q3
        have e : cutV vs o o2 = vs := by
          unfold cutV
          rw [hw.1, hw.2]
          simp
        rw [← e]
        have := rpl_cut h2 o o2
        rw [e] at this ⊢
        exact this
    · cases r3 with
      | @fl ad vs _ h1 h2 => exact .inr ⟨ad, vs, rfl, h1.sq, fun p hp => c3.newL R3 (rpl_cut h2 o o2) hp q3⟩
    · obtain ⟨ad, vs, rfl, h0, h1, h2, _⟩ := ty_list R3 r3 hn
      exact .inr ⟨ad, vs, rfl, .inl (.inl h1), fun p hp => c3.newL R3 (rpl_cut h2 o o2) hp q3⟩
theorem aj_rev {e : Expr} {a : AE} {k : Nat} {p1 p2 p3 pos : Pos} (he : PE X e (liftE (gX X) a)) : PE X (.Subscript e (.Slice none none (some (.UnaryOp .USub (.Constant (.int 1) k p1) p2)) p3) pos) (liftE (gX X) (aRev a)) :=
  PE.weak (pe_revL he) fun σ H Q hq => by
    obtain ⟨m, st, env, QA, R, re, q, c⟩ := hq
    refine ⟨m, st, env, _, R, re, q, fun x st1 v m1 H1 E1 R1 r1 q1 => ?_⟩
    obtain ⟨n, xs, rfl, hn, q1⟩ := q1
    obtain ⟨ad, vs, rfl, h0, h1, h2, _⟩ := ty_list R1 r1 hn
    exact ⟨ad, vs, rfl, .inl (.inl h1), fun p hp => (c.mono E1).newL R1 h2.reverse hp q1⟩
end
end Ab

set_option Elab.async false
set_option linter.all false
set_option maxRecDepth 100000
set_option maxHeartbeats 2000000
/-! dict.update; enumerate of a tuple; comprehensions with two clauses; defs. -/
namespace Ab
open PySem PySem.Spec PyProof.Rows L2

section
variable {X : Cx}
theorem ens_all {g : G} {m : List Addr} {H : Hp} : ∀ {more : List (NestedKey × D)} {ys : List (NestedKey × Addr × Value)}, Ens g m H more ys → ∀ {kvs : List (NestedKey × D)} {xs : List (NestedKey × Addr × Value)}, Ens g m H kvs xs →
    Ens g m H (more.foldl (fun acc kv => put acc kv.1 kv.2) kvs) (storedAllH xs ys) := by
  intro more ys h
  induction h with
  | nil => intro kvs xs h; exact h
  | @cons p q _ _ h1 h2 ih =>
    intro kvs xs h
    obtain ⟨e1, e2, e3, e4, v, e5, e6⟩ := h1
    have := Ens.put h p.1 (b := q.2.1) e2 e3 e4 e5 e6
    rw [List.foldl_cons]
    unfold storedAllH
    rw [List.foldl_cons, ← e1]
    exact ih this
theorem hash_map (w : World) : ∀ {g : G} {m : List Addr} {H : Hp} {more : List (NestedKey × D)} {ys : List (NestedKey × Addr × Value)}, Ens g m H more ys → (ys.map fun y => NestedKey.hash w y.1) = (more.map (·.1)).map (NestedKey.hash w) := by
  intro g m H more ys h
  induction h with
  | nil => rfl
  | cons h1 h2 ih => rw [List.map_cons, List.map_cons, List.map_cons, ih, h1.1]
/-- the receiver, a dict, is known before the argument is read -/
theorem aj_update {o e : Expr} {a b : AE} {apos cpos : Pos} (hu : X.A.units + 64 < cLine) (ho : PE X o (liftE (gX X) a)) (he : PE X e (liftE (gX X) b))
    (hbase : attributeBase o "update" X.env (eval o X.env) = eval o X.env := by rfl)
    (hfew : ((backTo cpos (starEach [e] X.env)).all (fun x => !x.1) && (backToKw cpos (keywordEach [] X.env)).all (fun x => x.1.isSome)
      && decide (([e] : List Expr).length + ([] : List Keyword).length + (if ([] : List Keyword).isEmpty then 0 else 1) < 30)) = true := by rfl)
    (hline : (apos.endLine == cpos.line) = true := by rfl) (hs : starEach [e] X.env = (false, eval e X.env) :: starEach [] X.env := by rfl) (hplain : (backTo cpos (starEach [] X.env)).any (·.1) = false := by rfl) :
    PE X (.Call (.Attribute o "update" apos) [e] [] cpos) (liftE (gX X) (aUpd a b)) := by
  refine ⟨fun pins s σ H Q I h => ?_⟩
  obtain ⟨m, st, env, QA, R, re, q, c⟩ := h
  refine wpAny_Call_method_late hbase hfew hline rfl (thn (ho.run pins s σ H _ I ⟨m, st, env, _, R, re, q, fun d st' v m' H' E' R' r' q' => (show ∃ (d : D) (st' : Store) (m' : List Addr), Ext (gX X) m H m' H' ∧ Rs (gX X) m' st' H' ∧ Rp (gX X) m' H' v d ∧ _ from ⟨d, st', m', E', R', r', q'⟩)⟩) fun v s1 ⟨x, H1, I1, rx, d, st1, m1, E1, R1, r1, ⟨n, kvs0, hd, hn0⟩, q1⟩ => ?_)
  subst hd
  cases r1 with
  | @ref ad _ h0 =>
    cases rx
    obtain ⟨ad', k1, k2⟩ := R1.ob n _ hn0
    rw [h0] at k1; cases k1
    obtain ⟨xs0, hat0⟩ := k2.dtAt
    obtain ⟨dh0, hm0, hl0⟩ := hat0.dictH I1
    obtain ⟨ob, es, ep, e1, e2, e3, e4, e5, e6⟩ := dh0
    refine ⟨"dict", "dict.update", PySem.F.plainAttrs_dict, PySem.F.slot_dict_update, PySem.F.type_dict_update, ⟨ob, e1, e2.1⟩, fun z ez => by cases ez; exact ⟨ob, e1, e2.2.1⟩, ?_⟩
    have hA := (pa_cons he pa_nil hs).run cpos pins s1 σ H1 (fun vs H2 => ∃ (u : V) (y : D) (st2 : Store) (m2 : List Addr), vs = [u] ∧ Ext (gX X) m1 H1 m2 H2 ∧ Rs (gX X) m2 st2 H2 ∧ Rp (gX X) m2 H2 u y ∧ pUpdate (.ref n) y st2 QA) I1
      ⟨m1, st1, env, _, R1, re.mono E1.mon, q1, fun y st2 u m2 H2 E2 R2 r2 q2 => ⟨u, y, st2, m2, rfl, E2, R2, r2, q2⟩⟩
    rw [hs] at hA ⊢
    refine Calls.callWith_builtin (by show (false || (backTo cpos (starEach [] X.env)).any (·.1)) = false; rw [hplain] <;> rfl) (Calls.evalArgs_plain ?_)
    refine thn hA fun us s2 ⟨vs, H2, I2, rv, u, y, st2, m2, ev, E2, R2, r2, q2⟩ => ?_
    subst ev
    obtain ⟨w, rfl, rw'⟩ := rv.one
    obtain ⟨n', k, lk, kvs, more, en, rfl, hnk, hn, hk, hap, hz, q2⟩ := q2
    cases en
    cases r2 with
    | @ref bd _ h3 =>
      cases rw'
      have h4 := E2.mon.ix n ad h0
      obtain ⟨ad2, k3, xs, k4, k5⟩ := R2.ob n _ hn
      rw [h4] at k3; cases k3
      rw [if_neg (by decide)] at k4
      obtain ⟨bd2, k6, k7⟩ := R2.ob k _ hk
      rw [h3] at k6; cases k6
      obtain ⟨ys, hat⟩ := k7.dtAt
      obtain ⟨dh, hm, hl⟩ := DtAt.dictH I2 (show DtAt (gX X) m2 H2 ad kvs xs from ⟨.inl k4, k5⟩)
      obtain ⟨dh2, hm2, hl2⟩ := hat.dictH I2
      have ne : ad ≠ bd := fun z => by
        obtain ⟨l1, f1⟩ := List.getElem?_eq_some_iff.mp h4
        obtain ⟨l2, f2⟩ := List.getElem?_eq_some_iff.mp h3
        exact hnk ((List.getElem_inj R2.nd).mp (f1.trans (z.trans f2.symm)))
      have lx : kvs.length = xs.length := Paired.length k5
      have ly : more.length = ys.length := Paired.length hat.2
      have hsz : xs.length + ys.length ≤ sizeLine := by rw [← lx, ← ly]; exact LIM_line hz
      refine call_update_dictH (knd := nestedKind X.prog X.w) (show X.A.in1.units + 8 < cLine by simp only [Around.in1_units]; omega) ne hm2 dh dh2 ?_ hsz fun h' dh' dh2' hs => ?_
      · rcases hap with q | q
        · exact .inl fun e => q (by
            rw [e] at lx
            exact List.eq_nil_of_length_eq_zero lx)
        · refine .inr ⟨keyed_apart nestedKind_stays dh2, ?_⟩
          have := q X.w
          rw [← hash_map X.w hat.2] at this
          exact this
      · obtain ⟨o2, es2, ep2, f1, f2, f3, f4, f5, f6⟩ := dh'
        have hE := ens_all hat.2 k5
        have hlen : (storedAllH xs ys).length ≤ sizeLine := by
          have : ∀ (ys xs : List (NestedKey × Addr × Value)), (storedAllH xs ys).length ≤ xs.length + ys.length := by
            intro ys
            induction ys with
            | nil => intro xs; exact Nat.le_refl _
            | cons y ys ih =>
              intro xs
              have h1 := ih (storedH xs y.1 y.2.1 y.2.2)
              have h2 := stored_le xs y.1 y.2.1 y.2.2
              show (storedAllH (storedH xs y.1 y.2.1 y.2.2) ys).length ≤ _
              rw [List.length_cons]
              omega
          exact Nat.le_trans (this ys xs) hsz
        have M : Mon (gX X) m2 H2 m2 (upd H2 ad (.ext (dPhi (gX X) ad (storedAllH xs ys)))) := .put k4 rfl
        refine ⟨.non, _, L2.d_write (t' := s2.toks) I2 (by rw [k4]; exact True.intro) hs ⟨o2, f1⟩ (ob := .ext (dPhi (gX X) ad (storedAllH xs ys))) ⟨⟨o2, es2, ep2, f1, f2, f3, f4, f6, hm, hlen⟩, ⟨o2, f1⟩, fun h1 h2 p kk => ext_stay h1 h2 p kk⟩, rfl, ?_⟩
        exact (c.mono (E1.trans E2)) _ _ _ _ _ (Ext.write (List.mem_of_getElem? h4) k4 rfl) (R2.write h4 k4 rfl (show RO (gX X) m2 _ ad (.dt false _) from ⟨_, by rw [if_neg (by decide)]; exact upd_same, L2.Paired.mapP hE fun p q r => r.mono M⟩)) .non q2
end
end Ab

set_option Elab.async false
set_option linter.all false
set_option maxRecDepth 100000
set_option maxHeartbeats 2000000
/-! enumerate of a tuple; comprehensions with two clauses. -/
namespace Ab
open PySem PySem.Spec PyProof.Rows L2

theorem enum_new_t (a : Addr) (vs : Array Value) : Meets (Builtin.«enumerate.__new__» ⟨[.type "enumerate", .ref a], []⟩) (fun _ R z => z.heap.IsTuple a vs ∧
    R (.ok (.ret (.ref (z.heap.push { cls := .type "tuple_iterator", data := .fields #[.ref a, .int 0 0] }).objs.size)))
      { z with heap := (z.heap.push { cls := .type "tuple_iterator", data := .fields #[.ref a, .int 0 0] }).push { cls := .type "enumerate", data := .fields #[.none, .bool false, .ref z.heap.objs.size, rawInt 0, .none, .none] } }) :=
  .of_wp fun prog w A R z q => by
    obtain ⟨hp, g1, d1, tk, os⟩ := z
    obtain ⟨q0, q⟩ := q
    have hsub := sub_enumerate
    have it0 : ∀ {B : Around} {E : Value → Shared → Prop} {Q : Value → Shared → Prop}, Q (.ref hp.objs.size) ⟨hp.push { cls := .type "tuple_iterator", data := .fields #[.ref a, .int 0 0] }, g1, d1, tk, os⟩ → wpAny (model prog w) B (pyIter (.ref a)) Q E ⟨hp, g1, d1, tk, os⟩ :=
      fun z => wpAny_pyIter_tuple q0 z
    wp_walk using it0
    refine wpAny_stack_any fun st => wpAny_pure ?_
    split
    · rename_i c _ _ _ _ _
      cases (c == Value.type "enumerate") <;> (wp_walk using it0; exact ⟨_, rfl, q⟩)
    · wp_walk using it0
      exact ⟨_, rfl, q⟩

theorem call_enum_t {prog : Program} {w : World} {A : Around} {E : Value → Shared → Prop} {s : Shared} {a : Addr} {vs : Array Value} {Q : Value → Shared → Prop} (ht : s.heap.IsTuple a vs)
    (h : ∀ h', IsEnum h' (s.heap.objs.size + 1) s.heap.objs.size 0 .none → h'.IsTupleIter s.heap.objs.size a 0 → (∀ b o, s.heap.get? b = some o → h'.get? b = some o) → Q (.ref (s.heap.objs.size + 1)) { s with heap := h' }) :
    wpAny (model prog w) A (call (.type "enumerate") [.ref a]) Q E s := by
  refine callType_new F.called_enumerate (by decide) (F.typeCall_enumerate_1 _) (F.newCall_enumerate_1 _) (fun obj => F.args_object_init_2 obj _) F.entry_enumerate_new (enum_new_t a vs) ⟨ht, ?_⟩
  have hz : (s.heap.push { cls := .type "tuple_iterator", data := .fields #[.ref a, .int 0 0] }).objs.size = s.heap.objs.size + 1 := Heap.size_push ..
  have he : IsEnum ((s.heap.push { cls := .type "tuple_iterator", data := .fields #[.ref a, .int 0 0] }).push
      { cls := .type "enumerate", data := .fields #[.none, .bool false, .ref s.heap.objs.size, rawInt 0, .none, .none] }) (s.heap.objs.size + 1) s.heap.objs.size 0 .none := by
    have q := Heap.get?_push_size (s.heap.push { cls := .type "tuple_iterator", data := .fields #[.ref a, .int 0 0] }) (o := { cls := .type "enumerate", data := .fields #[.none, .bool false, .ref s.heap.objs.size, rawInt 0, .none, .none] }) rfl
    rw [hz] at q
    exact q
  show _ ∧ _
  rw [hz]
  exact ⟨⟨_, he, rfl⟩, h _ he ⟨_, Heap.get?_push_of_some _ (Heap.get?_push_size _ rfl), rfl, rfl⟩ fun b o x => Heap.get?_push_of_some _ (Heap.get?_push_of_some _ x)⟩

/-- the pairs (place, item) of a tuple -/
def Iten (K : PySem.W.Frag) (a : Addr) (N : Nat) : It :=
  ⟨fun i H => ∃ (xs : List V) (x : V), SqT K H a xs ∧ xs[i]? = some x ∧ xs.length = N, fun i H v H' => ∃ T x, v = .ref T ∧ H T = none ∧ H' = upd H T (.tup [.int (i : Nat), x]) ∧ ∀ xs, SqT K H a xs → xs[i]? = some x, fun i H => ∃ xs : List V, SqT K H a xs ∧ xs.length = N ∧ N ≤ i⟩
theorem turn_enumT {P : Program} {w : World} {K : PySem.W.Frag} {elts : List Expr} {kk : Nat} {tpos : Pos} (a e it : Addr) (N : Nat) (hae : a ≠ e) (hai : a ≠ it) :
    Turn P w K (.Tuple elts kk tpos) (Iten K a N) [e, it] e (fun i h => (∃ old, IsEnum h e it ((i : Nat) : Int) old) ∧ h.IsTupleIter it a i ∧ e ≠ it ∧ i ≤ N) where
  mem := by simp
  obj := fun i h st b hb => by
    obtain ⟨⟨old, he⟩, ⟨o, ho, hc, hd⟩, _⟩ := st
    rcases (show b = e ∨ b = it by simpa using hb) with z | z
    · rw [z]; exact ⟨_, he, fun v q => nomatch q⟩
    · rw [z]; exact ⟨o, ho, fun v q => by rw [hd] at q; cases q⟩
  keep := fun i h h' st k => by
    obtain ⟨⟨old, he⟩, ⟨o, ho, r⟩, hne, hN⟩ := st
    exact ⟨⟨old, k e (by simp) _ he⟩, ⟨o, k it (by simp) _ ho, r⟩, hne, hN⟩
  item := by
    intro X hP hw hK hc i pins s σ H E I hf st hg
    subst hP hw hK
    obtain ⟨⟨old, he⟩, hit, hne, hN⟩ := st
    obtain ⟨xs, x, hq, hx, hlN⟩ := hg
    obtain ⟨its, rv, p, hz⟩ := I.tuple hq
    obtain ⟨u, hu, ru⟩ := rv.get hx
    have hel : e < s.heap.objs.size := Heap.lt_size he
    have hil : it < s.heap.objs.size := by obtain ⟨_, q, _⟩ := hit; exact Heap.lt_size q
    have hlt : i < its.toArray.size := by
      have := (List.getElem?_eq_some_iff.mp hu).1
      simpa using this
    refine wpAny_pyNext_enum_itemD (Draws.tuple (A := X.A.in1) (I.ok.hd hc) it a hai its.toArray) he ⟨hit, p⟩ hlt hne (by simp [Ne.symm hae, hne]) fun y h' tk hP' ho hst hT hsz hk => ?_
    have ey : u = y := by
      have h1 : its.toArray[i]? = some y := hP'
      have h2 : its[i]? = some y := by simpa using h1
      rw [hu] at h2
      exact Option.some.inj h2
    subst ey
    refine ⟨_, rfl, wpAny_letOwnedTupleGo_enum (s := { s with heap := h', toks := tk + 1 }) ho fun h'' he' sb => ?_⟩
    have hT2 : h''.get? s.heap.objs.size = some { cls := .type "tuple", data := .seq #[.int i tk, u] } := (sb.2 _ (Nat.ne_of_gt hel)).trans hT
    have new : ObjOk X.prog X.w (upd H s.heap.objs.size (.tup [.int (i : Nat), x])) h'' s.heap.objs.size (.tup [.int (i : Nat), x]) :=
      ⟨by show 2 ≤ sizeLine; decide, [.int i tk, u], .cons ⟨_, rfl⟩ (.cons ru .nil), ⟨_, hT2, rfl, _, rfl⟩⟩
    have I1 : Inv X pins σ (upd H s.heap.objs.size (.tup [.int (i : Nat), x])) { s with heap := h'', toks := tk + 1 } :=
      I.turnedNew (ch := [e, it]) (fun b ob hb q => (sb.2 b (fun z => hb (by simp [z]))).trans (hk b ob (fun z => hb (by simp [z])) (fun z => hb (by simp [z])) q)) hf (Nat.le_refl _) new
    refine ⟨.ref s.heap.objs.size, _, I1, rfl, ⟨_, x, rfl, I.hok.fresh (Nat.le_refl _), rfl, fun ys hy => by rw [I.tuple_inj hy hq]; exact hx⟩, ⟨⟨u, ?_⟩, ?_, hne, ?_⟩, fun b hb => ?_⟩
    · have e1 : ((i + 1 : Nat) : Int) = (i : Int) + 1 := by omega
      rw [e1]
      exact he'
    · obtain ⟨o, q1, q2⟩ := hst.1
      exact ⟨o, (sb.2 it (Ne.symm hne)).trans q1, q2⟩
    · have := (List.getElem?_eq_some_iff.mp hx).1
      omega
    · have hb' : b < s.heap.objs.size := by
        rcases (show b = e ∨ b = it by simpa using hb) with z | z
        · rw [z]; exact hel
        · rw [z]; exact hil
      rw [upd_ne (Nat.ne_of_lt hb')]
      exact (hf b hb).1
  done := by
    intro X hP hw hK hc i pins s σ H E I hf st hg
    subst hP hw hK
    obtain ⟨⟨old, he⟩, hit, hne, hN⟩ := st
    obtain ⟨xs, hq, hx, hx2⟩ := hg
    obtain ⟨its, rv, p, hz⟩ := I.tuple hq
    have hl := rv.length
    have en : its.toArray.size = i := by rw [List.size_toArray]; omega
    subst en
    obtain ⟨f0, f1, f2, f3, f4, f5⟩ := hf it (by simp)
    exact wpAny_pyNext_enum_endD (Draws.tuple (A := X.A.in1) (I.ok.hd hc) it a hai its.toArray) he ⟨hit, p⟩ fun h' eb => ⟨rfl, I.turned (t' := s.toks) (fun b o hb q => eb b o hb q) f0 f1 f3 f4 f5⟩
  self := fun A i s Q E st h => by
    obtain ⟨⟨_, he⟩, _⟩ := st
    exact wpAny_pyIter_enum he h
section
variable {X : Cx}
theorem ai_enum {e : Expr} {a : AE} {p pos tpos : Pos} {elts : List Expr} {kk : Nat} (hg : Gl X "enumerate") (hm : X.mg "enumerate" = none) (he : PE X e (liftE (gX X) a)) (hs : starEach [e] X.env = (false, eval e X.env) :: starEach [] X.env := by rfl) (hs2 : starEach [e] X.env = [(false, eval e X.env)] := by rfl) :
    PI X (.Tuple elts kk tpos) (.Call (.Name "enumerate" p) [e] [] pos) (liftI (gX X) (sEnum a)) := by
  refine ⟨fun pins s σ H R I h => ?_⟩
  obtain ⟨m, st, env, RA, Rr, re, q, c⟩ := h
  refine Call_ (ld_blt I hg hm boot_enumerate (PyProof.Rows.callWith_type1 (thn ((pa_cons he pa_nil hs).run pos pins s σ H (fun vs H1 => ∃ (v : V) (d : D) (st' : Store) (m' : List Addr), vs = [v] ∧ Ext (gX X) m H m' H1 ∧ Rs (gX X) m' st' H1 ∧ Rp (gX X) m' H1 v d ∧ ∃ xs, d = D.tup xs ∧ RA ⟨enumD xs, fun _ => True⟩ st') I
    ⟨m, st, env, _, Rr, re, q, fun d st' v m' H' E' R' r' q' => ⟨v, d, st', m', rfl, E', R', r', q'⟩⟩) fun us s1 ⟨vs, H1, I1, rv, v, d, st1, m1, ev, E1, R1, r1, q1⟩ => ?_) hs2 rfl))
  subst ev
  obtain ⟨u, rfl, ru⟩ := rv.one
  obtain ⟨xs, rfl, q1⟩ := q1
  cases r1 with
  | @tup b vs _ h1 h2 =>
    cases ru
    obtain ⟨its, rv, p', hz⟩ := I1.tuple h1
    have hbl : b < s1.heap.objs.size := by obtain ⟨_, q, _⟩ := p'; exact Heap.lt_size q
    refine call_enum_t p' fun h' hen hit hk => wpAny_pyIter_enum hen ?_
    have I2 : Inv X pins σ H1 { s1 with heap := h' } := I1.kept (t' := s1.toks) hk
    refine ⟨s1.heap.objs.size + 1, [s1.heap.objs.size + 1, s1.heap.objs.size], _, _, H1, rfl, I2, turn_enumT b (s1.heap.objs.size + 1) s1.heap.objs.size xs.length (Nat.ne_of_lt (Nat.lt_succ_of_lt hbl)) (Nat.ne_of_lt hbl), ⟨⟨.none, hen⟩, hit, Nat.succ_ne_self _, Nat.zero_le _⟩, fun z hb => ?_, c _ st1 m1 H1 _ E1 R1 ?_ q1⟩
    · have hle : s1.heap.objs.size ≤ z := by
        rcases (show z = s1.heap.objs.size + 1 ∨ z = s1.heap.objs.size by simpa using hb) with q | q
        · rw [q]; exact Nat.le_succ _
        · rw [q]; exact Nat.le_refl _
      exact I1.fpOk hle (I1.hok.fresh hle)
    · intro i m2 st2 H2 E2 R2 _
      have h3 := E2.tp _ _ h1
      refine ⟨fun d e => ?_, fun hl => ?_⟩
      · have e' : ((List.range xs.length).map fun (i : Nat) => D.tup [.int (i : Int), xs.getD i .non])[i]? = some d := e
        rw [List.getElem?_map] at e'
        obtain ⟨k, e2, e3⟩ := Option.map_eq_some_iff.mp e'
        obtain ⟨hk1, hk2⟩ := List.getElem?_eq_some_iff.mp e2
        rw [List.getElem_range] at hk2
        rw [List.length_range] at hk1
        subst hk2
        subst e3
        have ex : xs[i]? = some xs[i] := List.getElem?_eq_getElem hk1
        obtain ⟨v, e4, r4⟩ := h2.get ex
        refine ⟨⟨vs, v, h3, e4, h2.length⟩, fun x H3 y => ?_⟩
        obtain ⟨T, x', rfl, hT, rfl, y⟩ := y
        have := y vs h3
        rw [e4] at this; cases this
        have F := Ext.free (g := gX X) (m := m2) (o := .tup [.int (i : Nat), v]) hT
        refine ⟨F, R2.free hT, .tup (sq_t upd_same) (.cons (.int _) (.one ?_))⟩
        have eg : xs.getD i .non = xs[i] := by simp [List.getD, ex]
        rw [eg]
        exact (r4.mono E2.mon).mono F.mon
      · have hl' : ((List.range xs.length).map fun (i : Nat) => D.tup [.int (i : Int), xs.getD i .non]).length ≤ i := hl
        rw [List.length_map, List.length_range] at hl'
        exact ⟨vs, h3, h2.length, hl'⟩

/-! ### two clauses -/
theorem lift_lc2 {it : Itm} {J : It} {pt pt1 : Pat} {src1 : ASrc} {e : AE} {vs vs1 : List Nat} {m : List Addr} {st : Store} {σ : L2.St} {H : Hp} {env : Env} {g : G} {QA : DK} {Q : VK} (hv : ∀ i ∈ pt.slots, i ∈ vs) (hv1 : ∀ i ∈ pt1.slots, i ∈ vs1) (R : Rs g m st H) (re : Re g m H σ env) (rep : ItRep g m H J it)
    (q : lc2Run it pt src1 pt1 e vs vs1 env st QA) (c : CE g m H QA Q) :
    ∀ Dn, H Dn = none → ∃ W : Nat → Nat → Hp → Prop, (∃ k, W 0 k (upd H Dn (.lst []))) ∧ ∀ i k H', W i k H' →
      (J.stop i H' ∧ Q (.ref Dn) H') ∨ (J.go i H' ∧ ∃ Nx : Hp → Prop, (∀ H'', Nx H'' → ∃ k', k' < k ∧ W (i + 1) k' H'') ∧ ∀ x H2, J.yld i H' x H2 → gP g pt x (L2.wipe σ vs) H2 fun σ2 H2 => L2.wipe σ2 vs = L2.wipe σ vs ∧ liftT g atYes σ2 H2 fun b H3 =>
        if b = true then liftI g src1 σ2 H3 fun J1 H4 => ∃ W1 : Nat → Nat → Hp → Prop, (∃ m, W1 0 m H4) ∧ ∀ j k H, W1 j k H →
          (J1.stop j H ∧ Nx H) ∨ (J1.go j H ∧ ∃ Nx1 : Hp → Prop, (∀ H', Nx1 H' → ∃ k', k' < k ∧ W1 (j + 1) k' H') ∧ ∀ x H', J1.yld j H x H' → gP g pt1 x (L2.wipe σ2 vs1) H' fun σ3 H5 => L2.wipe σ3 vs1 = L2.wipe σ2 vs1 ∧ liftT g atYes σ3 H5 fun b H6 =>
            if b = true then liftE g e σ3 H6 fun y H7 => ∃ acc, H7 Dn = some (.lst acc) ∧ acc.length < sizeLine ∧ Nx1 (upd H7 Dn (.lst (acc ++ [y]))) else Nx1 H6)
        else Nx H3) := by
  intro Dn hD
  obtain ⟨I, h0, hlim, hchk, hstep, hend⟩ := q
  refine ⟨fun i k H' => k = it.xs.length - i ∧ i ≤ it.xs.length ∧ ∃ m' st' acc vacc, Own g m H Dn (.lst vacc) m' st' H' ∧ RpL g m' H' vacc acc ∧ acc.length ≤ 1000 * i ∧ I i acc st', ⟨it.xs.length, by simp, Nat.zero_le _, m, st, [], [], Own.start R hD, .nil, Nat.zero_le _, h0⟩, ?_⟩
  rintro i k H' ⟨rfl, hi, m', st', acc, vacc, w, ra, hla, hI⟩
  have hr := rep i m' st' H' w.ext.sees w.rs (hchk i acc st' hI)
  by_cases hl : i < it.xs.length
  · have e1 : it.xs[i]? = some it.xs[i] := List.getElem?_eq_getElem hl
    obtain ⟨go, yl⟩ := hr.1 _ e1
    refine .inr ⟨go, fun H3 => ∃ m3 st3 acc3 vacc3, Own g m H Dn (.lst vacc3) m3 st3 H3 ∧ RpL g m3 H3 vacc3 acc3 ∧ acc3.length ≤ 1000 * (i + 1) ∧ I (i + 1) acc3 st3, fun H3 h => ⟨it.xs.length - (i + 1), by omega, rfl, hl, h⟩, fun x H2 hy => ?_⟩
    obtain ⟨E2, R2, r2⟩ := yl x H2 hy
    have w2 := w.step E2 R2
    refine gP_ok2 hv ((re.wipe vs).mono w2.ext.mon) r2 (hstep i _ acc st' e1 hI) fun σ2 env2 hw re2 hb => ⟨by rw [hw, wipe_twice vs vs fun _ h => h], m', st', env2, fun b s => b = true ∧ src1 env2 s (lc2In (I (i + 1)) pt1 e vs1 acc env2), R2, re2, ⟨rfl, hb⟩, fun b st3 m3 H3 E3 R3 ⟨eb, hb⟩ => ?_⟩
    have w3 := w2.step E3 R3
    have ra3 := (ra.mono E2.mon).mono E3.mon
    subst eb
    refine iteT ?_
    refine ⟨m3, st3, env2, _, R3, re2.mono E3.mon, hb, fun it1 st4 m4 H4 J1 E4 R4 rep1 ⟨J, j0, hlim1, jchk, jstep, jend⟩ => ?_⟩
    have w4 := w3.step E4 R4
    have ra4 := ra3.mono E4.mon
    have re4 := (re2.mono E3.mon).mono E4.mon
    refine ⟨fun j k H' => k = it1.xs.length - j ∧ j ≤ it1.xs.length ∧ ∃ m5 st5 acc5 vacc5, Own g m H Dn (.lst vacc5) m5 st5 H' ∧ Sees g m4 H4 m5 H' ∧ RpL g m5 H' vacc5 acc5 ∧ acc5.length ≤ 1000 * i + j ∧ J j acc5 st5, ⟨it1.xs.length, by simp, Nat.zero_le _, m4, st4, acc, vacc, w4, (Ext.refl _ _ _).sees, ra4, hla, j0⟩, ?_⟩
    rintro j k H' ⟨rfl, hj, m5, st5, acc5, vacc5, w5, E5, ra5, hla5, hJ⟩
    have hr1 := rep1 j m5 st5 H' E5 w5.rs (jchk j acc5 st5 hJ)
    by_cases hl1 : j < it1.xs.length
    · have f1 : it1.xs[j]? = some it1.xs[j] := List.getElem?_eq_getElem hl1
      obtain ⟨go1, yl1⟩ := hr1.1 _ f1
      refine .inr ⟨go1, fun H6 => ∃ m6 st6 acc6 vacc6, Own g m H Dn (.lst vacc6) m6 st6 H6 ∧ Sees g m4 H4 m6 H6 ∧ RpL g m6 H6 vacc6 acc6 ∧ acc6.length ≤ 1000 * i + (j + 1) ∧ J (j + 1) acc6 st6, fun H6 h => ⟨it1.xs.length - (j + 1), by omega, rfl, hl1, h⟩, fun x1 H6 hy1 => ?_⟩
      obtain ⟨E6, R6, r6⟩ := yl1 x1 H6 hy1
      have w6 := w5.step E6 R6
      have re6 := ((re4.mono E5.mon).mono E6.mon).wipe vs1
      refine gP_ok2 hv1 re6 r6 (jstep j _ acc5 st5 f1 hJ) fun σ3 env3 hw3 re3 hb3 => ⟨by rw [hw3, wipe_twice vs1 vs1 fun _ h => h], m5, st5, env3, fun b s => b = true ∧ e env3 s fun z st3 => J (j + 1) (acc5 ++ [z]) st3, R6, re3, ⟨rfl, hb3⟩, fun b st7 m7 H7 E7 R7 ⟨eb, hb7⟩ => ?_⟩
      subst eb
      refine iteT ?_
      have w7 := w6.step E7 R7
      refine ⟨m7, st7, env3, _, R7, re3.mono E7.mon, hb7, fun y st8 vy m8 H8 E8 R8 r8 hJ8 => ?_⟩
      have w8 := w7.step E8 R8
      have hz : vacc5.length < sizeLine := by
        have := ra5.length
        rw [sizeLine_eq]
        omega
      have E8' : Sees g m4 H4 m8 H8 := ((E5.trans E6.sees).trans E7.sees).trans E8.sees
      obtain ⟨w9, M9⟩ := w8.put (o' := .lst (vacc5 ++ [vy])) hD rfl
      refine ⟨vacc5, w8.at_, hz, m8, st8, acc5 ++ [y], _, w9, ?_, ((((ra5.mono E6.mon).mono E7.mon).mono E8.mon).append (.one r8)).mono M9, by simp; omega, hJ8⟩
      refine E8'.trans { toMon := M9, fr := fun a o u h => ?_ }
      rw [upd_ne (fun z => by rw [z, w8.at_] at h; cases h)]
      exact h
    · have f1 : j = it1.xs.length := by omega
      subst f1
      exact .inl ⟨hr1.2 (Nat.le_refl _), m5, st5, acc5, vacc5, w5, ra5, by omega, jend acc5 st5 hJ⟩
  · have e1 : i = it.xs.length := by omega
    subst e1
    obtain ⟨E5, R5⟩ := w.adopt (ob := .lst acc) hD ⟨vacc, w.at_, ra.mono ⟨fun n a e => by rw [List.getElem?_append_left (List.getElem?_eq_some_iff.mp e).1]; exact e, fun _ _ h => h, fun _ _ h => h⟩⟩
    exact .inl ⟨hr.2 (Nat.le_refl _), c _ _ _ _ _ E5 R5 w.ref (hend acc st' hI)⟩
theorem tLc2_of {g : G} {src src1 : ASrc} {pt pt1 : Pat} {e : AE} {vs vs1 : List Nat} {σ : L2.St} {H : Hp} {Q : VK} (hv : ∀ i ∈ pt.slots, i ∈ vs) (hv1 : ∀ i ∈ pt1.slots, i ∈ vs1) (h : liftE g (aLc2 src pt src1 pt1 e vs vs1) σ H Q) :
    tLc2 (liftI g src) (gP g pt) (liftT g atYes) (liftI g src1) (gP g pt1) (liftT g atYes) (liftE g e) vs vs1 σ H Q := by
  obtain ⟨m, st, env, QA, R, re, q, c⟩ := h
  exact ⟨m, st, env, _, R, re, q, fun it st1 m1 H1 J E1 R1 rep q1 Dn hD => lift_lc2 hv hv1 R1 (re.mono E1.mon) rep q1 (c.mono E1) Dn hD⟩
theorem aj_lc2 {elt tg iter tg1 iter1 : Expr} {scope : Scope} {own : List (Str × Nat)} {pos : Pos} {src src1 : ASrc} {pt pt1 : Pat} {e : AE} (b : Blk X scope own) (hv : ∀ i ∈ pt.slots, i ∈ own.map (·.2)) (hv1 : ∀ i ∈ pt1.slots, i ∈ own.map (·.2)) (hi : PI X tg iter (liftI (gX X) src))
    (hg : InB X scope fun Y => PG Y tg (gP (gX X) pt)) (hi1 : InB X scope fun Y => PI Y tg1 iter1 (liftI (gX X) src1)) (hg1 : InB X scope fun Y => PG Y tg1 (gP (gX X) pt1)) (he : InB X scope fun Y => PE Y elt (liftE (gX X) e))
    (hs : ∀ x, foldedSetIterable iter X.env x = pure x := by intro _; rfl) (hs1 : ∀ env x, foldedSetIterable iter1 env x = pure x := by intro _ _; rfl) :
    PE X (.ListComp elt [⟨tg, iter, [], 0⟩, ⟨tg1, iter1, [], 0⟩] scope pos) (liftE (gX X) (aLc2 src pt src1 pt1 e (own.map (·.2)) pt1.slots)) :=
  PE.weak (pe_lc2 b.hc b.hN hi b.ok hv1 hg (fun _ _ _ _ _ => pts0) hi1 hg1 (fun _ _ _ _ _ => pts0) he hs hs1) fun _ _ _ => tLc2_of hv fun _ h => h
end
end Ab

set_option Elab.async false
set_option linter.all false
set_option maxRecDepth 100000
set_option maxHeartbeats 2000000
/-! name = a comprehension; what a def of the program needs; defs. -/
namespace Ab
open PySem PySem.Spec PyProof.Rows L2

section
variable {X : Cx}
theorem sc_min2 {g : G} : SC2 g (fun xs H Q => ∃ i j, xs = [.int i, .int j] ∧ Q (.int (if j < i then j else i)) H) pMin2 := by
  intro m st H v u x y QA Q R rx ry ⟨i, j, e1, e2, q⟩ c
  subst e1 e2
  cases rx
  cases ry
  exact ⟨i, j, rfl, c.same R (.int _) q⟩
theorem aj_never {e : Expr} {g : G} : PE X e (liftE g aNeverE) := ⟨fun _ _ _ _ _ _ ⟨_, _, _, _, _, _, q, _⟩ => q.elim⟩
theorem sw_dict {kx vx : Expr} {gs : List Comprehension} {scope : Scope} {pos py : Pos} {y : Str} {l : Nat} {env : PySem.Env} (hk : env.scope.kind = .function) (hy : env.scope.names.lookup y = some .local) (hl : (py.line == pos.line) = true)
    (ha : (scope.names.any fun (n, k) => n == y && (k == .local || k == .cell)) = false) : swapsWith (.DictComp kx vx gs scope pos) (some (.Name y py)) l env = pure true := by
  have k1 : env.kindOf y = some .local := hy
  have k2 : env.blockKind = .function := by
    unfold Env.blockKind
    rw [hk]
    rfl
  simp only [swapsWith, k2, k1, ha, Expr.pos, hl]
  rfl
/-- the comprehension's value goes into the slot -/
abbrev tPut (t : TE) (i : Nat) : TS := fun D σ H => t σ H fun x H1 => D.nx (σ.set i (some x)) H1
theorem ps_setDce {i : Nat} {y : Str} {py : Pos} {kx vx tg iter : Expr} {scope : Scope} {own : List (Str × Nat)} {pos spos : Pos} {wi : TI} {gt : TG} {tk tv : TE} (hu : X.A.units + 64 < cLine) (B : Blk X scope own) (hy : X.N[i]? = some y) (hyl : X.env.scope.names.lookup y = some .local)
    (hsw : swapsWith (.DictComp kx vx [⟨tg, iter, [], 0⟩] scope pos) (some (.Name y py)) spos.line X.env = pure true) (hi : PI X tg iter wi) (hg : InB X scope fun Y => PG Y tg gt) (hk : InB X scope fun Y => PE Y kx tk) (he : InB X scope fun Y => PE Y vx tv)
    (hs : ∀ x, foldedSetIterable iter X.env x = pure x := by intro _; rfl) : PS X (.Assign [.Name y py] (.DictComp kx vx [⟨tg, iter, [], 0⟩] scope pos) spos) (tPut (tDcE (gX X) wi gt tk tv (own.map (·.2))) i) := by
  refine ⟨fun pins s σ H D I h => ?_⟩
  rw [exec_Assign_Name_used _ _ _ _ hsw]
  refine wpAny_bind (wpAny_standAt (wpAny_bind ?_))
  show wpAny _ X.A (do let _ ← comprehension (.DictComp kx vx [⟨tg, iter, [], 0⟩] scope pos) scope X.env (firstIterPos [⟨tg, iter, [], 0⟩] pos) newDict false (eval iter X.env) (some (assign (.Name y py) X.env))) _ _ s
  refine wpAny_bind (thn (dce_core (Qf := fun _ s' => SP X pins D .next s') hu B I hi hg hk he hs h fun Dn C s' m H' I' q hn f => ?_) fun _ s' hq => wpAny_pure (wpAny_pure hq))
  show wpAny _ _ (assign (.Name y py) X.env (.ref Dn)) _ _ _
  refine wpAny_assign_Name (store_ok2 (v := V.ref Dn) I' B.hN hy (.inl hyl) rfl (fun s2 I2 ⟨a, sb, ha⟩ => ?_) (.inr hyl))
  obtain ⟨f0, f1, f2, f3, f4, f5⟩ := f
  have apart : C ≠ a := by
    rcases ha with z | z
    · rw [z]; exact f1
    · exact fun e => f4 y a z e.symm
  exact ⟨m, hn.sameBut sb apart, fun h3 sb3 => ⟨_, H', I2.turned (t' := s2.toks) (fun b o hb e => (sb3.2 b hb).trans e) f0 f1 f3 f4 f5, q⟩⟩
theorem as_setDcU {i : Nat} {y : Str} {py : Pos} {kx vx tg iter : Expr} {scope : Scope} {own : List (Str × Nat)} {pos spos : Pos} {a : AE} {pt : Pat} {k e : AE} (hu : X.A.units + 64 < cLine) (b : Blk X scope own) (hv : ∀ i ∈ pt.slots, i ∈ own.map (·.2)) (hy : X.N[i]? = some y) (hyl : X.env.scope.names.lookup y = some .local)
    (hsw : swapsWith (.DictComp kx vx [⟨tg, iter, [], 0⟩] scope pos) (some (.Name y py)) spos.line X.env = pure true) (hi : PE X iter (liftE (gX X) a))
    (hg : InB X scope fun Y => PG Y tg (gP (gX X) pt)) (hk : InB X scope fun Y => PE Y kx (liftE (gX X) k)) (he : InB X scope fun Y => PE Y vx (liftE (gX X) e)) (hs : ∀ x, foldedSetIterable iter X.env x = pure x := by intro _; rfl) :
    PS X (.Assign [.Name y py] (.DictComp kx vx [⟨tg, iter, [], 0⟩] scope pos) spos) (liftS (gX X) (aAsg (aDcU a pt k e (own.map (·.2))) (agNm i))) :=
  PS.weak (PS.or (ps_setDce hu b hy hyl hsw (ai_items hi) hg hk he hs) (ps_lock (ps_setDce hu b hy hyl hsw (pi_D hi) hg hk he hs))) fun D σ H ⟨m, st, env, EA, R, re, q, c⟩ => by
    have fin : CE (gX X) m H (fun x st1 => agNm i x env st1 EA.nx) (fun x H1 => D.nx (σ.set i (some x)) H1) := fun d st' v m' H' E' R' r' q' => c.nx _ st' _ m' H' E' R' ((re.mono E'.mon).set r' i) q'
    rcases q with q | q
    · exact .inl (tDc_of hv ⟨m, st, env, _, R, re, q, fin⟩)
    · exact .inr (tDcD_of hv ⟨m, st, env, _, R, re, q, fin⟩)
theorem as_setLcU {i : Nat} {y : Str} {py : Pos} {elt tg iter : Expr} {ifs : List Expr} {scope : Scope} {own : List (Str × Nat)} {pos spos : Pos} {a : AE} {pt : Pat} {t : AT} {e : AE} (b : Blk X scope own) (hv : ∀ i ∈ pt.slots, i ∈ own.map (·.2)) (hy : X.N[i]? = some y) (hyl : X.env.scope.names.lookup y = some .local)
    (hsw : swapsWith (.ListComp elt [⟨tg, iter, ifs, 0⟩] scope pos) (some (.Name y py)) spos.line X.env = pure true) (hi : PE X iter (liftE (gX X) a))
    (hg : InB X scope fun Y => PG Y tg (gP (gX X) pt)) (ht : InB X scope fun Y => PTs Y ifs (liftT (gX X) t)) (he : InB X scope fun Y => PE Y elt (liftE (gX X) e)) (hs : ∀ x, foldedSetIterable iter X.env x = pure x := by intro _; rfl) :
    PS X (.Assign [.Name y py] (.ListComp elt [⟨tg, iter, ifs, 0⟩] scope pos) spos) (liftS (gX X) (aAsg (aLcU a pt t e (own.map (·.2))) (agNm i))) :=
  PS.weak (PS.or (ps_setLc b.hc b.hN hy hyl hsw (ai_items hi) b.ok hg ht he hs) (ps_lock (ps_setLc b.hc b.hN hy hyl hsw (pi_D hi) b.ok hg ht he hs))) fun D σ H ⟨m, st, env, EA, R, re, q, c⟩ => by
    have fin : CE (gX X) m H (fun x st1 => agNm i x env st1 EA.nx) (fun x H1 => D.nx (σ.set i (some x)) H1) := fun d st' v m' H' E' R' r' q' => c.nx _ st' _ m' H' E' R' ((re.mono E'.mon).set r' i) q'
    rcases q with q | q
    · exact .inl (tLc_of hv ⟨m, st, env, _, R, re, q, fin⟩)
    · exact .inr (tLcD_of hv ⟨m, st, env, _, R, re, q, fin⟩)
end

/-! ### what a def leans on -/
/-- a def of the program, with what it promises -/
structure Fnc (g : G) (mg : Str → Option Value) (base : Heap) (k : Nat) (x : Str) (sp : ASp) : Prop where
  ex : ∃ (f : Addr) (fd : FuncData) (ps : List Str), FnOk g.P g.w g.K mg base CX0 k f fd ps (liftP g sp) ∧ mg x = some (.ref f) ∧ PySem.W.keepIn g.K (.ref f) = true ∧ Binds g.K fd ps []
/-- no built-in of these is hidden -/
structure Blt (mg : Str → Option Value) : Prop where
  len : mg "len" = none
  range : mg "range" = none
  sorted : mg "sorted" = none
  list : mg "list" = none
  tuple : mg "tuple" = none
  isin : mg "isinstance" = none
  int : mg "int" = none
  str : mg "str" = none
  bool : mg "bool" = none
  abs : mg "abs" = none
  sum : mg "sum" = none
  max : mg "max" = none
  min : mg "min" = none
  enum : mg "enumerate" = none
  all : mg "all" = none
  any : mg "any" = none
/-- a global that is a value -/
structure Glo (K : PySem.W.Frag) (mg : Str → Option Value) (x : Str) (d : D) : Prop where
  ex : ∃ (u : Value) (v : V), mg x = some u ∧ RelV v u ∧ ∀ (P : Program) (w : World) (m : List Addr) (H : Hp), Rp ⟨P, w, K⟩ m H v d
section
variable {X : Cx}
theorem aj_glo {x : Str} {d : D} {pos : Pos} (h : Glo X.K X.mg x d) (hg : Gl X x := by rfl) (hd : (x == ("__debug__" : Str)) = false := by decide) : PE X (.Name x pos) (liftE (gX X) (aC d)) := by
  obtain ⟨u, v, h1, h2, h3⟩ := h.ex
  exact aj_c (pe_glob hg h1 h2 hd) fun m H => h3 _ _ m H
theorem aj_fn {x : Str} {p pos : Pos} {e : Expr} {es : List Expr} {k : Nat} {sp : ASp} {l : AL} (F : Fnc (gX X) X.mg X.base k x sp) (hr : Room k X.A) (ha : PA X (e :: es) (liftL (gX X) l)) (hg : Gl X x := by rfl)
    (hdb : (x == ("__debug__" : Str)) = false := by decide) (he : starEach (e :: es) X.env = (false, eval e X.env) :: starEach es X.env := by rfl) (hpl : (backTo pos (starEach es X.env)).any (·.1) = false := by rfl) :
    PE X (.Call (.Name x p) (e :: es) [] pos) (liftE (gX X) (aCall sp l)) := by
  obtain ⟨f, fd, ps, h1, h2, h3, h4⟩ := F.ex
  exact aj_call h1 hr hg h2 h3 h4 ha hdb he hpl
end

/-! ### defs -/
section
variable {P : Program} {w : World} {K : PySem.W.Frag} {mg : Str → Option Value} {base : Heap}
/-- what a def's body is shown to be -/
abbrev Bod (P : Program) (w : World) (K : PySem.W.Frag) (mg : Str → Option Value) (base : Heap) (k : Nat) (N : List Str) (qual : Str) (st : Stmt) (b : AS) : Prop :=
  ∀ (cdv : Value) (A : Around) (outer : List PySem.Env) (s : Shared) (H : Hp) (f : Addr) (E : XK), Room k (A.deeper (envOfC qual (defScope st) s.heap.objs.size f cdv)) → PSs (cxOf CX0 P w K mg base N qual (defScope st) f cdv A outer s H E).nox (defBody st) (liftS (gX (cxOf CX0 P w K mg base N qual (defScope st) f cdv A outer s H E).nox) b)
theorem fn_ab {x qual : Str} {st : Stmt} {f : Addr} {fd : FuncData} {N ps : List Str} {k : Nat} {b : AS} {sp : ASp} (F : Fun K x qual st f fd) (S : FnScope N ps (defScope st)) (hl : ∀ ds st' QA, sp ds st' QA → ds.length = ps.length)
    (hd : Bod P w K mg base k N qual st b) (hs : ∀ ds st' QA, sp ds st' QA → runDef N.length b ds st' QA) : FnOk P w K mg base CX0 (k + 1) f fd ps (liftP ⟨P, w, K⟩ sp) := by
  refine F.ok S (fun vs H Q E h => ?_) (fun cdv A outer s H vs Q E hr h => ?_)
  · obtain ⟨m, st', ds, QA, R, r, q, c⟩ := h
    rw [r.length]
    exact hl _ _ _ q
  · obtain ⟨m, st', ds, QA, R, r, q, c⟩ := h
    refine ⟨_, hd cdv A outer s H f E hr, m, st', ds.map some ++ List.replicate (N.length - ds.length) none, _, R, ⟨?_, fun i d e => ?_⟩, hs _ _ _ q, ⟨fun env' st2 σ' m' H' E' R' re' q' => c _ _ _ _ _ E' R' .non q', fun _ _ _ _ _ _ _ _ q' => q'.elim, fun _ _ _ _ _ _ _ _ q' => q'.elim, c⟩⟩
    · unfold L2.start
      simp [r.length]
    · have hi : i < ds.length := by
        by_cases hi : i < ds.length
        · exact hi
        · rw [List.getElem?_append_right (by simpa using Nat.le_of_not_lt hi), List.getElem?_replicate] at e
          split at e <;> cases e
      rw [List.getElem?_append_left (by simpa using hi), List.getElem?_map] at e
      obtain ⟨d', e1, e2⟩ := Option.map_eq_some_iff.mp e
      cases e2
      obtain ⟨v, e3, e4⟩ := r.get e1
      refine ⟨v, ?_, e4⟩
      unfold L2.start
      rw [List.getElem?_append_left (by rw [List.length_map, r.length]; exact hi), List.getElem?_map, e3]
      rfl
theorem Fnc.of {x qual : Str} {st : Stmt} {f : Addr} {fd : FuncData} {N ps : List Str} {k : Nat} {b : AS} {sp : ASp} (F : Fun K x qual st f fd) (hm : mg x = some (.ref f)) (hb : Binds K fd ps []) (S : FnScope N ps (defScope st)) (hl : ∀ ds st' QA, sp ds st' QA → ds.length = ps.length)
    (hd : Bod P w K mg base k N qual st b) (hs : ∀ ds st' QA, sp ds st' QA → runDef N.length b ds st' QA) : Fnc ⟨P, w, K⟩ mg base (k + 1) x sp := ⟨f, fd, ps, fn_ab F S hl hd hs, hm, F.kp, hb⟩
theorem Fnc.mono {g : G} {mg : Str → Option Value} {base : Heap} {j k : Nat} {x : Str} {sp : ASp} (F : Fnc g mg base j x sp) (h : j ≤ k) : Fnc g mg base k x sp := by
  obtain ⟨f, fd, ps, h1, h2⟩ := F.ex
  exact ⟨f, fd, ps, h1.mono h, h2⟩
theorem Fnc.imp {g : G} {mg : Str → Option Value} {base : Heap} {k : Nat} {x : Str} {sp sp' : ASp} (F : Fnc g mg base k x sp) (h : ∀ ds st Q, sp' ds st Q → sp ds st Q) : Fnc g mg base k x sp' := by
  obtain ⟨f, fd, ps, h1, h2⟩ := F.ex
  exact ⟨f, fd, ps, h1.imp fun vs H Q E ⟨m, st, ds, QA, R, r, q, c⟩ => ⟨m, st, ds, QA, R, r, h _ _ _ q, c⟩, h2⟩
end
end Ab

set_option Elab.async false
set_option linter.all false
set_option maxRecDepth 100000
set_option maxHeartbeats 4000000
/-! Printed by gen.py: the defs of the program, as the pure machine reads them. -/
namespace Ab
open PySem PySem.Spec PyProof.Rows L2
def topS (i : Nat) : Stmt := PySem.Challenge.pw_wholewalks_k51_whole_fewest_hands.main.body.getD i (.Pass ⟨0, 0, 0, 0⟩)
def clsBody : Stmt → List Stmt
  | .ClassDef _ _ _ b _ _ _ _ _ _ _ => b
  | _ => []
def inS (i j : Nat) : Stmt := (clsBody (topS i)).getD j (.Pass ⟨0, 0, 0, 0⟩)
abbrev fieldNames : List Str := ["rows", "letters", "table", "kept_phases"]
section
variable {P : Program} {w : World} {K : PySem.W.Frag} {mg : Str → Option Value} {base : Heap} {k : Nat}

abbrev t_is_integer : Stmt := topS 8
abbrev n_is_integer : List Str := ["thing"]
theorem sc_is_integer : FnScope n_is_integer ["thing"] (defScope t_is_integer) := ⟨rfl, rfl, rfl, by decide +kernel, rfl, by decide +kernel, by decide +kernel⟩
def b_is_integer : AS :=
 (aRet (aAndV (aO1 (pIsi .int) (aVar 0)) (aNotV (aO1 (pIsi .bool) (aVar 0)))))
theorem d_is_integer (B : Blt mg) : Bod P w K mg base k n_is_integer "is_integer" t_is_integer (b_is_integer) := fun cdv A outer s H f E hr => by
  have hN := sc_is_integer.nd
  exact (ass_one (as_ret (aj_and (aj_isi (k := .int) rfl B.isin rfl B.int rfl (aj_var (pv 0))) (aj_one (aj_not (aj_isi (k := .bool) rfl B.isin rfl B.bool rfl (aj_var (pv 0))))))))
abbrev t_is_within : Stmt := topS 9
abbrev n_is_within : List Str := ["thing", "least", "most"]
theorem sc_is_within : FnScope n_is_within ["thing", "least", "most"] (defScope t_is_within) := ⟨rfl, rfl, rfl, by decide +kernel, rfl, by decide +kernel, by decide +kernel⟩
def b_is_within (s_is_integer : ASp) : AS :=
 (aRet (aAndV (aCall s_is_integer (alCons (aVar 0) alNil)) (aChain pLe pLe (aVar 1) (aVar 0) (aVar 2))))
theorem d_is_within {s_is_integer : ASp} (F_is_integer : Fnc ⟨P, w, K⟩ mg base k "is_integer" s_is_integer) : Bod P w K mg base k n_is_within "is_within" t_is_within (b_is_within s_is_integer) := fun cdv A outer s H f E hr => by
  have hN := sc_is_within.nd
  exact (ass_one (as_ret (aj_and (aj_fn F_is_integer hr (aja_cons (aj_var (pv 0)) aja_nil)) (aj_one (aj_chain op_le so_cmp op_le so_cmp (aj_var (pv 1)) (aj_var (pv 0)) (aj_var (pv 2)))))))
abbrev t_is_string_of : Stmt := topS 10
abbrev n_is_string_of : List Str := ["thing", "signs", "sign"]
theorem sc_is_string_of : FnScope n_is_string_of ["thing", "signs"] (defScope t_is_string_of) := ⟨rfl, rfl, rfl, by decide +kernel, rfl, by decide +kernel, by decide +kernel⟩
def b_is_string_of : AS :=
 (aSeq (aIf (atNot (atB (aO1 (pIsi .str) (aVar 0))))
 (aRet (aC (.bl false)))
 aNext)
 (aSeq (aForU (aVar 0) (.nm 2)
 (aIf (atB (aO2 pNotIn (aVar 2) (aVar 1)))
 (aRet (aC (.bl false)))
 aNext))
 (aRet (aC (.bl true)))))
theorem d_is_string_of (B : Blt mg) : Bod P w K mg base k n_is_string_of "is_string_of" t_is_string_of (b_is_string_of) := fun cdv A outer s H f E hr => by
  have hN := sc_is_string_of.nd
  exact (ass_cons (as_if (ajt_not (ajt_val (aj_isi (k := .str) rfl B.isin rfl B.str rfl (aj_var (pv 0)))))
 (ass_one (as_ret aj_bl))
 ass_nil)
 (ass_cons (as_forU (p := (.nm 2)) PassesOwn.never rfl (aj_var (pv 0)) (pg_name (i := 2) hN rfl (by first | exact Or.inl rfl | exact Or.inr rfl))
 (ass_one (as_if (ajt_cmp (op_notIn3 hr.units) so_in (aj_var (pv 2)) (aj_var (pv 1)) rfl)
 (ass_one (as_ret aj_bl))
 ass_nil)))
 (ass_one (as_ret aj_bl))))
abbrev t_is_word : Stmt := topS 11
abbrev n_is_word : List Str := ["thing"]
theorem sc_is_word : FnScope n_is_word ["thing"] (defScope t_is_word) := ⟨rfl, rfl, rfl, by decide +kernel, rfl, by decide +kernel, by decide +kernel⟩
def b_is_word (s_is_string_of : ASp) : AS :=
 (aRet (aAndV (aCall s_is_string_of (alCons (aVar 0) (alCons (aC (.str "abcdefghijklmnopqrstuvwxyz")) alNil))) (aChain pLe pLe (aC (.int 1)) (aO1 pLen (aVar 0)) (aC (.int 8)))))
theorem d_is_word {s_is_string_of : ASp} (B : Blt mg) (hSMALL : Glo K mg "SMALL" (.str "abcdefghijklmnopqrstuvwxyz")) (F_is_string_of : Fnc ⟨P, w, K⟩ mg base k "is_string_of" s_is_string_of) : Bod P w K mg base k n_is_word "is_word" t_is_word (b_is_word s_is_string_of) := fun cdv A outer s H f E hr => by
  have hN := sc_is_word.nd
  exact (ass_one (as_ret (aj_and (aj_fn F_is_string_of hr (aja_cons (aj_var (pv 0)) (aja_cons (aj_glo hSMALL) aja_nil))) (aj_one (aj_chain op_le so_cmp op_le so_cmp aj_int (aj_bi1 cr_len2 sc_len rfl B.len rfl (aj_var (pv 0))) aj_int)))))
abbrev t_are_nexts : Stmt := topS 17
abbrev n_are_nexts : List Str := ["thing", "letters", "many", "standing"]
theorem sc_are_nexts : FnScope n_are_nexts ["thing", "letters", "many"] (defScope t_are_nexts) := ⟨rfl, rfl, rfl, by decide +kernel, rfl, by decide +kernel, by decide +kernel⟩
def b_are_nexts (s_is_within : ASp) : AS :=
 (aSeq (aIf (atOr (atNot (atB (aO1 (pIsi .tuple) (aVar 0)))) (atB (aO2 pNe (aO1 pLen (aVar 0)) (aO2 pAdd (aVar 1) (aC (.int 1))))))
 (aRet (aC (.bl false)))
 aNext)
 (aRet (aO1 pAll (aLcU (aVar 0) (.nm 3) atYes (aCall s_is_within (alCons (aVar 3) (alCons (aC (.int 0)) (alCons (aO2 pSub (aVar 2) (aC (.int 1))) alNil)))) [3]))))
theorem d_are_nexts {s_is_within : ASp} (B : Blt mg) (F_is_within : Fnc ⟨P, w, K⟩ mg base k "is_within" s_is_within) : Bod P w K mg base k n_are_nexts "are_nexts" t_are_nexts (b_are_nexts s_is_within) := fun cdv A outer s H f E hr => by
  have hN := sc_are_nexts.nd
  exact (ass_cons (as_if (PW.pt (ajw_or (ajt_not (ajt_val (aj_isi (k := .tuple) rfl B.isin rfl B.tuple rfl (aj_var (pv 0))))) (ajw_or1 (ajt_cmp (op_ne2 hr.units) so_ne (aj_bi1 cr_len2 sc_len rfl B.len rfl (aj_var (pv 0))) (aj_bin op_add3 so_add (aj_var (pv 1)) aj_int) (nomark _)))))
 (ass_one (as_ret aj_bl))
 ass_nil)
 (ass_one (as_ret (aj_bi1 (cr_all rfl) sc_all rfl B.all rfl (aj_lcU (own := [("standing", 3)]) ⟨rfl, hN, blkOk_by (by kernel_rfl)⟩ (by decide) (aj_var (pv 0)) (fun _ _ _ _ _ => (pg_name (i := 3) hN rfl (by first | exact Or.inl rfl | exact Or.inr rfl))) (fun _ _ _ _ _ => pts0) (fun _ _ _ _ _ => (aj_fn F_is_within hr (aja_cons (aj_var (pv 3)) (aja_cons aj_int (aja_cons (aj_bin op_sub so_sub (aj_var (pv 2)) aj_int) aja_nil))))))))))
abbrev t_is_say : Stmt := topS 18
abbrev n_is_say : List Str := ["thing", "many"]
theorem sc_is_say : FnScope n_is_say ["thing", "many"] (defScope t_is_say) := ⟨rfl, rfl, rfl, by decide +kernel, rfl, by decide +kernel, by decide +kernel⟩
def b_is_say (s_is_within : ASp) (s_is_word : ASp) : AS :=
 (aRet (aAndV (aO2 pEq (aO1 pLen (aVar 0)) (aC (.int 3))) (aAndV (aCall s_is_word (alCons (aO2 pIx (aVar 0) (aC (.int 1))) alNil)) (aCall s_is_within (alCons (aO2 pIx (aVar 0) (aC (.int 2))) (alCons (aC (.int 0)) (alCons (aO2 pSub (aVar 1) (aC (.int 1))) alNil)))))))
theorem d_is_say {s_is_within : ASp} {s_is_word : ASp} (B : Blt mg) (F_is_within : Fnc ⟨P, w, K⟩ mg base k "is_within" s_is_within) (F_is_word : Fnc ⟨P, w, K⟩ mg base k "is_word" s_is_word) : Bod P w K mg base k n_is_say "is_say" t_is_say (b_is_say s_is_within s_is_word) := fun cdv A outer s H f E hr => by
  have hN := sc_is_say.nd
  exact (ass_one (as_ret (aj_and (aj_cmp (op_eq2 hr.units) so_eq (aj_bi1 cr_len2 sc_len rfl B.len rfl (aj_var (pv 0))) aj_int (nomark _)) (aj_and (aj_fn F_is_word hr (aja_cons (aj_ix (ix_4 hr.units) so_ix (aj_var (pv 0)) aj_int (fun _ _ => rfl)) aja_nil)) (aj_one (aj_fn F_is_within hr (aja_cons (aj_ix (ix_4 hr.units) so_ix (aj_var (pv 0)) aj_int (fun _ _ => rfl)) (aja_cons aj_int (aja_cons (aj_bin op_sub so_sub (aj_var (pv 1)) aj_int) aja_nil)))))))))
abbrev t_is_item : Stmt := topS 19
abbrev n_is_item : List Str := ["thing", "rows", "letters", "many"]
theorem sc_is_item : FnScope n_is_item ["thing", "rows", "letters", "many"] (defScope t_is_item) := ⟨rfl, rfl, rfl, by decide +kernel, rfl, by decide +kernel, by decide +kernel⟩
def b_is_item (s_are_nexts : ASp) (s_is_within : ASp) (s_is_say : ASp) : AS :=
 (aSeq (aIf (atOr (atNot (atB (aO1 (pIsi .tuple) (aVar 0)))) (atOr (atB (aO2 pEq (aO1 pLen (aVar 0)) (aC (.int 0)))) (atNot (atB (aO1 (pIsi .str) (aO2 pIx (aVar 0) (aC (.int 0))))))))
 (aRet (aC (.bl false)))
 aNext)
 (aSeq (aIf (atB (aO2 pEq (aO2 pIx (aVar 0) (aC (.int 0))) (aC (.str "look"))))
 (aRet (aAndV (aO2 pEq (aO1 pLen (aVar 0)) (aC (.int 3))) (aAndV (aCall s_is_within (alCons (aO2 pIx (aVar 0) (aC (.int 1))) (alCons (aC (.int 0)) (alCons (aO2 pSub (aVar 1) (aC (.int 1))) alNil)))) (aCall s_are_nexts (alCons (aO2 pIx (aVar 0) (aC (.int 2))) (alCons (aVar 2) (alCons (aVar 3) alNil)))))))
 aNext)
 (aSeq (aIf (atB (aO2 pEq (aO2 pIx (aVar 0) (aC (.int 0))) (aC (.str "say"))))
 (aRet (aCall s_is_say (alCons (aVar 0) (alCons (aVar 3) alNil))))
 aNext)
 (aRet (aO2 pEq (aVar 0) (aTup (alCons (aC (.str "stop")) alNil)))))))
theorem d_is_item {s_are_nexts : ASp} {s_is_within : ASp} {s_is_say : ASp} (B : Blt mg) (F_are_nexts : Fnc ⟨P, w, K⟩ mg base k "are_nexts" s_are_nexts) (F_is_within : Fnc ⟨P, w, K⟩ mg base k "is_within" s_is_within) (F_is_say : Fnc ⟨P, w, K⟩ mg base k "is_say" s_is_say) : Bod P w K mg base k n_is_item "is_item" t_is_item (b_is_item s_are_nexts s_is_within s_is_say) := fun cdv A outer s H f E hr => by
  have hN := sc_is_item.nd
  exact (ass_cons (as_if (PW.pt (ajw_or (ajt_not (ajt_val (aj_isi (k := .tuple) rfl B.isin rfl B.tuple rfl (aj_var (pv 0))))) (ajw_or (ajt_cmp (op_eq2 hr.units) so_eq (aj_bi1 cr_len2 sc_len rfl B.len rfl (aj_var (pv 0))) aj_int (nomark _)) (ajw_or1 (ajt_not (ajt_val (aj_isi (k := .str) rfl B.isin rfl B.str rfl (aj_ix (ix_4 hr.units) so_ix (aj_var (pv 0)) aj_int (fun _ _ => rfl)))))))))
 (ass_one (as_ret aj_bl))
 ass_nil)
 (ass_cons (as_if (ajt_cmp (op_eq2 hr.units) so_eq (aj_ix (ix_4 hr.units) so_ix (aj_var (pv 0)) aj_int (fun _ _ => rfl)) aj_str (nomark _))
 (ass_one (as_ret (aj_and (aj_cmp (op_eq2 hr.units) so_eq (aj_bi1 cr_len2 sc_len rfl B.len rfl (aj_var (pv 0))) aj_int (nomark _)) (aj_and (aj_fn F_is_within hr (aja_cons (aj_ix (ix_4 hr.units) so_ix (aj_var (pv 0)) aj_int (fun _ _ => rfl)) (aja_cons aj_int (aja_cons (aj_bin op_sub so_sub (aj_var (pv 1)) aj_int) aja_nil)))) (aj_one (aj_fn F_are_nexts hr (aja_cons (aj_ix (ix_4 hr.units) so_ix (aj_var (pv 0)) aj_int (fun _ _ => rfl)) (aja_cons (aj_var (pv 2)) (aja_cons (aj_var (pv 3)) aja_nil)))))))))
 ass_nil)
 (ass_cons (as_if (ajt_cmp (op_eq2 hr.units) so_eq (aj_ix (ix_4 hr.units) so_ix (aj_var (pv 0)) aj_int (fun _ _ => rfl)) aj_str (nomark _))
 (ass_one (as_ret (aj_fn F_is_say hr (aja_cons (aj_var (pv 0)) (aja_cons (aj_var (pv 3)) aja_nil)))))
 ass_nil)
 (ass_one (as_ret (aj_cmp (op_eq2 hr.units) so_eq (aj_var (pv 0)) (aj_tup (aja_cons aj_str aja_nil)) (nomark _)))))))
abbrev t_with_row : Stmt := topS 20
abbrev n_with_row : List Str := ["ended", "row"]
theorem sc_with_row : FnScope n_with_row ["ended", "row"] (defScope t_with_row) := ⟨rfl, rfl, rfl, by decide +kernel, rfl, by decide +kernel, by decide +kernel⟩
def b_with_row : AS :=
 (aRet (aO1 pTuple (aO1 pSorted (aO2 pAdd (aVar 0) (aTup (alCons (aVar 1) alNil))))))
theorem d_with_row (B : Blt mg) : Bod P w K mg base k n_with_row "with_row" t_with_row (b_with_row) := fun cdv A outer s H f E hr => by
  have hN := sc_with_row.nd
  exact (ass_one (as_ret (aj_ty1 call_tuple_of sc_tuple rfl B.tuple rfl (aj_bi1 (cr_sorted rfl) (sc_sorted hr.units) rfl B.sorted rfl (aj_bin op_add3 so_add (aj_var (pv 0)) (aj_tup (aja_cons (aj_var (pv 1)) aja_nil)))))))
abbrev t_steps_of : Stmt := topS 21
abbrev n_steps_of : List Str := ["letters", "table", "phase", "standing", "ended", "item", "found", "k"]
theorem sc_steps_of : FnScope n_steps_of ["letters", "table", "phase"] (defScope t_steps_of) := ⟨rfl, rfl, rfl, by decide +kernel, rfl, by decide +kernel, by decide +kernel⟩
def b_steps_of (s_with_row : ASp) : AS :=
 (aSeq (aAsg (aVar 2) (agTup (agNm 3) (agNm 4)))
 (aSeq (aAsg (aO2 pIx (aVar 1) (aVar 3)) (agNm 5))
 (aSeq (aIf (atB (aO2 pEq (aO2 pIx (aVar 5) (aC (.int 0))) (aC (.str "stop"))))
 (aRet (aLst alNil))
 aNext)
 (aSeq (aIf (atB (aO2 pEq (aO2 pIx (aVar 5) (aC (.int 0))) (aC (.str "say"))))
 (aRet (aLst (alCons (aTup (alCons (aC .non) (alCons (aTup (alCons (aO2 pIx (aVar 5) (aC (.int 2))) (alCons (aVar 4) alNil))) alNil))) alNil)))
 aNext)
 (aSeq (aIf (atB (aO2 pIn (aO2 pIx (aVar 5) (aC (.int 1))) (aVar 4)))
 (aRet (aLst (alCons (aTup (alCons (aC .non) (alCons (aTup (alCons (aO2 pIx (aO2 pIx (aVar 5) (aC (.int 2))) (aO1 pNeg (aC (.int 1)))) (alCons (aVar 4) alNil))) alNil))) alNil)))
 aNext)
 (aSeq (aAsg (aLc (sRng1 (alCons (aVar 0) alNil)) (.nm 7) atYes (aTup (alCons (aO2 pIx (aC (.str "abc")) (aVar 7)) (alCons (aTup (alCons (aO2 pIx (aO2 pIx (aVar 5) (aC (.int 2))) (aVar 7)) (alCons (aVar 4) alNil))) alNil))) [7]) (agNm 6))
 (aSeq (aExp (aM1 pAppend (aVar 6) (aTup (alCons (aC (.str "end")) (alCons (aTup (alCons (aO2 pIx (aO2 pIx (aVar 5) (aC (.int 2))) (aO1 pNeg (aC (.int 1)))) (alCons (aCall s_with_row (alCons (aVar 4) (alCons (aO2 pIx (aVar 5) (aC (.int 1))) alNil))) alNil))) alNil)))))
 (aRet (aVar 6)))))))))
theorem d_steps_of {s_with_row : ASp} (B : Blt mg) (hLETTERS : Glo K mg "LETTERS" (.str "abc")) (hEND : Glo K mg "END" (.str "end")) (F_with_row : Fnc ⟨P, w, K⟩ mg base k "with_row" s_with_row) : Bod P w K mg base k n_steps_of "steps_of" t_steps_of (b_steps_of s_with_row) := fun cdv A outer s H f E hr => by
  have hN := sc_steps_of.nd
  exact (ass_cons (as_asg (aj_var (pv 2)) (ag_tup rfl (ag_nm (pg_name (i := 3) hN rfl (by first | exact Or.inl rfl | exact Or.inr rfl))) (ag_nm (pg_name (i := 4) hN rfl (by first | exact Or.inl rfl | exact Or.inr rfl)))))
 (ass_cons (as_asg (aj_ix (ix_4 hr.units) so_ix (aj_var (pv 1)) (aj_var (pv 3)) (fun _ _ => rfl)) (ag_nm (pg_name (i := 5) hN rfl (by first | exact Or.inl rfl | exact Or.inr rfl))))
 (ass_cons (as_if (ajt_cmp (op_eq2 hr.units) so_eq (aj_ix (ix_4 hr.units) so_ix (aj_var (pv 5)) aj_int (fun _ _ => rfl)) aj_str (nomark _))
 (ass_one (as_ret (aj_lst aja_nil)))
 ass_nil)
 (ass_cons (as_if (ajt_cmp (op_eq2 hr.units) so_eq (aj_ix (ix_4 hr.units) so_ix (aj_var (pv 5)) aj_int (fun _ _ => rfl)) aj_str (nomark _))
 (ass_one (as_ret (aj_lst (aja_cons (aj_tup (aja_cons aj_non (aja_cons (aj_tup (aja_cons (aj_ix (ix_4 hr.units) so_ix (aj_var (pv 5)) aj_int (fun _ _ => rfl)) (aja_cons (aj_var (pv 4)) aja_nil))) aja_nil))) aja_nil))))
 ass_nil)
 (ass_cons (as_if (ajt_cmp (op_in3 hr.units) so_in (aj_ix (ix_4 hr.units) so_ix (aj_var (pv 5)) aj_int (fun _ _ => rfl)) (aj_var (pv 4)) rfl)
 (ass_one (as_ret (aj_lst (aja_cons (aj_tup (aja_cons aj_non (aja_cons (aj_tup (aja_cons (aj_ix (ix_4 hr.units) so_ix (aj_ix (ix_4 hr.units) so_ix (aj_var (pv 5)) aj_int (fun _ _ => rfl)) (aj_un un_neg so_neg aj_int) (fun _ _ => rfl)) (aja_cons (aj_var (pv 4)) aja_nil))) aja_nil))) aja_nil))))
 ass_nil)
 (ass_cons (as_setLc (own := [("k", 7)]) (i := 6) ⟨rfl, hN, blkOk_by (by kernel_rfl)⟩ (by decide) rfl rfl (sw_true rfl rfl rfl (by decide +kernel)) (ai_range1 rfl B.range (aja_cons (aj_var (pv 0)) aja_nil)) (fun _ _ _ _ _ => (pg_name (i := 7) hN rfl (by first | exact Or.inl rfl | exact Or.inr rfl))) (fun _ _ _ _ _ => pts0) (fun _ _ _ _ _ => (aj_tup (aja_cons (aj_ix (ix_4 hr.units) so_ix (aj_glo hLETTERS) (aj_var (pv 7)) (fun _ _ => rfl)) (aja_cons (aj_tup (aja_cons (aj_ix (ix_4 hr.units) so_ix (aj_ix (ix_4 hr.units) so_ix (aj_var (pv 5)) aj_int (fun _ _ => rfl)) (aj_var (pv 7)) (fun _ _ => rfl)) (aja_cons (aj_var (pv 4)) aja_nil))) aja_nil)))))
 (ass_cons (as_expr (aj_m1 PySem.F.plainAttrs_list PySem.F.slot_list_append PySem.F.type_list_append mt_append sm_append (aj_var (pv 6)) (aj_tup (aja_cons (aj_glo hEND) (aja_cons (aj_tup (aja_cons (aj_ix (ix_4 hr.units) so_ix (aj_ix (ix_4 hr.units) so_ix (aj_var (pv 5)) aj_int (fun _ _ => rfl)) (aj_un un_neg so_neg aj_int) (fun _ _ => rfl)) (aja_cons (aj_fn F_with_row hr (aja_cons (aj_var (pv 4)) (aja_cons (aj_ix (ix_4 hr.units) so_ix (aj_var (pv 5)) aj_int (fun _ _ => rfl)) aja_nil))) aja_nil))) aja_nil)))))
 (ass_one (as_ret (aj_var (pv 6)))))))))))
abbrev t_all_steps : Stmt := topS 22
abbrev n_all_steps : List Str := ["letters", "table", "found", "waiting", "phase", "step"]
theorem sc_all_steps : FnScope n_all_steps ["letters", "table"] (defScope t_all_steps) := ⟨rfl, rfl, rfl, by decide +kernel, rfl, by decide +kernel, by decide +kernel⟩
def b_all_steps (s_steps_of : ASp) : AS :=
 (aSeq (aAsg aDNew (agNm 2))
 (aSeq (aAsg (aLst (alCons (aC (.tup [.int 0, .tup []])) alNil)) (agNm 3))
 (aSeq (aWhile (atB (aO2 pGt (aO1 pLen (aVar 3)) (aC (.int 0))))
 (aSeq (aAsg (aO1 pPop (aVar 3)) (agNm 4))
 (aIf (atB (aO2 pNotIn (aVar 4) (aVar 2)))
 (aSeq (aAsg (aCall s_steps_of (alCons (aVar 0) (alCons (aVar 1) (alCons (aVar 4) alNil)))) (agSub (aVar 2) (aVar 4)))
 (aExp (aM1 pExtend (aVar 3) (aLcU (aO2 pIx (aVar 2) (aVar 4)) (.nm 5) atYes (aO2 pIx (aVar 5) (aC (.int 1))) [5]))))
 aNext)))
 (aRet (aVar 2)))))
theorem d_all_steps {s_steps_of : ASp} (B : Blt mg) (hFIRST_PHASE : Glo K mg "FIRST_PHASE" (.tup [.int 0, .tup []])) (F_steps_of : Fnc ⟨P, w, K⟩ mg base k "steps_of" s_steps_of) : Bod P w K mg base k n_all_steps "all_steps" t_all_steps (b_all_steps s_steps_of) := fun cdv A outer s H f E hr => by
  have hN := sc_all_steps.nd
  exact (ass_cons (as_asg aj_dnew (ag_nm (pg_name (i := 2) hN rfl (by first | exact Or.inl rfl | exact Or.inr rfl))))
 (ass_cons (as_asg (aj_lst (aja_cons (aj_glo hFIRST_PHASE) aja_nil)) (ag_nm (pg_name (i := 3) hN rfl (by first | exact Or.inl rfl | exact Or.inr rfl))))
 (ass_cons (as_while PassesOwn.never (ajt_cmp op_gt so_cmp (aj_bi1 cr_len2 sc_len rfl B.len rfl (aj_var (pv 3))) aj_int (nomark _))
 (ass_cons (as_asg (aj_m0 PySem.F.plainAttrs_list PySem.F.slot_list_pop PySem.F.type_list_pop mt_pop sm_pop (aj_var (pv 3))) (ag_nm (pg_name (i := 4) hN rfl (by first | exact Or.inl rfl | exact Or.inr rfl))))
 (ass_one (as_if (ajt_cmp (op_notIn3 hr.units) so_in (aj_var (pv 4)) (aj_var (pv 2)) rfl)
 (ass_cons (as_asg (aj_fn F_steps_of hr (aja_cons (aj_var (pv 0)) (aja_cons (aj_var (pv 1)) (aja_cons (aj_var (pv 4)) aja_nil)))) (ag_sub (aj_var (pv 2)) (aj_var (pv 4)) (set_3 hr.units) so_set))
 (ass_one (as_expr (aj_m1 PySem.F.plainAttrs_list PySem.F.slot_list_extend PySem.F.type_list_extend mt_extend sm_extend (aj_var (pv 3)) (aj_lcU (own := [("step", 5)]) ⟨rfl, hN, blkOk_by (by kernel_rfl)⟩ (by decide) (aj_ix (ix_4 hr.units) so_ix (aj_var (pv 2)) (aj_var (pv 4)) (fun _ _ => rfl)) (fun _ _ _ _ _ => (pg_name (i := 5) hN rfl (by first | exact Or.inl rfl | exact Or.inr rfl))) (fun _ _ _ _ _ => pts0) (fun _ _ _ _ _ => (aj_ix (ix_4 hr.units) so_ix (aj_var (pv 5)) aj_int (fun _ _ => rfl))))))))
 ass_nil))))
 (ass_one (as_ret (aj_var (pv 2)))))))
abbrev t_idle_ring : Stmt := topS 23
abbrev n_idle_ring : List Str := ["kept", "safe", "begin", "way", "phase", "steps", "other"]
theorem sc_idle_ring : FnScope n_idle_ring ["kept"] (defScope t_idle_ring) := ⟨rfl, rfl, rfl, by decide +kernel, rfl, by decide +kernel, by decide +kernel⟩
def b_idle_ring : AS :=
 (aSeq (aAsg aDNew (agNm 1))
 (aSeq (aForU (aO1 pSorted (aVar 0)) (.nm 2)
 (aSeq (aAsg aDNew (agNm 3))
 (aSeq (aAsg (aVar 2) (agNm 4))
 (aSeq (aWhile (atAnd (atB (aO2 pIsNot (aVar 4) (aC .non))) (atAnd (atB (aO2 pNotIn (aVar 4) (aVar 1))) (atB (aO2 pNotIn (aVar 4) (aVar 3)))))
 (aSeq (aAsg (aO1 pLen (aVar 3)) (agSub (aVar 3) (aVar 4)))
 (aSeq (aAsg (aO2 pIx (aVar 0) (aVar 4)) (agNm 5))
 (aAsg (aIfE (atAnd (atB (aO2 pEq (aO1 pLen (aVar 5)) (aC (.int 1)))) (atB (aO2 pIs (aO2 pIx (aO2 pIx (aVar 5) (aC (.int 0))) (aC (.int 0))) (aC .non)))) (aO2 pIx (aO2 pIx (aVar 5) (aC (.int 0))) (aC (.int 1))) (aC .non)) (agNm 4)))))
 (aSeq (aIf (atAnd (atB (aO2 pIsNot (aVar 4) (aC .non))) (atB (aO2 pIn (aVar 4) (aVar 3))))
 (aRet (aO1 pTuple (aLcU (aVar 3) (.nm 6) (atB (aO2 pGe (aO2 pIx (aVar 3) (aVar 6)) (aO2 pIx (aVar 3) (aVar 4)))) (aVar 6) [6])))
 aNext)
 (aExp (aUpd (aVar 1) (aVar 3))))))))
 (aRet (aC .non))))
theorem d_idle_ring (B : Blt mg) : Bod P w K mg base k n_idle_ring "idle_ring" t_idle_ring (b_idle_ring) := fun cdv A outer s H f E hr => by
  have hN := sc_idle_ring.nd
  exact (ass_cons (as_asg aj_dnew (ag_nm (pg_name (i := 1) hN rfl (by first | exact Or.inl rfl | exact Or.inr rfl))))
 (ass_cons (as_forU (p := (.nm 2)) PassesOwn.never rfl (aj_bi1 (cr_sorted rfl) (sc_sorted hr.units) rfl B.sorted rfl (aj_var (pv 0))) (pg_name (i := 2) hN rfl (by first | exact Or.inl rfl | exact Or.inr rfl))
 (ass_cons (as_asg aj_dnew (ag_nm (pg_name (i := 3) hN rfl (by first | exact Or.inl rfl | exact Or.inr rfl))))
 (ass_cons (as_asg (aj_var (pv 2)) (ag_nm (pg_name (i := 4) hN rfl (by first | exact Or.inl rfl | exact Or.inr rfl))))
 (ass_cons (as_while PassesOwn.never (PW.pt (ajw_and (ajt_cmp op_isNot2 so_isNot (aj_var (pv 4)) aj_non (nomark _)) (ajw_and (ajt_cmp (op_notIn3 hr.units) so_in (aj_var (pv 4)) (aj_var (pv 1)) rfl) (ajw_and1 (ajt_cmp (op_notIn3 hr.units) so_in (aj_var (pv 4)) (aj_var (pv 3)) rfl)))))
 (ass_cons (as_asg (aj_bi1 cr_len2 sc_len rfl B.len rfl (aj_var (pv 3))) (ag_sub (aj_var (pv 3)) (aj_var (pv 4)) (set_3 hr.units) so_set))
 (ass_cons (as_asg (aj_ix (ix_4 hr.units) so_ix (aj_var (pv 0)) (aj_var (pv 4)) (fun _ _ => rfl)) (ag_nm (pg_name (i := 5) hN rfl (by first | exact Or.inl rfl | exact Or.inr rfl))))
 (ass_one (as_asg (aj_ifE (PW.pt (ajw_and (ajt_cmp (op_eq2 hr.units) so_eq (aj_bi1 cr_len2 sc_len rfl B.len rfl (aj_var (pv 5))) aj_int (nomark _)) (ajw_and1 (ajt_cmp op_isN so_is (aj_ix (ix_4 hr.units) so_ix (aj_ix (ix_4 hr.units) so_ix (aj_var (pv 5)) aj_int (fun _ _ => rfl)) aj_int (fun _ _ => rfl)) aj_non (nomark _))))) (aj_ix (ix_4 hr.units) so_ix (aj_ix (ix_4 hr.units) so_ix (aj_var (pv 5)) aj_int (fun _ _ => rfl)) aj_int (fun _ _ => rfl)) aj_non) (ag_nm (pg_name (i := 4) hN rfl (by first | exact Or.inl rfl | exact Or.inr rfl))))))))
 (ass_cons (as_if (PW.pt (ajw_and (ajt_cmp op_isNot2 so_isNot (aj_var (pv 4)) aj_non (nomark _)) (ajw_and1 (ajt_cmp (op_in3 hr.units) so_in (aj_var (pv 4)) (aj_var (pv 3)) rfl))))
 (ass_one (as_ret (aj_ty1 call_tuple_of sc_tuple rfl B.tuple rfl (aj_lcU (own := [("other", 6)]) ⟨rfl, hN, blkOk_by (by kernel_rfl)⟩ (by decide) (aj_var (pv 3)) (fun _ _ _ _ _ => (pg_name (i := 6) hN rfl (by first | exact Or.inl rfl | exact Or.inr rfl))) (fun _ _ _ _ _ => (pts1 (ajt_cmp op_ge so_cmp (aj_ix (ix_4 hr.units) so_ix (aj_var (pv 3)) (aj_var (pv 6)) (fun _ _ => rfl)) (aj_ix (ix_4 hr.units) so_ix (aj_var (pv 3)) (aj_var (pv 4)) (fun _ _ => rfl)) (nomark _)))) (fun _ _ _ _ _ => (aj_var (pv 6)))))))
 ass_nil)
 (ass_one (as_expr (aj_update hr.units (aj_var (pv 1)) (aj_var (pv 3))))))))))
 (ass_one (as_ret aj_non))))
abbrev t_Plan_init : Stmt := inS 24 0
abbrev n_Plan_init : List Str := ["self", "rows", "letters", "table", "item"]
theorem sc_Plan_init : FnScope n_Plan_init ["self", "rows", "letters", "table"] (defScope t_Plan_init) := ⟨rfl, rfl, rfl, by decide +kernel, rfl, by decide +kernel, by decide +kernel⟩
def b_Plan_init (cP cR : Nat) (s_is_within : ASp) (s_is_item : ASp) (s_keep : ASp) : AS :=
 (aSeq (aIf (atNot (atB (aCall s_is_within (alCons (aVar 1) (alCons (aC (.int 1)) (alCons (aC (.int 6)) alNil))))))
 aNever
 aNext)
 (aSeq (aIf (atNot (atB (aCall s_is_within (alCons (aVar 2) (alCons (aC (.int 1)) (alCons (aO1 pLen (aC (.str "abc"))) alNil))))))
 aNever
 aNext)
 (aSeq (aIf (atOr (atNot (atB (aO1 (pIsi .tuple) (aVar 3)))) (atNot (atB (aChain pLe pLe (aC (.int 1)) (aO1 pLen (aVar 3)) (aC (.int 30))))))
 aNever
 aNext)
 (aSeq (aIf (atNot (atB (aO1 pAll (aLcU (aVar 3) (.nm 4) atYes (aCall s_is_item (alCons (aVar 4) (alCons (aVar 1) (alCons (aVar 2) (alCons (aO1 pLen (aVar 3)) alNil))))) [4]))))
 aNever
 aNext)
 (aExp (aMeth cP "keep" s_keep (aVar 0) (alCons (aVar 1) (alCons (aVar 2) (alCons (aVar 3) alNil)))))))))
theorem d_Plan_init {cP cR : Nat} {s_is_within : ASp} {s_is_item : ASp} {s_keep : ASp} (B : Blt mg) (hMOST_ROWS : Glo K mg "MOST_ROWS" (.int 6)) (hLETTERS : Glo K mg "LETTERS" (.str "abc")) (hMOST_STANDINGS : Glo K mg "MOST_STANDINGS" (.int 30)) (F_is_within : Fnc ⟨P, w, K⟩ mg base k "is_within" s_is_within) (F_is_item : Fnc ⟨P, w, K⟩ mg base k "is_item" s_is_item) {f_keep : Addr} {fd_keep : FuncData} {ps_keep : List Str} (c_Plan : Cls K cP) (m_keep : Meth K cP "keep" f_keep) (F_keep : FnOk P w K mg base CX0 k f_keep fd_keep ps_keep (liftP ⟨P, w, K⟩ s_keep)) (b_keep : Binds K fd_keep ps_keep []) : Bod P w K mg base k n_Plan_init "Plan.__init__" t_Plan_init (b_Plan_init cP cR s_is_within s_is_item s_keep) := fun cdv A outer s H f E hr => by
  have hN := sc_Plan_init.nd
  exact (ass_cons (as_if (ajt_not (ajt_val (aj_fn F_is_within hr (aja_cons (aj_var (pv 1)) (aja_cons aj_int (aja_cons (aj_glo hMOST_ROWS) aja_nil))))))
 (ass_one as_never)
 ass_nil)
 (ass_cons (as_if (ajt_not (ajt_val (aj_fn F_is_within hr (aja_cons (aj_var (pv 2)) (aja_cons aj_int (aja_cons (aj_bi1 cr_len2 sc_len rfl B.len rfl (aj_glo hLETTERS)) aja_nil))))))
 (ass_one as_never)
 ass_nil)
 (ass_cons (as_if (PW.pt (ajw_or (ajt_not (ajt_val (aj_isi (k := .tuple) rfl B.isin rfl B.tuple rfl (aj_var (pv 3))))) (ajw_or1 (ajt_not (ajt_chain op_le so_cmp op_le so_cmp aj_int (aj_bi1 cr_len2 sc_len rfl B.len rfl (aj_var (pv 3))) (aj_glo hMOST_STANDINGS))))))
 (ass_one as_never)
 ass_nil)
 (ass_cons (as_if (ajt_not (ajt_val (aj_bi1 (cr_all rfl) sc_all rfl B.all rfl (aj_lcU (own := [("item", 4)]) ⟨rfl, hN, blkOk_by (by kernel_rfl)⟩ (by decide) (aj_var (pv 3)) (fun _ _ _ _ _ => (pg_name (i := 4) hN rfl (by first | exact Or.inl rfl | exact Or.inr rfl))) (fun _ _ _ _ _ => pts0) (fun _ _ _ _ _ => (aj_fn F_is_item hr (aja_cons (aj_var (pv 4)) (aja_cons (aj_var (pv 1)) (aja_cons (aj_var (pv 2)) (aja_cons (aj_bi1 cr_len2 sc_len rfl B.len rfl (aj_var (pv 3))) aja_nil))))))))))
 (ass_one as_never)
 ass_nil)
 (ass_one (as_expr (aj_meth (aj_var (pv 0)) c_Plan m_keep F_keep hr b_keep (aja_cons (aj_var (pv 1)) (aja_cons (aj_var (pv 2)) (aja_cons (aj_var (pv 3)) aja_nil))))))))))
abbrev t_Plan_keep : Stmt := inS 24 1
abbrev n_Plan_keep : List Str := ["self", "rows", "letters", "table", "kept", "ring"]
theorem sc_Plan_keep : FnScope n_Plan_keep ["self", "rows", "letters", "table"] (defScope t_Plan_keep) := ⟨rfl, rfl, rfl, by decide +kernel, rfl, by decide +kernel, by decide +kernel⟩
def b_Plan_keep (cP cR : Nat) (s_all_steps : ASp) (s_idle_ring : ASp) : AS :=
 (aSeq (aAsg (aCall s_all_steps (alCons (aVar 2) (alCons (aVar 3) alNil))) (agNm 4))
 (aSeq (aAsg (aCall s_idle_ring (alCons (aVar 4) alNil)) (agNm 5))
 (aSeq (aIf (atB (aO2 pIsNot (aVar 5) (aC .non)))
 aNever
 aNext)
 (aSeq (aSetF [cP, cR] (aVar 0) "rows" (aVar 1))
 (aSeq (aSetF [cP, cR] (aVar 0) "letters" (aVar 2))
 (aSeq (aSetF [cP, cR] (aVar 0) "table" (aVar 3))
 (aSetF [cP, cR] (aVar 0) "kept_phases" (aVar 4))))))))
theorem d_Plan_keep {cP cR : Nat} {s_all_steps : ASp} {s_idle_ring : ASp} (F_all_steps : Fnc ⟨P, w, K⟩ mg base k "all_steps" s_all_steps) (F_idle_ring : Fnc ⟨P, w, K⟩ mg base k "idle_ring" s_idle_ring) (hF : ∀ f : Str, f ∈ fieldNames → ∀ C ∈ [cP, cR], Cls K C ∧ NoAttr K C f) : Bod P w K mg base k n_Plan_keep "Plan.keep" t_Plan_keep (b_Plan_keep cP cR s_all_steps s_idle_ring) := fun cdv A outer s H f E hr => by
  have hN := sc_Plan_keep.nd
  exact (ass_cons (as_asg (aj_fn F_all_steps hr (aja_cons (aj_var (pv 2)) (aja_cons (aj_var (pv 3)) aja_nil))) (ag_nm (pg_name (i := 4) hN rfl (by first | exact Or.inl rfl | exact Or.inr rfl))))
 (ass_cons (as_asg (aj_fn F_idle_ring hr (aja_cons (aj_var (pv 4)) aja_nil)) (ag_nm (pg_name (i := 5) hN rfl (by first | exact Or.inl rfl | exact Or.inr rfl))))
 (ass_cons (as_if (ajt_cmp op_isNot2 so_isNot (aj_var (pv 5)) aj_non (nomark _))
 (ass_one as_never)
 ass_nil)
 (ass_cons (as_setF (aj_var (pv 0)) (aj_var (pv 1)) (hF "rows" (by decide)))
 (ass_cons (as_setF (aj_var (pv 0)) (aj_var (pv 2)) (hF "letters" (by decide)))
 (ass_cons (as_setF (aj_var (pv 0)) (aj_var (pv 3)) (hF "table" (by decide)))
 (ass_one (as_setF (aj_var (pv 0)) (aj_var (pv 4)) (hF "kept_phases" (by decide))))))))))
abbrev t_RawPlan_init : Stmt := inS 25 0
abbrev n_RawPlan_init : List Str := ["self", "rows", "letters", "table"]
theorem sc_RawPlan_init : FnScope n_RawPlan_init ["self", "rows", "letters", "table"] (defScope t_RawPlan_init) := ⟨rfl, rfl, rfl, by decide +kernel, rfl, by decide +kernel, by decide +kernel⟩
def b_RawPlan_init (cP cR : Nat) (s_keep : ASp) : AS :=
 (aExp (aMeth cR "keep" s_keep (aVar 0) (alCons (aVar 1) (alCons (aVar 2) (alCons (aVar 3) alNil)))))
theorem d_RawPlan_init {cP cR : Nat} {s_keep : ASp} {f_keep : Addr} {fd_keep : FuncData} {ps_keep : List Str} (c_RawPlan : Cls K cR) (m_keep : Meth K cR "keep" f_keep) (F_keep : FnOk P w K mg base CX0 k f_keep fd_keep ps_keep (liftP ⟨P, w, K⟩ s_keep)) (b_keep : Binds K fd_keep ps_keep []) : Bod P w K mg base k n_RawPlan_init "RawPlan.__init__" t_RawPlan_init (b_RawPlan_init cP cR s_keep) := fun cdv A outer s H f E hr => by
  have hN := sc_RawPlan_init.nd
  exact (ass_one (as_expr (aj_meth (aj_var (pv 0)) c_RawPlan m_keep F_keep hr b_keep (aja_cons (aj_var (pv 1)) (aja_cons (aj_var (pv 2)) (aja_cons (aj_var (pv 3)) aja_nil))))))
abbrev t_is_dealing : Stmt := topS 27
abbrev n_is_dealing : List Str := ["rows", "thing", "hand"]
theorem sc_is_dealing : FnScope n_is_dealing ["rows", "thing"] (defScope t_is_dealing) := ⟨rfl, rfl, rfl, by decide +kernel, rfl, by decide +kernel, by decide +kernel⟩
def b_is_dealing (s_is_within : ASp) : AS :=
 (aSeq (aIf (atOr (atNot (atB (aO1 (pIsi .tuple) (aVar 1)))) (atB (aO2 pNe (aO1 pLen (aVar 1)) (aVar 0))))
 (aRet (aC (.bl false)))
 aNext)
 (aSeq (aIf (atNot (atB (aO1 pAll (aLcU (aVar 1) (.nm 2) atYes (aCall s_is_within (alCons (aVar 2) (alCons (aC (.int 0)) (alCons (aO2 pSub (aVar 0) (aC (.int 1))) alNil)))) [2]))))
 (aRet (aC (.bl false)))
 aNext)
 (aRet (aO1 pAll (aLc (sRng1 (alCons (aO1 pMax (aVar 1)) alNil)) (.nm 2) atYes (aO2 pIn (aVar 2) (aVar 1)) [2])))))
theorem d_is_dealing {s_is_within : ASp} (B : Blt mg) (F_is_within : Fnc ⟨P, w, K⟩ mg base k "is_within" s_is_within) : Bod P w K mg base k n_is_dealing "is_dealing" t_is_dealing (b_is_dealing s_is_within) := fun cdv A outer s H f E hr => by
  have hN := sc_is_dealing.nd
  exact (ass_cons (as_if (PW.pt (ajw_or (ajt_not (ajt_val (aj_isi (k := .tuple) rfl B.isin rfl B.tuple rfl (aj_var (pv 1))))) (ajw_or1 (ajt_cmp (op_ne2 hr.units) so_ne (aj_bi1 cr_len2 sc_len rfl B.len rfl (aj_var (pv 1))) (aj_var (pv 0)) (nomark _)))))
 (ass_one (as_ret aj_bl))
 ass_nil)
 (ass_cons (as_if (ajt_not (ajt_val (aj_bi1 (cr_all rfl) sc_all rfl B.all rfl (aj_lcU (own := [("hand", 2)]) ⟨rfl, hN, blkOk_by (by kernel_rfl)⟩ (by decide) (aj_var (pv 1)) (fun _ _ _ _ _ => (pg_name (i := 2) hN rfl (by first | exact Or.inl rfl | exact Or.inr rfl))) (fun _ _ _ _ _ => pts0) (fun _ _ _ _ _ => (aj_fn F_is_within hr (aja_cons (aj_var (pv 2)) (aja_cons aj_int (aja_cons (aj_bin op_sub so_sub (aj_var (pv 0)) aj_int) aja_nil)))))))))
 (ass_one (as_ret aj_bl))
 ass_nil)
 (ass_one (as_ret (aj_bi1 (cr_all rfl) sc_all rfl B.all rfl (aj_lc (own := [("hand", 2)]) ⟨rfl, hN, blkOk_by (by kernel_rfl)⟩ (by decide) (ai_range1 rfl B.range (aja_cons (aj_bi1 (cr_maxT rfl hr.units) sc_maxT rfl B.max rfl (aj_var (pv 1))) aja_nil)) (fun _ _ _ _ _ => (pg_name (i := 2) hN rfl (by first | exact Or.inl rfl | exact Or.inr rfl))) (fun _ _ _ _ _ => pts0) (fun _ _ _ _ _ => (aj_cmp (op_in3 hr.units) so_in (aj_var (pv 2)) (aj_var (pv 1)) rfl))))))))
abbrev t_lines_of : Stmt := topS 29
abbrev n_lines_of : List Str := ["plan", "phase", "sign", "there"]
theorem sc_lines_of : FnScope n_lines_of ["plan"] (defScope t_lines_of) := ⟨rfl, rfl, rfl, by decide +kernel, rfl, by decide +kernel, by decide +kernel⟩
def b_lines_of (cP cR : Nat) : AS :=
 (aRet (aDcU (aFld [cP, cR] "kept_phases" (aVar 0)) (.nm 1) (aVar 1) (aLcU (aO2 pIx (aFld [cP, cR] "kept_phases" (aVar 0)) (aVar 1)) (.pr 2 3) atYes (aVar 3) [2, 3]) [1]))
theorem d_lines_of {cP cR : Nat} (hF : ∀ f : Str, f ∈ fieldNames → ∀ C ∈ [cP, cR], Cls K C ∧ NoAttr K C f) : Bod P w K mg base k n_lines_of "lines_of" t_lines_of (b_lines_of cP cR) := fun cdv A outer s H f E hr => by
  have hN := sc_lines_of.nd
  exact (ass_one (as_ret (aj_dcU (own := [("phase", 1)]) hr.units ⟨rfl, hN, blkOk_by (by kernel_rfl)⟩ (by decide) (aj_fld (aj_var (pv 0)) (hF "kept_phases" (by decide))) (fun _ _ _ _ _ => (pg_name (i := 1) hN rfl (by first | exact Or.inl rfl | exact Or.inr rfl))) (fun _ _ _ _ _ => (aj_var (pv 1))) (fun _ _ _ _ _ => (aj_lcU (own := [("sign", 2), ("there", 3)]) ⟨rfl, hN, blkOk_by (by kernel_rfl)⟩ (by decide) (aj_ix (ix_4 hr.units) so_ix (aj_fld (aj_var (pv 0)) (hF "kept_phases" (by decide))) (aj_var (pv 1)) (fun _ _ => rfl)) (fun _ _ _ _ _ => (pg_pr rfl (pg_name (i := 2) hN rfl (by first | exact Or.inl rfl | exact Or.inr rfl)) (pg_name (i := 3) hN rfl (by first | exact Or.inl rfl | exact Or.inr rfl)))) (fun _ _ _ _ _ => pts0) (fun _ _ _ _ _ => (aj_var (pv 3))))))))
abbrev t_turned : Stmt := topS 30
abbrev n_turned : List Str := ["lines", "found", "phase", "there"]
theorem sc_turned : FnScope n_turned ["lines"] (defScope t_turned) := ⟨rfl, rfl, rfl, by decide +kernel, rfl, by decide +kernel, by decide +kernel⟩
def b_turned : AS :=
 (aSeq (aAsg (aDcU (aVar 0) (.nm 2) (aVar 2) (aLst alNil) [2]) (agNm 1))
 (aSeq (aForU (aVar 0) (.nm 2)
 (aForU (aO2 pIx (aVar 0) (aVar 2)) (.nm 3)
 (aExp (aM1 pAppend (aO2 pIx (aVar 1) (aVar 3)) (aVar 2)))))
 (aRet (aVar 1))))
theorem d_turned : Bod P w K mg base k n_turned "turned" t_turned (b_turned) := fun cdv A outer s H f E hr => by
  have hN := sc_turned.nd
  exact (ass_cons (as_setDcU (own := [("phase", 2)]) (i := 1) hr.units ⟨rfl, hN, blkOk_by (by kernel_rfl)⟩ (by decide) rfl rfl (sw_dict rfl rfl rfl (by decide +kernel)) (aj_var (pv 0)) (fun _ _ _ _ _ => (pg_name (i := 2) hN rfl (by first | exact Or.inl rfl | exact Or.inr rfl))) (fun _ _ _ _ _ => (aj_var (pv 2))) (fun _ _ _ _ _ => (aj_lst aja_nil)))
 (ass_cons (as_forU (p := (.nm 2)) PassesOwn.never rfl (aj_var (pv 0)) (pg_name (i := 2) hN rfl (by first | exact Or.inl rfl | exact Or.inr rfl))
 (ass_one (as_forU (p := (.nm 3)) PassesOwn.never rfl (aj_ix (ix_4 hr.units) so_ix (aj_var (pv 0)) (aj_var (pv 2)) (fun _ _ => rfl)) (pg_name (i := 3) hN rfl (by first | exact Or.inl rfl | exact Or.inr rfl))
 (ass_one (as_expr (aj_m1 PySem.F.plainAttrs_list PySem.F.slot_list_append PySem.F.type_list_append mt_append sm_append (aj_ix (ix_4 hr.units) so_ix (aj_var (pv 1)) (aj_var (pv 3)) (fun _ _ => rfl)) (aj_var (pv 2))))))))
 (ass_one (as_ret (aj_var (pv 1))))))
abbrev t_finished : Stmt := topS 31
abbrev n_finished : List Str := ["lines", "known", "found", "first", "waiting", "phase", "at"]
theorem sc_finished : FnScope n_finished ["lines"] (defScope t_finished) := ⟨rfl, rfl, rfl, by decide +kernel, rfl, by decide +kernel, by decide +kernel⟩
def b_finished : AS :=
 (aSeq (aAsg aDNew (agNm 1))
 (aSeq (aAsg (aLst alNil) (agNm 2))
 (aSeq (aForU (aO1 pSorted (aVar 0)) (.nm 3)
 (aSeq (aAsg (aLst (alCons (aTup (alCons (aVar 3) (alCons (aC (.int 0)) alNil))) alNil)) (agNm 4))
 (aWhile (atB (aO2 pGt (aO1 pLen (aVar 4)) (aC (.int 0))))
 (aSeq (aAsg (aO1 pPop (aVar 4)) (agTup (agNm 5) (agNm 6)))
 (aSeq (aIf (atAnd (atB (aO2 pEq (aVar 6) (aC (.int 0)))) (atB (aO2 pIn (aVar 5) (aVar 1))))
 aCnt
 aNext)
 (aSeq (aAsg (aC (.bl true)) (agSub (aVar 1) (aVar 5)))
 (aIf (atB (aO2 pEq (aVar 6) (aO1 pLen (aO2 pIx (aVar 0) (aVar 5)))))
 (aExp (aM1 pAppend (aVar 2) (aVar 5)))
 (aSeq (aExp (aM1 pAppend (aVar 4) (aTup (alCons (aVar 5) (alCons (aO2 pAdd (aVar 6) (aC (.int 1))) alNil)))))
 (aExp (aM1 pAppend (aVar 4) (aTup (alCons (aO2 pIx (aO2 pIx (aVar 0) (aVar 5)) (aVar 6)) (alCons (aC (.int 0)) alNil)))))))))))))
 (aRet (aVar 2)))))
theorem d_finished (B : Blt mg) : Bod P w K mg base k n_finished "finished" t_finished (b_finished) := fun cdv A outer s H f E hr => by
  have hN := sc_finished.nd
  exact (ass_cons (as_asg aj_dnew (ag_nm (pg_name (i := 1) hN rfl (by first | exact Or.inl rfl | exact Or.inr rfl))))
 (ass_cons (as_asg (aj_lst aja_nil) (ag_nm (pg_name (i := 2) hN rfl (by first | exact Or.inl rfl | exact Or.inr rfl))))
 (ass_cons (as_forU (p := (.nm 3)) PassesOwn.never rfl (aj_bi1 (cr_sorted rfl) (sc_sorted hr.units) rfl B.sorted rfl (aj_var (pv 0))) (pg_name (i := 3) hN rfl (by first | exact Or.inl rfl | exact Or.inr rfl))
 (ass_cons (as_asg (aj_lst (aja_cons (aj_tup (aja_cons (aj_var (pv 3)) (aja_cons aj_int aja_nil))) aja_nil)) (ag_nm (pg_name (i := 4) hN rfl (by first | exact Or.inl rfl | exact Or.inr rfl))))
 (ass_one (as_while PassesOwn.never (ajt_cmp op_gt so_cmp (aj_bi1 cr_len2 sc_len rfl B.len rfl (aj_var (pv 4))) aj_int (nomark _))
 (ass_cons (as_asg (aj_m0 PySem.F.plainAttrs_list PySem.F.slot_list_pop PySem.F.type_list_pop mt_pop sm_pop (aj_var (pv 4))) (ag_tup rfl (ag_nm (pg_name (i := 5) hN rfl (by first | exact Or.inl rfl | exact Or.inr rfl))) (ag_nm (pg_name (i := 6) hN rfl (by first | exact Or.inl rfl | exact Or.inr rfl)))))
 (ass_cons (as_if (PW.pt (ajw_and (ajt_cmp (op_eq2 hr.units) so_eq (aj_var (pv 6)) aj_int (nomark _)) (ajw_and1 (ajt_cmp (op_in3 hr.units) so_in (aj_var (pv 5)) (aj_var (pv 1)) rfl))))
 (ass_one as_continue)
 ass_nil)
 (ass_cons (as_asg aj_bl (ag_sub (aj_var (pv 1)) (aj_var (pv 5)) (set_3 hr.units) so_set))
 (ass_one (as_if (ajt_cmp (op_eq2 hr.units) so_eq (aj_var (pv 6)) (aj_bi1 cr_len2 sc_len rfl B.len rfl (aj_ix (ix_4 hr.units) so_ix (aj_var (pv 0)) (aj_var (pv 5)) (fun _ _ => rfl))) (nomark _))
 (ass_one (as_expr (aj_m1 PySem.F.plainAttrs_list PySem.F.slot_list_append PySem.F.type_list_append mt_append sm_append (aj_var (pv 2)) (aj_var (pv 5)))))
 (ass_cons (as_expr (aj_m1 PySem.F.plainAttrs_list PySem.F.slot_list_append PySem.F.type_list_append mt_append sm_append (aj_var (pv 4)) (aj_tup (aja_cons (aj_var (pv 5)) (aja_cons (aj_bin op_add3 so_add (aj_var (pv 6)) aj_int) aja_nil)))))
 (ass_one (as_expr (aj_m1 PySem.F.plainAttrs_list PySem.F.slot_list_append PySem.F.type_list_append mt_append sm_append (aj_var (pv 4)) (aj_tup (aja_cons (aj_ix (ix_4 hr.units) so_ix (aj_ix (ix_4 hr.units) so_ix (aj_var (pv 0)) (aj_var (pv 5)) (fun _ _ => rfl)) (aj_var (pv 6)) (fun _ _ => rfl)) (aja_cons aj_int aja_nil))))))))))))))))
 (ass_one (as_ret (aj_var (pv 2)))))))
abbrev t_lots_of : Stmt := topS 32
abbrev n_lots_of : List Str := ["lines", "back", "known", "found", "first", "lot", "waiting", "phase"]
theorem sc_lots_of : FnScope n_lots_of ["lines"] (defScope t_lots_of) := ⟨rfl, rfl, rfl, by decide +kernel, rfl, by decide +kernel, by decide +kernel⟩
def b_lots_of (s_turned : ASp) (s_finished : ASp) : AS :=
 (aSeq (aAsg (aCall s_turned (alCons (aVar 0) alNil)) (agNm 1))
 (aSeq (aAsg aDNew (agNm 2))
 (aSeq (aAsg (aLst alNil) (agNm 3))
 (aSeq (aForU (aRev (aCall s_finished (alCons (aVar 0) alNil))) (.nm 4)
 (aSeq (aAsg (aLst alNil) (agNm 5))
 (aSeq (aAsg (aLst (alCons (aVar 4) alNil)) (agNm 6))
 (aSeq (aWhile (atB (aO2 pGt (aO1 pLen (aVar 6)) (aC (.int 0))))
 (aSeq (aAsg (aO1 pPop (aVar 6)) (agNm 7))
 (aIf (atB (aO2 pNotIn (aVar 7) (aVar 2)))
 (aSeq (aAsg (aC (.bl true)) (agSub (aVar 2) (aVar 7)))
 (aSeq (aExp (aM1 pAppend (aVar 5) (aVar 7)))
 (aExp (aM1 pExtend (aVar 6) (aO2 pIx (aVar 1) (aVar 7))))))
 aNext)))
 (aIf (atB (aO2 pGt (aO1 pLen (aVar 5)) (aC (.int 0))))
 (aExp (aM1 pAppend (aVar 3) (aVar 5)))
 aNext)))))
 (aRet (aVar 3))))))
theorem d_lots_of {s_turned : ASp} {s_finished : ASp} (B : Blt mg) (F_turned : Fnc ⟨P, w, K⟩ mg base k "turned" s_turned) (F_finished : Fnc ⟨P, w, K⟩ mg base k "finished" s_finished) : Bod P w K mg base k n_lots_of "lots_of" t_lots_of (b_lots_of s_turned s_finished) := fun cdv A outer s H f E hr => by
  have hN := sc_lots_of.nd
  exact (ass_cons (as_asg (aj_fn F_turned hr (aja_cons (aj_var (pv 0)) aja_nil)) (ag_nm (pg_name (i := 1) hN rfl (by first | exact Or.inl rfl | exact Or.inr rfl))))
 (ass_cons (as_asg aj_dnew (ag_nm (pg_name (i := 2) hN rfl (by first | exact Or.inl rfl | exact Or.inr rfl))))
 (ass_cons (as_asg (aj_lst aja_nil) (ag_nm (pg_name (i := 3) hN rfl (by first | exact Or.inl rfl | exact Or.inr rfl))))
 (ass_cons (as_forU (p := (.nm 4)) PassesOwn.never rfl (aj_rev (aj_fn F_finished hr (aja_cons (aj_var (pv 0)) aja_nil))) (pg_name (i := 4) hN rfl (by first | exact Or.inl rfl | exact Or.inr rfl))
 (ass_cons (as_asg (aj_lst aja_nil) (ag_nm (pg_name (i := 5) hN rfl (by first | exact Or.inl rfl | exact Or.inr rfl))))
 (ass_cons (as_asg (aj_lst (aja_cons (aj_var (pv 4)) aja_nil)) (ag_nm (pg_name (i := 6) hN rfl (by first | exact Or.inl rfl | exact Or.inr rfl))))
 (ass_cons (as_while PassesOwn.never (ajt_cmp op_gt so_cmp (aj_bi1 cr_len2 sc_len rfl B.len rfl (aj_var (pv 6))) aj_int (nomark _))
 (ass_cons (as_asg (aj_m0 PySem.F.plainAttrs_list PySem.F.slot_list_pop PySem.F.type_list_pop mt_pop sm_pop (aj_var (pv 6))) (ag_nm (pg_name (i := 7) hN rfl (by first | exact Or.inl rfl | exact Or.inr rfl))))
 (ass_one (as_if (ajt_cmp (op_notIn3 hr.units) so_in (aj_var (pv 7)) (aj_var (pv 2)) rfl)
 (ass_cons (as_asg aj_bl (ag_sub (aj_var (pv 2)) (aj_var (pv 7)) (set_3 hr.units) so_set))
 (ass_cons (as_expr (aj_m1 PySem.F.plainAttrs_list PySem.F.slot_list_append PySem.F.type_list_append mt_append sm_append (aj_var (pv 5)) (aj_var (pv 7))))
 (ass_one (as_expr (aj_m1 PySem.F.plainAttrs_list PySem.F.slot_list_extend PySem.F.type_list_extend mt_extend sm_extend (aj_var (pv 6)) (aj_ix (ix_4 hr.units) so_ix (aj_var (pv 1)) (aj_var (pv 7)) (fun _ _ => rfl)))))))
 ass_nil))))
 (ass_one (as_if (ajt_cmp op_gt so_cmp (aj_bi1 cr_len2 sc_len rfl B.len rfl (aj_var (pv 5))) aj_int (nomark _))
 (ass_one (as_expr (aj_m1 PySem.F.plainAttrs_list PySem.F.slot_list_append PySem.F.type_list_append mt_append sm_append (aj_var (pv 3)) (aj_var (pv 5)))))
 ass_nil))))))
 (ass_one (as_ret (aj_var (pv 3))))))))
abbrev t_rows_in : Stmt := topS 33
abbrev n_rows_in : List Str := ["plan", "lot", "inner", "found", "phase", "sign", "there"]
theorem sc_rows_in : FnScope n_rows_in ["plan", "lot"] (defScope t_rows_in) := ⟨rfl, rfl, rfl, by decide +kernel, rfl, by decide +kernel, by decide +kernel⟩
def b_rows_in (cP cR : Nat) : AS :=
 (aSeq (aAsg (aDcU (aVar 1) (.nm 4) (aVar 4) (aC (.bl true)) [4]) (agNm 2))
 (aSeq (aAsg aDNew (agNm 3))
 (aSeq (aForU (aVar 1) (.nm 4)
 (aForU (aO2 pIx (aFld [cP, cR] "kept_phases" (aVar 0)) (aVar 4)) (.pr 5 6)
 (aIf (atAnd (atB (aO2 pIsNot (aVar 5) (aC .non))) (atAnd (atB (aO2 pNe (aVar 5) (aC (.str "end")))) (atB (aO2 pIn (aVar 6) (aVar 2)))))
 (aAsg (aC (.bl true)) (agSub (aVar 3) (aO2 pIx (aO2 pIx (aFld [cP, cR] "table" (aVar 0)) (aO2 pIx (aVar 4) (aC (.int 0)))) (aC (.int 1)))))
 aNext)))
 (aRet (aO1 pTuple (aO1 pSorted (aVar 3)))))))
theorem d_rows_in {cP cR : Nat} (B : Blt mg) (hEND : Glo K mg "END" (.str "end")) (hF : ∀ f : Str, f ∈ fieldNames → ∀ C ∈ [cP, cR], Cls K C ∧ NoAttr K C f) : Bod P w K mg base k n_rows_in "rows_in" t_rows_in (b_rows_in cP cR) := fun cdv A outer s H f E hr => by
  have hN := sc_rows_in.nd
  exact (ass_cons (as_setDcU (own := [("phase", 4)]) (i := 2) hr.units ⟨rfl, hN, blkOk_by (by kernel_rfl)⟩ (by decide) rfl rfl (sw_dict rfl rfl rfl (by decide +kernel)) (aj_var (pv 1)) (fun _ _ _ _ _ => (pg_name (i := 4) hN rfl (by first | exact Or.inl rfl | exact Or.inr rfl))) (fun _ _ _ _ _ => (aj_var (pv 4))) (fun _ _ _ _ _ => aj_bl))
 (ass_cons (as_asg aj_dnew (ag_nm (pg_name (i := 3) hN rfl (by first | exact Or.inl rfl | exact Or.inr rfl))))
 (ass_cons (as_forU (p := (.nm 4)) PassesOwn.never rfl (aj_var (pv 1)) (pg_name (i := 4) hN rfl (by first | exact Or.inl rfl | exact Or.inr rfl))
 (ass_one (as_forU (p := (.pr 5 6)) PassesOwn.never rfl (aj_ix (ix_4 hr.units) so_ix (aj_fld (aj_var (pv 0)) (hF "kept_phases" (by decide))) (aj_var (pv 4)) (fun _ _ => rfl)) (pg_pr rfl (pg_name (i := 5) hN rfl (by first | exact Or.inl rfl | exact Or.inr rfl)) (pg_name (i := 6) hN rfl (by first | exact Or.inl rfl | exact Or.inr rfl)))
 (ass_one (as_if (PW.pt (ajw_and (ajt_cmp op_isNot2 so_isNot (aj_var (pv 5)) aj_non (nomark _)) (ajw_and (ajt_cmp (op_ne2 hr.units) so_ne (aj_var (pv 5)) (aj_glo hEND) (nomark _)) (ajw_and1 (ajt_cmp (op_in3 hr.units) so_in (aj_var (pv 6)) (aj_var (pv 2)) rfl)))))
 (ass_one (as_asg aj_bl (ag_sub (aj_var (pv 3)) (aj_ix (ix_4 hr.units) so_ix (aj_ix (ix_4 hr.units) so_ix (aj_fld (aj_var (pv 0)) (hF "table" (by decide))) (aj_ix (ix_4 hr.units) so_ix (aj_var (pv 4)) aj_int (fun _ _ => rfl)) (fun _ _ => rfl)) aj_int (fun _ _ => rfl)) (set_3 hr.units) so_set)))
 ass_nil)))))
 (ass_one (as_ret (aj_ty1 call_tuple_of sc_tuple rfl B.tuple rfl (aj_bi1 (cr_sorted rfl) (sc_sorted hr.units) rfl B.sorted rfl (aj_var (pv 3)))))))))
abbrev t_kept_pieces : Stmt := topS 34
abbrev n_kept_pieces : List Str := ["plan", "lines", "found", "lot"]
theorem sc_kept_pieces : FnScope n_kept_pieces ["plan"] (defScope t_kept_pieces) := ⟨rfl, rfl, rfl, by decide +kernel, rfl, by decide +kernel, by decide +kernel⟩
def b_kept_pieces (s_lines_of : ASp) (s_lots_of : ASp) (s_rows_in : ASp) : AS :=
 (aSeq (aAsg (aCall s_lines_of (alCons (aVar 0) alNil)) (agNm 1))
 (aSeq (aAsg (aLst alNil) (agNm 2))
 (aSeq (aForU (aCall s_lots_of (alCons (aVar 1) alNil)) (.nm 3)
 (aIf (atOr (atB (aO2 pGt (aO1 pLen (aVar 3)) (aC (.int 1)))) (atB (aO2 pIn (aO2 pIx (aVar 3) (aC (.int 0))) (aO2 pIx (aVar 1) (aO2 pIx (aVar 3) (aC (.int 0)))))))
 (aExp (aM1 pAppend (aVar 2) (aTup (alCons (aO1 pTuple (aO1 pSorted (aVar 3))) (alCons (aCall s_rows_in (alCons (aVar 0) (alCons (aVar 3) alNil))) alNil)))))
 aNext))
 (aRet (aO1 pSorted (aVar 2))))))
theorem d_kept_pieces {s_lines_of : ASp} {s_lots_of : ASp} {s_rows_in : ASp} (B : Blt mg) (F_lines_of : Fnc ⟨P, w, K⟩ mg base k "lines_of" s_lines_of) (F_lots_of : Fnc ⟨P, w, K⟩ mg base k "lots_of" s_lots_of) (F_rows_in : Fnc ⟨P, w, K⟩ mg base k "rows_in" s_rows_in) : Bod P w K mg base k n_kept_pieces "kept_pieces" t_kept_pieces (b_kept_pieces s_lines_of s_lots_of s_rows_in) := fun cdv A outer s H f E hr => by
  have hN := sc_kept_pieces.nd
  exact (ass_cons (as_asg (aj_fn F_lines_of hr (aja_cons (aj_var (pv 0)) aja_nil)) (ag_nm (pg_name (i := 1) hN rfl (by first | exact Or.inl rfl | exact Or.inr rfl))))
 (ass_cons (as_asg (aj_lst aja_nil) (ag_nm (pg_name (i := 2) hN rfl (by first | exact Or.inl rfl | exact Or.inr rfl))))
 (ass_cons (as_forU (p := (.nm 3)) PassesOwn.never rfl (aj_fn F_lots_of hr (aja_cons (aj_var (pv 1)) aja_nil)) (pg_name (i := 3) hN rfl (by first | exact Or.inl rfl | exact Or.inr rfl))
 (ass_one (as_if (PW.pt (ajw_or (ajt_cmp op_gt so_cmp (aj_bi1 cr_len2 sc_len rfl B.len rfl (aj_var (pv 3))) aj_int (nomark _)) (ajw_or1 (ajt_cmp (op_in3 hr.units) so_in (aj_ix (ix_4 hr.units) so_ix (aj_var (pv 3)) aj_int (fun _ _ => rfl)) (aj_ix (ix_4 hr.units) so_ix (aj_var (pv 1)) (aj_ix (ix_4 hr.units) so_ix (aj_var (pv 3)) aj_int (fun _ _ => rfl)) (fun _ _ => rfl)) rfl))))
 (ass_one (as_expr (aj_m1 PySem.F.plainAttrs_list PySem.F.slot_list_append PySem.F.type_list_append mt_append sm_append (aj_var (pv 2)) (aj_tup (aja_cons (aj_ty1 call_tuple_of sc_tuple rfl B.tuple rfl (aj_bi1 (cr_sorted rfl) (sc_sorted hr.units) rfl B.sorted rfl (aj_var (pv 3)))) (aja_cons (aj_fn F_rows_in hr (aja_cons (aj_var (pv 0)) (aja_cons (aj_var (pv 3)) aja_nil))) aja_nil))))))
 ass_nil)))
 (ass_one (as_ret (aj_bi1 (cr_sorted rfl) (sc_sorted hr.units) rfl B.sorted rfl (aj_var (pv 2))))))))
abbrev t_pairs_among : Stmt := topS 35
abbrev n_pairs_among : List Str := ["rows", "at", "other", "one"]
theorem sc_pairs_among : FnScope n_pairs_among ["rows"] (defScope t_pairs_among) := ⟨rfl, rfl, rfl, by decide +kernel, rfl, by decide +kernel, by decide +kernel⟩
def b_pairs_among : AS :=
 (aRet (aLc2 (sEnum (aVar 0)) (.pr 1 2) (sItems (aSl (aVar 0) aoNone (aoSome (aVar 1)))) (.nm 3) (aTup (alCons (aVar 3) (alCons (aVar 2) alNil))) [1, 2, 3] [3]))
theorem d_pairs_among (B : Blt mg) : Bod P w K mg base k n_pairs_among "pairs_among" t_pairs_among (b_pairs_among) := fun cdv A outer s H f E hr => by
  have hN := sc_pairs_among.nd
  exact (ass_one (as_ret (aj_lc2 (own := [("at", 1), ("other", 2), ("one", 3)]) ⟨rfl, hN, blkOk_by (by kernel_rfl)⟩ (by decide) (by decide) (ai_enum rfl B.enum (aj_var (pv 0))) (fun _ _ _ _ _ => (pg_pr rfl (pg_name (i := 1) hN rfl (by first | exact Or.inl rfl | exact Or.inr rfl)) (pg_name (i := 2) hN rfl (by first | exact Or.inl rfl | exact Or.inr rfl)))) (fun _ _ _ _ _ => (ai_items (aj_sl (aj_var (pv 0)) ao_none (ao_some (aj_var (pv 1)))))) (fun _ _ _ _ _ => (pg_name (i := 3) hN rfl (by first | exact Or.inl rfl | exact Or.inr rfl))) (fun _ _ _ _ _ => (aj_tup (aja_cons (aj_var (pv 3)) (aja_cons (aj_var (pv 2)) aja_nil)))))))
abbrev t_web : Stmt := topS 36
abbrev n_web : List Str := ["plan", "found", "lot", "rows", "pair"]
theorem sc_web : FnScope n_web ["plan"] (defScope t_web) := ⟨rfl, rfl, rfl, by decide +kernel, rfl, by decide +kernel, by decide +kernel⟩
def b_web (s_kept_pieces : ASp) (s_pairs_among : ASp) : AS :=
 (aSeq (aAsg aDNew (agNm 1))
 (aSeq (aForU (aCall s_kept_pieces (alCons (aVar 0) alNil)) (.pr 2 3)
 (aForU (aCall s_pairs_among (alCons (aVar 3) alNil)) (.nm 4)
 (aAsg (aC (.bl true)) (agSub (aVar 1) (aVar 4)))))
 (aRet (aO1 pTuple (aO1 pSorted (aVar 1))))))
theorem d_web {s_kept_pieces : ASp} {s_pairs_among : ASp} (B : Blt mg) (F_kept_pieces : Fnc ⟨P, w, K⟩ mg base k "kept_pieces" s_kept_pieces) (F_pairs_among : Fnc ⟨P, w, K⟩ mg base k "pairs_among" s_pairs_among) : Bod P w K mg base k n_web "web" t_web (b_web s_kept_pieces s_pairs_among) := fun cdv A outer s H f E hr => by
  have hN := sc_web.nd
  exact (ass_cons (as_asg aj_dnew (ag_nm (pg_name (i := 1) hN rfl (by first | exact Or.inl rfl | exact Or.inr rfl))))
 (ass_cons (as_forU (p := (.pr 2 3)) PassesOwn.never rfl (aj_fn F_kept_pieces hr (aja_cons (aj_var (pv 0)) aja_nil)) (pg_pr rfl (pg_name (i := 2) hN rfl (by first | exact Or.inl rfl | exact Or.inr rfl)) (pg_name (i := 3) hN rfl (by first | exact Or.inl rfl | exact Or.inr rfl)))
 (ass_one (as_forU (p := (.nm 4)) PassesOwn.never rfl (aj_fn F_pairs_among hr (aja_cons (aj_var (pv 3)) aja_nil)) (pg_name (i := 4) hN rfl (by first | exact Or.inl rfl | exact Or.inr rfl))
 (ass_one (as_asg aj_bl (ag_sub (aj_var (pv 1)) (aj_var (pv 4)) (set_3 hr.units) so_set))))))
 (ass_one (as_ret (aj_ty1 call_tuple_of sc_tuple rfl B.tuple rfl (aj_bi1 (cr_sorted rfl) (sc_sorted hr.units) rfl B.sorted rfl (aj_var (pv 1))))))))
abbrev t_is_free : Stmt := topS 37
abbrev n_is_free : List Str := ["plan", "thing", "one", "other"]
theorem sc_is_free : FnScope n_is_free ["plan", "thing"] (defScope t_is_free) := ⟨rfl, rfl, rfl, by decide +kernel, rfl, by decide +kernel, by decide +kernel⟩
def b_is_free (cP cR : Nat) (s_web : ASp) (s_is_dealing : ASp) : AS :=
 (aRet (aAndV (aCall s_is_dealing (alCons (aFld [cP, cR] "rows" (aVar 0)) (alCons (aVar 1) alNil))) (aO1 pAll (aLcU (aCall s_web (alCons (aVar 0) alNil)) (.pr 2 3) atYes (aO2 pNe (aO2 pIx (aVar 1) (aVar 2)) (aO2 pIx (aVar 1) (aVar 3))) [2, 3]))))
theorem d_is_free {cP cR : Nat} {s_web : ASp} {s_is_dealing : ASp} (B : Blt mg) (F_web : Fnc ⟨P, w, K⟩ mg base k "web" s_web) (F_is_dealing : Fnc ⟨P, w, K⟩ mg base k "is_dealing" s_is_dealing) (hF : ∀ f : Str, f ∈ fieldNames → ∀ C ∈ [cP, cR], Cls K C ∧ NoAttr K C f) : Bod P w K mg base k n_is_free "is_free" t_is_free (b_is_free cP cR s_web s_is_dealing) := fun cdv A outer s H f E hr => by
  have hN := sc_is_free.nd
  exact (ass_one (as_ret (aj_and (aj_fn F_is_dealing hr (aja_cons (aj_fld (aj_var (pv 0)) (hF "rows" (by decide))) (aja_cons (aj_var (pv 1)) aja_nil))) (aj_one (aj_bi1 (cr_all rfl) sc_all rfl B.all rfl (aj_lcU (own := [("one", 2), ("other", 3)]) ⟨rfl, hN, blkOk_by (by kernel_rfl)⟩ (by decide) (aj_fn F_web hr (aja_cons (aj_var (pv 0)) aja_nil)) (fun _ _ _ _ _ => (pg_pr rfl (pg_name (i := 2) hN rfl (by first | exact Or.inl rfl | exact Or.inr rfl)) (pg_name (i := 3) hN rfl (by first | exact Or.inl rfl | exact Or.inr rfl)))) (fun _ _ _ _ _ => pts0) (fun _ _ _ _ _ => (aj_cmp (op_ne2 hr.units) so_ne (aj_ix (ix_4 hr.units) so_ix (aj_var (pv 1)) (aj_var (pv 2)) (fun _ _ => rfl)) (aj_ix (ix_4 hr.units) so_ix (aj_var (pv 1)) (aj_var (pv 3)) (fun _ _ => rfl)) (nomark _)))))))))
abbrev t_dealt_on : Stmt := topS 39
abbrev n_dealt_on : List Str := ["many", "pairs", "told", "most", "hand", "found", "row"]
theorem sc_dealt_on : FnScope n_dealt_on ["many", "pairs", "told", "most"] (defScope t_dealt_on) := ⟨rfl, rfl, rfl, by decide +kernel, rfl, by decide +kernel, by decide +kernel⟩
def b_dealt_on (s_dealt_on : ASp) : AS :=
 (aSeq (aIf (atB (aO2 pEq (aO1 pLen (aVar 2)) (aVar 0)))
 (aRet (aVar 2))
 aNext)
 (aSeq (aFor (sRng1 (alCons (aO2 pMin2 (aVar 3) (aO2 pAdd (aO1 pMax (aO2 pAdd (aVar 2) (aTup (alCons (aO1 pNeg (aC (.int 1))) alNil)))) (aC (.int 2)))) alNil)) (.nm 4)
 (aIf (atNot (atB (aO1 pAny (aLc (sRng1 (alCons (aO1 pLen (aVar 2)) alNil)) (.nm 6) atYes (aAndV (aO2 pIn (aTup (alCons (aVar 6) (alCons (aO1 pLen (aVar 2)) alNil))) (aVar 1)) (aO2 pEq (aO2 pIx (aVar 2) (aVar 6)) (aVar 4))) [6]))))
 (aSeq (aAsg (aCall s_dealt_on (alCons (aVar 0) (alCons (aVar 1) (alCons (aO2 pAdd (aVar 2) (aTup (alCons (aVar 4) alNil))) (alCons (aVar 3) alNil))))) (agNm 5))
 (aIf (atB (aO2 pIsNot (aVar 5) (aC .non)))
 (aRet (aVar 5))
 aNext))
 aNext))
 (aRet (aC .non))))
theorem d_dealt_on {s_dealt_on : ASp} (B : Blt mg) (F_dealt_on : Fnc ⟨P, w, K⟩ mg base k "dealt_on" s_dealt_on) : Bod P w K mg base k n_dealt_on "dealt_on" t_dealt_on (b_dealt_on s_dealt_on) := fun cdv A outer s H f E hr => by
  have hN := sc_dealt_on.nd
  exact (ass_cons (as_if (ajt_cmp (op_eq2 hr.units) so_eq (aj_bi1 cr_len2 sc_len rfl B.len rfl (aj_var (pv 2))) (aj_var (pv 0)) (nomark _))
 (ass_one (as_ret (aj_var (pv 2))))
 ass_nil)
 (ass_cons (as_for (p := (.nm 4)) PassesOwn.never rfl (ai_range1 rfl B.range (aja_cons (aj_bi2 (call_min2 rfl) sc_min2 rfl B.min rfl (aj_var (pv 3)) (aj_bin op_add3 so_add (aj_bi1 (cr_maxT rfl hr.units) sc_maxT rfl B.max rfl (aj_bin op_add3 so_add (aj_var (pv 2)) (aj_tup (aja_cons (aj_un un_neg so_neg aj_int) aja_nil)))) aj_int)) aja_nil)) (pg_name (i := 4) hN rfl (by first | exact Or.inl rfl | exact Or.inr rfl))
 (ass_one (as_if (ajt_not (ajt_val (aj_bi1 (cr_any rfl) sc_any rfl B.any rfl (aj_lc (own := [("row", 6)]) ⟨rfl, hN, blkOk_by (by kernel_rfl)⟩ (by decide) (ai_range1 rfl B.range (aja_cons (aj_bi1 cr_len2 sc_len rfl B.len rfl (aj_var (pv 2))) aja_nil)) (fun _ _ _ _ _ => (pg_name (i := 6) hN rfl (by first | exact Or.inl rfl | exact Or.inr rfl))) (fun _ _ _ _ _ => pts0) (fun _ _ _ _ _ => (aj_and (aj_cmp (op_in3 hr.units) so_in (aj_tup (aja_cons (aj_var (pv 6)) (aja_cons (aj_bi1 cr_len2 sc_len rfl B.len rfl (aj_var (pv 2))) aja_nil))) (aj_var (pv 1)) rfl) (aj_one (aj_cmp (op_eq2 hr.units) so_eq (aj_ix (ix_4 hr.units) so_ix (aj_var (pv 2)) (aj_var (pv 6)) (fun _ _ => rfl)) (aj_var (pv 4)) (nomark _)))))))))
 (ass_cons (as_asg (aj_fn F_dealt_on hr (aja_cons (aj_var (pv 0)) (aja_cons (aj_var (pv 1)) (aja_cons (aj_bin op_add3 so_add (aj_var (pv 2)) (aj_tup (aja_cons (aj_var (pv 4)) aja_nil))) (aja_cons (aj_var (pv 3)) aja_nil))))) (ag_nm (pg_name (i := 5) hN rfl (by first | exact Or.inl rfl | exact Or.inr rfl))))
 (ass_one (as_if (ajt_cmp op_isNot2 so_isNot (aj_var (pv 5)) aj_non (nomark _))
 (ass_one (as_ret (aj_var (pv 5))))
 ass_nil)))
 ass_nil)))
 (ass_one (as_ret aj_non))))
abbrev t_hues : Stmt := topS 40
abbrev n_hues : List Str := ["many", "pairs", "most", "found"]
theorem sc_hues : FnScope n_hues ["many", "pairs"] (defScope t_hues) := ⟨rfl, rfl, rfl, by decide +kernel, rfl, by decide +kernel, by decide +kernel⟩
def b_hues (s_dealt_on : ASp) : AS :=
 (aSeq (aFor (sRng2 (alCons (aC (.int 1)) (alCons (aO2 pAdd (aVar 0) (aC (.int 1))) alNil))) (.nm 2)
 (aSeq (aAsg (aCall s_dealt_on (alCons (aVar 0) (alCons (aVar 1) (alCons (aTup alNil) (alCons (aVar 2) alNil))))) (agNm 3))
 (aIf (atB (aO2 pIsNot (aVar 3) (aC .non)))
 (aRet (aTup (alCons (aVar 2) (alCons (aVar 3) alNil))))
 aNext)))
 aNever)
theorem d_hues {s_dealt_on : ASp} (B : Blt mg) (F_dealt_on : Fnc ⟨P, w, K⟩ mg base k "dealt_on" s_dealt_on) : Bod P w K mg base k n_hues "hues" t_hues (b_hues s_dealt_on) := fun cdv A outer s H f E hr => by
  have hN := sc_hues.nd
  exact (ass_cons (as_for (p := (.nm 2)) PassesOwn.never rfl (ai_range2 rfl B.range (aja_cons aj_int (aja_cons (aj_bin op_add3 so_add (aj_var (pv 0)) aj_int) aja_nil))) (pg_name (i := 2) hN rfl (by first | exact Or.inl rfl | exact Or.inr rfl))
 (ass_cons (as_asg (aj_fn F_dealt_on hr (aja_cons (aj_var (pv 0)) (aja_cons (aj_var (pv 1)) (aja_cons (aj_tup aja_nil) (aja_cons (aj_var (pv 2)) aja_nil))))) (ag_nm (pg_name (i := 3) hN rfl (by first | exact Or.inl rfl | exact Or.inr rfl))))
 (ass_one (as_if (ajt_cmp op_isNot2 so_isNot (aj_var (pv 3)) aj_non (nomark _))
 (ass_one (as_ret (aj_tup (aja_cons (aj_var (pv 2)) (aja_cons (aj_var (pv 3)) aja_nil)))))
 ass_nil))))
 (ass_one as_never))
abbrev t_fewest_hands : Stmt := topS 41
abbrev n_fewest_hands : List Str := ["plan"]
theorem sc_fewest_hands : FnScope n_fewest_hands ["plan"] (defScope t_fewest_hands) := ⟨rfl, rfl, rfl, by decide +kernel, rfl, by decide +kernel, by decide +kernel⟩
def b_fewest_hands (cP cR : Nat) (s_hues : ASp) (s_web : ASp) : AS :=
 (aRet (aO2 pIx (aCall s_hues (alCons (aFld [cP, cR] "rows" (aVar 0)) (alCons (aCall s_web (alCons (aVar 0) alNil)) alNil))) (aC (.int 0))))
theorem d_fewest_hands {cP cR : Nat} {s_hues : ASp} {s_web : ASp} (F_hues : Fnc ⟨P, w, K⟩ mg base k "hues" s_hues) (F_web : Fnc ⟨P, w, K⟩ mg base k "web" s_web) (hF : ∀ f : Str, f ∈ fieldNames → ∀ C ∈ [cP, cR], Cls K C ∧ NoAttr K C f) : Bod P w K mg base k n_fewest_hands "fewest_hands" t_fewest_hands (b_fewest_hands cP cR s_hues s_web) := fun cdv A outer s H f E hr => by
  have hN := sc_fewest_hands.nd
  exact (ass_one (as_ret (aj_ix (ix_4 hr.units) so_ix (aj_fn F_hues hr (aja_cons (aj_fld (aj_var (pv 0)) (hF "rows" (by decide))) (aja_cons (aj_fn F_web hr (aja_cons (aj_var (pv 0)) aja_nil)) aja_nil))) aj_int (fun _ _ => rfl))))
abbrev t_least_dealing : Stmt := topS 42
abbrev n_least_dealing : List Str := ["plan"]
theorem sc_least_dealing : FnScope n_least_dealing ["plan"] (defScope t_least_dealing) := ⟨rfl, rfl, rfl, by decide +kernel, rfl, by decide +kernel, by decide +kernel⟩
def b_least_dealing (cP cR : Nat) (s_hues : ASp) (s_web : ASp) : AS :=
 (aRet (aO2 pIx (aCall s_hues (alCons (aFld [cP, cR] "rows" (aVar 0)) (alCons (aCall s_web (alCons (aVar 0) alNil)) alNil))) (aC (.int 1))))
theorem d_least_dealing {cP cR : Nat} {s_hues : ASp} {s_web : ASp} (F_hues : Fnc ⟨P, w, K⟩ mg base k "hues" s_hues) (F_web : Fnc ⟨P, w, K⟩ mg base k "web" s_web) (hF : ∀ f : Str, f ∈ fieldNames → ∀ C ∈ [cP, cR], Cls K C ∧ NoAttr K C f) : Bod P w K mg base k n_least_dealing "least_dealing" t_least_dealing (b_least_dealing cP cR s_hues s_web) := fun cdv A outer s H f E hr => by
  have hN := sc_least_dealing.nd
  exact (ass_one (as_ret (aj_ix (ix_4 hr.units) so_ix (aj_fn F_hues hr (aja_cons (aj_fld (aj_var (pv 0)) (hF "rows" (by decide))) (aja_cons (aj_fn F_web hr (aja_cons (aj_var (pv 0)) aja_nil)) aja_nil))) aj_int (fun _ _ => rfl))))
abbrev t_moved : Stmt := topS 44
abbrev n_moved : List Str := ["item", "many", "rows", "standing"]
theorem sc_moved : FnScope n_moved ["item", "many", "rows"] (defScope t_moved) := ⟨rfl, rfl, rfl, by decide +kernel, rfl, by decide +kernel, by decide +kernel⟩
def b_moved : AS :=
 (aSeq (aIf (atB (aO2 pEq (aO2 pIx (aVar 0) (aC (.int 0))) (aC (.str "look"))))
 (aRet (aTup (alCons (aC (.str "look")) (alCons (aO2 pIx (aVar 2) (aO2 pIx (aVar 0) (aC (.int 1)))) (alCons (aO1 pTuple (aLcU (aO2 pIx (aVar 0) (aC (.int 2))) (.nm 3) atYes (aO2 pAdd (aVar 3) (aVar 1)) [3])) alNil)))))
 aNext)
 (aSeq (aIf (atB (aO2 pEq (aO2 pIx (aVar 0) (aC (.int 0))) (aC (.str "say"))))
 (aRet (aTup (alCons (aC (.str "say")) (alCons (aO2 pIx (aVar 0) (aC (.int 1))) (alCons (aO2 pAdd (aO2 pIx (aVar 0) (aC (.int 2))) (aVar 1)) alNil)))))
 aNext)
 (aRet (aVar 0))))
theorem d_moved (B : Blt mg) : Bod P w K mg base k n_moved "moved" t_moved (b_moved) := fun cdv A outer s H f E hr => by
  have hN := sc_moved.nd
  exact (ass_cons (as_if (ajt_cmp (op_eq2 hr.units) so_eq (aj_ix (ix_4 hr.units) so_ix (aj_var (pv 0)) aj_int (fun _ _ => rfl)) aj_str (nomark _))
 (ass_one (as_ret (aj_tup (aja_cons aj_str (aja_cons (aj_ix (ix_4 hr.units) so_ix (aj_var (pv 2)) (aj_ix (ix_4 hr.units) so_ix (aj_var (pv 0)) aj_int (fun _ _ => rfl)) (fun _ _ => rfl)) (aja_cons (aj_ty1 call_tuple_of sc_tuple rfl B.tuple rfl (aj_lcU (own := [("standing", 3)]) ⟨rfl, hN, blkOk_by (by kernel_rfl)⟩ (by decide) (aj_ix (ix_4 hr.units) so_ix (aj_var (pv 0)) aj_int (fun _ _ => rfl)) (fun _ _ _ _ _ => (pg_name (i := 3) hN rfl (by first | exact Or.inl rfl | exact Or.inr rfl))) (fun _ _ _ _ _ => pts0) (fun _ _ _ _ _ => (aj_bin op_add3 so_add (aj_var (pv 3)) (aj_var (pv 1)))))) aja_nil))))))
 ass_nil)
 (ass_cons (as_if (ajt_cmp (op_eq2 hr.units) so_eq (aj_ix (ix_4 hr.units) so_ix (aj_var (pv 0)) aj_int (fun _ _ => rfl)) aj_str (nomark _))
 (ass_one (as_ret (aj_tup (aja_cons aj_str (aja_cons (aj_ix (ix_4 hr.units) so_ix (aj_var (pv 0)) aj_int (fun _ _ => rfl)) (aja_cons (aj_bin op_add3 so_add (aj_ix (ix_4 hr.units) so_ix (aj_var (pv 0)) aj_int (fun _ _ => rfl)) (aj_var (pv 1))) aja_nil))))))
 ass_nil)
 (ass_one (as_ret (aj_var (pv 0))))))
abbrev t_joined : Stmt := topS 45
abbrev n_joined : List Str := ["one", "other", "rows", "numbers", "many", "later", "table", "item"]
theorem sc_joined : FnScope n_joined ["one", "other", "rows", "numbers"] (defScope t_joined) := ⟨rfl, rfl, rfl, by decide +kernel, rfl, by decide +kernel, by decide +kernel⟩
def b_joined (cP cR : Nat) (s_moved : ASp) (s_RawPlan : ASp) : AS :=
 (aSeq (aAsg (aO1 pLen (aFld [cP, cR] "table" (aVar 0))) (agNm 4))
 (aSeq (aAsg (aLcU (aFld [cP, cR] "table" (aVar 1)) (.nm 7) atYes (aCall s_moved (alCons (aVar 7) (alCons (aVar 4) (alCons (aVar 3) alNil)))) [7]) (agNm 5))
 (aSeq (aAsg (aLcU (aFld [cP, cR] "table" (aVar 0)) (.nm 7) atYes (aIfE (atB (aO2 pEq (aVar 7) (aTup (alCons (aC (.str "stop")) alNil)))) (aO2 pIx (aVar 5) (aC (.int 0))) (aVar 7)) [7]) (agNm 6))
 (aRet (aMake cR s_RawPlan (alCons (aVar 2) (alCons (aFld [cP, cR] "letters" (aVar 0)) (alCons (aO1 pTuple (aO2 pAdd (aVar 6) (aVar 5))) alNil))))))))
theorem d_joined {cP cR : Nat} {s_moved : ASp} {s_RawPlan : ASp} (B : Blt mg) (F_moved : Fnc ⟨P, w, K⟩ mg base k "moved" s_moved) (hF : ∀ f : Str, f ∈ fieldNames → ∀ C ∈ [cP, cR], Cls K C ∧ NoAttr K C f) {f_RawPlan : Addr} {fd_RawPlan : FuncData} {ps_RawPlan : List Str} (M_RawPlan : Mk K cR f_RawPlan) (F_RawPlan : FnOk P w K mg base CX0 k f_RawPlan fd_RawPlan ps_RawPlan (liftP ⟨P, w, K⟩ s_RawPlan)) (g_RawPlan : mg "RawPlan" = some (.ref cR)) (b_RawPlan : Binds K fd_RawPlan ps_RawPlan []) : Bod P w K mg base (k + 1) n_joined "joined" t_joined (b_joined cP cR s_moved s_RawPlan) := fun cdv A outer s H f E hr1 => by
  have hr := hr1.mono (Nat.le_succ k)
  have hN := sc_joined.nd
  exact (ass_cons (as_asg (aj_bi1 cr_len2 sc_len rfl B.len rfl (aj_fld (aj_var (pv 0)) (hF "table" (by decide)))) (ag_nm (pg_name (i := 4) hN rfl (by first | exact Or.inl rfl | exact Or.inr rfl))))
 (ass_cons (as_asg (aj_lcU (own := [("item", 7)]) ⟨rfl, hN, blkOk_by (by kernel_rfl)⟩ (by decide) (aj_fld (aj_var (pv 1)) (hF "table" (by decide))) (fun _ _ _ _ _ => (pg_name (i := 7) hN rfl (by first | exact Or.inl rfl | exact Or.inr rfl))) (fun _ _ _ _ _ => pts0) (fun _ _ _ _ _ => (aj_fn F_moved hr (aja_cons (aj_var (pv 7)) (aja_cons (aj_var (pv 4)) (aja_cons (aj_var (pv 3)) aja_nil)))))) (ag_nm (pg_name (i := 5) hN rfl (by first | exact Or.inl rfl | exact Or.inr rfl))))
 (ass_cons (as_setLcU (own := [("item", 7)]) (i := 6) ⟨rfl, hN, blkOk_by (by kernel_rfl)⟩ (by decide) rfl rfl (sw_true rfl rfl rfl (by decide +kernel)) (aj_fld (aj_var (pv 0)) (hF "table" (by decide))) (fun _ _ _ _ _ => (pg_name (i := 7) hN rfl (by first | exact Or.inl rfl | exact Or.inr rfl))) (fun _ _ _ _ _ => pts0) (fun _ _ _ _ _ => (aj_ifE (ajt_cmp (op_eq2 hr.units) so_eq (aj_var (pv 7)) (aj_tup (aja_cons aj_str aja_nil)) (nomark _)) (aj_ix (ix_4 hr.units) so_ix (aj_var (pv 5)) aj_int (fun _ _ => rfl)) (aj_var (pv 7)))))
 (ass_one (as_ret (aj_make M_RawPlan F_RawPlan hr1 rfl g_RawPlan b_RawPlan (aja_cons (aj_var (pv 2)) (aja_cons (aj_fld (aj_var (pv 0)) (hF "letters" (by decide))) (aja_cons (aj_ty1 call_tuple_of sc_tuple rfl B.tuple rfl (aj_bin op_add3 so_add (aj_var (pv 6)) (aj_var (pv 5)))) aja_nil)))))))))
abbrev t_beside : Stmt := topS 46
abbrev n_beside : List Str := ["one", "other", "row"]
theorem sc_beside : FnScope n_beside ["one", "other"] (defScope t_beside) := ⟨rfl, rfl, rfl, by decide +kernel, rfl, by decide +kernel, by decide +kernel⟩
def b_beside (cP cR : Nat) (s_joined : ASp) : AS :=
 (aSeq (aIf (atB (aO2 pNe (aFld [cP, cR] "letters" (aVar 0)) (aFld [cP, cR] "letters" (aVar 1))))
 aNever
 aNext)
 (aRet (aCall s_joined (alCons (aVar 0) (alCons (aVar 1) (alCons (aO2 pAdd (aFld [cP, cR] "rows" (aVar 0)) (aFld [cP, cR] "rows" (aVar 1))) (alCons (aLc (sRng1 (alCons (aFld [cP, cR] "rows" (aVar 1)) alNil)) (.nm 2) atYes (aO2 pAdd (aFld [cP, cR] "rows" (aVar 0)) (aVar 2)) [2]) alNil)))))))
theorem d_beside {cP cR : Nat} {s_joined : ASp} (B : Blt mg) (F_joined : Fnc ⟨P, w, K⟩ mg base k "joined" s_joined) (hF : ∀ f : Str, f ∈ fieldNames → ∀ C ∈ [cP, cR], Cls K C ∧ NoAttr K C f) : Bod P w K mg base k n_beside "beside" t_beside (b_beside cP cR s_joined) := fun cdv A outer s H f E hr => by
  have hN := sc_beside.nd
  exact (ass_cons (as_if (ajt_cmp (op_ne2 hr.units) so_ne (aj_fld (aj_var (pv 0)) (hF "letters" (by decide))) (aj_fld (aj_var (pv 1)) (hF "letters" (by decide))) (nomark _))
 (ass_one as_never)
 ass_nil)
 (ass_one (as_ret (aj_fn F_joined hr (aja_cons (aj_var (pv 0)) (aja_cons (aj_var (pv 1)) (aja_cons (aj_bin op_add3 so_add (aj_fld (aj_var (pv 0)) (hF "rows" (by decide))) (aj_fld (aj_var (pv 1)) (hF "rows" (by decide)))) (aja_cons (aj_lc (own := [("row", 2)]) ⟨rfl, hN, blkOk_by (by kernel_rfl)⟩ (by decide) (ai_range1 rfl B.range (aja_cons (aj_fld (aj_var (pv 1)) (hF "rows" (by decide))) aja_nil)) (fun _ _ _ _ _ => (pg_name (i := 2) hN rfl (by first | exact Or.inl rfl | exact Or.inr rfl))) (fun _ _ _ _ _ => pts0) (fun _ _ _ _ _ => (aj_bin op_add3 so_add (aj_fld (aj_var (pv 0)) (hF "rows" (by decide))) (aj_var (pv 2))))) aja_nil))))))))
abbrev t_law_pot : Stmt := topS 48
abbrev n_law_pot : List Str := ["_law_script", "_law_cells", "_law_greats", "_law_smalls", "_law_item"]
theorem sc_law_pot : FnScope n_law_pot ["_law_script"] (defScope t_law_pot) := ⟨rfl, rfl, rfl, by decide +kernel, rfl, by decide +kernel, by decide +kernel⟩
def b_law_pot : AS :=
 (aSeq (aAsg (aLcU (aSl (aVar 0) aoNone (aoSome (aC (.int 63)))) (.nm 4) atYes (aO1 pInt (aVar 4)) [4]) (agNm 1))
 (aSeq (aAsg (aLcU (aVar 1) (.nm 4) (atB (aO2 pGe (aO1 pAbs (aVar 4)) (aO2 pPow (aC (.int 10)) (aC (.int 18))))) (aO1 pAbs (aVar 4)) [4]) (agNm 2))
 (aSeq (aAsg (aO2 pAdd (aLcU (aVar 1) (.nm 4) (atB (aO2 pLt (aO1 pAbs (aVar 4)) (aO2 pPow (aC (.int 10)) (aC (.int 18))))) (aO2 pMod (aO1 pInt (aVar 4)) (aC (.int 1000000007))) [4]) (aLst (alCons (aO2 pAdd (aO1 pLen (aVar 1)) (aC (.int 1))) alNil))) (agNm 3))
 (aRet (aLst (alCons (aVar 2) (alCons (aVar 3) (alCons (aC (.int 0)) (alCons (aO2 pMod (aO1 pInt (aO1 pSum (aVar 3))) (aC (.int 999983))) alNil)))))))))
theorem d_law_pot (B : Blt mg) : Bod P w K mg base k n_law_pot "_law_pot" t_law_pot (b_law_pot) := fun cdv A outer s H f E hr => by
  have hN := sc_law_pot.nd
  exact (ass_cons (as_setLcU (own := [("_law_item", 4)]) (i := 1) ⟨rfl, hN, blkOk_by (by kernel_rfl)⟩ (by decide) rfl rfl (sw_true rfl rfl rfl (by decide +kernel)) (aj_sl (aj_var (pv 0)) ao_none (ao_some aj_int)) (fun _ _ _ _ _ => (pg_name (i := 4) hN rfl (by first | exact Or.inl rfl | exact Or.inr rfl))) (fun _ _ _ _ _ => pts0) (fun _ _ _ _ _ => (aj_ty1 call_int1 sc_int rfl B.int rfl (aj_var (pv 4)))))
 (ass_cons (as_setLcU (own := [("_law_item", 4)]) (i := 2) ⟨rfl, hN, blkOk_by (by kernel_rfl)⟩ (by decide) rfl rfl (sw_true rfl rfl rfl (by decide +kernel)) (aj_var (pv 1)) (fun _ _ _ _ _ => (pg_name (i := 4) hN rfl (by first | exact Or.inl rfl | exact Or.inr rfl))) (fun _ _ _ _ _ => (pts1 (ajt_cmp op_ge so_cmp (aj_bi1 call_abs sc_abs rfl B.abs rfl (aj_var (pv 4))) (aj_bin op_pow so_pow aj_int aj_int) (nomark _)))) (fun _ _ _ _ _ => (aj_bi1 call_abs sc_abs rfl B.abs rfl (aj_var (pv 4)))))
 (ass_cons (as_asg (aj_bin op_add3 so_add (aj_lcU (own := [("_law_item", 4)]) ⟨rfl, hN, blkOk_by (by kernel_rfl)⟩ (by decide) (aj_var (pv 1)) (fun _ _ _ _ _ => (pg_name (i := 4) hN rfl (by first | exact Or.inl rfl | exact Or.inr rfl))) (fun _ _ _ _ _ => (pts1 (ajt_cmp op_lt so_cmp (aj_bi1 call_abs sc_abs rfl B.abs rfl (aj_var (pv 4))) (aj_bin op_pow so_pow aj_int aj_int) (nomark _)))) (fun _ _ _ _ _ => (aj_bin op_mod so_mod (aj_ty1 call_int1 sc_int rfl B.int rfl (aj_var (pv 4))) aj_int))) (aj_lst (aja_cons (aj_bin op_add3 so_add (aj_bi1 cr_len2 sc_len rfl B.len rfl (aj_var (pv 1))) aj_int) aja_nil))) (ag_nm (pg_name (i := 3) hN rfl (by first | exact Or.inl rfl | exact Or.inr rfl))))
 (ass_one (as_ret (aj_lst (aja_cons (aj_var (pv 2)) (aja_cons (aj_var (pv 3)) (aja_cons aj_int (aja_cons (aj_bin op_mod so_mod (aj_ty1 call_int1 sc_int rfl B.int rfl (aj_bi1 (cr_sum rfl) sc_sum rfl B.sum rfl (aj_var (pv 3)))) aj_int) aja_nil))))))))))
abbrev t_law_draw : Stmt := topS 49
abbrev n_law_draw : List Str := ["_law_pot_here", "_law_many", "_law_turn", "_law_number", "_law_seed"]
theorem sc_law_draw : FnScope n_law_draw ["_law_pot_here", "_law_many"] (defScope t_law_draw) := ⟨rfl, rfl, rfl, by decide +kernel, rfl, by decide +kernel, by decide +kernel⟩
def b_law_draw : AS :=
 (aSeq (aAsg (aO2 pIx (aVar 0) (aC (.int 2))) (agNm 2))
 (aSeq (aAsg (aO2 pAdd (aVar 2) (aC (.int 1))) (agSub (aVar 0) (aC (.int 2))))
 (aSeq (aIf (atB (aO2 pGt (aO1 pLen (aO2 pIx (aVar 0) (aC (.int 0)))) (aC (.int 0))))
 (aSeq (aAsg (aO2 pIx (aO2 pIx (aVar 0) (aC (.int 0))) (aC (.int 0))) (agNm 3))
 (aSeq (aAsg (aO2 pFdiv (aVar 3) (aVar 1)) (agSub (aO2 pIx (aVar 0) (aC (.int 0))) (aC (.int 0))))
 (aSeq (aIf (atB (aO2 pLt (aVar 3) (aVar 1)))
 (aExp (aM1 pPopAt (aO2 pIx (aVar 0) (aC (.int 0))) (aC (.int 0))))
 aNext)
 (aRet (aO2 pMod (aO1 pInt (aVar 3)) (aVar 1))))))
 aNext)
 (aSeq (aAsg (aO2 pAdd (aO2 pAdd (aO2 pMul (aO2 pIx (aO2 pIx (aVar 0) (aC (.int 1))) (aO2 pMod (aO1 pInt (aVar 2)) (aO1 pLen (aO2 pIx (aVar 0) (aC (.int 1)))))) (aC (.int 7919))) (aO2 pMul (aC (.int 104729)) (aVar 2))) (aO2 pMul (aO2 pIx (aVar 0) (aC (.int 3))) (aC (.int 31)))) (agNm 4))
 (aSeq (aAsg (aO2 pMod (aO1 pInt (aO2 pAdd (aO2 pMul (aVar 4) (aC (.int 48271))) (aC (.int 11)))) (aC (.int 2147483647))) (agNm 3))
 (aSeq (aAsg (aO2 pMod (aO1 pInt (aO2 pMul (aVar 3) (aO2 pAdd (aO2 pFdiv (aVar 3) (aC (.int 1009))) (aC (.int 69621))))) (aC (.int 2147483629))) (agNm 3))
 (aSeq (aAsg (aO2 pMod (aO1 pInt (aO2 pAdd (aO2 pMul (aVar 3) (aO2 pAdd (aO2 pFdiv (aVar 3) (aC (.int 2003))) (aC (.int 40692)))) (aVar 2))) (aC (.int 2147483399))) (agNm 3))
 (aRet (aO2 pMod (aO1 pInt (aO2 pFdiv (aVar 3) (aC (.int 64)))) (aVar 1))))))))))
theorem d_law_draw (B : Blt mg) : Bod P w K mg base k n_law_draw "_law_draw" t_law_draw (b_law_draw) := fun cdv A outer s H f E hr => by
  have hN := sc_law_draw.nd
  exact (ass_cons (as_asg (aj_ix (ix_4 hr.units) so_ix (aj_var (pv 0)) aj_int (fun _ _ => rfl)) (ag_nm (pg_name (i := 2) hN rfl (by first | exact Or.inl rfl | exact Or.inr rfl))))
 (ass_cons (as_asg (aj_bin op_add3 so_add (aj_var (pv 2)) aj_int) (ag_sub (aj_var (pv 0)) aj_int (set_3 hr.units) so_set))
 (ass_cons (as_if (ajt_cmp op_gt so_cmp (aj_bi1 cr_len2 sc_len rfl B.len rfl (aj_ix (ix_4 hr.units) so_ix (aj_var (pv 0)) aj_int (fun _ _ => rfl))) aj_int (nomark _))
 (ass_cons (as_asg (aj_ix (ix_4 hr.units) so_ix (aj_ix (ix_4 hr.units) so_ix (aj_var (pv 0)) aj_int (fun _ _ => rfl)) aj_int (fun _ _ => rfl)) (ag_nm (pg_name (i := 3) hN rfl (by first | exact Or.inl rfl | exact Or.inr rfl))))
 (ass_cons (as_asg (aj_bin op_fdiv so_fdiv (aj_var (pv 3)) (aj_var (pv 1))) (ag_sub (aj_ix (ix_4 hr.units) so_ix (aj_var (pv 0)) aj_int (fun _ _ => rfl)) aj_int (set_3 hr.units) so_set))
 (ass_cons (as_if (ajt_cmp op_lt so_cmp (aj_var (pv 3)) (aj_var (pv 1)) (nomark _))
 (ass_one (as_expr (aj_m1 PySem.F.plainAttrs_list PySem.F.slot_list_pop PySem.F.type_list_pop mt_popAt sm_popAt (aj_ix (ix_4 hr.units) so_ix (aj_var (pv 0)) aj_int (fun _ _ => rfl)) aj_int)))
 ass_nil)
 (ass_one (as_ret (aj_bin op_mod so_mod (aj_ty1 call_int1 sc_int rfl B.int rfl (aj_var (pv 3))) (aj_var (pv 1))))))))
 ass_nil)
 (ass_cons (as_asg (aj_bin op_add3 so_add (aj_bin op_add3 so_add (aj_bin op_mul2 so_mul (aj_ix (ix_4 hr.units) so_ix (aj_ix (ix_4 hr.units) so_ix (aj_var (pv 0)) aj_int (fun _ _ => rfl)) (aj_bin op_mod so_mod (aj_ty1 call_int1 sc_int rfl B.int rfl (aj_var (pv 2))) (aj_bi1 cr_len2 sc_len rfl B.len rfl (aj_ix (ix_4 hr.units) so_ix (aj_var (pv 0)) aj_int (fun _ _ => rfl)))) (fun _ _ => rfl)) aj_int) (aj_bin op_mul2 so_mul aj_int (aj_var (pv 2)))) (aj_bin op_mul2 so_mul (aj_ix (ix_4 hr.units) so_ix (aj_var (pv 0)) aj_int (fun _ _ => rfl)) aj_int)) (ag_nm (pg_name (i := 4) hN rfl (by first | exact Or.inl rfl | exact Or.inr rfl))))
 (ass_cons (as_asg (aj_bin op_mod so_mod (aj_ty1 call_int1 sc_int rfl B.int rfl (aj_bin op_add3 so_add (aj_bin op_mul2 so_mul (aj_var (pv 4)) aj_int) aj_int)) aj_int) (ag_nm (pg_name (i := 3) hN rfl (by first | exact Or.inl rfl | exact Or.inr rfl))))
 (ass_cons (as_asg (aj_bin op_mod so_mod (aj_ty1 call_int1 sc_int rfl B.int rfl (aj_bin op_mul2 so_mul (aj_var (pv 3)) (aj_bin op_add3 so_add (aj_bin op_fdiv so_fdiv (aj_var (pv 3)) aj_int) aj_int))) aj_int) (ag_nm (pg_name (i := 3) hN rfl (by first | exact Or.inl rfl | exact Or.inr rfl))))
 (ass_cons (as_asg (aj_bin op_mod so_mod (aj_ty1 call_int1 sc_int rfl B.int rfl (aj_bin op_add3 so_add (aj_bin op_mul2 so_mul (aj_var (pv 3)) (aj_bin op_add3 so_add (aj_bin op_fdiv so_fdiv (aj_var (pv 3)) aj_int) aj_int)) (aj_var (pv 2)))) aj_int) (ag_nm (pg_name (i := 3) hN rfl (by first | exact Or.inl rfl | exact Or.inr rfl))))
 (ass_one (as_ret (aj_bin op_mod so_mod (aj_ty1 call_int1 sc_int rfl B.int rfl (aj_bin op_fdiv so_fdiv (aj_var (pv 3)) aj_int)) (aj_var (pv 1))))))))))))
abbrev t_law_mixed : Stmt := topS 50
abbrev n_law_mixed : List Str := ["_law_pot_here", "_law_items", "_law_line", "_law_k", "_law_at"]
theorem sc_law_mixed : FnScope n_law_mixed ["_law_pot_here", "_law_items"] (defScope t_law_mixed) := ⟨rfl, rfl, rfl, by decide +kernel, rfl, by decide +kernel, by decide +kernel⟩
def b_law_mixed (s_law_draw : ASp) : AS :=
 (aSeq (aAsg (aO1 pList (aVar 1)) (agNm 2))
 (aSeq (aFor (sRng1 (alCons (aO1 pLen (aVar 2)) alNil)) (.nm 3)
 (aSeq (aAsg (aCall s_law_draw (alCons (aVar 0) (alCons (aO1 pLen (aVar 2)) alNil))) (agNm 4))
 (aAsg (aTup (alCons (aO2 pIx (aVar 2) (aVar 4)) (alCons (aO2 pIx (aVar 2) (aVar 3)) alNil))) (agTup (agSub (aVar 2) (aVar 3)) (agSub (aVar 2) (aVar 4))))))
 (aRet (aVar 2))))
theorem d_law_mixed {s_law_draw : ASp} (B : Blt mg) (F_law_draw : Fnc ⟨P, w, K⟩ mg base k "_law_draw" s_law_draw) : Bod P w K mg base k n_law_mixed "_law_mixed" t_law_mixed (b_law_mixed s_law_draw) := fun cdv A outer s H f E hr => by
  have hN := sc_law_mixed.nd
  exact (ass_cons (as_asg (aj_ty1 (cr_list rfl) sc_list rfl B.list rfl (aj_var (pv 1))) (ag_nm (pg_name (i := 2) hN rfl (by first | exact Or.inl rfl | exact Or.inr rfl))))
 (ass_cons (as_for (p := (.nm 3)) PassesOwn.never rfl (ai_range1 rfl B.range (aja_cons (aj_bi1 cr_len2 sc_len rfl B.len rfl (aj_var (pv 2))) aja_nil)) (pg_name (i := 3) hN rfl (by first | exact Or.inl rfl | exact Or.inr rfl))
 (ass_cons (as_asg (aj_fn F_law_draw hr (aja_cons (aj_var (pv 0)) (aja_cons (aj_bi1 cr_len2 sc_len rfl B.len rfl (aj_var (pv 2))) aja_nil))) (ag_nm (pg_name (i := 4) hN rfl (by first | exact Or.inl rfl | exact Or.inr rfl))))
 (ass_one (as_asg (aj_tup (aja_cons (aj_ix (ix_4 hr.units) so_ix (aj_var (pv 2)) (aj_var (pv 4)) (fun _ _ => rfl)) (aja_cons (aj_ix (ix_4 hr.units) so_ix (aj_var (pv 2)) (aj_var (pv 3)) (fun _ _ => rfl)) aja_nil))) (ag_tup rfl (ag_sub (aj_var (pv 2)) (aj_var (pv 3)) (set_3 hr.units) so_set) (ag_sub (aj_var (pv 2)) (aj_var (pv 4)) (set_3 hr.units) so_set))))))
 (ass_one (as_ret (aj_var (pv 2))))))
abbrev t_law_drawn_table : Stmt := topS 51
abbrev n_law_drawn_table : List Str := ["_law_pot_here", "_law_rows", "_law_letters", "_law_size", "_law_upward", "_law_table", "_law_at", "_law_kind", "_law_nexts", "_law_later", "_law_k"]
theorem sc_law_drawn_table : FnScope n_law_drawn_table ["_law_pot_here", "_law_rows", "_law_letters", "_law_size", "_law_upward"] (defScope t_law_drawn_table) := ⟨rfl, rfl, rfl, by decide +kernel, rfl, by decide +kernel, by decide +kernel⟩
def b_law_drawn_table (s_law_draw : ASp) : AS :=
 (aSeq (aAsg (aLst alNil) (agNm 5))
 (aSeq (aFor (sRng1 (alCons (aVar 3) alNil)) (.nm 6)
 (aSeq (aAsg (aCall s_law_draw (alCons (aVar 0) (alCons (aC (.int 10)) alNil))) (agNm 7))
 (aSeq (aAsg (aLc (sRng1 (alCons (aO2 pAdd (aVar 2) (aC (.int 1))) alNil)) (.nm 10) atYes (aCall s_law_draw (alCons (aVar 0) (alCons (aVar 3) alNil))) [10]) (agNm 8))
 (aSeq (aAsg (aO2 pIx (aVar 8) (aO1 pNeg (aC (.int 1)))) (agNm 9))
 (aSeq (aIf (atAnd (atB (aVar 4)) (atB (aO2 pLt (aO2 pAdd (aVar 6) (aC (.int 1))) (aVar 3))))
 (aAsg (aO2 pAdd (aO2 pAdd (aVar 6) (aC (.int 1))) (aCall s_law_draw (alCons (aVar 0) (alCons (aO2 pSub (aO2 pSub (aVar 3) (aVar 6)) (aC (.int 1))) alNil)))) (agNm 9))
 aNext)
 (aIf (atOr (atB (aO2 pEq (aVar 7) (aC (.int 9)))) (atAnd (atB (aVar 4)) (atB (aO2 pEq (aO2 pAdd (aVar 6) (aC (.int 1))) (aVar 3)))))
 (aExp (aM1 pAppend (aVar 5) (aTup (alCons (aC (.str "stop")) alNil))))
 (aIf (atB (aO2 pGt (aVar 7) (aC (.int 6))))
 (aExp (aM1 pAppend (aVar 5) (aTup (alCons (aC (.str "say")) (alCons (aO2 pIx (aTup (alCons (aC (.str "x")) (alCons (aC (.str "yes")) (alCons (aC (.str "words")) alNil)))) (aCall s_law_draw (alCons (aVar 0) (alCons (aC (.int 3)) alNil)))) (alCons (aVar 9) alNil))))))
 (aExp (aM1 pAppend (aVar 5) (aTup (alCons (aC (.str "look")) (alCons (aCall s_law_draw (alCons (aVar 0) (alCons (aVar 1) alNil))) (alCons (aO1 pTuple (aO2 pAdd (aSl (aVar 8) aoNone (aoSome (aO1 pNeg (aC (.int 1))))) (aLst (alCons (aVar 9) alNil)))) alNil)))))))))))))
 (aRet (aVar 5))))
theorem d_law_drawn_table {s_law_draw : ASp} (B : Blt mg) (F_law_draw : Fnc ⟨P, w, K⟩ mg base k "_law_draw" s_law_draw) : Bod P w K mg base k n_law_drawn_table "_law_drawn_table" t_law_drawn_table (b_law_drawn_table s_law_draw) := fun cdv A outer s H f E hr => by
  have hN := sc_law_drawn_table.nd
  exact (ass_cons (as_asg (aj_lst aja_nil) (ag_nm (pg_name (i := 5) hN rfl (by first | exact Or.inl rfl | exact Or.inr rfl))))
 (ass_cons (as_for (p := (.nm 6)) PassesOwn.never rfl (ai_range1 rfl B.range (aja_cons (aj_var (pv 3)) aja_nil)) (pg_name (i := 6) hN rfl (by first | exact Or.inl rfl | exact Or.inr rfl))
 (ass_cons (as_asg (aj_fn F_law_draw hr (aja_cons (aj_var (pv 0)) (aja_cons aj_int aja_nil))) (ag_nm (pg_name (i := 7) hN rfl (by first | exact Or.inl rfl | exact Or.inr rfl))))
 (ass_cons (as_setLc (own := [("_law_k", 10)]) (i := 8) ⟨rfl, hN, blkOk_by (by kernel_rfl)⟩ (by decide) rfl rfl (sw_true rfl rfl rfl (by decide +kernel)) (ai_range1 rfl B.range (aja_cons (aj_bin op_add3 so_add (aj_var (pv 2)) aj_int) aja_nil)) (fun _ _ _ _ _ => (pg_name (i := 10) hN rfl (by first | exact Or.inl rfl | exact Or.inr rfl))) (fun _ _ _ _ _ => pts0) (fun _ _ _ _ _ => (aj_fn F_law_draw hr (aja_cons (aj_var (pv 0)) (aja_cons (aj_var (pv 3)) aja_nil)))))
 (ass_cons (as_asg (aj_ix (ix_4 hr.units) so_ix (aj_var (pv 8)) (aj_un un_neg so_neg aj_int) (fun _ _ => rfl)) (ag_nm (pg_name (i := 9) hN rfl (by first | exact Or.inl rfl | exact Or.inr rfl))))
 (ass_cons (as_if (PW.pt (ajw_and (ajt_val (aj_var (pv 4))) (ajw_and1 (ajt_cmp op_lt so_cmp (aj_bin op_add3 so_add (aj_var (pv 6)) aj_int) (aj_var (pv 3)) (nomark _)))))
 (ass_one (as_asg (aj_bin op_add3 so_add (aj_bin op_add3 so_add (aj_var (pv 6)) aj_int) (aj_fn F_law_draw hr (aja_cons (aj_var (pv 0)) (aja_cons (aj_bin op_sub so_sub (aj_bin op_sub so_sub (aj_var (pv 3)) (aj_var (pv 6))) aj_int) aja_nil)))) (ag_nm (pg_name (i := 9) hN rfl (by first | exact Or.inl rfl | exact Or.inr rfl)))))
 ass_nil)
 (ass_one (as_if (PW.pt (ajw_or (ajt_cmp (op_eq2 hr.units) so_eq (aj_var (pv 7)) aj_int (nomark _)) (ajw_or1 (PW.pt (ajw_and (ajt_val (aj_var (pv 4))) (ajw_and1 (ajt_cmp (op_eq2 hr.units) so_eq (aj_bin op_add3 so_add (aj_var (pv 6)) aj_int) (aj_var (pv 3)) (nomark _))))))))
 (ass_one (as_expr (aj_m1 PySem.F.plainAttrs_list PySem.F.slot_list_append PySem.F.type_list_append mt_append sm_append (aj_var (pv 5)) (aj_tup (aja_cons aj_str aja_nil)))))
 (ass_one (as_if (ajt_cmp op_gt so_cmp (aj_var (pv 7)) aj_int (nomark _))
 (ass_one (as_expr (aj_m1 PySem.F.plainAttrs_list PySem.F.slot_list_append PySem.F.type_list_append mt_append sm_append (aj_var (pv 5)) (aj_tup (aja_cons aj_str (aja_cons (aj_ix (ix_4 hr.units) so_ix (aj_tup (aja_cons aj_str (aja_cons aj_str (aja_cons aj_str aja_nil)))) (aj_fn F_law_draw hr (aja_cons (aj_var (pv 0)) (aja_cons aj_int aja_nil))) (fun _ _ => rfl)) (aja_cons (aj_var (pv 9)) aja_nil)))))))
 (ass_one (as_expr (aj_m1 PySem.F.plainAttrs_list PySem.F.slot_list_append PySem.F.type_list_append mt_append sm_append (aj_var (pv 5)) (aj_tup (aja_cons aj_str (aja_cons (aj_fn F_law_draw hr (aja_cons (aj_var (pv 0)) (aja_cons (aj_var (pv 1)) aja_nil))) (aja_cons (aj_ty1 call_tuple_of sc_tuple rfl B.tuple rfl (aj_bin op_add3 so_add (aj_sl (aj_var (pv 8)) ao_none (ao_some (aj_un un_neg so_neg aj_int))) (aj_lst (aja_cons (aj_var (pv 9)) aja_nil)))) aja_nil))))))))))))))))
 (ass_one (as_ret (aj_var (pv 5))))))
abbrev t_law_steps : Stmt := topS 52
abbrev n_law_steps : List Str := ["_law_letters", "_law_table", "_law_phase", "_law_item", "_law_found", "_law_k"]
theorem sc_law_steps : FnScope n_law_steps ["_law_letters", "_law_table", "_law_phase"] (defScope t_law_steps) := ⟨rfl, rfl, rfl, by decide +kernel, rfl, by decide +kernel, by decide +kernel⟩
def b_law_steps : AS :=
 (aSeq (aAsg (aO2 pIx (aVar 1) (aO2 pIx (aVar 2) (aC (.int 0)))) (agNm 3))
 (aSeq (aIf (atB (aO2 pEq (aO2 pIx (aVar 3) (aC (.int 0))) (aC (.str "stop"))))
 (aRet (aLst alNil))
 aNext)
 (aSeq (aIf (atB (aO2 pEq (aO2 pIx (aVar 3) (aC (.int 0))) (aC (.str "say"))))
 (aRet (aLst (alCons (aTup (alCons (aC .non) (alCons (aTup (alCons (aO2 pIx (aVar 3) (aC (.int 2))) (alCons (aO2 pIx (aVar 2) (aC (.int 1))) alNil))) alNil))) alNil)))
 aNext)
 (aSeq (aIf (atB (aO2 pIn (aO2 pIx (aVar 3) (aC (.int 1))) (aO2 pIx (aVar 2) (aC (.int 1)))))
 (aRet (aLst (alCons (aTup (alCons (aC .non) (alCons (aTup (alCons (aO2 pIx (aO2 pIx (aVar 3) (aC (.int 2))) (aO1 pNeg (aC (.int 1)))) (alCons (aO2 pIx (aVar 2) (aC (.int 1))) alNil))) alNil))) alNil)))
 aNext)
 (aSeq (aAsg (aLst alNil) (agNm 4))
 (aSeq (aFor (sRng1 (alCons (aVar 0) alNil)) (.nm 5)
 (aExp (aM1 pAppend (aVar 4) (aTup (alCons (aO2 pIx (aC (.str "abc")) (aVar 5)) (alCons (aTup (alCons (aO2 pIx (aO2 pIx (aVar 3) (aC (.int 2))) (aVar 5)) (alCons (aO2 pIx (aVar 2) (aC (.int 1))) alNil))) alNil))))))
 (aRet (aO2 pAdd (aVar 4) (aLst (alCons (aTup (alCons (aC (.str "end")) (alCons (aTup (alCons (aO2 pIx (aO2 pIx (aVar 3) (aC (.int 2))) (aO1 pNeg (aC (.int 1)))) (alCons (aO1 pTuple (aO1 pSorted (aO2 pAdd (aO2 pIx (aVar 2) (aC (.int 1))) (aTup (alCons (aO2 pIx (aVar 3) (aC (.int 1))) alNil))))) alNil))) alNil))) alNil))))))))))
theorem d_law_steps (B : Blt mg) : Bod P w K mg base k n_law_steps "_law_steps" t_law_steps (b_law_steps) := fun cdv A outer s H f E hr => by
  have hN := sc_law_steps.nd
  exact (ass_cons (as_asg (aj_ix (ix_4 hr.units) so_ix (aj_var (pv 1)) (aj_ix (ix_4 hr.units) so_ix (aj_var (pv 2)) aj_int (fun _ _ => rfl)) (fun _ _ => rfl)) (ag_nm (pg_name (i := 3) hN rfl (by first | exact Or.inl rfl | exact Or.inr rfl))))
 (ass_cons (as_if (ajt_cmp (op_eq2 hr.units) so_eq (aj_ix (ix_4 hr.units) so_ix (aj_var (pv 3)) aj_int (fun _ _ => rfl)) aj_str (nomark _))
 (ass_one (as_ret (aj_lst aja_nil)))
 ass_nil)
 (ass_cons (as_if (ajt_cmp (op_eq2 hr.units) so_eq (aj_ix (ix_4 hr.units) so_ix (aj_var (pv 3)) aj_int (fun _ _ => rfl)) aj_str (nomark _))
 (ass_one (as_ret (aj_lst (aja_cons (aj_tup (aja_cons aj_non (aja_cons (aj_tup (aja_cons (aj_ix (ix_4 hr.units) so_ix (aj_var (pv 3)) aj_int (fun _ _ => rfl)) (aja_cons (aj_ix (ix_4 hr.units) so_ix (aj_var (pv 2)) aj_int (fun _ _ => rfl)) aja_nil))) aja_nil))) aja_nil))))
 ass_nil)
 (ass_cons (as_if (ajt_cmp (op_in3 hr.units) so_in (aj_ix (ix_4 hr.units) so_ix (aj_var (pv 3)) aj_int (fun _ _ => rfl)) (aj_ix (ix_4 hr.units) so_ix (aj_var (pv 2)) aj_int (fun _ _ => rfl)) rfl)
 (ass_one (as_ret (aj_lst (aja_cons (aj_tup (aja_cons aj_non (aja_cons (aj_tup (aja_cons (aj_ix (ix_4 hr.units) so_ix (aj_ix (ix_4 hr.units) so_ix (aj_var (pv 3)) aj_int (fun _ _ => rfl)) (aj_un un_neg so_neg aj_int) (fun _ _ => rfl)) (aja_cons (aj_ix (ix_4 hr.units) so_ix (aj_var (pv 2)) aj_int (fun _ _ => rfl)) aja_nil))) aja_nil))) aja_nil))))
 ass_nil)
 (ass_cons (as_asg (aj_lst aja_nil) (ag_nm (pg_name (i := 4) hN rfl (by first | exact Or.inl rfl | exact Or.inr rfl))))
 (ass_cons (as_for (p := (.nm 5)) PassesOwn.never rfl (ai_range1 rfl B.range (aja_cons (aj_var (pv 0)) aja_nil)) (pg_name (i := 5) hN rfl (by first | exact Or.inl rfl | exact Or.inr rfl))
 (ass_one (as_expr (aj_m1 PySem.F.plainAttrs_list PySem.F.slot_list_append PySem.F.type_list_append mt_append sm_append (aj_var (pv 4)) (aj_tup (aja_cons (aj_ix (ix_4 hr.units) so_ix aj_str (aj_var (pv 5)) (fun _ _ => rfl)) (aja_cons (aj_tup (aja_cons (aj_ix (ix_4 hr.units) so_ix (aj_ix (ix_4 hr.units) so_ix (aj_var (pv 3)) aj_int (fun _ _ => rfl)) (aj_var (pv 5)) (fun _ _ => rfl)) (aja_cons (aj_ix (ix_4 hr.units) so_ix (aj_var (pv 2)) aj_int (fun _ _ => rfl)) aja_nil))) aja_nil)))))))
 (ass_one (as_ret (aj_bin op_add3 so_add (aj_var (pv 4)) (aj_lst (aja_cons (aj_tup (aja_cons aj_str (aja_cons (aj_tup (aja_cons (aj_ix (ix_4 hr.units) so_ix (aj_ix (ix_4 hr.units) so_ix (aj_var (pv 3)) aj_int (fun _ _ => rfl)) (aj_un un_neg so_neg aj_int) (fun _ _ => rfl)) (aja_cons (aj_ty1 call_tuple_of sc_tuple rfl B.tuple rfl (aj_bi1 (cr_sorted rfl) (sc_sorted hr.units) rfl B.sorted rfl (aj_bin op_add3 so_add (aj_ix (ix_4 hr.units) so_ix (aj_var (pv 2)) aj_int (fun _ _ => rfl)) (aj_tup (aja_cons (aj_ix (ix_4 hr.units) so_ix (aj_var (pv 3)) aj_int (fun _ _ => rfl)) aja_nil))))) aja_nil))) aja_nil))) aja_nil)))))))))))
abbrev t_law_phases : Stmt := topS 53
abbrev n_law_phases : List Str := ["_law_letters", "_law_table", "_law_found", "_law_waiting", "_law_at", "_law_turn", "_law_phase", "_law_sign", "_law_later"]
theorem sc_law_phases : FnScope n_law_phases ["_law_letters", "_law_table"] (defScope t_law_phases) := ⟨rfl, rfl, rfl, by decide +kernel, rfl, by decide +kernel, by decide +kernel⟩
def b_law_phases (s_law_steps : ASp) : AS :=
 (aSeq (aAsg aDNew (agNm 2))
 (aSeq (aAsg (aLst (alCons (aTup (alCons (aC (.int 0)) (alCons (aTup alNil) alNil))) alNil)) (agNm 3))
 (aSeq (aAsg (aC (.int 0)) (agNm 4))
 (aSeq (aFor (sRng1 (alCons (aC (.int 4000)) alNil)) (.nm 5)
 (aIf (atB (aO2 pLt (aVar 4) (aO1 pLen (aVar 3))))
 (aSeq (aAsg (aO2 pIx (aVar 3) (aVar 4)) (agNm 6))
 (aSeq (aAsg (aO2 pAdd (aVar 4) (aC (.int 1))) (agNm 4))
 (aIf (atB (aO2 pNotIn (aVar 6) (aVar 2)))
 (aSeq (aAsg (aCall s_law_steps (alCons (aVar 0) (alCons (aVar 1) (alCons (aVar 6) alNil)))) (agSub (aVar 2) (aVar 6)))
 (aForU (aO2 pIx (aVar 2) (aVar 6)) (.pr 7 8)
 (aExp (aM1 pAppend (aVar 3) (aVar 8)))))
 aNext)))
 aNext))
 (aRet (aVar 2))))))
theorem d_law_phases {s_law_steps : ASp} (B : Blt mg) (F_law_steps : Fnc ⟨P, w, K⟩ mg base k "_law_steps" s_law_steps) : Bod P w K mg base k n_law_phases "_law_phases" t_law_phases (b_law_phases s_law_steps) := fun cdv A outer s H f E hr => by
  have hN := sc_law_phases.nd
  exact (ass_cons (as_asg aj_dnew (ag_nm (pg_name (i := 2) hN rfl (by first | exact Or.inl rfl | exact Or.inr rfl))))
 (ass_cons (as_asg (aj_lst (aja_cons (aj_tup (aja_cons aj_int (aja_cons (aj_tup aja_nil) aja_nil))) aja_nil)) (ag_nm (pg_name (i := 3) hN rfl (by first | exact Or.inl rfl | exact Or.inr rfl))))
 (ass_cons (as_asg aj_int (ag_nm (pg_name (i := 4) hN rfl (by first | exact Or.inl rfl | exact Or.inr rfl))))
 (ass_cons (as_for (p := (.nm 5)) PassesOwn.never rfl (ai_range1 rfl B.range (aja_cons aj_int aja_nil)) (pg_name (i := 5) hN rfl (by first | exact Or.inl rfl | exact Or.inr rfl))
 (ass_one (as_if (ajt_cmp op_lt so_cmp (aj_var (pv 4)) (aj_bi1 cr_len2 sc_len rfl B.len rfl (aj_var (pv 3))) (nomark _))
 (ass_cons (as_asg (aj_ix (ix_4 hr.units) so_ix (aj_var (pv 3)) (aj_var (pv 4)) (fun _ _ => rfl)) (ag_nm (pg_name (i := 6) hN rfl (by first | exact Or.inl rfl | exact Or.inr rfl))))
 (ass_cons (as_asg (aj_bin op_add3 so_add (aj_var (pv 4)) aj_int) (ag_nm (pg_name (i := 4) hN rfl (by first | exact Or.inl rfl | exact Or.inr rfl))))
 (ass_one (as_if (ajt_cmp (op_notIn3 hr.units) so_in (aj_var (pv 6)) (aj_var (pv 2)) rfl)
 (ass_cons (as_asg (aj_fn F_law_steps hr (aja_cons (aj_var (pv 0)) (aja_cons (aj_var (pv 1)) (aja_cons (aj_var (pv 6)) aja_nil)))) (ag_sub (aj_var (pv 2)) (aj_var (pv 6)) (set_3 hr.units) so_set))
 (ass_one (as_forU (p := (.pr 7 8)) PassesOwn.never rfl (aj_ix (ix_4 hr.units) so_ix (aj_var (pv 2)) (aj_var (pv 6)) (fun _ _ => rfl)) (pg_pr rfl (pg_name (i := 7) hN rfl (by first | exact Or.inl rfl | exact Or.inr rfl)) (pg_name (i := 8) hN rfl (by first | exact Or.inl rfl | exact Or.inr rfl)))
 (ass_one (as_expr (aj_m1 PySem.F.plainAttrs_list PySem.F.slot_list_append PySem.F.type_list_append mt_append sm_append (aj_var (pv 3)) (aj_var (pv 8))))))))
 ass_nil))))
 ass_nil)))
 (ass_one (as_ret (aj_var (pv 2))))))))
abbrev t_law_is_idle : Stmt := topS 54
abbrev n_law_is_idle : List Str := ["_law_known", "_law_begin", "_law_phase", "_law_turn", "_law_line"]
theorem sc_law_is_idle : FnScope n_law_is_idle ["_law_known"] (defScope t_law_is_idle) := ⟨rfl, rfl, rfl, by decide +kernel, rfl, by decide +kernel, by decide +kernel⟩
def b_law_is_idle : AS :=
 (aSeq (aForU (aVar 0) (.nm 1)
 (aSeq (aAsg (aVar 1) (agNm 2))
 (aFor (sRng1 (alCons (aO1 pLen (aVar 0)) alNil)) (.nm 3)
 (aSeq (aAsg (aO2 pIx (aVar 0) (aVar 2)) (agNm 4))
 (aSeq (aIf (atB (aO2 pNe (aO1 pLen (aVar 4)) (aC (.int 1))))
 aBrk
 aNext)
 (aSeq (aAsg (aO2 pIx (aO2 pIx (aVar 4) (aC (.int 0))) (aC (.int 1))) (agNm 2))
 (aIf (atB (aO2 pEq (aVar 2) (aVar 1)))
 (aRet (aC (.bl true)))
 aNext)))))))
 (aRet (aC (.bl false))))
theorem d_law_is_idle (B : Blt mg) : Bod P w K mg base k n_law_is_idle "_law_is_idle" t_law_is_idle (b_law_is_idle) := fun cdv A outer s H f E hr => by
  have hN := sc_law_is_idle.nd
  exact (ass_cons (as_forU (p := (.nm 1)) PassesOwn.never rfl (aj_var (pv 0)) (pg_name (i := 1) hN rfl (by first | exact Or.inl rfl | exact Or.inr rfl))
 (ass_cons (as_asg (aj_var (pv 1)) (ag_nm (pg_name (i := 2) hN rfl (by first | exact Or.inl rfl | exact Or.inr rfl))))
 (ass_one (as_for (p := (.nm 3)) PassesOwn.never rfl (ai_range1 rfl B.range (aja_cons (aj_bi1 cr_len2 sc_len rfl B.len rfl (aj_var (pv 0))) aja_nil)) (pg_name (i := 3) hN rfl (by first | exact Or.inl rfl | exact Or.inr rfl))
 (ass_cons (as_asg (aj_ix (ix_4 hr.units) so_ix (aj_var (pv 0)) (aj_var (pv 2)) (fun _ _ => rfl)) (ag_nm (pg_name (i := 4) hN rfl (by first | exact Or.inl rfl | exact Or.inr rfl))))
 (ass_cons (as_if (ajt_cmp (op_ne2 hr.units) so_ne (aj_bi1 cr_len2 sc_len rfl B.len rfl (aj_var (pv 4))) aj_int (nomark _))
 (ass_one as_break)
 ass_nil)
 (ass_cons (as_asg (aj_ix (ix_4 hr.units) so_ix (aj_ix (ix_4 hr.units) so_ix (aj_var (pv 4)) aj_int (fun _ _ => rfl)) aj_int (fun _ _ => rfl)) (ag_nm (pg_name (i := 2) hN rfl (by first | exact Or.inl rfl | exact Or.inr rfl))))
 (ass_one (as_if (ajt_cmp (op_eq2 hr.units) so_eq (aj_var (pv 2)) (aj_var (pv 1)) (nomark _))
 (ass_one (as_ret aj_bl))
 ass_nil)))))))))
 (ass_one (as_ret aj_bl)))
abbrev t_law_renamed : Stmt := topS 55
abbrev n_law_renamed : List Str := ["_law_pot_here", "_law_table", "_law_order", "_law_found", "_law_at", "_law_item", "_law_k"]
theorem sc_law_renamed : FnScope n_law_renamed ["_law_pot_here", "_law_table"] (defScope t_law_renamed) := ⟨rfl, rfl, rfl, by decide +kernel, rfl, by decide +kernel, by decide +kernel⟩
def b_law_renamed (s_law_mixed : ASp) : AS :=
 (aSeq (aAsg (aO2 pAdd (aLst (alCons (aC (.int 0)) alNil)) (aCall s_law_mixed (alCons (aVar 0) (alCons (aListR2 (aC (.int 1)) (aO1 pLen (aVar 1))) alNil)))) (agNm 2))
 (aSeq (aAsg (aO2 pMul (aLst (alCons (aC .non) alNil)) (aO1 pLen (aVar 1))) (agNm 3))
 (aSeq (aFor (sRng1 (alCons (aO1 pLen (aVar 1)) alNil)) (.nm 4)
 (aSeq (aAsg (aO2 pIx (aVar 1) (aVar 4)) (agNm 5))
 (aSeq (aIf (atB (aO2 pEq (aO2 pIx (aVar 5) (aC (.int 0))) (aC (.str "look"))))
 (aAsg (aTup (alCons (aC (.str "look")) (alCons (aO2 pIx (aVar 5) (aC (.int 1))) (alCons (aO1 pTuple (aLcU (aO2 pIx (aVar 5) (aC (.int 2))) (.nm 6) atYes (aO2 pIx (aVar 2) (aVar 6)) [6])) alNil)))) (agNm 5))
 (aIf (atB (aO2 pEq (aO2 pIx (aVar 5) (aC (.int 0))) (aC (.str "say"))))
 (aAsg (aTup (alCons (aC (.str "say")) (alCons (aO2 pIx (aVar 5) (aC (.int 1))) (alCons (aO2 pIx (aVar 2) (aO2 pIx (aVar 5) (aC (.int 2)))) alNil)))) (agNm 5))
 aNext))
 (aAsg (aVar 5) (agSub (aVar 3) (aO2 pIx (aVar 2) (aVar 4)))))))
 (aRet (aVar 3)))))
theorem d_law_renamed {s_law_mixed : ASp} (B : Blt mg) (F_law_mixed : Fnc ⟨P, w, K⟩ mg base k "_law_mixed" s_law_mixed) : Bod P w K mg base k n_law_renamed "_law_renamed" t_law_renamed (b_law_renamed s_law_mixed) := fun cdv A outer s H f E hr => by
  have hN := sc_law_renamed.nd
  exact (ass_cons (as_asg (aj_bin op_add3 so_add (aj_lst (aja_cons aj_int aja_nil)) (aj_fn F_law_mixed hr (aja_cons (aj_var (pv 0)) (aja_cons (aj_listR2 rfl rfl B.list rfl B.range aj_int (aj_bi1 cr_len2 sc_len rfl B.len rfl (aj_var (pv 1)))) aja_nil)))) (ag_nm (pg_name (i := 2) hN rfl (by first | exact Or.inl rfl | exact Or.inr rfl))))
 (ass_cons (as_asg (aj_bin op_mul2 so_mul (aj_lst (aja_cons aj_non aja_nil)) (aj_bi1 cr_len2 sc_len rfl B.len rfl (aj_var (pv 1)))) (ag_nm (pg_name (i := 3) hN rfl (by first | exact Or.inl rfl | exact Or.inr rfl))))
 (ass_cons (as_for (p := (.nm 4)) PassesOwn.never rfl (ai_range1 rfl B.range (aja_cons (aj_bi1 cr_len2 sc_len rfl B.len rfl (aj_var (pv 1))) aja_nil)) (pg_name (i := 4) hN rfl (by first | exact Or.inl rfl | exact Or.inr rfl))
 (ass_cons (as_asg (aj_ix (ix_4 hr.units) so_ix (aj_var (pv 1)) (aj_var (pv 4)) (fun _ _ => rfl)) (ag_nm (pg_name (i := 5) hN rfl (by first | exact Or.inl rfl | exact Or.inr rfl))))
 (ass_cons (as_if (ajt_cmp (op_eq2 hr.units) so_eq (aj_ix (ix_4 hr.units) so_ix (aj_var (pv 5)) aj_int (fun _ _ => rfl)) aj_str (nomark _))
 (ass_one (as_asg (aj_tup (aja_cons aj_str (aja_cons (aj_ix (ix_4 hr.units) so_ix (aj_var (pv 5)) aj_int (fun _ _ => rfl)) (aja_cons (aj_ty1 call_tuple_of sc_tuple rfl B.tuple rfl (aj_lcU (own := [("_law_k", 6)]) ⟨rfl, hN, blkOk_by (by kernel_rfl)⟩ (by decide) (aj_ix (ix_4 hr.units) so_ix (aj_var (pv 5)) aj_int (fun _ _ => rfl)) (fun _ _ _ _ _ => (pg_name (i := 6) hN rfl (by first | exact Or.inl rfl | exact Or.inr rfl))) (fun _ _ _ _ _ => pts0) (fun _ _ _ _ _ => (aj_ix (ix_4 hr.units) so_ix (aj_var (pv 2)) (aj_var (pv 6)) (fun _ _ => rfl))))) aja_nil)))) (ag_nm (pg_name (i := 5) hN rfl (by first | exact Or.inl rfl | exact Or.inr rfl)))))
 (ass_one (as_if (ajt_cmp (op_eq2 hr.units) so_eq (aj_ix (ix_4 hr.units) so_ix (aj_var (pv 5)) aj_int (fun _ _ => rfl)) aj_str (nomark _))
 (ass_one (as_asg (aj_tup (aja_cons aj_str (aja_cons (aj_ix (ix_4 hr.units) so_ix (aj_var (pv 5)) aj_int (fun _ _ => rfl)) (aja_cons (aj_ix (ix_4 hr.units) so_ix (aj_var (pv 2)) (aj_ix (ix_4 hr.units) so_ix (aj_var (pv 5)) aj_int (fun _ _ => rfl)) (fun _ _ => rfl)) aja_nil)))) (ag_nm (pg_name (i := 5) hN rfl (by first | exact Or.inl rfl | exact Or.inr rfl)))))
 ass_nil)))
 (ass_one (as_asg (aj_var (pv 5)) (ag_sub (aj_var (pv 3)) (aj_ix (ix_4 hr.units) so_ix (aj_var (pv 2)) (aj_var (pv 4)) (fun _ _ => rfl)) (set_3 hr.units) so_set))))))
 (ass_one (as_ret (aj_var (pv 3)))))))
abbrev t_law_spec : Stmt := topS 56
abbrev n_law_spec : List Str := ["_law_pot_here", "_law_most_rows", "_law_most_letters", "_law_most_size", "_law_rows", "_law_letters", "_law_size", "_law_table", "_law_other"]
theorem sc_law_spec : FnScope n_law_spec ["_law_pot_here", "_law_most_rows", "_law_most_letters", "_law_most_size"] (defScope t_law_spec) := ⟨rfl, rfl, rfl, by decide +kernel, rfl, by decide +kernel, by decide +kernel⟩
def b_law_spec (s_law_draw : ASp) (s_law_renamed : ASp) (s_law_drawn_table : ASp) (s_law_is_idle : ASp) (s_law_phases : ASp) : AS :=
 (aSeq (aPar 4 5 (alCons (aO2 pAdd (aC (.int 1)) (aCall s_law_draw (alCons (aVar 0) (alCons (aVar 1) alNil)))) (alCons (aO2 pAdd (aC (.int 1)) (aCall s_law_draw (alCons (aVar 0) (alCons (aVar 2) alNil)))) alNil)))
 (aSeq (aAsg (aO2 pAdd (aC (.int 1)) (aCall s_law_draw (alCons (aVar 0) (alCons (aVar 3) alNil)))) (agNm 6))
 (aSeq (aAsg (aCall s_law_renamed (alCons (aVar 0) (alCons (aCall s_law_drawn_table (alCons (aVar 0) (alCons (aVar 4) (alCons (aVar 5) (alCons (aVar 6) (alCons (aC (.bl true)) alNil)))))) alNil))) (agNm 7))
 (aSeq (aIf (atB (aO2 pEq (aCall s_law_draw (alCons (aVar 0) (alCons (aC (.int 2)) alNil))) (aC (.int 0))))
 (aSeq (aAsg (aCall s_law_drawn_table (alCons (aVar 0) (alCons (aVar 4) (alCons (aVar 5) (alCons (aVar 6) (alCons (aC (.bl false)) alNil)))))) (agNm 8))
 (aIf (atNot (atB (aCall s_law_is_idle (alCons (aCall s_law_phases (alCons (aVar 5) (alCons (aVar 8) alNil))) alNil))))
 (aAsg (aVar 8) (agNm 7))
 aNext))
 aNext)
 (aRet (aTup (alCons (aVar 4) (alCons (aVar 5) (alCons (aO1 pTuple (aVar 7)) alNil)))))))))
theorem d_law_spec {s_law_draw : ASp} {s_law_renamed : ASp} {s_law_drawn_table : ASp} {s_law_is_idle : ASp} {s_law_phases : ASp} (B : Blt mg) (F_law_draw : Fnc ⟨P, w, K⟩ mg base k "_law_draw" s_law_draw) (F_law_renamed : Fnc ⟨P, w, K⟩ mg base k "_law_renamed" s_law_renamed) (F_law_drawn_table : Fnc ⟨P, w, K⟩ mg base k "_law_drawn_table" s_law_drawn_table) (F_law_is_idle : Fnc ⟨P, w, K⟩ mg base k "_law_is_idle" s_law_is_idle) (F_law_phases : Fnc ⟨P, w, K⟩ mg base k "_law_phases" s_law_phases) : Bod P w K mg base k n_law_spec "_law_spec" t_law_spec (b_law_spec s_law_draw s_law_renamed s_law_drawn_table s_law_is_idle s_law_phases) := fun cdv A outer s H f E hr => by
  have hN := sc_law_spec.nd
  exact (ass_cons (as_par (i := 4) (j := 5) rfl hN rfl rfl (by decide) rfl rfl (aja_cons (aj_bin op_add3 so_add aj_int (aj_fn F_law_draw hr (aja_cons (aj_var (pv 0)) (aja_cons (aj_var (pv 1)) aja_nil)))) (aja_cons (aj_bin op_add3 so_add aj_int (aj_fn F_law_draw hr (aja_cons (aj_var (pv 0)) (aja_cons (aj_var (pv 2)) aja_nil)))) aja_nil)) (by rfl))
 (ass_cons (as_asg (aj_bin op_add3 so_add aj_int (aj_fn F_law_draw hr (aja_cons (aj_var (pv 0)) (aja_cons (aj_var (pv 3)) aja_nil)))) (ag_nm (pg_name (i := 6) hN rfl (by first | exact Or.inl rfl | exact Or.inr rfl))))
 (ass_cons (as_asg (aj_fn F_law_renamed hr (aja_cons (aj_var (pv 0)) (aja_cons (aj_fn F_law_drawn_table hr (aja_cons (aj_var (pv 0)) (aja_cons (aj_var (pv 4)) (aja_cons (aj_var (pv 5)) (aja_cons (aj_var (pv 6)) (aja_cons aj_bl aja_nil)))))) aja_nil))) (ag_nm (pg_name (i := 7) hN rfl (by first | exact Or.inl rfl | exact Or.inr rfl))))
 (ass_cons (as_if (ajt_cmp (op_eq2 hr.units) so_eq (aj_fn F_law_draw hr (aja_cons (aj_var (pv 0)) (aja_cons aj_int aja_nil))) aj_int (nomark _))
 (ass_cons (as_asg (aj_fn F_law_drawn_table hr (aja_cons (aj_var (pv 0)) (aja_cons (aj_var (pv 4)) (aja_cons (aj_var (pv 5)) (aja_cons (aj_var (pv 6)) (aja_cons aj_bl aja_nil)))))) (ag_nm (pg_name (i := 8) hN rfl (by first | exact Or.inl rfl | exact Or.inr rfl))))
 (ass_one (as_if (ajt_not (ajt_val (aj_fn F_law_is_idle hr (aja_cons (aj_fn F_law_phases hr (aja_cons (aj_var (pv 5)) (aja_cons (aj_var (pv 8)) aja_nil))) aja_nil))))
 (ass_one (as_asg (aj_var (pv 8)) (ag_nm (pg_name (i := 7) hN rfl (by first | exact Or.inl rfl | exact Or.inr rfl)))))
 ass_nil)))
 ass_nil)
 (ass_one (as_ret (aj_tup (aja_cons (aj_var (pv 4)) (aja_cons (aj_var (pv 5)) (aja_cons (aj_ty1 call_tuple_of sc_tuple rfl B.tuple rfl (aj_var (pv 7))) aja_nil))))))))))
abbrev t_law_made : Stmt := topS 57
abbrev n_law_made : List Str := ["_law_spec_here"]
theorem sc_law_made : FnScope n_law_made ["_law_spec_here"] (defScope t_law_made) := ⟨rfl, rfl, rfl, by decide +kernel, rfl, by decide +kernel, by decide +kernel⟩
def b_law_made (cP cR : Nat) (s_Plan : ASp) : AS :=
 (aRet (aMake cP s_Plan (alCons (aO2 pIx (aVar 0) (aC (.int 0))) (alCons (aO2 pIx (aVar 0) (aC (.int 1))) (alCons (aO2 pIx (aVar 0) (aC (.int 2))) alNil)))))
theorem d_law_made {cP cR : Nat} {s_Plan : ASp} {f_Plan : Addr} {fd_Plan : FuncData} {ps_Plan : List Str} (M_Plan : Mk K cP f_Plan) (F_Plan : FnOk P w K mg base CX0 k f_Plan fd_Plan ps_Plan (liftP ⟨P, w, K⟩ s_Plan)) (g_Plan : mg "Plan" = some (.ref cP)) (b_Plan : Binds K fd_Plan ps_Plan []) : Bod P w K mg base (k + 1) n_law_made "_law_made" t_law_made (b_law_made cP cR s_Plan) := fun cdv A outer s H f E hr1 => by
  have hr := hr1.mono (Nat.le_succ k)
  have hN := sc_law_made.nd
  exact (ass_one (as_ret (aj_make M_Plan F_Plan hr1 rfl g_Plan b_Plan (aja_cons (aj_ix (ix_4 hr.units) so_ix (aj_var (pv 0)) aj_int (fun _ _ => rfl)) (aja_cons (aj_ix (ix_4 hr.units) so_ix (aj_var (pv 0)) aj_int (fun _ _ => rfl)) (aja_cons (aj_ix (ix_4 hr.units) so_ix (aj_var (pv 0)) aj_int (fun _ _ => rfl)) aja_nil))))))
abbrev t_law_reach : Stmt := topS 58
abbrev n_law_reach : List Str := ["_law_known", "_law_found", "_law_begin", "_law_met", "_law_waiting", "_law_phase", "_law_step"]
theorem sc_law_reach : FnScope n_law_reach ["_law_known"] (defScope t_law_reach) := ⟨rfl, rfl, rfl, by decide +kernel, rfl, by decide +kernel, by decide +kernel⟩
def b_law_reach : AS :=
 (aSeq (aAsg aDNew (agNm 1))
 (aSeq (aForU (aVar 0) (.nm 2)
 (aSeq (aAsg aDNew (agNm 3))
 (aSeq (aAsg (aLcU (aO2 pIx (aVar 0) (aVar 2)) (.nm 6) atYes (aO2 pIx (aVar 6) (aC (.int 1))) [6]) (agNm 4))
 (aSeq (aWhile (atB (aO2 pGt (aO1 pLen (aVar 4)) (aC (.int 0))))
 (aSeq (aAsg (aO1 pPop (aVar 4)) (agNm 5))
 (aIf (atB (aO2 pNotIn (aVar 5) (aVar 3)))
 (aSeq (aAsg (aC (.bl true)) (agSub (aVar 3) (aVar 5)))
 (aExp (aM1 pExtend (aVar 4) (aLcU (aO2 pIx (aVar 0) (aVar 5)) (.nm 6) atYes (aO2 pIx (aVar 6) (aC (.int 1))) [6]))))
 aNext)))
 (aAsg (aVar 3) (agSub (aVar 1) (aVar 2)))))))
 (aRet (aVar 1))))
theorem d_law_reach (B : Blt mg) : Bod P w K mg base k n_law_reach "_law_reach" t_law_reach (b_law_reach) := fun cdv A outer s H f E hr => by
  have hN := sc_law_reach.nd
  exact (ass_cons (as_asg aj_dnew (ag_nm (pg_name (i := 1) hN rfl (by first | exact Or.inl rfl | exact Or.inr rfl))))
 (ass_cons (as_forU (p := (.nm 2)) PassesOwn.never rfl (aj_var (pv 0)) (pg_name (i := 2) hN rfl (by first | exact Or.inl rfl | exact Or.inr rfl))
 (ass_cons (as_asg aj_dnew (ag_nm (pg_name (i := 3) hN rfl (by first | exact Or.inl rfl | exact Or.inr rfl))))
 (ass_cons (as_setLcU (own := [("_law_step", 6)]) (i := 4) ⟨rfl, hN, blkOk_by (by kernel_rfl)⟩ (by decide) rfl rfl (sw_true rfl rfl rfl (by decide +kernel)) (aj_ix (ix_4 hr.units) so_ix (aj_var (pv 0)) (aj_var (pv 2)) (fun _ _ => rfl)) (fun _ _ _ _ _ => (pg_name (i := 6) hN rfl (by first | exact Or.inl rfl | exact Or.inr rfl))) (fun _ _ _ _ _ => pts0) (fun _ _ _ _ _ => (aj_ix (ix_4 hr.units) so_ix (aj_var (pv 6)) aj_int (fun _ _ => rfl))))
 (ass_cons (as_while PassesOwn.never (ajt_cmp op_gt so_cmp (aj_bi1 cr_len2 sc_len rfl B.len rfl (aj_var (pv 4))) aj_int (nomark _))
 (ass_cons (as_asg (aj_m0 PySem.F.plainAttrs_list PySem.F.slot_list_pop PySem.F.type_list_pop mt_pop sm_pop (aj_var (pv 4))) (ag_nm (pg_name (i := 5) hN rfl (by first | exact Or.inl rfl | exact Or.inr rfl))))
 (ass_one (as_if (ajt_cmp (op_notIn3 hr.units) so_in (aj_var (pv 5)) (aj_var (pv 3)) rfl)
 (ass_cons (as_asg aj_bl (ag_sub (aj_var (pv 3)) (aj_var (pv 5)) (set_3 hr.units) so_set))
 (ass_one (as_expr (aj_m1 PySem.F.plainAttrs_list PySem.F.slot_list_extend PySem.F.type_list_extend mt_extend sm_extend (aj_var (pv 4)) (aj_lcU (own := [("_law_step", 6)]) ⟨rfl, hN, blkOk_by (by kernel_rfl)⟩ (by decide) (aj_ix (ix_4 hr.units) so_ix (aj_var (pv 0)) (aj_var (pv 5)) (fun _ _ => rfl)) (fun _ _ _ _ _ => (pg_name (i := 6) hN rfl (by first | exact Or.inl rfl | exact Or.inr rfl))) (fun _ _ _ _ _ => pts0) (fun _ _ _ _ _ => (aj_ix (ix_4 hr.units) so_ix (aj_var (pv 6)) aj_int (fun _ _ => rfl))))))))
 ass_nil))))
 (ass_one (as_asg (aj_var (pv 3)) (ag_sub (aj_var (pv 1)) (aj_var (pv 2)) (set_3 hr.units) so_set)))))))
 (ass_one (as_ret (aj_var (pv 1))))))
abbrev t_law_pieces : Stmt := topS 59
abbrev n_law_pieces : List Str := ["_law_spec_here", "_law_known", "_law_reach_here", "_law_found", "_law_phase", "_law_lot", "_law_told", "_law_rows", "_law_sign", "_law_later", "_law_other"]
theorem sc_law_pieces : FnScope n_law_pieces ["_law_spec_here"] (defScope t_law_pieces) := ⟨rfl, rfl, rfl, by decide +kernel, rfl, by decide +kernel, by decide +kernel⟩
def b_law_pieces (s_law_phases : ASp) (s_law_reach : ASp) : AS :=
 (aSeq (aAsg (aCall s_law_phases (alCons (aO2 pIx (aVar 0) (aC (.int 1))) (alCons (aO2 pIx (aVar 0) (aC (.int 2))) alNil))) (agNm 1))
 (aSeq (aAsg (aCall s_law_reach (alCons (aVar 1) alNil)) (agNm 2))
 (aSeq (aAsg aDNew (agNm 3))
 (aSeq (aForU (aVar 1) (.nm 4)
 (aIf (atB (aO2 pIn (aVar 4) (aO2 pIx (aVar 2) (aVar 4))))
 (aSeq (aAsg (aO1 pTuple (aO1 pSorted (aLcU (aO2 pIx (aVar 2) (aVar 4)) (.nm 10) (atB (aO2 pIn (aVar 4) (aO2 pIx (aVar 2) (aVar 10)))) (aVar 10) [10]))) (agNm 5))
 (aAsg (aC (.bl true)) (agSub (aVar 3) (aVar 5))))
 aNext))
 (aSeq (aAsg (aLst alNil) (agNm 6))
 (aSeq (aForU (aVar 3) (.nm 5)
 (aSeq (aAsg aDNew (agNm 7))
 (aSeq (aForU (aVar 5) (.nm 4)
 (aForU (aO2 pIx (aVar 1) (aVar 4)) (.pr 8 9)
 (aIf (atAnd (atB (aO2 pNotIn (aVar 8) (aLst (alCons (aC .non) (alCons (aC (.str "end")) alNil))))) (atB (aO2 pIn (aVar 9) (aVar 5))))
 (aAsg (aC (.bl true)) (agSub (aVar 7) (aO2 pIx (aO2 pIx (aO2 pIx (aVar 0) (aC (.int 2))) (aO2 pIx (aVar 4) (aC (.int 0)))) (aC (.int 1)))))
 aNext)))
 (aExp (aM1 pAppend (aVar 6) (aTup (alCons (aVar 5) (alCons (aO1 pTuple (aO1 pSorted (aO1 pList (aVar 7)))) alNil))))))))
 (aRet (aO1 pSorted (aVar 6)))))))))
theorem d_law_pieces {s_law_phases : ASp} {s_law_reach : ASp} (B : Blt mg) (F_law_phases : Fnc ⟨P, w, K⟩ mg base k "_law_phases" s_law_phases) (F_law_reach : Fnc ⟨P, w, K⟩ mg base k "_law_reach" s_law_reach) : Bod P w K mg base k n_law_pieces "_law_pieces" t_law_pieces (b_law_pieces s_law_phases s_law_reach) := fun cdv A outer s H f E hr => by
  have hN := sc_law_pieces.nd
  exact (ass_cons (as_asg (aj_fn F_law_phases hr (aja_cons (aj_ix (ix_4 hr.units) so_ix (aj_var (pv 0)) aj_int (fun _ _ => rfl)) (aja_cons (aj_ix (ix_4 hr.units) so_ix (aj_var (pv 0)) aj_int (fun _ _ => rfl)) aja_nil))) (ag_nm (pg_name (i := 1) hN rfl (by first | exact Or.inl rfl | exact Or.inr rfl))))
 (ass_cons (as_asg (aj_fn F_law_reach hr (aja_cons (aj_var (pv 1)) aja_nil)) (ag_nm (pg_name (i := 2) hN rfl (by first | exact Or.inl rfl | exact Or.inr rfl))))
 (ass_cons (as_asg aj_dnew (ag_nm (pg_name (i := 3) hN rfl (by first | exact Or.inl rfl | exact Or.inr rfl))))
 (ass_cons (as_forU (p := (.nm 4)) PassesOwn.never rfl (aj_var (pv 1)) (pg_name (i := 4) hN rfl (by first | exact Or.inl rfl | exact Or.inr rfl))
 (ass_one (as_if (ajt_cmp (op_in3 hr.units) so_in (aj_var (pv 4)) (aj_ix (ix_4 hr.units) so_ix (aj_var (pv 2)) (aj_var (pv 4)) (fun _ _ => rfl)) rfl)
 (ass_cons (as_asg (aj_ty1 call_tuple_of sc_tuple rfl B.tuple rfl (aj_bi1 (cr_sorted rfl) (sc_sorted hr.units) rfl B.sorted rfl (aj_lcU (own := [("_law_other", 10)]) ⟨rfl, hN, blkOk_by (by kernel_rfl)⟩ (by decide) (aj_ix (ix_4 hr.units) so_ix (aj_var (pv 2)) (aj_var (pv 4)) (fun _ _ => rfl)) (fun _ _ _ _ _ => (pg_name (i := 10) hN rfl (by first | exact Or.inl rfl | exact Or.inr rfl))) (fun _ _ _ _ _ => (pts1 (ajt_cmp (op_in3 hr.units) so_in (aj_var (pv 4)) (aj_ix (ix_4 hr.units) so_ix (aj_var (pv 2)) (aj_var (pv 10)) (fun _ _ => rfl)) rfl))) (fun _ _ _ _ _ => (aj_var (pv 10)))))) (ag_nm (pg_name (i := 5) hN rfl (by first | exact Or.inl rfl | exact Or.inr rfl))))
 (ass_one (as_asg aj_bl (ag_sub (aj_var (pv 3)) (aj_var (pv 5)) (set_3 hr.units) so_set))))
 ass_nil)))
 (ass_cons (as_asg (aj_lst aja_nil) (ag_nm (pg_name (i := 6) hN rfl (by first | exact Or.inl rfl | exact Or.inr rfl))))
 (ass_cons (as_forU (p := (.nm 5)) PassesOwn.never rfl (aj_var (pv 3)) (pg_name (i := 5) hN rfl (by first | exact Or.inl rfl | exact Or.inr rfl))
 (ass_cons (as_asg aj_dnew (ag_nm (pg_name (i := 7) hN rfl (by first | exact Or.inl rfl | exact Or.inr rfl))))
 (ass_cons (as_forU (p := (.nm 4)) PassesOwn.never rfl (aj_var (pv 5)) (pg_name (i := 4) hN rfl (by first | exact Or.inl rfl | exact Or.inr rfl))
 (ass_one (as_forU (p := (.pr 8 9)) PassesOwn.never rfl (aj_ix (ix_4 hr.units) so_ix (aj_var (pv 1)) (aj_var (pv 4)) (fun _ _ => rfl)) (pg_pr rfl (pg_name (i := 8) hN rfl (by first | exact Or.inl rfl | exact Or.inr rfl)) (pg_name (i := 9) hN rfl (by first | exact Or.inl rfl | exact Or.inr rfl)))
 (ass_one (as_if (PW.pt (ajw_and (ajt_cmp (op_notIn3 hr.units) so_in (aj_var (pv 8)) (aj_lst (aja_cons aj_non (aja_cons aj_str aja_nil))) rfl) (ajw_and1 (ajt_cmp (op_in3 hr.units) so_in (aj_var (pv 9)) (aj_var (pv 5)) rfl))))
 (ass_one (as_asg aj_bl (ag_sub (aj_var (pv 7)) (aj_ix (ix_4 hr.units) so_ix (aj_ix (ix_4 hr.units) so_ix (aj_ix (ix_4 hr.units) so_ix (aj_var (pv 0)) aj_int (fun _ _ => rfl)) (aj_ix (ix_4 hr.units) so_ix (aj_var (pv 4)) aj_int (fun _ _ => rfl)) (fun _ _ => rfl)) aj_int (fun _ _ => rfl)) (set_3 hr.units) so_set)))
 ass_nil)))))
 (ass_one (as_expr (aj_m1 PySem.F.plainAttrs_list PySem.F.slot_list_append PySem.F.type_list_append mt_append sm_append (aj_var (pv 6)) (aj_tup (aja_cons (aj_var (pv 5)) (aja_cons (aj_ty1 call_tuple_of sc_tuple rfl B.tuple rfl (aj_bi1 (cr_sorted rfl) (sc_sorted hr.units) rfl B.sorted rfl (aj_ty1 (cr_list rfl) sc_list rfl B.list rfl (aj_var (pv 7))))) aja_nil)))))))))
 (ass_one (as_ret (aj_bi1 (cr_sorted rfl) (sc_sorted hr.units) rfl B.sorted rfl (aj_var (pv 6)))))))))))
abbrev t_law_web : Stmt := topS 60
abbrev n_law_web : List Str := ["_law_spec_here", "_law_found", "_law_lot", "_law_rows", "_law_other", "_law_one"]
theorem sc_law_web : FnScope n_law_web ["_law_spec_here"] (defScope t_law_web) := ⟨rfl, rfl, rfl, by decide +kernel, rfl, by decide +kernel, by decide +kernel⟩
def b_law_web (s_law_pieces : ASp) : AS :=
 (aSeq (aAsg aDNew (agNm 1))
 (aSeq (aForU (aCall s_law_pieces (alCons (aVar 0) alNil)) (.pr 2 3)
 (aForU (aVar 3) (.nm 4)
 (aForU (aVar 3) (.nm 5)
 (aIf (atB (aO2 pLt (aVar 5) (aVar 4)))
 (aAsg (aC (.bl true)) (agSub (aVar 1) (aTup (alCons (aVar 5) (alCons (aVar 4) alNil)))))
 aNext))))
 (aRet (aO1 pTuple (aO1 pSorted (aO1 pList (aVar 1)))))))
theorem d_law_web {s_law_pieces : ASp} (B : Blt mg) (F_law_pieces : Fnc ⟨P, w, K⟩ mg base k "_law_pieces" s_law_pieces) : Bod P w K mg base k n_law_web "_law_web" t_law_web (b_law_web s_law_pieces) := fun cdv A outer s H f E hr => by
  have hN := sc_law_web.nd
  exact (ass_cons (as_asg aj_dnew (ag_nm (pg_name (i := 1) hN rfl (by first | exact Or.inl rfl | exact Or.inr rfl))))
 (ass_cons (as_forU (p := (.pr 2 3)) PassesOwn.never rfl (aj_fn F_law_pieces hr (aja_cons (aj_var (pv 0)) aja_nil)) (pg_pr rfl (pg_name (i := 2) hN rfl (by first | exact Or.inl rfl | exact Or.inr rfl)) (pg_name (i := 3) hN rfl (by first | exact Or.inl rfl | exact Or.inr rfl)))
 (ass_one (as_forU (p := (.nm 4)) PassesOwn.never rfl (aj_var (pv 3)) (pg_name (i := 4) hN rfl (by first | exact Or.inl rfl | exact Or.inr rfl))
 (ass_one (as_forU (p := (.nm 5)) PassesOwn.never rfl (aj_var (pv 3)) (pg_name (i := 5) hN rfl (by first | exact Or.inl rfl | exact Or.inr rfl))
 (ass_one (as_if (ajt_cmp op_lt so_cmp (aj_var (pv 5)) (aj_var (pv 4)) (nomark _))
 (ass_one (as_asg aj_bl (ag_sub (aj_var (pv 1)) (aj_tup (aja_cons (aj_var (pv 5)) (aja_cons (aj_var (pv 4)) aja_nil))) (set_3 hr.units) so_set)))
 ass_nil)))))))
 (ass_one (as_ret (aj_ty1 call_tuple_of sc_tuple rfl B.tuple rfl (aj_bi1 (cr_sorted rfl) (sc_sorted hr.units) rfl B.sorted rfl (aj_ty1 (cr_list rfl) sc_list rfl B.list rfl (aj_var (pv 1)))))))))
abbrev t_law_growths : Stmt := topS 61
abbrev n_law_growths : List Str := ["_law_rows", "_law_found", "_law_row", "_law_later", "_law_told", "_law_hand"]
theorem sc_law_growths : FnScope n_law_growths ["_law_rows"] (defScope t_law_growths) := ⟨rfl, rfl, rfl, by decide +kernel, rfl, by decide +kernel, by decide +kernel⟩
def b_law_growths : AS :=
 (aSeq (aAsg (aLst (alCons (aTup alNil) alNil)) (agNm 1))
 (aSeq (aFor (sRng1 (alCons (aVar 0) alNil)) (.nm 2)
 (aSeq (aAsg (aLst alNil) (agNm 3))
 (aSeq (aForU (aVar 1) (.nm 4)
 (aExp (aM1 pExtend (aVar 3) (aLc (sRng1 (alCons (aO2 pAdd (aO1 pMax (aO2 pAdd (aVar 4) (aTup (alCons (aO1 pNeg (aC (.int 1))) alNil)))) (aC (.int 2))) alNil)) (.nm 5) atYes (aO2 pAdd (aVar 4) (aTup (alCons (aVar 5) alNil))) [5]))))
 (aAsg (aVar 3) (agNm 1)))))
 (aRet (aVar 1))))
theorem d_law_growths (B : Blt mg) : Bod P w K mg base k n_law_growths "_law_growths" t_law_growths (b_law_growths) := fun cdv A outer s H f E hr => by
  have hN := sc_law_growths.nd
  exact (ass_cons (as_asg (aj_lst (aja_cons (aj_tup aja_nil) aja_nil)) (ag_nm (pg_name (i := 1) hN rfl (by first | exact Or.inl rfl | exact Or.inr rfl))))
 (ass_cons (as_for (p := (.nm 2)) PassesOwn.never rfl (ai_range1 rfl B.range (aja_cons (aj_var (pv 0)) aja_nil)) (pg_name (i := 2) hN rfl (by first | exact Or.inl rfl | exact Or.inr rfl))
 (ass_cons (as_asg (aj_lst aja_nil) (ag_nm (pg_name (i := 3) hN rfl (by first | exact Or.inl rfl | exact Or.inr rfl))))
 (ass_cons (as_forU (p := (.nm 4)) PassesOwn.never rfl (aj_var (pv 1)) (pg_name (i := 4) hN rfl (by first | exact Or.inl rfl | exact Or.inr rfl))
 (ass_one (as_expr (aj_m1 PySem.F.plainAttrs_list PySem.F.slot_list_extend PySem.F.type_list_extend mt_extend sm_extend (aj_var (pv 3)) (aj_lc (own := [("_law_hand", 5)]) ⟨rfl, hN, blkOk_by (by kernel_rfl)⟩ (by decide) (ai_range1 rfl B.range (aja_cons (aj_bin op_add3 so_add (aj_bi1 (cr_maxT rfl hr.units) sc_maxT rfl B.max rfl (aj_bin op_add3 so_add (aj_var (pv 4)) (aj_tup (aja_cons (aj_un un_neg so_neg aj_int) aja_nil)))) aj_int) aja_nil)) (fun _ _ _ _ _ => (pg_name (i := 5) hN rfl (by first | exact Or.inl rfl | exact Or.inr rfl))) (fun _ _ _ _ _ => pts0) (fun _ _ _ _ _ => (aj_bin op_add3 so_add (aj_var (pv 4)) (aj_tup (aja_cons (aj_var (pv 5)) aja_nil)))))))))
 (ass_one (as_asg (aj_var (pv 3)) (ag_nm (pg_name (i := 1) hN rfl (by first | exact Or.inl rfl | exact Or.inr rfl))))))))
 (ass_one (as_ret (aj_var (pv 1))))))
abbrev t_law_least : Stmt := topS 62
abbrev n_law_least : List Str := ["_law_spec_here", "_law_joined", "_law_best", "_law_dealing", "_law_pair"]
theorem sc_law_least : FnScope n_law_least ["_law_spec_here"] (defScope t_law_least) := ⟨rfl, rfl, rfl, by decide +kernel, rfl, by decide +kernel, by decide +kernel⟩
def b_law_least (s_law_web : ASp) (s_law_growths : ASp) : AS :=
 (aSeq (aAsg (aCall s_law_web (alCons (aVar 0) alNil)) (agNm 1))
 (aSeq (aAsg (aC .non) (agNm 2))
 (aSeq (aForU (aCall s_law_growths (alCons (aO2 pIx (aVar 0) (aC (.int 0))) alNil)) (.nm 3)
 (aIf (atB (aO2 pEq (aO1 pLen (aLcU (aVar 1) (.nm 4) (atB (aO2 pEq (aO2 pIx (aVar 3) (aO2 pIx (aVar 4) (aC (.int 0)))) (aO2 pIx (aVar 3) (aO2 pIx (aVar 4) (aC (.int 1)))))) (aVar 4) [4])) (aC (.int 0))))
 (aIf (atOr (atB (aO2 pIs (aVar 2) (aC .non))) (atB (aO2 pLt (aO2 pAdd (aO1 pMax (aVar 3)) (aC (.int 1))) (aO2 pIx (aVar 2) (aC (.int 0))))))
 (aAsg (aTup (alCons (aO2 pAdd (aO1 pMax (aVar 3)) (aC (.int 1))) (alCons (aVar 3) alNil))) (agNm 2))
 aNext)
 aNext))
 (aRet (aVar 2)))))
theorem d_law_least {s_law_web : ASp} {s_law_growths : ASp} (B : Blt mg) (F_law_web : Fnc ⟨P, w, K⟩ mg base k "_law_web" s_law_web) (F_law_growths : Fnc ⟨P, w, K⟩ mg base k "_law_growths" s_law_growths) : Bod P w K mg base k n_law_least "_law_least" t_law_least (b_law_least s_law_web s_law_growths) := fun cdv A outer s H f E hr => by
  have hN := sc_law_least.nd
  exact (ass_cons (as_asg (aj_fn F_law_web hr (aja_cons (aj_var (pv 0)) aja_nil)) (ag_nm (pg_name (i := 1) hN rfl (by first | exact Or.inl rfl | exact Or.inr rfl))))
 (ass_cons (as_asg aj_non (ag_nm (pg_name (i := 2) hN rfl (by first | exact Or.inl rfl | exact Or.inr rfl))))
 (ass_cons (as_forU (p := (.nm 3)) PassesOwn.never rfl (aj_fn F_law_growths hr (aja_cons (aj_ix (ix_4 hr.units) so_ix (aj_var (pv 0)) aj_int (fun _ _ => rfl)) aja_nil)) (pg_name (i := 3) hN rfl (by first | exact Or.inl rfl | exact Or.inr rfl))
 (ass_one (as_if (ajt_cmp (op_eq2 hr.units) so_eq (aj_bi1 cr_len2 sc_len rfl B.len rfl (aj_lcU (own := [("_law_pair", 4)]) ⟨rfl, hN, blkOk_by (by kernel_rfl)⟩ (by decide) (aj_var (pv 1)) (fun _ _ _ _ _ => (pg_name (i := 4) hN rfl (by first | exact Or.inl rfl | exact Or.inr rfl))) (fun _ _ _ _ _ => (pts1 (ajt_cmp (op_eq2 hr.units) so_eq (aj_ix (ix_4 hr.units) so_ix (aj_var (pv 3)) (aj_ix (ix_4 hr.units) so_ix (aj_var (pv 4)) aj_int (fun _ _ => rfl)) (fun _ _ => rfl)) (aj_ix (ix_4 hr.units) so_ix (aj_var (pv 3)) (aj_ix (ix_4 hr.units) so_ix (aj_var (pv 4)) aj_int (fun _ _ => rfl)) (fun _ _ => rfl)) (nomark _)))) (fun _ _ _ _ _ => (aj_var (pv 4))))) aj_int (nomark _))
 (ass_one (as_if (PW.pt (ajw_or (ajt_cmp op_isN so_is (aj_var (pv 2)) aj_non (nomark _)) (ajw_or1 (ajt_cmp op_lt so_cmp (aj_bin op_add3 so_add (aj_bi1 (cr_maxT rfl hr.units) sc_maxT rfl B.max rfl (aj_var (pv 3))) aj_int) (aj_ix (ix_4 hr.units) so_ix (aj_var (pv 2)) aj_int (fun _ _ => rfl)) (nomark _)))))
 (ass_one (as_asg (aj_tup (aja_cons (aj_bin op_add3 so_add (aj_bi1 (cr_maxT rfl hr.units) sc_maxT rfl B.max rfl (aj_var (pv 3))) aj_int) (aja_cons (aj_var (pv 3)) aja_nil))) (ag_nm (pg_name (i := 2) hN rfl (by first | exact Or.inl rfl | exact Or.inr rfl)))))
 ass_nil))
 ass_nil)))
 (ass_one (as_ret (aj_var (pv 2)))))))
abbrev t_law_ring_spec : Stmt := topS 63
abbrev n_law_ring_spec : List Str := ["_law_pot_here", "_law_least_here", "_law_most", "_law_rows", "_law_table", "_law_ring", "_law_line", "_law_begin", "_law_k", "_law_on"]
theorem sc_law_ring_spec : FnScope n_law_ring_spec ["_law_pot_here", "_law_least_here", "_law_most"] (defScope t_law_ring_spec) := ⟨rfl, rfl, rfl, by decide +kernel, rfl, by decide +kernel, by decide +kernel⟩
def b_law_ring_spec (s_law_draw : ASp) (s_law_mixed : ASp) : AS :=
 (aSeq (aAsg (aO2 pAdd (aVar 1) (aCall s_law_draw (alCons (aVar 0) (alCons (aO2 pAdd (aO2 pSub (aVar 2) (aVar 1)) (aC (.int 1))) alNil)))) (agNm 3))
 (aSeq (aAsg (aLst alNil) (agNm 4))
 (aSeq (aFor (sRng1 (alCons (aO2 pAdd (aC (.int 1)) (aCall s_law_draw (alCons (aVar 0) (alCons (aC (.int 3)) alNil)))) alNil)) (.nm 5)
 (aSeq (aAsg (aSl (aCall s_law_mixed (alCons (aVar 0) (alCons (aListR1 (aVar 3)) alNil))) aoNone (aoSome (aO2 pAdd (aC (.int 2)) (aCall s_law_draw (alCons (aVar 0) (alCons (aC (.int 2)) alNil)))))) (agNm 6))
 (aSeq (aAsg (aO1 pLen (aVar 4)) (agNm 7))
 (aFor (sRng1 (alCons (aO1 pLen (aVar 6)) alNil)) (.nm 8)
 (aSeq (aAsg (aO2 pAdd (aVar 7) (aO2 pMod (aO1 pInt (aO2 pAdd (aVar 8) (aC (.int 1)))) (aO1 pLen (aVar 6)))) (agNm 9))
 (aExp (aM1 pAppend (aVar 4) (aTup (alCons (aC (.str "look")) (alCons (aO2 pIx (aVar 6) (aVar 8)) (alCons (aTup (alCons (aVar 9) (alCons (aO2 pAdd (aVar 7) (aO1 pLen (aVar 6))) alNil))) alNil)))))))))))
 (aRet (aTup (alCons (aVar 3) (alCons (aC (.int 1)) (alCons (aO1 pTuple (aO2 pAdd (aVar 4) (aLst (alCons (aTup (alCons (aC (.str "stop")) alNil)) alNil)))) alNil))))))))
theorem d_law_ring_spec {s_law_draw : ASp} {s_law_mixed : ASp} (B : Blt mg) (F_law_draw : Fnc ⟨P, w, K⟩ mg base k "_law_draw" s_law_draw) (F_law_mixed : Fnc ⟨P, w, K⟩ mg base k "_law_mixed" s_law_mixed) : Bod P w K mg base k n_law_ring_spec "_law_ring_spec" t_law_ring_spec (b_law_ring_spec s_law_draw s_law_mixed) := fun cdv A outer s H f E hr => by
  have hN := sc_law_ring_spec.nd
  exact (ass_cons (as_asg (aj_bin op_add3 so_add (aj_var (pv 1)) (aj_fn F_law_draw hr (aja_cons (aj_var (pv 0)) (aja_cons (aj_bin op_add3 so_add (aj_bin op_sub so_sub (aj_var (pv 2)) (aj_var (pv 1))) aj_int) aja_nil)))) (ag_nm (pg_name (i := 3) hN rfl (by first | exact Or.inl rfl | exact Or.inr rfl))))
 (ass_cons (as_asg (aj_lst aja_nil) (ag_nm (pg_name (i := 4) hN rfl (by first | exact Or.inl rfl | exact Or.inr rfl))))
 (ass_cons (as_for (p := (.nm 5)) PassesOwn.never rfl (ai_range1 rfl B.range (aja_cons (aj_bin op_add3 so_add aj_int (aj_fn F_law_draw hr (aja_cons (aj_var (pv 0)) (aja_cons aj_int aja_nil)))) aja_nil)) (pg_name (i := 5) hN rfl (by first | exact Or.inl rfl | exact Or.inr rfl))
 (ass_cons (as_asg (aj_sl (aj_fn F_law_mixed hr (aja_cons (aj_var (pv 0)) (aja_cons (aj_listR1 rfl rfl B.list rfl B.range (aj_var (pv 3))) aja_nil))) ao_none (ao_some (aj_bin op_add3 so_add aj_int (aj_fn F_law_draw hr (aja_cons (aj_var (pv 0)) (aja_cons aj_int aja_nil)))))) (ag_nm (pg_name (i := 6) hN rfl (by first | exact Or.inl rfl | exact Or.inr rfl))))
 (ass_cons (as_asg (aj_bi1 cr_len2 sc_len rfl B.len rfl (aj_var (pv 4))) (ag_nm (pg_name (i := 7) hN rfl (by first | exact Or.inl rfl | exact Or.inr rfl))))
 (ass_one (as_for (p := (.nm 8)) PassesOwn.never rfl (ai_range1 rfl B.range (aja_cons (aj_bi1 cr_len2 sc_len rfl B.len rfl (aj_var (pv 6))) aja_nil)) (pg_name (i := 8) hN rfl (by first | exact Or.inl rfl | exact Or.inr rfl))
 (ass_cons (as_asg (aj_bin op_add3 so_add (aj_var (pv 7)) (aj_bin op_mod so_mod (aj_ty1 call_int1 sc_int rfl B.int rfl (aj_bin op_add3 so_add (aj_var (pv 8)) aj_int)) (aj_bi1 cr_len2 sc_len rfl B.len rfl (aj_var (pv 6))))) (ag_nm (pg_name (i := 9) hN rfl (by first | exact Or.inl rfl | exact Or.inr rfl))))
 (ass_one (as_expr (aj_m1 PySem.F.plainAttrs_list PySem.F.slot_list_append PySem.F.type_list_append mt_append sm_append (aj_var (pv 4)) (aj_tup (aja_cons aj_str (aja_cons (aj_ix (ix_4 hr.units) so_ix (aj_var (pv 6)) (aj_var (pv 8)) (fun _ _ => rfl)) (aja_cons (aj_tup (aja_cons (aj_var (pv 9)) (aja_cons (aj_bin op_add3 so_add (aj_var (pv 7)) (aj_bi1 cr_len2 sc_len rfl B.len rfl (aj_var (pv 6)))) aja_nil))) aja_nil)))))))))))))
 (ass_one (as_ret (aj_tup (aja_cons (aj_var (pv 3)) (aja_cons aj_int (aja_cons (aj_ty1 call_tuple_of sc_tuple rfl B.tuple rfl (aj_bin op_add3 so_add (aj_var (pv 4)) (aj_lst (aja_cons (aj_tup (aja_cons aj_str aja_nil)) aja_nil)))) aja_nil)))))))))
abbrev t_law : Stmt := topS 64
abbrev n_law : List Str := ["_law_script", "_law_pot_here", "_law_turn", "_law_spec_here", "_law_one", "_law_due", "_law_second", "_law_other"]
theorem sc_law : FnScope n_law ["_law_script"] (defScope t_law) := ⟨rfl, rfl, rfl, by decide +kernel, rfl, by decide +kernel, by decide +kernel⟩
def b_law (s_law_pot : ASp) (s_law_spec : ASp) (s_law_draw : ASp) (s_law_ring_spec : ASp) (s_law_made : ASp) (s_law_least : ASp) (s_is_free : ASp) (s_least_dealing : ASp) (s_fewest_hands : ASp) (s_beside : ASp) : AS :=
 (aSeq (aAsg (aCall s_law_pot (alCons (aVar 0) alNil)) (agNm 1))
 (aSeq (aFor (sRng1 (alCons (aC (.int 2)) alNil)) (.nm 2)
 (aSeq (aAsg (aCall s_law_spec (alCons (aVar 1) (alCons (aC (.int 5)) (alCons (aC (.int 2)) (alCons (aC (.int 8)) alNil))))) (agNm 3))
 (aSeq (aIf (atB (aO2 pEq (aCall s_law_draw (alCons (aVar 1) (alCons (aC (.int 2)) alNil))) (aC (.int 0))))
 (aAsg (aCall s_law_ring_spec (alCons (aVar 1) (alCons (aC (.int 3)) (alCons (aC (.int 6)) alNil)))) (agNm 3))
 aNext)
 (aSeq (aAsg (aCall s_law_made (alCons (aVar 3) alNil)) (agNm 4))
 (aSeq (aAsg (aCall s_law_least (alCons (aVar 3) alNil)) (agNm 5))
 (aSeq (aIf (atOr (atB (aO2 pNe (aTup (alCons (aCall s_fewest_hands (alCons (aVar 4) alNil)) (alCons (aCall s_least_dealing (alCons (aVar 4) alNil)) alNil))) (aVar 5))) (atB (aO2 pIsNot (aCall s_is_free (alCons (aVar 4) (alCons (aCall s_least_dealing (alCons (aVar 4) alNil)) alNil))) (aC (.bl true)))))
 (aRet (aC (.bl false)))
 aNext)
 (aSeq (aAsg (aCall s_law_spec (alCons (aVar 1) (alCons (aC (.int 2)) (alCons (aC (.int 2)) (alCons (aC (.int 5)) alNil))))) (agNm 6))
 (aIf (atB (aO2 pEq (aO2 pIx (aVar 6) (aC (.int 1))) (aO2 pIx (aVar 3) (aC (.int 1)))))
 (aSeq (aAsg (aCall s_law_made (alCons (aVar 6) alNil)) (agNm 7))
 (aIf (atB (aO2 pNotIn (aCall s_fewest_hands (alCons (aCall s_beside (alCons (aVar 4) (alCons (aVar 7) alNil))) alNil)) (aLst (alCons (aO2 pIx (aVar 5) (aC (.int 0))) (alCons (aO2 pMax2 (aO2 pIx (aVar 5) (aC (.int 0))) (aCall s_fewest_hands (alCons (aVar 7) alNil))) alNil)))))
 (aRet (aC (.bl false)))
 aNext))
 aNext))))))))
 (aRet (aC (.bl true)))))
theorem d_law {s_law_pot : ASp} {s_law_spec : ASp} {s_law_draw : ASp} {s_law_ring_spec : ASp} {s_law_made : ASp} {s_law_least : ASp} {s_is_free : ASp} {s_least_dealing : ASp} {s_fewest_hands : ASp} {s_beside : ASp} (B : Blt mg) (F_law_pot : Fnc ⟨P, w, K⟩ mg base k "_law_pot" s_law_pot) (F_law_spec : Fnc ⟨P, w, K⟩ mg base k "_law_spec" s_law_spec) (F_law_draw : Fnc ⟨P, w, K⟩ mg base k "_law_draw" s_law_draw) (F_law_ring_spec : Fnc ⟨P, w, K⟩ mg base k "_law_ring_spec" s_law_ring_spec) (F_law_made : Fnc ⟨P, w, K⟩ mg base k "_law_made" s_law_made) (F_law_least : Fnc ⟨P, w, K⟩ mg base k "_law_least" s_law_least) (F_is_free : Fnc ⟨P, w, K⟩ mg base k "is_free" s_is_free) (F_least_dealing : Fnc ⟨P, w, K⟩ mg base k "least_dealing" s_least_dealing) (F_fewest_hands : Fnc ⟨P, w, K⟩ mg base k "fewest_hands" s_fewest_hands) (F_beside : Fnc ⟨P, w, K⟩ mg base k "beside" s_beside) : Bod P w K mg base k n_law "law" t_law (b_law s_law_pot s_law_spec s_law_draw s_law_ring_spec s_law_made s_law_least s_is_free s_least_dealing s_fewest_hands s_beside) := fun cdv A outer s H f E hr => by
  have hN := sc_law.nd
  exact (ass_cons (as_asg (aj_fn F_law_pot hr (aja_cons (aj_var (pv 0)) aja_nil)) (ag_nm (pg_name (i := 1) hN rfl (by first | exact Or.inl rfl | exact Or.inr rfl))))
 (ass_cons (as_for (p := (.nm 2)) PassesOwn.never rfl (ai_range1 rfl B.range (aja_cons aj_int aja_nil)) (pg_name (i := 2) hN rfl (by first | exact Or.inl rfl | exact Or.inr rfl))
 (ass_cons (as_asg (aj_fn F_law_spec hr (aja_cons (aj_var (pv 1)) (aja_cons aj_int (aja_cons aj_int (aja_cons aj_int aja_nil))))) (ag_nm (pg_name (i := 3) hN rfl (by first | exact Or.inl rfl | exact Or.inr rfl))))
 (ass_cons (as_if (ajt_cmp (op_eq2 hr.units) so_eq (aj_fn F_law_draw hr (aja_cons (aj_var (pv 1)) (aja_cons aj_int aja_nil))) aj_int (nomark _))
 (ass_one (as_asg (aj_fn F_law_ring_spec hr (aja_cons (aj_var (pv 1)) (aja_cons aj_int (aja_cons aj_int aja_nil)))) (ag_nm (pg_name (i := 3) hN rfl (by first | exact Or.inl rfl | exact Or.inr rfl)))))
 ass_nil)
 (ass_cons (as_asg (aj_fn F_law_made hr (aja_cons (aj_var (pv 3)) aja_nil)) (ag_nm (pg_name (i := 4) hN rfl (by first | exact Or.inl rfl | exact Or.inr rfl))))
 (ass_cons (as_asg (aj_fn F_law_least hr (aja_cons (aj_var (pv 3)) aja_nil)) (ag_nm (pg_name (i := 5) hN rfl (by first | exact Or.inl rfl | exact Or.inr rfl))))
 (ass_cons (as_if (PW.pt (ajw_or (ajt_cmp (op_ne2 hr.units) so_ne (aj_tup (aja_cons (aj_fn F_fewest_hands hr (aja_cons (aj_var (pv 4)) aja_nil)) (aja_cons (aj_fn F_least_dealing hr (aja_cons (aj_var (pv 4)) aja_nil)) aja_nil))) (aj_var (pv 5)) (nomark _)) (ajw_or1 (ajt_cmp op_isNot2 so_isNot (aj_fn F_is_free hr (aja_cons (aj_var (pv 4)) (aja_cons (aj_fn F_least_dealing hr (aja_cons (aj_var (pv 4)) aja_nil)) aja_nil))) aj_bl (nomark _)))))
 (ass_one (as_ret aj_bl))
 ass_nil)
 (ass_cons (as_asg (aj_fn F_law_spec hr (aja_cons (aj_var (pv 1)) (aja_cons aj_int (aja_cons aj_int (aja_cons aj_int aja_nil))))) (ag_nm (pg_name (i := 6) hN rfl (by first | exact Or.inl rfl | exact Or.inr rfl))))
 (ass_one (as_if (ajt_cmp (op_eq2 hr.units) so_eq (aj_ix (ix_4 hr.units) so_ix (aj_var (pv 6)) aj_int (fun _ _ => rfl)) (aj_ix (ix_4 hr.units) so_ix (aj_var (pv 3)) aj_int (fun _ _ => rfl)) (nomark _))
 (ass_cons (as_asg (aj_fn F_law_made hr (aja_cons (aj_var (pv 6)) aja_nil)) (ag_nm (pg_name (i := 7) hN rfl (by first | exact Or.inl rfl | exact Or.inr rfl))))
 (ass_one (as_if (ajt_cmp (op_notIn3 hr.units) so_in (aj_fn F_fewest_hands hr (aja_cons (aj_fn F_beside hr (aja_cons (aj_var (pv 4)) (aja_cons (aj_var (pv 7)) aja_nil))) aja_nil)) (aj_lst (aja_cons (aj_ix (ix_4 hr.units) so_ix (aj_var (pv 5)) aj_int (fun _ _ => rfl)) (aja_cons (aj_bi2 (call_max2 rfl) sc_max2 rfl B.max rfl (aj_ix (ix_4 hr.units) so_ix (aj_var (pv 5)) aj_int (fun _ _ => rfl)) (aj_fn F_fewest_hands hr (aja_cons (aj_var (pv 7)) aja_nil))) aja_nil))) rfl)
 (ass_one (as_ret aj_bl))
 ass_nil)))
 ass_nil)))))))))
 (ass_one (as_ret aj_bl))))
end
end Ab

set_option Elab.async false
set_option linter.all false
set_option maxRecDepth 100000
set_option maxHeartbeats 2000000
/-! Steps of the pure machine. -/
namespace Ab
open PySem

/-! ### stores -/
/-- whatever stood, but S, stands -/
def Kp (S : List Nat) (st st' : Store) : Prop := st.length ≤ st'.length ∧ ∀ n, n < st.length → n ∉ S → st'[n]? = st[n]?
theorem Kp.refl (S : List Nat) (st : Store) : Kp S st st := ⟨Nat.le_refl _, fun _ _ _ => rfl⟩
theorem Kp.trans {S : List Nat} {a b c : Store} (h : Kp S a b) (k : Kp S b c) : Kp S a c := ⟨Nat.le_trans h.1 k.1, fun n l m => by rw [k.2 n (Nat.lt_of_lt_of_le l h.1) m, h.2 n l m]⟩
theorem Kp.app {S : List Nat} {a b : Store} (h : Kp S a b) (o : MO) : Kp S a (b ++ [o]) := ⟨by rw [List.length_append]; have := h.1; omega, fun n l m => by rw [List.getElem?_append_left (Nat.lt_of_lt_of_le l h.1), h.2 n l m]⟩
theorem Kp.set {S : List Nat} {a b : Store} (h : Kp S a b) {n : Nat} (o : MO) (hn : n ∈ S ∨ a.length ≤ n) : Kp S a (b.set n o) := ⟨by rw [List.length_set]; exact h.1, fun k l m => by
  rw [List.getElem?_set_ne (fun e => by subst e; rcases hn with hn | hn; exact m hn; omega), h.2 k l m]⟩
theorem Kp.le {S T : List Nat} {a b : Store} (h : Kp S a b) (hs : ∀ n ∈ S, n < a.length → n ∈ T) : Kp T a b := ⟨h.1, fun n l m => h.2 n l fun x => m (hs n x l)⟩
theorem Kp.at {S : List Nat} {a b : Store} (h : Kp S a b) {n : Nat} {o : MO} (e : a[n]? = some o) (m : n ∉ S) : b[n]? = some o := by
  rw [h.2 n (List.getElem?_eq_some_iff.mp e).1 m, e]
theorem at_new (st : Store) (o : MO) : (st ++ [o])[st.length]? = some o := by simp
theorem at_app {st : Store} {n : Nat} {o : MO} (h : st[n]? = some o) (x : MO) : (st ++ [x])[n]? = some o := by
  rw [List.getElem?_append_left (List.getElem?_eq_some_iff.mp h).1, h]
theorem at_ne {st : Store} {n m : Nat} {o : MO} (h : st[n]? = some o) (ne : m ≠ n) (x : MO) : (st.set m x)[n]? = some o := by rw [List.getElem?_set_ne ne, h]
theorem at_self {st : Store} {n : Nat} {o : MO} (h : st[n]? = some o) (x : MO) : (st.set n x)[n]? = some x := by rw [List.getElem?_set_self (List.getElem?_eq_some_iff.mp h).1]
theorem at_lt {st : Store} {n : Nat} {o : MO} (h : st[n]? = some o) : n < st.length := (List.getElem?_eq_some_iff.mp h).1
theorem set_back {st : Store} {n : Nat} {o : MO} (h : st[n]? = some o) (x : MO) : (st.set n x).set n o = st := by
  rw [List.set_set]
  apply List.ext_getElem?
  intro k
  by_cases e : n = k
  · subst e; rw [List.getElem?_set_self (at_lt h), h]
  · rw [List.getElem?_set_ne e]

/-! ### operators -/
section
variable {st : Store} {Q : DK}
theorem p_add {i j : Int} (q : Q (.int (i + j)) st) : pAdd (.int i) (.int j) st Q := .inl ⟨i, j, rfl, rfl, q⟩
theorem p_addT {xs ys : List D} (h : xs.length + ys.length ≤ LIM) (q : Q (.tup (xs ++ ys)) st) : pAdd (.tup xs) (.tup ys) st Q := .inr (.inl ⟨xs, ys, rfl, rfl, h, q⟩)
theorem p_addL {n k : Nat} {xs ys : List D} (h1 : st[n]? = some (.lst xs)) (h2 : st[k]? = some (.lst ys)) (h : xs.length + ys.length ≤ LIM) (q : Q (.ref st.length) (st ++ [.lst (xs ++ ys)])) : pAdd (.ref n) (.ref k) st Q := .inr (.inr ⟨n, k, xs, ys, rfl, rfl, h1, h2, h, q⟩)
theorem p_sub {i j : Int} (q : Q (.int (i - j)) st) : pSub (.int i) (.int j) st Q := ⟨i, j, rfl, rfl, q⟩
theorem p_neg {i : Int} (q : Q (.int (-i)) st) : pNeg (.int i) st Q := ⟨i, rfl, q⟩
theorem p_cmp {f : Int → Int → Bool} {i j : Int} (q : Q (.bl (f i j)) st) : pCmp f (.int i) (.int j) st Q := ⟨i, j, rfl, rfl, q⟩
theorem p_eqI {i j : Int} (q : Q (.bl (decide (i = j))) st) : pEq (.int i) (.int j) st Q := .inl ⟨i, j, rfl, rfl, q⟩
theorem p_eqS {i j : Str} (q : Q (.bl (decide (i = j))) st) : pEq (.str i) (.str j) st Q := .inr (.inl ⟨i, j, rfl, rfl, q⟩)
theorem p_eqK {x y : D} (a b : NestedKey) (e : x = dk a) (e2 : y = dk b) (ha : a.depth ≤ 8) (hb : b.depth ≤ 8) (ka : keyOk a = true) (kb : keyOk b = true) (q : Q (.bl (decide (a = b))) st) : pEq x y st Q := .inr (.inr ⟨a, b, e, e2, ha, hb, ka, kb, q⟩)
theorem p_neI {i j : Int} (q : Q (.bl (!decide (i = j))) st) : pNe (.int i) (.int j) st Q := .inl ⟨i, j, rfl, rfl, q⟩
theorem p_neK {x y : D} (a b : NestedKey) (e : x = dk a) (e2 : y = dk b) (ha : a.depth ≤ 8) (hb : b.depth ≤ 8) (ka : keyOk a = true) (kb : keyOk b = true) (q : Q (.bl (!decide (a = b))) st) : pNe x y st Q := .inr (.inr ⟨a, b, e, e2, ha, hb, ka, kb, q⟩)
theorem p_inT {x y : D} (a : NestedKey) (ks : List NestedKey) (ex : x = dk a) (ey : y = .tup (ks.map dk)) (h1 : a.depth ≤ 7) (h2 : ∀ k ∈ ks, k.depth ≤ 7) (q : Q (.bl (decide (a ∈ ks))) st) : pIn x y st Q := .inl ⟨a, ks, ex, .inl ey, h1, h2, q⟩
theorem p_inL {x : D} {n : Nat} (a : NestedKey) (ks : List NestedKey) (ex : x = dk a) (h : st[n]? = some (.lst (ks.map dk))) (h1 : a.depth ≤ 7) (h2 : ∀ k ∈ ks, k.depth ≤ 7) (q : Q (.bl (decide (a ∈ ks))) st) : pIn x (.ref n) st Q := .inl ⟨a, ks, ex, .inr ⟨n, rfl, h⟩, h1, h2, q⟩
theorem p_ninL {x : D} {n : Nat} (a : NestedKey) (ks : List NestedKey) (ex : x = dk a) (h : st[n]? = some (.lst (ks.map dk))) (h1 : a.depth ≤ 7) (h2 : ∀ k ∈ ks, k.depth ≤ 7) (q : Q (.bl (!decide (a ∈ ks))) st) : pNotIn x (.ref n) st Q := .inl ⟨a, ks, ex, .inr ⟨n, rfl, h⟩, h1, h2, q⟩
theorem p_inD {x : D} {n : Nat} {lk : Bool} {kvs : List (NestedKey × D)} (k : NestedKey) (ex : x = dk k) (hd : k.depth ≤ 8) (ht : ∃ ks, k = .tup ks) (h : st[n]? = some (.dt lk kvs)) (q : Q (.bl (val kvs k).isSome) st) : pIn x (.ref n) st Q := .inr (.inl ⟨k, n, lk, kvs, ex, hd, ht, rfl, h, q⟩)
theorem p_ninD {x : D} {n : Nat} {lk : Bool} {kvs : List (NestedKey × D)} (k : NestedKey) (ex : x = dk k) (hd : k.depth ≤ 8) (ht : ∃ ks, k = .tup ks) (h : st[n]? = some (.dt lk kvs)) (q : Q (.bl (!(val kvs k).isSome)) st) : pNotIn x (.ref n) st Q := .inr (.inl ⟨k, n, lk, kvs, ex, hd, ht, rfl, h, q⟩)
theorem p_isN {x : D} (q : Q (.bl (isNon x)) st) : pIs x .non st Q := ⟨rfl, q⟩
theorem p_isNotN {x : D} (q : Q (.bl (!isNon x)) st) : pIsNot x .non st Q := .inl ⟨rfl, q⟩
theorem p_isNotB {a b : Bool} (q : Q (.bl (!decide (a = b))) st) : pIsNot (.bl a) (.bl b) st Q := .inr ⟨a, b, rfl, rfl, q⟩
theorem p_ixT {xs : List D} {i : Int} {v : D} (h : atI xs i = some v) (q : Q v st) : pIx (.tup xs) (.int i) st Q := .inl ⟨xs, i, v, rfl, rfl, h, q⟩
theorem p_ixL {n : Nat} {xs : List D} {i : Int} {v : D} (hn : st[n]? = some (.lst xs)) (h : atI xs i = some v) (q : Q v st) : pIx (.ref n) (.int i) st Q := .inr (.inl ⟨n, xs, i, v, rfl, rfl, hn, h, q⟩)
theorem p_ixD {n : Nat} {lk : Bool} {kvs : List (NestedKey × D)} {y v : D} (k : NestedKey) (ey : y = dk k) (hd : k.depth ≤ 8) (ht : ∃ ks, k = .tup ks) (hn : st[n]? = some (.dt lk kvs)) (h : val kvs k = some v) (q : Q v st) : pIx (.ref n) y st Q := .inr (.inr (.inl ⟨n, lk, kvs, k, v, rfl, ey, hd, ht, hn, h, q⟩))
theorem p_ixS {s : Str} {i : Int} {c : Nat} (hs : s.length ≤ LIM) (h : atI s.cps.toList i = some c) (q : Q (.str ⟨#[c]⟩) st) : pIx (.str s) (.int i) st Q := .inr (.inr (.inr ⟨s, i, c, rfl, rfl, hs, h, q⟩))
theorem p_lenT {xs : List D} (q : Q (.int xs.length) st) : pLen (.tup xs) st Q := .inl ⟨xs, rfl, q⟩
theorem p_lenL {n : Nat} {xs : List D} (h : st[n]? = some (.lst xs)) (q : Q (.int xs.length) st) : pLen (.ref n) st Q := .inr (.inl ⟨n, xs, rfl, h, q⟩)
theorem p_lenD {n : Nat} {lk : Bool} {kvs : List (NestedKey × D)} (h : st[n]? = some (.dt lk kvs)) (hl : kvs.length ≤ LIM) (q : Q (.int kvs.length) st) : pLen (.ref n) st Q := .inr (.inr (.inl ⟨n, lk, kvs, rfl, h, hl, q⟩))
theorem p_lenS {s : Str} (hs : s.length ≤ LIM) (q : Q (.int s.length) st) : pLen (.str s) st Q := .inr (.inr (.inr ⟨s, rfl, hs, q⟩))
theorem p_tupL {n : Nat} {xs : List D} (h : st[n]? = some (.lst xs)) (q : Q (.tup xs) st) : pTuple (.ref n) st Q := ⟨xs, .inr ⟨n, rfl, h⟩, q⟩
theorem p_all {n : Nat} (bs : List Bool) (h : st[n]? = some (.lst (bs.map .bl))) (q : Q (.bl (bs.all id)) st) : pAll (.ref n) st Q := ⟨n, bs, rfl, h, q⟩
theorem p_any {n : Nat} (bs : List Bool) (h : st[n]? = some (.lst (bs.map .bl))) (q : Q (.bl (bs.any id)) st) : pAny (.ref n) st Q := ⟨n, bs, rfl, h, q⟩
theorem p_app {n : Nat} {xs : List D} {y : D} (h : st[n]? = some (.lst xs)) (hl : xs.length < LIM) (q : Q .non (st.set n (.lst (xs ++ [y])))) : pAppend (.ref n) y st Q := ⟨n, xs, rfl, h, hl, q⟩
theorem p_ext {n k : Nat} {xs ys : List D} (h : st[n]? = some (.lst xs)) (h2 : st[k]? = some (.lst ys)) (hl : xs.length + ys.length ≤ LIM) (q : Q .non (st.set n (.lst (xs ++ ys)))) : pExtend (.ref n) (.ref k) st Q := ⟨n, k, xs, ys, rfl, rfl, h, h2, hl, q⟩
theorem p_pop {n : Nat} {xs : List D} {y : D} (h : st[n]? = some (.lst (xs ++ [y]))) (q : Q y (st.set n (.lst xs))) : pPop (.ref n) st Q := ⟨n, xs, y, rfl, h, q⟩
theorem p_setL {n : Nat} {xs : List D} {k : Int} {j : Nat} {v : D} {R : Store → Prop} (h : st[n]? = some (.lst xs)) (hj : ixN xs.length k = some j) (q : R (st.set n (.lst (xs.set j v)))) : pSet (.ref n) (.int k) v st R := .inl ⟨n, k, xs, j, rfl, rfl, h, hj, q⟩
theorem p_setD {n : Nat} {kvs : List (NestedKey × D)} {i v : D} {R : Store → Prop} (k : NestedKey) (ei : i = dk k) (hd : k.depth ≤ 8) (ht : ∃ ks, k = .tup ks) (h : st[n]? = some (.dt false kvs)) (hl : kvs.length < LIM) (q : R (st.set n (.dt false (put kvs k v)))) : pSet (.ref n) i v st R := .inr (.inl ⟨n, kvs, k, rfl, ei, hd, ht, h, hl, q⟩)
theorem p_setI {n : Nat} {kvs : List (Int × D)} {k : Int} {v : D} {R : Store → Prop} (h : st[n]? = some (.di false kvs)) (hl : kvs.length < LIM) (q : R (st.set n (.di false (put kvs k v)))) : pSet (.ref n) (.int k) v st R := .inr (.inr ⟨n, kvs, k, rfl, rfl, h, hl, q⟩)
end

/-! ### branches -/
theorem br_t {A B : Prop} (h : A) : Br true A B := ⟨fun _ => h, fun e => by cases e⟩
theorem br_f {A B : Prop} (h : B) : Br false A B := ⟨fun e => (by cases e), fun _ => h⟩
theorem br_i {b : Bool} {A B : Prop} (h : b = true → A) (k : b = false → B) : Br b A B := ⟨h, k⟩
theorem br_d {p : Prop} [Decidable p] {A B : Prop} (h : p → A) (k : ¬ p → B) : Br (decide p) A B := ⟨fun e => h (of_decide_eq_true e), fun e => k (of_decide_eq_false e)⟩
theorem br_nd {p : Prop} [Decidable p] {A B : Prop} (h : ¬ p → A) (k : p → B) : Br (!decide p) A B := ⟨fun e => h (by simpa using e), fun e => k (by simpa using e)⟩

/-! ### reading -/
theorem atI_nat {α : Type} {xs : List α} {i : Nat} {v : α} (h : xs[i]? = some v) : atI xs (i : Int) = some v := by
  have hl := (List.getElem?_eq_some_iff.mp h).1
  unfold atI ixN
  rw [if_pos (by omega), if_pos (by omega)]
  simpa using h
theorem atI_last {α : Type} (xs : List α) (y : α) : atI (xs ++ [y]) (-1) = some y := by
  unfold atI ixN
  rw [if_neg (by omega), if_pos (by simp; omega)]
  simp
  rw [show ((-1 : Int) + ((xs.length : Int) + 1)).toNat = xs.length by omega]
  simp
theorem ixN_nat {n i : Nat} (h : i < n) : ixN n (i : Int) = some i := by
  unfold ixN
  rw [if_pos (by omega), if_pos (by omega)]
  simp
theorem LIM_eq : LIM = 16000000 := rfl
theorem cut_none {α : Type} (xs : List α) : cut xs none none = xs := by simp [cut, sIx]

/-! ### by equations -/
section
variable {st : Store} {Q : DK}
theorem e_add {i j : Int} : pAdd (.int i) (.int j) st Q = Q (.int (i + j)) st := by simp [pAdd]
theorem e_sub {i j : Int} : pSub (.int i) (.int j) st Q = Q (.int (i - j)) st := by simp [pSub]
theorem e_neg {i : Int} : pNeg (.int i) st Q = Q (.int (-i)) st := by simp [pNeg]
theorem e_cmp {f : Int → Int → Bool} {i j : Int} : pCmp f (.int i) (.int j) st Q = Q (.bl (f i j)) st := by simp [pCmp]
theorem dk_int {k : NestedKey} {i : Int} (h : D.int i = dk k) : k = .num i := by
  cases k <;> simp [dk] at h
  rw [h]
theorem dk_str {k : NestedKey} {i : Str} (h : D.str i = dk k) : k = .text i := by
  cases k <;> simp [dk] at h
  rw [h]
theorem e_eqI {i j : Int} : pEq (.int i) (.int j) st Q = Q (.bl (decide (i = j))) st := by
  apply propext
  constructor
  · rintro (⟨a, b, h1, h2, q⟩ | ⟨a, b, h1, h2, q⟩ | ⟨a, b, h1, h2, _, _, _, _, q⟩)
    · cases h1; cases h2; exact q
    · cases h1
    · rw [dk_int h1, dk_int h2] at q
      simpa using q
  · exact fun q => .inl ⟨i, j, rfl, rfl, q⟩
theorem e_eqS {i j : Str} : pEq (.str i) (.str j) st Q = Q (.bl (decide (i = j))) st := by
  apply propext
  constructor
  · rintro (⟨a, b, h1, h2, q⟩ | ⟨a, b, h1, h2, q⟩ | ⟨a, b, h1, h2, _, _, _, _, q⟩)
    · cases h1
    · cases h1; cases h2; exact q
    · rw [dk_str h1, dk_str h2] at q
      simpa using q
  · exact fun q => .inr (.inl ⟨i, j, rfl, rfl, q⟩)
theorem e_neI {i j : Int} : pNe (.int i) (.int j) st Q = Q (.bl (!decide (i = j))) st := by
  apply propext
  constructor
  · rintro (⟨a, b, h1, h2, q⟩ | ⟨a, b, h1, h2, q⟩ | ⟨a, b, h1, h2, _, _, _, _, q⟩)
    · cases h1; cases h2; exact q
    · cases h1
    · rw [dk_int h1, dk_int h2] at q
      simpa using q
  · exact fun q => .inl ⟨i, j, rfl, rfl, q⟩
theorem e_isN {x : D} : pIs x .non st Q = Q (.bl (isNon x)) st := by simp [pIs]
theorem e_isNotN {x : D} : pIsNot x .non st Q = Q (.bl (!isNon x)) st := by simp [pIsNot]
theorem e_ixT {xs : List D} {i : Int} : pIx (.tup xs) (.int i) st Q = ∃ v, atI xs i = some v ∧ Q v st := by simp [pIx]
theorem e_lenT {xs : List D} : pLen (.tup xs) st Q = Q (.int xs.length) st := by simp [pLen]
theorem e_int {i : Int} : pInt (.int i) st Q = Q (.int i) st := by simp [pInt]
theorem e_abs {i : Int} : pAbs (.int i) st Q = Q (.int (if i < 0 then -i else i)) st := by simp [pAbs]
theorem e_max2 {i j : Int} : pMax2 (.int i) (.int j) st Q = Q (.int (if j > i then j else i)) st := by simp [pMax2]
theorem e_min2 {i j : Int} : pMin2 (.int i) (.int j) st Q = Q (.int (if j < i then j else i)) st := by simp [pMin2]
theorem e_tupT {xs : List D} : pTuple (.tup xs) st Q = Q (.tup xs) st := by simp [pTuple, items]
theorem e_isiI {i : Int} : pIsi .int (.int i) st Q = Q (.bl true) st := rfl
theorem e_isiB {i : Int} : pIsi .bool (.int i) st Q = Q (.bl false) st := rfl
theorem e_isiS {i : Str} : pIsi .str (.str i) st Q = Q (.bl true) st := rfl
theorem e_isiT {i : List D} : pIsi .tuple (.tup i) st Q = Q (.bl true) st := rfl
theorem atI0 {α : Type} {x : α} {xs : List α} : atI (x :: xs) 0 = some x := by simp [atI, ixN]
theorem atI1 {α : Type} {x y : α} {xs : List α} : atI (x :: y :: xs) 1 = some y := atI_nat (i := 1) rfl
theorem atI2 {α : Type} {x y z : α} {xs : List α} : atI (x :: y :: z :: xs) 2 = some z := atI_nat (i := 2) rfl
theorem e_br_t {A B : Prop} : Br true A B = A := by simp [Br]
theorem e_br_f {A B : Prop} : Br false A B = B := by simp [Br]
theorem e_blx {b : Bool} {P : Bool → Prop} : (∃ k, D.bl b = D.bl k ∧ P k) = P b := by simp
theorem e_intx {b : Int} {P : Int → Prop} : (∃ k, D.int b = D.int k ∧ P k) = P b := by simp
theorem e_somex {α : Type} {b : α} {P : α → Prop} : (∃ k, some b = some k ∧ P k) = P b := by simp
theorem e_somey {α : Type} {b : α} {P : α → Prop} : (∃ k, some (some b) = some (some k) ∧ P k) = P b := by simp
theorem e_pair {x y : D} {P : D → D → Prop} : (∃ a b, D.tup [x, y] = D.tup [a, b] ∧ P a b) = P x y := propext ⟨fun ⟨a, b, e, q⟩ => by cases e; exact q, fun q => ⟨x, y, rfl, q⟩⟩
theorem e_two {x y : D} {P : D → D → Prop} : (∃ a b, [x, y] = [a, b] ∧ P a b) = P x y := propext ⟨fun ⟨a, b, e, q⟩ => by cases e; exact q, fun q => ⟨x, y, rfl, q⟩⟩
end
theorem s_look_say : (Str.ofString "look" = Str.ofString "say") = False := eq_false (by decide)
theorem s_look_stop : (Str.ofString "look" = Str.ofString "stop") = False := eq_false (by decide)
theorem s_look_end : (Str.ofString "look" = Str.ofString "end") = False := eq_false (by decide)
theorem s_say_look : (Str.ofString "say" = Str.ofString "look") = False := eq_false (by decide)
theorem s_say_stop : (Str.ofString "say" = Str.ofString "stop") = False := eq_false (by decide)
theorem s_say_end : (Str.ofString "say" = Str.ofString "end") = False := eq_false (by decide)
theorem s_stop_look : (Str.ofString "stop" = Str.ofString "look") = False := eq_false (by decide)
theorem s_stop_say : (Str.ofString "stop" = Str.ofString "say") = False := eq_false (by decide)
theorem s_stop_end : (Str.ofString "stop" = Str.ofString "end") = False := eq_false (by decide)
theorem s_end_look : (Str.ofString "end" = Str.ofString "look") = False := eq_false (by decide)
theorem s_end_say : (Str.ofString "end" = Str.ofString "say") = False := eq_false (by decide)
theorem s_end_stop : (Str.ofString "end" = Str.ofString "stop") = False := eq_false (by decide)
theorem c_0 : ((0 : Nat) : Int) = 0 := rfl
theorem c_1 : ((1 : Nat) : Int) = 1 := rfl
theorem c_2 : ((2 : Nat) : Int) = 2 := rfl
theorem c_3 : ((3 : Nat) : Int) = 3 := rfl
theorem c_4 : ((4 : Nat) : Int) = 4 := rfl
theorem c_5 : ((5 : Nat) : Int) = 5 := rfl
theorem c_6 : ((6 : Nat) : Int) = 6 := rfl
theorem c_7 : ((7 : Nat) : Int) = 7 := rfl
theorem c_8 : ((8 : Nat) : Int) = 8 := rfl
theorem c_9 : ((9 : Nat) : Int) = 9 := rfl

/-- a comprehension whose element only looks -/
theorem lc_map {α : Type} {zs : List α} (a b : α → D) {chk : Store → Prop} {env : Env} {st : Store} {Q : DK} {v : Nat} {e : AE} (hc : chk st) (hl : zs.length ≤ LIM) (he : ∀ z ∈ zs, ∀ Qe : DK, Qe (b z) st → e ((env.set v none).set v (some (a z))) st Qe)
    (q : Q (.ref st.length) (st ++ [.lst (zs.map b)])) : lcRun ⟨zs.map a, chk⟩ (.nm v) atYes e [v] env st Q := by
  refine ⟨fun i acc st' => acc = (zs.take i).map b ∧ st = st', ⟨by simp, rfl⟩, by simpa using hl, ?_, ?_, ?_⟩
  · rintro i acc st' ⟨rfl, rfl⟩
    exact hc
  · rintro i x acc st' hx ⟨rfl, rfl⟩
    obtain ⟨z, hz, rfl⟩ := Option.map_eq_some_iff.mp ((List.getElem?_map ..).symm.trans hx)
    refine br_t (he z (List.mem_of_getElem? hz) _ ⟨?_, rfl⟩)
    rw [List.take_add_one, hz, List.map_append]
    rfl
  · rintro acc st' ⟨rfl, rfl⟩
    have : zs.take (List.map a zs).length = zs := by rw [List.length_map, List.take_length]
    rw [this]
    exact q
/-- .. with a test that only looks -/
theorem lc_filter {α : Type} {zs : List α} (a b : α → D) (p : α → Bool) {chk : Store → Prop} {env : Env} {st : Store} {Q : DK} {v : Nat} {t : AT} {e : AE} (hc : chk st) (hl : zs.length ≤ LIM)
    (ht : ∀ z ∈ zs, ∀ Qt : Bool → Store → Prop, Qt (p z) st → t ((env.set v none).set v (some (a z))) st Qt)
    (he : ∀ z ∈ zs, p z = true → ∀ Qe : DK, Qe (b z) st → e ((env.set v none).set v (some (a z))) st Qe)
    (q : Q (.ref st.length) (st ++ [.lst ((zs.filter p).map b)])) : lcRun ⟨zs.map a, chk⟩ (.nm v) t e [v] env st Q := by
  refine ⟨fun i acc st' => acc = ((zs.take i).filter p).map b ∧ st = st', ⟨by simp, rfl⟩, by simpa using hl, ?_, ?_, ?_⟩
  · rintro i acc st' ⟨rfl, rfl⟩
    exact hc
  · rintro i x acc st' hx ⟨rfl, rfl⟩
    obtain ⟨z, hz, rfl⟩ := Option.map_eq_some_iff.mp ((List.getElem?_map ..).symm.trans hx)
    refine ht z (List.mem_of_getElem? hz) _ (br_i (fun h => he z (List.mem_of_getElem? hz) h _ ⟨?_, rfl⟩) fun h => ⟨?_, rfl⟩)
    · rw [List.take_add_one, hz, List.filter_append, List.map_append]
      simp [h]
    · rw [List.take_add_one, hz, List.filter_append, List.map_append]
      simp [h]
  · rintro acc st' ⟨rfl, rfl⟩
    have : zs.take (List.map a zs).length = zs := by rw [List.length_map, List.take_length]
    rw [this]
    exact q
end Ab

set_option Elab.async false
set_option linter.all false
set_option maxRecDepth 100000
set_option maxHeartbeats 2000000
/-! Hashes of pairs with the same second part. -/
namespace Ab
open PySem

def rotH (x : Nat) : Nat := (x * 2 ^ 31) % 2 ^ 64 + x / 2 ^ 33
def gH (x : Nat) : Nat := (rotH x * 11400714785074694791) % 2 ^ 64
theorem rot_inj {x y : Nat} (hx : x < 2 ^ 64) (hy : y < 2 ^ 64) (h : rotH x = rotH y) : x = y := by
  unfold rotH at h
  have e1 : (x * 2 ^ 31) % 2 ^ 64 = (x % 2 ^ 33) * 2 ^ 31 := by
    rw [show (2 : Nat) ^ 64 = 2 ^ 33 * 2 ^ 31 from rfl, Nat.mul_mod_mul_right]
  have e2 : (y * 2 ^ 31) % 2 ^ 64 = (y % 2 ^ 33) * 2 ^ 31 := by
    rw [show (2 : Nat) ^ 64 = 2 ^ 33 * 2 ^ 31 from rfl, Nat.mul_mod_mul_right]
  rw [e1, e2] at h
  have h1 : x / 2 ^ 33 < 2 ^ 31 := by omega
  have h2 : y / 2 ^ 33 < 2 ^ 31 := by omega
  omega
theorem rot_lt {x : Nat} (hx : x < 2 ^ 64) : rotH x < 2 ^ 64 := by
  unfold rotH
  have e1 : (x * 2 ^ 31) % 2 ^ 64 = (x % 2 ^ 33) * 2 ^ 31 := by
    rw [show (2 : Nat) ^ 64 = 2 ^ 33 * 2 ^ 31 from rfl, Nat.mul_mod_mul_right]
  rw [e1]
  omega
theorem mulP_back {x : Nat} (hx : x < 2 ^ 64) : ((x * 11400714785074694791) % 2 ^ 64 * 614540362697595703) % 2 ^ 64 = x := by
  rw [Nat.mod_mul_mod, Nat.mul_assoc, Nat.mul_mod, show (11400714785074694791 * 614540362697595703) % 2 ^ 64 = 1 by decide +kernel, Nat.mul_one, Nat.mod_mod, Nat.mod_eq_of_lt hx]
theorem g_inj {x y : Nat} (hx : x < 2 ^ 64) (hy : y < 2 ^ 64) (h : gH x = gH y) : x = y := by
  unfold gH at h
  refine rot_inj hx hy ?_
  rw [← mulP_back (rot_lt hx), ← mulP_back (rot_lt hy), h]
/-- the same, its numbers unsaid -/
def accG (m p1 p2 b31 b33 : Nat) (acc : Nat) (h : Int) : Nat :=
  let x := (acc + (h % (m : Int)).toNat * p2) % m
  let y := (x * b31) % m + x / b33
  (y * p1) % m
def outG (m b63 : Nat) (acc : Nat) : Int := if acc == m - 1 then 1546275796 else if acc < b63 then acc else (acc : Int) - m
theorem tup_gen (hs : List Int) : Builtin.Tuple.tupleHashOf hs = outG (2 ^ 64) (2 ^ 63) ((hs.foldl (accG (2 ^ 64) 11400714785074694791 14029467366897019727 (2 ^ 31) (2 ^ 33)) 2870177450012600261 + (hs.length ^^^ (2870177450012600261 ^^^ 3527539))) % 2 ^ 64) := rfl
theorem two_gen (m p1 p2 b31 b33 p5 : Nat) (a b : Int) : [a, b].foldl (accG m p1 p2 b31 b33) p5 = accG m p1 p2 b31 b33 (accG m p1 p2 b31 b33 p5 a) b := rfl
def oneH (s : Nat) : Nat := gH ((2870177450012600261 + s * 14029467366897019727) % 2 ^ 64)
def finH (a k : Nat) : Nat := (gH ((a + k) % 2 ^ 64) + 2870177450013471924) % 2 ^ 64
abbrev outH (acc : Nat) : Int := outG (2 ^ 64) (2 ^ 63) acc
theorem hashI16 : ∀ s : Nat, s < 16 → hashInt ((s : Nat) : Int) = ((s : Nat) : Int) := by decide +kernel
theorem acc_gen (m p1 p2 b31 b33 acc : Nat) (h : Int) : accG m p1 p2 b31 b33 acc h = ((((acc + (h % (m : Int)).toNat * p2) % m * b31) % m + (acc + (h % (m : Int)).toNat * p2) % m / b33) * p1) % m := rfl
theorem g_gen (x : Nat) : gH x = ((x * 2 ^ 31 % 2 ^ 64 + x / 2 ^ 33) * 11400714785074694791) % 2 ^ 64 := by unfold gH rotH; exact Eq.refl _
theorem acc_g (acc : Nat) (h : Int) : accG (2 ^ 64) 11400714785074694791 14029467366897019727 (2 ^ 31) (2 ^ 33) acc h = gH ((acc + (h % ((2 ^ 64 : Nat) : Int)).toNat * 14029467366897019727) % 2 ^ 64) := by
  rw [acc_gen, g_gen]
theorem lane1 (s : Nat) (hs : s < 16) : ((s : Int) % ((2 ^ 64 : Nat) : Int)).toNat = s := by
  rw [← Int.natCast_emod, Int.toNat_natCast, Nat.mod_eq_of_lt (Nat.lt_trans hs (by decide))]
theorem xor_c : ((2 : Nat) ^^^ (2870177450012600261 ^^^ 3527539)) = 2870177450013471924 := by decide +kernel
theorem tup_eq {s : Nat} (hs : s < 16) (z : Int) : Builtin.Tuple.tupleHashOf [hashInt s, z] = outH (finH (oneH s) ((z % ((2 ^ 64 : Nat) : Int)).toNat * 14029467366897019727)) := by
  rw [tup_gen, two_gen, acc_g, acc_g, hashI16 s hs, lane1 s hs]
  rw [show ([(s : Int), z] : List Int).length = 2 from rfl, xor_c]
  unfold finH oneH
  exact Eq.refl _
theorem out_eq {a b : Nat} (ha : a < 2 ^ 64) (hb : b < 2 ^ 64) (h : outH a = outH b) : a = b ∨ (a = 2 ^ 64 - 1 ∧ b = 1546275796) ∨ (b = 2 ^ 64 - 1 ∧ a = 1546275796) := by
  unfold outH outG at h
  simp only [beq_iff_eq] at h
  split at h <;> split at h <;> first | omega | (split at h <;> first | omega | (split at h <;> omega))
theorem reduce_out {a : Nat} (ha : a < 2 ^ 64) : reduceHash (outH a) = outH a := by
  unfold reduceHash outH outG
  simp only [beq_iff_eq]
  by_cases h1 : a = 2 ^ 64 - 1
  · rw [if_pos h1]
    decide
  · rw [if_neg h1]
    by_cases h2 : a < 2 ^ 63
    · rw [if_pos h2]
      have c1 : (-(2 ^ 63 : Int) ≤ (a : Int) && (a : Int) < 2 ^ 63) = true := by
        rw [Bool.and_eq_true]
        exact ⟨decide_eq_true (by omega), decide_eq_true (by omega)⟩
      rw [if_pos c1, if_neg (by omega)]
    · rw [if_neg h2]
      have c1 : (-(2 ^ 63 : Int) ≤ ((a : Int) - (2 ^ 64 : Nat)) && ((a : Int) - (2 ^ 64 : Nat)) < 2 ^ 63) = true := by
        rw [Bool.and_eq_true]
        exact ⟨decide_eq_true (by omega), decide_eq_true (by omega)⟩
      rw [if_pos c1, if_neg (by omega)]
theorem fin_lt (a k : Nat) : finH a k < 2 ^ 64 := Nat.mod_lt _ (by decide)
theorem one_lt (s : Nat) : oneH s < 2 ^ 64 := Nat.mod_lt _ (by decide)
theorem g_lt (x : Nat) : gH x < 2 ^ 64 := Nat.mod_lt _ (by decide)
theorem g_of {x c u : Nat} (hx : x < 2 ^ 64) (hu : u < 2 ^ 64) (h : (gH x + 2870177450013471924) % 2 ^ 64 = c) (h2 : (gH u + 2870177450013471924) % 2 ^ 64 = c) : x = u := by
  refine g_inj hx hu ?_
  have h3 := g_lt x
  have h4 := g_lt u
  omega
theorem one_diff : ∀ s, s < 16 → ∀ t, t < 16 → (oneH s + 2 ^ 64 - oneH t) % 2 ^ 64 ≠ (9148689060682678900 + 2 ^ 64 - 15881292906973731817) % 2 ^ 64 := by decide +kernel
theorem one_inj : ∀ s, s < 16 → ∀ t, t < 16 → oneH s = oneH t → s = t := by decide +kernel
theorem u1_ok : (gH 9148689060682678900 + 2870177450013471924) % 2 ^ 64 = 2 ^ 64 - 1 := by decide +kernel
theorem u2_ok : (gH 15881292906973731817 + 2870177450013471924) % 2 ^ 64 = 1546275796 := by decide +kernel
theorem cross {s t k : Nat} (hs : s < 16) (ht : t < 16) (h1 : finH (oneH s) k = 2 ^ 64 - 1) (h2 : finH (oneH t) k = 1546275796) : False := by
  have e1 := g_of (Nat.mod_lt (oneH s + k) (show 0 < 2 ^ 64 by decide)) (by decide) h1 u1_ok
  have e2 := g_of (Nat.mod_lt (oneH t + k) (show 0 < 2 ^ 64 by decide)) (by decide) h2 u2_ok
  have a1 := one_lt s
  have a2 := one_lt t
  refine one_diff s hs t ht ?_
  generalize oneH s = x at *
  generalize oneH t = y at *
  omega
theorem pair_inj {s t : Nat} (hs : s < 16) (ht : t < 16) (z : Int) (h : reduceHash (Builtin.Tuple.tupleHashOf [hashInt s, z]) = reduceHash (Builtin.Tuple.tupleHashOf [hashInt t, z])) : s = t := by
  rw [tup_eq hs, tup_eq ht, reduce_out (fin_lt _ _), reduce_out (fin_lt _ _)] at h
  rcases out_eq (fin_lt _ _) (fin_lt _ _) h with e | ⟨e1, e2⟩ | ⟨e1, e2⟩
  · refine one_inj s hs t ht ?_
    have e1 : gH ((oneH s + (z % ((2 ^ 64 : Nat) : Int)).toNat * 14029467366897019727) % 2 ^ 64) = gH ((oneH t + (z % ((2 ^ 64 : Nat) : Int)).toNat * 14029467366897019727) % 2 ^ 64) := by
      unfold finH at e
      have h3 := g_lt ((oneH s + (z % ((2 ^ 64 : Nat) : Int)).toNat * 14029467366897019727) % 2 ^ 64)
      have h4 := g_lt ((oneH t + (z % ((2 ^ 64 : Nat) : Int)).toNat * 14029467366897019727) % 2 ^ 64)
      omega
    have e2 := g_inj (Nat.mod_lt _ (by decide)) (Nat.mod_lt _ (by decide)) e1
    have a1 := one_lt s
    have a2 := one_lt t
    generalize oneH s = x at *
    generalize oneH t = y at *
    omega
  · exact (cross hs ht e1 e2).elim
  · exact (cross ht hs e1 e2).elim
end Ab

set_option Elab.async false
set_option linter.all false
set_option maxRecDepth 100000
set_option maxHeartbeats 2000000
/-! What the tables are; the checks. -/
namespace Ab
open PySem
local macro_rules | `(tactic| walk_at "ab") => `(tactic| simp (config := { failIfUnchanged := false }) only [runDef, List.map_cons, List.map_nil, List.length_cons, List.length_nil, Nat.zero_add, Nat.reduceAdd, Nat.reduceSub, Nat.sub_self, List.replicate_zero, List.replicate_succ, List.nil_append, List.append_nil, List.cons_append, aSeq, aNext, aAsg, aPar, agNm, agTup, agSub, aUpd, aFld, aSetF, aExp, aIf, aRet, aRetN, aBrk, aCnt, aO1, aO2, aVar, aC, aTup, aLst, alNil, alCons, aCall, aDNew, atB, atYes, atAnd, atOr, atNot, aAndV, aOrV, aNotV, aIfE, aChain, aM1, bindP, wipeE,
  List.getElem?_cons_zero, List.getElem?_cons_succ, List.set_cons_zero, List.set_cons_succ, List.getElem?_nil, e_add, e_sub, e_neg, e_cmp, e_eqI, e_eqS, e_neI, e_isN, e_isNotN, e_ixT, e_lenT, e_int, e_abs, e_max2, e_min2, e_tupT, e_isiI, e_isiB, e_isiS, e_isiT, atI0, atI1, atI2, e_br_t, e_br_f, e_blx, e_intx, e_somex, e_somey, e_pair, e_two, Bool.not_true, Bool.not_false, true_and, and_true, Nat.reduceLeDiff, Nat.le_refl, decide_true, decide_false, c_0, c_1, c_2, c_3, c_4, c_5, c_6, c_7, c_8, c_9, Int.reduceEq, Int.reduceLT, Int.reduceLE, s_look_say, s_look_stop, s_look_end, s_say_look, s_say_stop, s_say_end, s_stop_look, s_stop_say, s_stop_end, s_end_look, s_end_say, s_end_stop])

abbrev dN (n : Nat) : D := .int (n : Int)
inductive Tm where
  | look (r : Nat) (ns : List Nat) | say (wd : Str) (j : Nat) | stop
deriving DecidableEq
def dTm : Tm → D
  | .look r ns => .tup [.str "look", dN r, .tup (ns.map dN)]
  | .say wd j => .tup [.str "say", .str wd, dN j]
  | .stop => .tup [.str "stop"]
abbrev dTab (tab : List Tm) : D := .tup (tab.map dTm)
abbrev Ph := Nat × List Nat
def dPh (p : Ph) : D := .tup [dN p.1, .tup (p.2.map dN)]
abbrev kN (n : Nat) : NestedKey := .num (n : Int)
def kPh (p : Ph) : NestedKey := .tup [kN p.1, .tup (p.2.map kN)]
theorem dk_ph (p : Ph) : dk (kPh p) = dPh p := by
  unfold kPh dPh
  simp only [dk, dks, dks_map, List.map_map]
  rfl
theorem kPh_inj {p q : Ph} (h : kPh p = kPh q) : p = q := by
  obtain ⟨a, b⟩ := p
  obtain ⟨c, d⟩ := q
  unfold kPh at h
  simp only [NestedKey.tup.injEq, List.cons.injEq, NestedKey.num.injEq, and_true] at h
  obtain ⟨h1, h2⟩ := h
  have e1 : a = c := by omega
  have e2 : b = d := by
    have : ∀ (x y : List Nat), x.map kN = y.map kN → x = y := by
      intro x
      induction x with
      | nil => intro y h; cases y with | nil => rfl | cons _ _ => cases h
      | cons a x ih =>
        intro y h
        cases y with
        | nil => cases h
        | cons b y =>
          simp only [List.map_cons, List.cons.injEq, NestedKey.num.injEq] at h
          rw [ih y h.2, show a = b by omega]
    exact this _ _ h2
  rw [e1, e2]
theorem depth_nums : ∀ xs : List Nat, NestedKey.depthAll (xs.map kN) = 0
  | [] => by simp [NestedKey.depthAll]
  | x :: xs => by simp [NestedKey.depthAll, NestedKey.depth, depth_nums xs]
theorem kPh_depth (p : Ph) : (kPh p).depth ≤ 8 := by
  unfold kPh
  simp [NestedKey.depth, NestedKey.depthAll, depth_nums]
theorem kPh_tup (p : Ph) : ∃ ks, kPh p = .tup ks := ⟨_, rfl⟩

/-! ### the checks -/
/-- a def that only answers -/
def spV (P : List D → Store → D → Prop) : ASp := fun ds st Q => ∃ v, P ds st v ∧ ∀ st', Kp [] st st' → Q v st'
def sIsInteger : ASp := fun ds st Q => ∃ i : Int, ds = [.int i] ∧ Q (.bl true) st
theorem k_is_integer (ds : List D) (st : Store) (Q : DK) (h : sIsInteger ds st Q) : runDef 1 b_is_integer ds st Q := by
  obtain ⟨i, rfl, q⟩ := h
  unfold b_is_integer
  walk_at "ab"
  exact q
def sIsWithin : ASp := fun ds st Q => ∃ i a b : Int, ds = [.int i, .int a, .int b] ∧ a ≤ i ∧ i ≤ b ∧ Q (.bl true) st
theorem k_is_within (ds : List D) (st : Store) (Q : DK) (h : sIsWithin ds st Q) : runDef 3 (b_is_within sIsInteger) ds st Q := by
  obtain ⟨i, a, b, rfl, h1, h2, q⟩ := h
  unfold b_is_within
  walk_at "ab"
  refine ⟨i, rfl, ?_⟩
  walk_at "ab"
  rw [decide_eq_true h1, decide_eq_true h2]
  walk_at "ab"
  exact q

def sIsStringOf : ASp := fun ds st Q => ∃ s z : Str, ds = [.str s, .str z] ∧ (∀ c ∈ s.cps.toList, c ∈ z.cps.toList) ∧ Q (.bl true) st
theorem k_is_string_of (ds : List D) (st : Store) (Q : DK) (h : sIsStringOf ds st Q) : runDef 3 b_is_string_of ds st Q := by
  obtain ⟨s, z, rfl, h1, q⟩ := h
  unfold b_is_string_of
  walk_at "ab"
  refine .inl ?_
  unfold aFor sItems
  walk_at "ab"
  refine .inr (.inr ⟨s, rfl, ?_⟩)
  refine ⟨fun i env st' => (∃ x, env = [some (.str s), some (.str z), x]) ∧ st' = st, ⟨⟨none, rfl⟩, rfl⟩, fun _ _ _ _ => trivial, ?_, ?_⟩
  · rintro i x env st' hx ⟨⟨y, rfl⟩, rfl⟩
    unfold chars at hx
    obtain ⟨c, hc, rfl⟩ := Option.map_eq_some_iff.mp ((List.getElem?_map ..).symm.trans hx)
    walk_at "ab"
    refine .inr (.inr ⟨c, z, rfl, rfl, ?_⟩)
    have hm : c ∈ z.cps.toList := h1 c (List.mem_of_getElem? hc)
    refine ⟨_, rfl, ?_⟩
    rw [if_pos rfl, decide_eq_true hm]
    walk_at "ab"
    exact ⟨_, rfl⟩
  · rintro env st' ⟨⟨y, rfl⟩, rfl⟩
    exact q
/-- the words of a table -/
def okWord (s : Str) : Prop := (∀ c ∈ s.cps.toList, c ∈ ("abcdefghijklmnopqrstuvwxyz" : Str).cps.toList) ∧ 1 ≤ s.length ∧ s.length ≤ 8
def sIsWord : ASp := fun ds st Q => ∃ s : Str, ds = [.str s] ∧ okWord s ∧ Q (.bl true) st
theorem k_is_word (ds : List D) (st : Store) (Q : DK) (h : sIsWord ds st Q) : runDef 1 (b_is_word sIsStringOf) ds st Q := by
  obtain ⟨s, rfl, ⟨h1, h2, h3⟩, q⟩ := h
  unfold b_is_word
  walk_at "ab"
  refine ⟨_, _, rfl, h1, true, rfl, br_t ?_⟩
  refine p_lenS (by rw [LIM_eq]; omega) ?_
  walk_at "ab"
  rw [decide_eq_true (show (1 : Int) ≤ (s.length : Int) by omega), decide_eq_true (show (s.length : Int) ≤ 8 by omega)]
  walk_at "ab"
  exact q
def sAreNexts : ASp := fun ds st Q => ∃ (ns : List Nat) (L m : Nat), ds = [.tup (ns.map dN), dN L, dN m] ∧ ns.length = L + 1 ∧ ns.length ≤ 100 ∧ (∀ n ∈ ns, n < m) ∧ ∀ st', Kp [] st st' → Q (.bl true) st'
theorem k_are_nexts (ds : List D) (st : Store) (Q : DK) (h : sAreNexts ds st Q) : runDef 4 (b_are_nexts sIsWithin) ds st Q := by
  obtain ⟨ns, L, m, rfl, h1, hz, h2, q⟩ := h
  unfold b_are_nexts
  walk_at "ab"
  rw [decide_eq_true (show ((ns.map dN).length : Int) = (L : Int) + 1 by rw [List.length_map]; omega)]
  walk_at "ab"
  refine .inl ?_
  unfold aLc sItems
  walk_at "ab"
  refine .inl ⟨_, rfl, fun i acc st' => acc = (List.replicate i true).map .bl ∧ st' = st, ⟨rfl, rfl⟩, by rw [List.length_map, LIM_eq]; omega, fun _ _ _ _ => trivial, ?_, ?_⟩
  · rintro i x acc st' hx ⟨rfl, rfl⟩
    obtain ⟨n, hn, rfl⟩ := Option.map_eq_some_iff.mp ((List.getElem?_map ..).symm.trans hx)
    have := h2 n (List.mem_of_getElem? hn)
    walk_at "ab"
    refine ⟨_, _, _, rfl, by omega, by omega, ?_⟩
    walk_at "ab"
    rw [List.map_replicate, ← List.replicate_succ', List.replicate_succ]
  · rintro acc st' ⟨rfl, rfl⟩
    refine p_all (List.replicate _ true) (at_new _ _) ?_
    rw [show (List.replicate (ns.map dN).length true).all id = true by simp]
    exact q _ ((Kp.refl _ _).app _)
def okTm (rows L m : Nat) : Tm → Prop
  | .look r ns => r < rows ∧ ns.length = L + 1 ∧ ∀ n ∈ ns, n < m
  | .say wd j => okWord wd ∧ j < m
  | .stop => True
def sIsSay : ASp := fun ds st Q => ∃ (wd : Str) (j m : Nat), ds = [dTm (.say wd j), dN m] ∧ okWord wd ∧ j < m ∧ Q (.bl true) st
theorem k_is_say (ds : List D) (st : Store) (Q : DK) (h : sIsSay ds st Q) : runDef 2 (b_is_say sIsWithin sIsWord) ds st Q := by
  obtain ⟨wd, j, m, rfl, h1, h2, q⟩ := h
  unfold b_is_say dTm
  walk_at "ab"
  refine ⟨wd, rfl, h1, ?_⟩
  walk_at "ab"
  exact ⟨_, _, _, rfl, by omega, by omega, q⟩
def sIsItem : ASp := fun ds st Q => ∃ (t : Tm) (rows L m : Nat), ds = [dTm t, dN rows, dN L, dN m] ∧ okTm rows L m t ∧ L ≤ 50 ∧ ∀ st', Kp [] st st' → Q (.bl true) st'
theorem k_is_item (ds : List D) (st : Store) (Q : DK) (h : sIsItem ds st Q) : runDef 4 (b_is_item sAreNexts sIsWithin sIsSay) ds st Q := by
  obtain ⟨t, rows, L, m, rfl, h1, hL, q⟩ := h
  unfold b_is_item
  cases t with
  | look r ns =>
    obtain ⟨h1, h2, h3⟩ := h1
    unfold dTm
    walk_at "ab"
    refine ⟨_, _, _, rfl, by omega, by omega, ?_⟩
    walk_at "ab"
    exact ⟨ns, L, m, rfl, h2, by omega, h3, q⟩
  | say wd j =>
    unfold dTm
    walk_at "ab"
    exact ⟨wd, j, m, rfl, h1.1, h1.2, q _ (Kp.refl _ _)⟩
  | stop =>
    unfold dTm
    walk_at "ab"
    refine p_eqK (.tup [.text "stop"]) (.tup [.text "stop"]) (by simp [dk, dks]) (by simp [dk, dks]) (by decide) (by decide) (by decide +kernel) (by decide +kernel) ?_
    simp only [decide_true]
    exact q _ (Kp.refl _ _)

/-! ### with_row, steps_of -/
def ins (r : Nat) : List Nat → List Nat
  | [] => [r]
  | x :: xs => if r ≤ x then r :: x :: xs else x :: ins r xs
theorem ins_perm (r : Nat) : ∀ E, (ins r E).Perm (E ++ [r])
  | [] => .refl _
  | x :: xs => by
    unfold ins
    split
    · exact (List.perm_append_singleton r (x :: xs)).symm
    · exact (ins_perm r xs).cons x
theorem ins_mem {r e : Nat} {E : List Nat} : e ∈ ins r E ↔ e = r ∨ e ∈ E := by
  rw [(ins_perm r E).mem_iff, List.mem_append, List.mem_singleton, Or.comm]
theorem ins_sorted {r : Nat} : ∀ {E : List Nat}, E.Pairwise (· ≤ ·) → (ins r E).Pairwise (· ≤ ·)
  | [], _ => by simp [ins]
  | x :: xs, h => by
    obtain ⟨h1, h2⟩ := List.pairwise_cons.mp h
    unfold ins
    split
    · rename_i hx
      refine List.pairwise_cons.mpr ⟨fun y hy => ?_, h⟩
      rcases List.mem_cons.mp hy with rfl | hy
      · exact hx
      · exact Nat.le_trans hx (h1 y hy)
    · refine List.pairwise_cons.mpr ⟨fun y hy => ?_, ins_sorted h2⟩
      rcases ins_mem.mp hy with rfl | hy
      · omega
      · exact h1 y hy
theorem ins_len (r : Nat) (E : List Nat) : (ins r E).length = E.length + 1 := by rw [(ins_perm r E).length_eq]; simp
theorem pw_cast {E : List Nat} (h : E.Pairwise (· ≤ ·)) : (E.map fun (e : Nat) => (e : Int)).Pairwise (· ≤ ·) := List.pairwise_map.mpr (h.imp fun h => by omega)
theorem sort_uniq {a b : List Int} (h : a.Perm b) (h1 : a.Pairwise (· ≤ ·)) (h2 : b.Pairwise (· ≤ ·)) : a = b := h.eq_of_pairwise (fun _ _ _ _ h k => Int.le_antisymm h k) h1 h2
theorem inj_int {xs ys : List Int} (h : (xs.map D.int).Perm (ys.map D.int)) : xs.Perm ys := by
  have f : D → Int := fun d => match d with | .int i => i | _ => 0
  have e : ∀ zs : List Int, (zs.map D.int).map (fun d => match d with | .int i => i | _ => 0) = zs := fun zs => by
    rw [List.map_map]
    exact List.map_id _
  have := h.map (fun d => match d with | D.int i => i | _ => 0)
  rw [e, e] at this
  exact this
theorem dN_map (E : List Nat) : E.map dN = (E.map fun (e : Nat) => (e : Int)).map D.int := by rw [List.map_map]; rfl
/-- sorted() of ints that are the places -/
theorem p_sortN {st : Store} {Q : DK} {x : D} {E F : List Nat} (hs : source st x (E.map dN)) (hl : E.length ≤ LIM) (hp : F.Perm E) (hF : F.Pairwise (· ≤ ·)) (q : Q (.ref st.length) (st ++ [.lst (F.map dN)])) : pSorted x st Q := by
  refine ⟨E.map dN, .int, hs, by simpa using hl, rfl, by decide, fun y hy => ?_, fun ys hys hi => ?_⟩
  · obtain ⟨e, _, rfl⟩ := List.mem_map.mp hy
    trivial
  · obtain ⟨js, rfl, hj⟩ := hi _ (dN_map E)
    rw [dN_map] at hys
    have h1 := (inj_int hys).trans ((hp.map fun (e : Nat) => (e : Int)).symm)
    rw [sort_uniq h1 hj (pw_cast hF), ← dN_map]
    exact q
def sWithRow : ASp := fun ds st Q => ∃ (E : List Nat) (r : Nat), ds = [.tup (E.map dN), dN r] ∧ E.Pairwise (· ≤ ·) ∧ E.length ≤ 100 ∧ ∀ st', Kp [] st st' → Q (.tup ((ins r E).map dN)) st'
theorem k_with_row (ds : List D) (st : Store) (Q : DK) (h : sWithRow ds st Q) : runDef 2 b_with_row ds st Q := by
  obtain ⟨E, r, rfl, h1, h2, q⟩ := h
  unfold b_with_row
  walk_at "ab"
  refine p_addT (by rw [LIM_eq]; simp; omega) ?_
  rw [show E.map dN ++ [dN r] = (E ++ [r]).map dN by simp]
  refine p_sortN (.inl (.inl rfl)) (by rw [LIM_eq]; simp; omega) (ins_perm r E) (ins_sorted h1) ?_
  exact p_tupL (at_new _ _) (q _ ((Kp.refl _ _).app _))
inductive Sg where
  | no | ch (k : Nat) | fin
deriving DecidableEq
def dSg : Sg → D
  | .no => .non
  | .ch k => .str ⟨#[97 + k]⟩
  | .fin => .str "end"
def lastN (ns : List Nat) : Nat := ns.getLastD 0
/-- the steps from a phase -/
def steps (L : Nat) (tab : List Tm) (p : Ph) : List (Sg × Ph) := match tab[p.1]? with
  | some (.say _ j) => [(.no, (j, p.2))]
  | some (.look r ns) => if r ∈ p.2 then [(.no, (lastN ns, p.2))] else (List.range L).map (fun k => (.ch k, (ns.getD k 0, p.2))) ++ [(.fin, (lastN ns, ins r p.2))]
  | _ => []
def dStp (s : Sg × Ph) : D := .tup [dSg s.1, dPh s.2]
abbrev dSteps (L : Nat) (tab : List Tm) (p : Ph) : List D := (steps L tab p).map dStp
/-- a table as it should be -/
structure OkTab (rows L : Nat) (tab : List Tm) : Prop where
  L1 : 1 ≤ L
  L3 : L ≤ 3
  r1 : 1 ≤ rows
  r64 : rows ≤ 8
  t1 : 1 ≤ tab.length
  t100 : tab.length ≤ 16
  it : ∀ t ∈ tab, okTm rows L tab.length t
/-- a phase as it should be -/
structure OkPh (rows : Nat) (tab : List Tm) (p : Ph) : Prop where
  lt : p.1 < tab.length
  so : p.2.Pairwise (· < ·)
  rw : ∀ e ∈ p.2, e < rows
theorem so_len {rows : Nat} {E : List Nat} (h : E.Pairwise (· < ·)) (h2 : ∀ e ∈ E, e < rows) : E.length ≤ rows := by
  have nd : E.Nodup := h.imp fun h => Nat.ne_of_lt h
  have := nd.length_le_of_subset (l₂ := List.range rows) fun e he => List.mem_range.mpr (h2 e he)
  simpa using this
theorem OkPh.len {rows : Nat} {tab : List Tm} {p : Ph} (h : OkPh rows tab p) : p.2.length ≤ rows := so_len h.so h.rw
theorem OkPh.le {rows : Nat} {tab : List Tm} {p : Ph} (h : OkPh rows tab p) : p.2.Pairwise (· ≤ ·) := h.so.imp fun h => Nat.le_of_lt h
theorem ins_lt {r : Nat} {E : List Nat} (h : E.Pairwise (· < ·)) (hr : r ∉ E) : (ins r E).Pairwise (· < ·) := by
  have h1 := ins_sorted (r := r) (h.imp fun h => Nat.le_of_lt h)
  have h2 : (ins r E).Nodup := by
    refine (ins_perm r E).symm.nodup ?_
    rw [List.nodup_append]
    refine ⟨h.imp fun h => Nat.ne_of_lt h, by simp, fun a ha b hb => ?_⟩
    simp at hb
    subst hb
    exact fun e => hr (e ▸ ha)
  exact (List.pairwise_and_iff.mpr ⟨h1, h2⟩).imp fun ⟨a, b⟩ => Nat.lt_of_le_of_ne a b
theorem last_eq {ns : List Nat} (h : ns ≠ []) : ∃ xs, ns = xs ++ [lastN ns] := by
  refine ⟨ns.dropLast, ?_⟩
  have e : lastN ns = ns.getLast h := by unfold lastN; rw [List.getLastD_eq_getLast?, List.getLast?_eq_getLast h]; rfl
  rw [e, List.dropLast_concat_getLast]
theorem last_mem {ns : List Nat} (h : ns ≠ []) : lastN ns ∈ ns := by
  obtain ⟨xs, e⟩ := last_eq h
  rw [e]
  have : lastN (xs ++ [lastN ns]) = lastN ns := by rw [← e]
  rw [this]
  simp
theorem steps_ok {rows L : Nat} {tab : List Tm} {p : Ph} (hT : OkTab rows L tab) (hp : OkPh rows tab p) : ∀ s ∈ steps L tab p, OkPh rows tab s.2 := by
  intro s hs
  unfold steps at hs
  split at hs
  · rename_i wd j e
    have := hT.it _ (List.mem_of_getElem? e)
    simp at hs
    subst hs
    exact ⟨this.2, hp.so, hp.rw⟩
  · rename_i r ns e
    obtain ⟨h1, h2, h3⟩ := hT.it _ (List.mem_of_getElem? e)
    have hl : lastN ns < tab.length := h3 _ (last_mem (by intro z; rw [z] at h2; simp at h2))
    split at hs
    · simp at hs
      subst hs
      exact ⟨hl, hp.so, hp.rw⟩
    · rename_i hr
      rcases List.mem_append.mp hs with hs | hs
      · obtain ⟨k, hk, rfl⟩ := List.mem_map.mp hs
        have hk' : k < ns.length := by rw [h2]; have := List.mem_range.mp hk; omega
        refine ⟨?_, hp.so, hp.rw⟩
        show ns.getD k 0 < _
        rw [show ns.getD k 0 = ns[k] by simp [List.getD, List.getElem?_eq_getElem hk']]
        exact h3 _ (List.getElem_mem hk')
      · simp at hs
        subst hs
        refine ⟨hl, ins_lt hp.so hr, fun e he => ?_⟩
        rcases ins_mem.mp he with rfl | he
        · exact h1
        · exact hp.rw e he
  · cases hs

theorem memN {r : Nat} {E : List Nat} : (kN r ∈ E.map kN) ↔ r ∈ E := by
  constructor
  · intro h
    obtain ⟨e, he, h2⟩ := List.mem_map.mp h
    have : e = r := by injection h2 with h2; omega
    exact this ▸ he
  · exact fun h => List.mem_map_of_mem h
theorem mapN (E : List Nat) : E.map dN = (E.map kN).map dk := by
  rw [List.map_map]
  refine List.map_congr_left fun e _ => ?_
  simp [dk]
theorem depN {E : List Nat} : ∀ k ∈ E.map kN, k.depth ≤ 7 := by
  intro k hk
  obtain ⟨e, _, rfl⟩ := List.mem_map.mp hk
  simp [NestedKey.depth]
theorem lastD {ns : List Nat} (h : ns ≠ []) : atI (ns.map dN) (-1) = some (dN (lastN ns)) := by
  obtain ⟨xs, e⟩ := last_eq h
  generalize lastN ns = z at *
  rw [e, List.map_append]
  exact atI_last _ _
/-- a def that gives a new list -/
def spL (A : List D → Store → Prop) (xs : List D → List D) : ASp := fun ds st Q => A ds st ∧ ∀ st' n, Kp [] st st' → st.length ≤ n → st'[n]? = some (.lst (xs ds)) → Q (.ref n) st'
def sStepsOf : ASp := fun ds st Q => ∃ (rows L : Nat) (tab : List Tm) (p : Ph), ds = [dN L, dTab tab, dPh p] ∧ OkTab rows L tab ∧ OkPh rows tab p ∧
  ∀ st' n, Kp [] st st' → st.length ≤ n → st'[n]? = some (.lst (dSteps L tab p)) → Q (.ref n) st'
theorem atTab {tab : List Tm} {i : Nat} {t : Tm} (h : tab[i]? = some t) : atI (tab.map dTm) (i : Int) = some (dTm t) := atI_nat (by rw [List.getElem?_map, h]; rfl)
theorem atNs {ns : List Nat} {i : Nat} {t : Nat} (h : ns[i]? = some t) : atI (ns.map dN) (i : Int) = some (dN t) := atI_nat (by rw [List.getElem?_map, h]; rfl)
theorem k_steps_of (ds : List D) (st : Store) (Q : DK) (h : sStepsOf ds st Q) : runDef 8 (b_steps_of sWithRow) ds st Q := by
  obtain ⟨rows, L, tab, ⟨s, E⟩, rfl, hT, hp, q⟩ := h
  have hlt : s < tab.length := hp.lt
  have hE : E.length ≤ rows := hp.len
  have hr64 := hT.r64
  have hL3 := hT.L3
  obtain ⟨t, ht⟩ : ∃ t, tab[s]? = some t := ⟨_, List.getElem?_eq_getElem hlt⟩
  have hok := hT.it t (List.mem_of_getElem? ht)
  unfold b_steps_of dPh
  walk_at "ab"
  refine ⟨_, atTab ht, ?_⟩
  cases t with
  | stop =>
    have e : dSteps L tab (s, E) = [] := by unfold dSteps steps; rw [ht]; rfl
    rw [e] at q
    unfold dTm
    walk_at "ab"
    exact q _ _ ((Kp.refl _ _).app _) (Nat.le_refl _) (at_new _ _)
  | say wd j =>
    have e : dSteps L tab (s, E) = [.tup [.non, dPh (j, E)]] := by unfold dSteps steps; rw [ht]; rfl
    rw [e] at q
    unfold dTm
    walk_at "ab"
    exact q _ _ ((Kp.refl _ _).app _) (Nat.le_refl _) (at_new _ _)
  | look r ns =>
    obtain ⟨h1, h2, h3⟩ := hok
    have hne : ns ≠ [] := by intro z; rw [z] at h2; simp at h2
    unfold dTm
    walk_at "ab"
    refine p_inT (kN r) (E.map kN) (by simp [dk]) (by rw [mapN]) (by simp [NestedKey.depth]) depN ?_
    walk_at "ab"
    refine br_d (fun hr => ?_) fun hr => ?_
    · have e : dSteps L tab (s, E) = [.tup [.non, dPh (lastN ns, E)]] := by unfold dSteps steps; rw [ht]; simp only [if_pos (memN.mp hr)]; rfl
      rw [e] at q
      refine ⟨_, lastD hne, ?_⟩
      walk_at "ab"
      exact q _ _ ((Kp.refl _ _).app _) (Nat.le_refl _) (at_new _ _)
    · have hr' : r ∉ E := fun z => hr (memN.mpr z)
      have e : dSteps L tab (s, E) = (List.range L).map (fun k => dStp (.ch k, (ns.getD k 0, E))) ++ [.tup [.str "end", dPh (lastN ns, ins r E)]] := by
        unfold dSteps steps; rw [ht]; simp only [if_neg hr', List.map_append, List.map_map]; rfl
      unfold aLc sRng1
      walk_at "ab"
      refine ⟨_, rfl, by omega, by omega, ?_⟩
      refine ⟨fun i acc st' => acc = (List.range i).map (fun k => dStp (.ch k, (ns.getD k 0, E))) ∧ st = st', ⟨rfl, rfl⟩, by simp [rng, LIM_eq]; omega, fun _ _ _ _ => trivial, ?_, ?_⟩
      · rintro i x acc st' hx ⟨rfl, rfl⟩
        unfold rng at hx
        obtain ⟨i', hi, rfl⟩ := Option.map_eq_some_iff.mp ((List.getElem?_map ..).symm.trans hx)
        obtain ⟨hi1, hi2⟩ := List.getElem?_eq_some_iff.mp hi
        rw [List.getElem_range] at hi2
        subst hi2
        rw [List.length_range] at hi1
        have hi3 : i < L := by omega
        have hns : ns[i]? = some (ns.getD i 0) := by simp [List.getD, List.getElem?_eq_getElem (show i < ns.length by omega)]
        walk_at "ab"
        rw [Int.zero_add]
        refine p_ixS (c := 97 + i) (by decide) ?_ ?_
        · have : i = 0 ∨ i = 1 ∨ i = 2 := by omega
          rcases this with rfl | rfl | rfl <;> decide
        · walk_at "ab"
          refine ⟨_, atNs hns, ?_⟩
          walk_at "ab"
          rw [List.range_succ, List.map_append]
          rfl
      · rintro acc st' ⟨rfl, rfl⟩
        walk_at "ab"
        refine ⟨⟨_, _, rfl, at_new _ _⟩, ?_⟩
        refine ⟨_, lastD hne, ?_⟩
        walk_at "ab"
        refine ⟨E, r, rfl, hp.le, by omega, fun st2 hk => ?_⟩
        walk_at "ab"
        refine p_app (hk.at (at_new _ _) (by simp)) ?_ ?_
        · simp [rng, LIM_eq]; omega
        · have hl : (rng 0 (L : Int).toNat).length = L := by simp [rng]
          have hk2 : Kp [] st st2 := ((Kp.refl [] st).app _).trans hk
          rw [e] at q
          refine q _ _ (hk2.set _ (.inr (Nat.le_refl _))) (Nat.le_refl _) ?_
          rw [at_self (hk.at (at_new _ _) (by simp)), hl]
          rfl
end Ab

set_option Elab.async false
set_option linter.all false
set_option maxRecDepth 100000
set_option maxHeartbeats 2000000
/-! The phases that can be reached. -/
namespace Ab
open PySem
local macro_rules | `(tactic| walk_at "ab") => `(tactic| simp (config := { failIfUnchanged := false }) only [runDef, List.map_cons, List.map_nil, List.length_cons, List.length_nil, Nat.zero_add, Nat.reduceAdd, Nat.reduceSub, Nat.sub_self, List.replicate_zero, List.replicate_succ, List.nil_append, List.append_nil, List.cons_append, aSeq, aNext, aAsg, aPar, agNm, agTup, agSub, aUpd, aFld, aSetF, aExp, aIf, aRet, aRetN, aBrk, aCnt, aO1, aO2, aVar, aC, aTup, aLst, alNil, alCons, aCall, aDNew, atB, atYes, atAnd, atOr, atNot, aAndV, aOrV, aNotV, aIfE, aChain, aM1, bindP, wipeE,
  List.getElem?_cons_zero, List.getElem?_cons_succ, List.set_cons_zero, List.set_cons_succ, List.getElem?_nil, e_add, e_sub, e_neg, e_cmp, e_eqI, e_eqS, e_neI, e_isN, e_isNotN, e_ixT, e_lenT, e_int, e_abs, e_max2, e_min2, e_tupT, e_isiI, e_isiB, e_isiS, e_isiT, atI0, atI1, atI2, e_br_t, e_br_f, e_blx, e_intx, e_somex, e_somey, e_pair, e_two, Bool.not_true, Bool.not_false, true_and, and_true, Nat.reduceLeDiff, Nat.le_refl, decide_true, decide_false, c_0, c_1, c_2, c_3, c_4, c_5, c_6, c_7, c_8, c_9, Int.reduceEq, Int.reduceLT, Int.reduceLE, s_look_say, s_look_stop, s_look_end, s_say_look, s_say_stop, s_say_end, s_stop_look, s_stop_say, s_stop_end, s_end_look, s_end_say, s_end_stop])

/-! ### dicts by phases -/
def dic (ks : List Ph) (f : Ph → D) : List (NestedKey × D) := ks.map fun p => (kPh p, f p)
def fset {β : Type} (f : Ph → β) (p : Ph) (v : β) : Ph → β := fun q => if q = p then v else f q
theorem val_dic (f : Ph → D) (p : Ph) : ∀ ks, val (dic ks f) (kPh p) = if p ∈ ks then some (f p) else none
  | [] => by simp [dic, val]
  | q :: ks => by
    have ih := val_dic f p ks
    unfold dic val at ih ⊢
    rw [List.map_cons, List.find?_cons]
    by_cases e : q = p
    · subst e
      simp
    · have e' : ¬ kPh q = kPh p := fun z => e (kPh_inj z)
      have e2 : ¬ p = q := fun z => e z.symm
      simp only [decide_eq_false e']
      rw [ih]
      simp [e2]
theorem put_dic (f : Ph → D) (p : Ph) (v : D) (ks : List Ph) : put (dic ks f) (kPh p) v = dic (if p ∈ ks then ks else ks ++ [p]) (fset f p v) := by
  have an : ((dic ks f).any fun kv => decide (kv.1 = kPh p)) = decide (p ∈ ks) := by
    unfold dic
    rw [List.any_map]
    induction ks with
    | nil => simp
    | cons q ks ih =>
      rw [List.any_cons, ih]
      by_cases e : q = p
      · subst e; simp
      · have e' : ¬ kPh q = kPh p := fun z => e (kPh_inj z)
        have e2 : ¬ p = q := fun z => e z.symm
        simp [e', e2]
  unfold put
  rw [an]
  by_cases h : p ∈ ks
  · rw [if_pos (by simpa using h), if_pos h]
    unfold dic fset
    rw [List.map_map]
    refine List.map_congr_left fun q _ => ?_
    by_cases e : q = p
    · subst e; simp
    · have e' : ¬ kPh q = kPh p := fun z => e (kPh_inj z)
      simp [e, e']
  · rw [if_neg (by simpa using h), if_neg h]
    unfold dic
    rw [List.map_append]
    congr 1
    · refine List.map_congr_left fun q hq => ?_
      have e : ¬ q = p := fun z => h (z ▸ hq)
      simp [fset, e]
    · simp [fset]
theorem dic_congr {f g : Ph → D} {ks : List Ph} (h : ∀ p ∈ ks, f p = g p) : dic ks f = dic ks g := List.map_congr_left fun p hp => by rw [h p hp]
theorem dic_keys (ks : List Ph) (f : Ph → D) : ((dic ks f).map fun q => dk q.1) = ks.map dPh := by
  unfold dic
  rw [List.map_map]
  exact List.map_congr_left fun p _ => dk_ph p
theorem dic_len (ks : List Ph) (f : Ph → D) : (dic ks f).length = ks.length := by simp [dic]

/-! ### all the phases -/
def subs : Nat → List (List Nat)
  | 0 => [[]]
  | n + 1 => subs n ++ (subs n).map (· ++ [n])
theorem subs_len : ∀ n, (subs n).length = 2 ^ n
  | 0 => rfl
  | n + 1 => by rw [subs, List.length_append, List.length_map, subs_len n, Nat.pow_succ]; omega
theorem subs_mem : ∀ (n : Nat) (E : List Nat), E.Pairwise (· < ·) → (∀ e ∈ E, e < n) → E ∈ subs n
  | 0, E, _, h => by
    cases E with
    | nil => simp [subs]
    | cons x xs => exact absurd (h x List.mem_cons_self) (by omega)
  | n + 1, E, hs, h => by
    unfold subs
    by_cases hn : n ∈ E
    · rcases List.eq_nil_or_concat E with e | ⟨F, x, e⟩
      · subst e; cases hn
      · rw [List.concat_eq_append] at e
        subst e
        obtain ⟨h1, _, h3⟩ := List.pairwise_append.mp hs
        have hx : x = n := by
          have := h x (by simp)
          rcases List.mem_append.mp hn with q | q
          · have := h3 n q x (by simp); omega
          · simp at q; exact q.symm
        subst hx
        refine List.mem_append.mpr (.inr (List.mem_map_of_mem (subs_mem x F h1 fun e he => h3 e he x (by simp))))
    · refine List.mem_append.mpr (.inl (subs_mem n E hs fun e he => ?_))
      have := h e he
      have : e ≠ n := fun z => hn (z ▸ he)
      omega
def univ (rows sz : Nat) : List Ph := (List.range sz).flatMap fun s => (subs rows).map fun E => (s, E)
theorem univ_len (rows sz : Nat) : (univ rows sz).length = sz * 2 ^ rows := by
  unfold univ
  induction sz with
  | zero => simp
  | succ n ih => rw [List.range_succ, List.flatMap_append, List.length_append, ih]; simp [subs_len, Nat.succ_mul]
theorem univ_mem {rows : Nat} {tab : List Tm} {p : Ph} (h : OkPh rows tab p) : p ∈ univ rows tab.length := by
  unfold univ
  rw [List.mem_flatMap]
  exact ⟨p.1, List.mem_range.mpr h.lt, List.mem_map.mpr ⟨p.2, subs_mem rows p.2 h.so h.rw, rfl⟩⟩
theorem ks_len {rows : Nat} {tab : List Tm} {ks : List Ph} (nd : ks.Nodup) (h : ∀ p ∈ ks, OkPh rows tab p) : ks.length ≤ tab.length * 2 ^ rows := by
  rw [← univ_len]
  exact nd.length_le_of_subset fun p hp => univ_mem (h p hp)
theorem pow8 {rows : Nat} (h : rows ≤ 8) : 2 ^ rows ≤ 256 := Nat.pow_le_pow_right (by decide) h
theorem ks_len' {rows L : Nat} {tab : List Tm} (hT : OkTab rows L tab) {ks : List Ph} (nd : ks.Nodup) (h : ∀ p ∈ ks, OkPh rows tab p) : ks.length ≤ 4096 :=
  Nat.le_trans (ks_len nd h) (Nat.mul_le_mul hT.t100 (pow8 hT.r64))
/-- reached from the first phase -/
inductive Rc (L : Nat) (tab : List Tm) : Ph → Prop
  | first : Rc L tab (0, [])
  | step {p : Ph} {s : Sg × Ph} : Rc L tab p → s ∈ steps L tab p → Rc L tab s.2
theorem Rc.ok {rows L : Nat} {tab : List Tm} (hT : OkTab rows L tab) {p : Ph} (h : Rc L tab p) : OkPh rows tab p := by
  induction h with
  | first => exact ⟨hT.t1, .nil, fun e he => by cases he⟩
  | step _ hs ih => exact steps_ok hT ih _ hs
theorem steps_len (L : Nat) (tab : List Tm) (p : Ph) : (steps L tab p).length ≤ L + 1 := by
  unfold steps
  split
  · simp
  · split
    · simp
    · simp
  · simp
/-- a dict of phases with their steps stands at n -/
structure Kept (st : Store) (n L : Nat) (tab : List Tm) (ks : List Ph) (f : Ph → Nat) : Prop where
  at_ : ∃ lk, st[n]? = some (.dt lk (dic ks fun p => .ref (f p)))
  ls : ∀ p ∈ ks, st[f p]? = some (.lst (dSteps L tab p))
  nd : ks.Nodup
  rc : ∀ p, p ∈ ks ↔ Rc L tab p
theorem closed {L : Nat} {tab : List Tm} {ks : List Ph} (h1 : ∀ p ∈ ks, Rc L tab p) (h2 : (0, []) ∈ ks) (h3 : ∀ p ∈ ks, ∀ s ∈ steps L tab p, s.2 ∈ ks) (p : Ph) : p ∈ ks ↔ Rc L tab p :=
  ⟨h1 p, fun h => by
    induction h with
    | first => exact h2
    | step _ hs ih => exact h3 _ ih _ hs⟩

theorem p_popW {st : Store} {Q : DK} {n : Nat} {ws : List Ph} {p : Ph} (h : st[n]? = some (.lst ((ws ++ [p]).map dPh))) (q : Q (dPh p) (st.set n (.lst (ws.map dPh)))) : pPop (.ref n) st Q := by
  rw [List.map_append] at h
  exact p_pop h q
theorem snoc_of {α : Type} {ws : List α} (h : ¬ ws.length = 0) : ∃ xs x, ws = xs ++ [x] := by
  rcases List.eq_nil_or_concat ws with e | ⟨xs, x, e⟩
  · subst e; exact absurd rfl h
  · exact ⟨xs, x, by rw [e, List.concat_eq_append]⟩
/-- what stands at new places -/
def Frs (b n : Nat) (ks : List Ph) (f : Ph → Nat) : Prop := b ≤ n ∧ ∀ p ∈ ks, b ≤ f p
def sAllSteps : ASp := fun ds st Q => ∃ (rows L : Nat) (tab : List Tm), ds = [dN L, dTab tab] ∧ OkTab rows L tab ∧
  ∀ st' n ks f, Kp [] st st' → Frs st.length n ks f → Kept st' n L tab ks f → st'[n]? = some (.dt false (dic ks fun p => .ref (f p))) → Q (.ref n) st'
theorem k_all_steps (ds : List D) (st : Store) (Q : DK) (h : sAllSteps ds st Q) : runDef 6 (b_all_steps sStepsOf) ds st Q := by
  obtain ⟨rows, L, tab, rfl, hT, q⟩ := h
  have hL3 := hT.L3
  unfold b_all_steps
  walk_at "ab"
  refine .inl ?_
  walk_at "ab"
  refine ⟨fun m env st' => (∃ x y, env = [some (dN L), some (dTab tab), some (.ref st.length), some (.ref (st.length + 1)), x, y]) ∧ ∃ ks ws f,
    Kp [] st st' ∧ st.length + 1 < st'.length ∧ st'[st.length]? = some (.dt false (dic ks fun p => .ref (f p))) ∧ st'[st.length + 1]? = some (.lst (ws.map dPh)) ∧ (∀ p ∈ ks, st.length + 1 < f p ∧ st'[f p]? = some (.lst (dSteps L tab p))) ∧ ks.Nodup ∧
    (∀ p ∈ ks, Rc L tab p) ∧ (∀ p ∈ ws, Rc L tab p) ∧ (∀ p ∈ ks, ∀ s ∈ steps L tab p, s.2 ∈ ks ∨ s.2 ∈ ws) ∧ ((0, []) ∈ ks ∨ (0, []) ∈ ws) ∧ ws.length ≤ 1 + 4 * ks.length ∧ m = (4096 - ks.length) * 10 + ws.length,
    ⟨_, ⟨none, none, by simp⟩, [], [(0, [])], fun _ => 0, ?_, by simp, ?_, ?_, by simp, .nil, by simp, by simpa using Rc.first, by simp, by simp, by simp, rfl⟩, ?_⟩
  · exact ((Kp.refl _ _).app _).app _
  · exact at_app (at_new _ _) _
  · simp [dPh]
  rintro m env st' ⟨⟨x, y, rfl⟩, ks, ws, f, hK, hl, hd, hw, hs, nd, hrk, hrw, hcl, h0, hb, rfl⟩
  have hks := ks_len' hT nd fun p hp => (hrk p hp).ok hT
  walk_at "ab"
  refine p_lenL hw ?_
  walk_at "ab"
  rw [List.length_map]
  refine br_d (fun hpos => ?_) fun hpos => ?_
  · obtain ⟨ws, p, rfl⟩ := snoc_of (ws := ws) (by omega)
    have hp : Rc L tab p := hrw p (by simp)
    refine p_popW hw ?_
    walk_at "ab"
    have hd1 := at_ne hd (show st.length + 1 ≠ st.length by omega) (.lst (ws.map dPh))
    refine p_ninD (kPh p) (dk_ph p).symm (kPh_depth p) (kPh_tup p) hd1 ?_
    walk_at "ab"
    rw [val_dic]
    by_cases hin : p ∈ ks
    · rw [if_pos hin]
      simp only [Option.isSome_some]
      walk_at "ab"
      refine ⟨_, ?_, ⟨some (dPh p), y, rfl⟩, ks, ws, f, hK.set _ (.inr (by omega)), by simpa using hl, hd1, at_self hw _, fun r hr => ⟨(hs r hr).1, at_ne (hs r hr).2 (by have := (hs r hr).1; omega) _⟩, nd, hrk, fun r hr => hrw r (by simp [hr]), fun r hr s hs' => ?_, ?_, ?_, rfl⟩
      · simp
      · rcases hcl r hr s hs' with z | z
        · exact .inl z
        · rcases List.mem_append.mp z with z | z
          · exact .inr z
          · simp at z; rw [z]; exact .inl hin
      · rcases h0 with z | z
        · exact .inl z
        · rcases List.mem_append.mp z with z | z
          · exact .inr z
          · simp at z; rw [z]; exact .inl hin
      · simp at hb; omega
    · rw [if_neg hin]
      simp only [Option.isSome_none]
      walk_at "ab"
      refine ⟨rows, L, tab, p, rfl, hT, hp.ok hT, fun st2 n hK2 hn hn2 => ?_⟩
      rw [List.length_set] at hn
      have hd2 := hK2.at hd1 (by simp)
      walk_at "ab"
      refine p_setD (kPh p) (dk_ph p).symm (kPh_depth p) (kPh_tup p) hd2 (by rw [dic_len, LIM_eq]; omega) ?_
      rw [put_dic, if_neg hin]
      have hlen2 : st'.length ≤ st2.length := by have := hK2.1; rwa [List.length_set] at this
      have hn3 : n < st2.length := at_lt hn2
      have hw2 : (st2.set st.length (.dt false (dic (ks ++ [p]) (fset (fun p => .ref (f p)) p (.ref n)))))[st.length + 1]? = some (.lst (ws.map dPh)) := at_ne (hK2.at (at_self hw _) (by simp)) (by omega) _
      have hd3 := at_self hd2 (.dt false (dic (ks ++ [p]) (fset (fun p => .ref (f p)) p (.ref n))))
      walk_at "ab"
      refine ⟨⟨_, _, rfl, hw2⟩, .inl ?_⟩
      unfold aLc sItems
      walk_at "ab"
      have hv : val (dic (ks ++ [p]) (fset (fun p => D.ref (f p)) p (D.ref n))) (kPh p) = some (.ref n) := by rw [val_dic]; simp [fset]
      refine p_ixD (kPh p) (dk_ph p).symm (kPh_depth p) (kPh_tup p) hd3 hv ?_
      have hn4 := at_ne hn2 (show st.length ≠ n by omega) (.dt false (dic (ks ++ [p]) (fset (fun p => .ref (f p)) p (.ref n))))
      refine .inr (.inl ⟨n, _, rfl, hn4, ?_⟩)
      have hsl := steps_len L tab p
      refine lc_map (zs := steps L tab p) dStp (fun s => dPh s.2) hn4 (by rw [LIM_eq]; omega) (fun z hz Qe hq => ?_) ?_
      · unfold dStp
        walk_at "ab"
        exact hq
      · refine p_ext (at_app hw2 _) (at_new _ _) (by simp at hb ⊢; rw [LIM_eq]; omega) ?_
        walk_at "ab"
        have hK3 : Kp [] st st2 := (hK.set _ (.inr (by omega))).trans (hK2.le (by simp))
        refine ⟨_, ?_, ⟨some (dPh p), y, rfl⟩, ks ++ [p], ws ++ (steps L tab p).map (·.2), fset f p n, ?_, ?_, ?_, ?_, ?_, ?_, ?_, ?_, ?_, ?_, ?_, rfl⟩
        · have nd' : (ks ++ [p]).Nodup := by
            rw [List.nodup_append]
            exact ⟨nd, by simp, fun a ha b hb => by simp at hb; subst hb; exact fun e => hin (e ▸ ha)⟩
          have := ks_len' hT nd' fun r hr => by
            rcases List.mem_append.mp hr with hr | hr
            · exact (hrk r hr).ok hT
            · simp at hr; rw [hr]; exact hp.ok hT
          simp at this ⊢
          omega
        · exact ((hK3.set _ (.inr (Nat.le_refl _))).app _).set _ (.inr (by omega))
        · simp; omega
        · have e1 : dic (ks ++ [p]) (fun r => D.ref (fset f p n r)) = dic (ks ++ [p]) (fset (fun p => D.ref (f p)) p (D.ref n)) := dic_congr fun r _ => by
            unfold fset; split <;> rfl
          rw [e1]
          exact at_ne (at_app hd3 _) (by omega) _
        · rw [at_self (at_app hw2 _), List.map_append, List.map_map]
          rfl
        · intro r hr
          by_cases e : r = p
          · subst e
            have e1 : fset f r n r = n := by simp [fset]
            rw [e1]
            exact ⟨by omega, at_ne (at_app hn4 _) (by omega) _⟩
          · have e1 : fset f p n r = f r := by simp [fset, e]
            have hr' : r ∈ ks := by
              rcases List.mem_append.mp hr with hr | hr
              · exact hr
              · simp at hr; exact absurd hr e
            obtain ⟨g1, g2⟩ := hs r hr'
            rw [e1]
            refine ⟨g1, at_ne (at_app (at_ne (hK2.at (at_ne g2 (by omega) _) (by simp)) (by omega) _) _) (by omega) _⟩
        · rw [List.nodup_append]
          exact ⟨nd, by simp, fun a ha b hb => by simp at hb; subst hb; exact fun e => hin (e ▸ ha)⟩
        · intro r hr
          rcases List.mem_append.mp hr with hr | hr
          · exact hrk r hr
          · simp at hr; rw [hr]; exact hp
        · intro r hr
          rcases List.mem_append.mp hr with hr | hr
          · exact hrw r (by simp [hr])
          · obtain ⟨s, hs', rfl⟩ := List.mem_map.mp hr
            exact .step hp hs'
        · intro r hr s hs'
          rcases List.mem_append.mp hr with hr | hr
          · rcases hcl r hr s hs' with z | z
            · exact .inl (by simp [z])
            · rcases List.mem_append.mp z with z | z
              · exact .inr (by simp [z])
              · simp at z; exact .inl (by simp [z])
          · simp at hr
            subst hr
            exact .inr (List.mem_append.mpr (.inr (List.mem_map_of_mem hs')))
        · rcases h0 with z | z
          · exact .inl (by simp [z])
          · rcases List.mem_append.mp z with z | z
            · exact .inr (by simp [z])
            · simp at z; exact .inl (by simp [z])
        · simp at hb ⊢; omega
  · have e : ws = [] := List.eq_nil_of_length_eq_zero (by omega)
    subst e
    refine q st' _ ks f hK ⟨Nat.le_refl _, fun p hp => by have := (hs p hp).1; omega⟩ ⟨⟨_, hd⟩, fun p hp => (hs p hp).2, nd, closed hrk (by simpa using h0) fun p hp s hs => by simpa using hcl p hp s hs⟩ hd
end Ab

set_option Elab.async false
set_option linter.all false
set_option maxRecDepth 100000
set_option maxHeartbeats 2000000
/-! Rings of single steps; plans. -/
namespace Ab
open PySem
local macro_rules | `(tactic| walk_at "ab") => `(tactic| simp (config := { failIfUnchanged := false }) only [runDef, List.map_cons, List.map_nil, List.length_cons, List.length_nil, Nat.zero_add, Nat.reduceAdd, Nat.reduceSub, Nat.sub_self, List.replicate_zero, List.replicate_succ, List.nil_append, List.append_nil, List.cons_append, aSeq, aNext, aAsg, aPar, agNm, agTup, agSub, aUpd, aFld, aSetF, aExp, aIf, aRet, aRetN, aBrk, aCnt, aO1, aO2, aVar, aC, aTup, aLst, alNil, alCons, aCall, aDNew, atB, atYes, atAnd, atOr, atNot, aAndV, aOrV, aNotV, aIfE, aChain, aM1, bindP, wipeE,
  List.getElem?_cons_zero, List.getElem?_cons_succ, List.set_cons_zero, List.set_cons_succ, List.getElem?_nil, e_add, e_sub, e_neg, e_cmp, e_eqI, e_eqS, e_neI, e_isN, e_isNotN, e_ixT, e_lenT, e_int, e_abs, e_max2, e_min2, e_tupT, e_isiI, e_isiB, e_isiS, e_isiT, atI0, atI1, atI2, e_br_t, e_br_f, e_blx, e_intx, e_somex, e_somey, e_pair, e_two, Bool.not_true, Bool.not_false, true_and, and_true, Nat.reduceLeDiff, Nat.le_refl, decide_true, decide_false, c_0, c_1, c_2, c_3, c_4, c_5, c_6, c_7, c_8, c_9, Int.reduceEq, Int.reduceLT, Int.reduceLE, s_look_say, s_look_stop, s_look_end, s_say_look, s_say_stop, s_say_end, s_stop_look, s_stop_say, s_stop_end, s_end_look, s_end_say, s_end_stop])

/-! ### hashes -/
def zH (E : List Nat) : Int := reduceHash (Builtin.Tuple.tupleHashOf (E.map fun (e : Nat) => hashInt e))
theorem hash_nums (w : World) : ∀ E : List Nat, NestedKey.hashes w (E.map kN) = E.map fun (e : Nat) => hashInt e
  | [] => by simp only [List.map_nil, NestedKey.hashes]
  | e :: E => by simp only [List.map_cons, NestedKey.hashes, NestedKey.hash, hash_nums w E]
theorem hash_tup (w : World) (ks : List NestedKey) : NestedKey.hash w (.tup ks) = reduceHash (Builtin.Tuple.tupleHashOf (NestedKey.hashes w ks)) := by rw [NestedKey.hash]
theorem hashes_two (w : World) (a b : NestedKey) : NestedKey.hashes w [a, b] = [NestedKey.hash w a, NestedKey.hash w b] := by rw [NestedKey.hashes, NestedKey.hashes, NestedKey.hashes]
theorem hash_num (w : World) (i : Int) : NestedKey.hash w (.num i) = hashInt i := by rw [NestedKey.hash]
theorem hash_ph (w : World) (s : Nat) (E : List Nat) : NestedKey.hash w (kPh (s, E)) = reduceHash (Builtin.Tuple.tupleHashOf [hashInt s, zH E]) := by
  unfold kPh
  rw [hash_tup, hashes_two, hash_num, hash_tup, hash_nums, zH]
theorem key_inj (w : World) (E : List Nat) (s t : Nat) (hs : s < 16) (ht : t < 16) (e : NestedKey.hash w (kPh (s, E)) = NestedKey.hash w (kPh (t, E))) : s = t := by
  rw [hash_ph, hash_ph] at e
  exact pair_inj hs ht (zH E) e
theorem apart_of {E : List Nat} {ps : List Ph} (nd : ps.Nodup) (h : ∀ p ∈ ps, p.2 = E ∧ p.1 < 16) : apart (ps.map kPh) := by
  intro w
  have go : ∀ qs : List Ph, qs.Nodup → (∀ p ∈ qs, p.2 = E ∧ p.1 < 16) → ((qs.map kPh).map (NestedKey.hash w)).Nodup := by
    intro qs
    induction qs with
    | nil => intro _ _; exact .nil
    | cons q qs ih =>
      intro nd h
      obtain ⟨n1, n2⟩ := List.nodup_cons.mp nd
      rw [List.map_cons, List.map_cons]
      refine List.nodup_cons.mpr ⟨fun hm => ?_, ih n2 fun p hp => h p (List.mem_cons_of_mem _ hp)⟩
      obtain ⟨x, hx, hx2⟩ := List.mem_map.mp hm
      obtain ⟨r, hr, hr2⟩ := List.mem_map.mp hx
      rw [← hr2] at hx2
      obtain ⟨q1, q2⟩ := q
      obtain ⟨r1, r2⟩ := r
      obtain ⟨a1, a2⟩ := h _ List.mem_cons_self
      obtain ⟨b1, b2⟩ := h _ (List.mem_cons_of_mem _ hr)
      have a1' : q2 = E := a1
      have b1' : r2 = E := b1
      rw [a1', b1'] at hx2
      have e := key_inj w E r1 q1 b2 a2 hx2
      rw [e, b1', ← a1'] at hr
      exact n1 hr
  exact go ps nd h

/-! ### tests of phases -/
section
variable {env : Env} {st : Store} {Q : Bool → Store → Prop} {i j n : Nat}
theorem t_isNotN {d : D} (h : env[i]? = some (some d)) (q : Q (!isNon d) st) : atB (aO2 pIsNot (aVar i) (aC .non)) env st Q := by
  unfold atB aO2 aVar aC
  exact ⟨d, h, .inl ⟨rfl, _, rfl, q⟩⟩
theorem t_ninD {lk : Bool} {p : Ph} {ks : List Ph} {f : Ph → D} (h : env[i]? = some (some (dPh p))) (h2 : env[j]? = some (some (.ref n))) (hd : st[n]? = some (.dt lk (dic ks f))) (q : Q (!decide (p ∈ ks)) st) : atB (aO2 pNotIn (aVar i) (aVar j)) env st Q := by
  refine ⟨_, h, _, h2, p_ninD (kPh p) (dk_ph p).symm (kPh_depth p) (kPh_tup p) hd ⟨_, rfl, ?_⟩⟩
  rw [val_dic]
  by_cases e : p ∈ ks
  · rw [if_pos e]; simpa [e] using q
  · rw [if_neg e]; simpa [e] using q
theorem t_inD {lk : Bool} {p : Ph} {ks : List Ph} {f : Ph → D} (h : env[i]? = some (some (dPh p))) (h2 : env[j]? = some (some (.ref n))) (hd : st[n]? = some (.dt lk (dic ks f))) (q : Q (decide (p ∈ ks)) st) : atB (aO2 pIn (aVar i) (aVar j)) env st Q := by
  refine ⟨_, h, _, h2, p_inD (kPh p) (dk_ph p).symm (kPh_depth p) (kPh_tup p) hd ⟨_, rfl, ?_⟩⟩
  rw [val_dic]
  by_cases e : p ∈ ks
  · rw [if_pos e]; simpa [e] using q
  · rw [if_neg e]; simpa [e] using q
end

/-! ### rings -/
def Nx (L : Nat) (tab : List Tm) (p q : Ph) : Prop := steps L tab p = [(.no, q)]
inductive Tc {α : Type} (R : α → α → Prop) : α → α → Prop
  | one {a b : α} : R a b → Tc R a b
  | tail {a b c : α} : Tc R a b → R b c → Tc R a c
def NoIdle (L : Nat) (tab : List Tm) : Prop := ∀ p, Rc L tab p → ¬ Tc (Nx L tab) p p
theorem steps_cases {rows L : Nat} {tab : List Tm} (hT : OkTab rows L tab) (p : Ph) : (∃ q, Nx L tab p q) ∨ (steps L tab p).length ≠ 1 := by
  unfold Nx steps
  have := hT.L1
  split
  · exact .inl ⟨_, rfl⟩
  · split
    · exact .inl ⟨_, rfl⟩
    · exact .inr (by simp; omega)
  · exact .inr (by simp)
theorem Nx.snd {L : Nat} {tab : List Tm} {p q : Ph} (h : Nx L tab p q) : q.2 = p.2 := by
  unfold Nx steps at h
  split at h
  · simp at h; rw [← h]
  · split at h
    · simp at h; rw [← h]
    · rename_i r ns e hr
      have : (Sg.fin, (lastN ns, ins r p.2)) ∈ [(Sg.no, q)] := by rw [← h]; simp
      simp at this
  · simp at h
theorem perm_map {α : Type} [DecidableEq α] {g : α → D} : ∀ {ys : List D} {zs : List α}, ys.Perm (zs.map g) → ∃ zs' : List α, zs'.Perm zs ∧ ys = zs'.map g
  | [], zs, h => by
    have e : zs = [] := List.eq_nil_of_length_eq_zero (by simpa using h.length_eq.symm)
    subst e
    exact ⟨[], .refl _, rfl⟩
  | y :: ys, zs, h => by
    have hy : y ∈ zs.map g := h.mem_iff.mp List.mem_cons_self
    obtain ⟨z, hz, rfl⟩ := List.mem_map.mp hy
    have h1 := List.perm_cons_erase hz
    have h2 : ys.Perm ((zs.erase z).map g) := (List.perm_cons (g z)).mp (h.trans (by simpa using h1.map g))
    obtain ⟨ws, h3, h4⟩ := perm_map h2
    exact ⟨z :: ws, (h3.cons z).trans h1.symm, by simp [h4]⟩
theorem ty_ph (p : Ph) : HasTy (.pr .int (.seq .int)) (dPh p) := by
  unfold dPh
  refine ⟨trivial, fun x hx => ?_⟩
  obtain ⟨e, _, rfl⟩ := List.mem_map.mp hx
  trivial
/-- sorted(d), d a dict of phases -/
theorem p_sortK {st : Store} {Q : DK} {n : Nat} {lk : Bool} {ks : List Ph} {f : Ph → D} (h : st[n]? = some (.dt lk (dic ks f))) (hl : ks.length ≤ LIM) (q : ∀ zs : List Ph, zs.Perm ks → Q (.ref st.length) (st ++ [.lst (zs.map dPh)])) : pSorted (.ref n) st Q := by
  refine ⟨ks.map dPh, .pr .int (.seq .int), .inr (.inl ⟨n, lk, _, rfl, h, (dic_keys ks f).symm⟩), by simpa using hl, rfl, by decide, fun y hy => ?_, fun ys hys _ => ?_⟩
  · obtain ⟨p, _, rfl⟩ := List.mem_map.mp hy
    exact ty_ph p
  · obtain ⟨zs, h1, rfl⟩ := perm_map hys
    exact q zs h1
theorem fold_dic (g : Ph → D) : ∀ (wy : List Ph) (sf : List Ph) (h : Ph → D), sf.Nodup → ∃ sf2 h2, (dic wy g).foldl (fun acc kv => put acc kv.1 kv.2) (dic sf h) = dic sf2 h2 ∧ sf2.Nodup ∧ ∀ p, p ∈ sf2 ↔ p ∈ sf ∨ p ∈ wy
  | [], sf, h, nd => ⟨sf, h, rfl, nd, by simp⟩
  | p :: wy, sf, h, nd => by
    have e : (dic (p :: wy) g).foldl (fun acc kv => put acc kv.1 kv.2) (dic sf h) = (dic wy g).foldl (fun acc kv => put acc kv.1 kv.2) (put (dic sf h) (kPh p) (g p)) := rfl
    rw [e, put_dic]
    obtain ⟨sf2, h2, e2, nd2, hm⟩ := fold_dic g wy (if p ∈ sf then sf else sf ++ [p]) (fset h p (g p)) (by
      split
      · exact nd
      · rename_i hp
        rw [List.nodup_append]
        exact ⟨nd, by simp, fun a ha b hb => by simp at hb; subst hb; exact fun e => hp (e ▸ ha)⟩)
    refine ⟨sf2, h2, e2, nd2, fun q => ?_⟩
    rw [hm]
    split
    · rename_i hp
      constructor
      · rintro (h | h)
        · exact .inl h
        · exact .inr (List.mem_cons_of_mem _ h)
      · rintro (h | h)
        · exact .inl h
        · rcases List.mem_cons.mp h with rfl | h
          · exact .inl hp
          · exact .inr h
    · rw [List.mem_append, List.mem_singleton, List.mem_cons]
      exact or_assoc
def curD : Option Ph → D
  | none => .non
  | some p => dPh p
def sIdleRing : ASp := fun ds st Q => ∃ (rows L : Nat) (tab : List Tm) (n : Nat) (ks : List Ph) (f : Ph → Nat), ds = [.ref n] ∧ OkTab rows L tab ∧ NoIdle L tab ∧ Kept st n L tab ks f ∧ ∀ st', Kp [] st st' → Q .non st'
theorem isNon_ph (p : Ph) : isNon (dPh p) = false := rfl
theorem k_idle_ring (ds : List D) (st : Store) (Q : DK) (h : sIdleRing ds st Q) : runDef 7 b_idle_ring ds st Q := by
  obtain ⟨rows, L, tab, n, ks, f, rfl, hT, hN, hK, q⟩ := h
  obtain ⟨lk, hd⟩ := hK.at_
  have hks := ks_len' hT hK.nd fun p hp => ((hK.rc p).mp hp).ok hT
  have hnl : n < st.length := at_lt hd
  have hfl : ∀ p ∈ ks, f p < st.length := fun p hp => at_lt (hK.ls p hp)
  unfold b_idle_ring
  walk_at "ab"
  refine .inl (.inl ?_)
  unfold aFor sItems
  walk_at "ab"
  refine p_sortK (at_app hd _) (by rw [LIM_eq]; omega) fun zs hz => ?_
  refine .inr (.inl ⟨st.length + 1, zs.map dPh, by simp, by simp, ?_⟩)
  have hs0 : (st ++ [.dt false []] ++ [.lst (zs.map dPh)] : Store)[st.length]? = some (.dt false (dic [] fun _ => .non)) := at_app (at_new _ _) _
  refine ⟨fun i env st' => (∃ a b c d e, env = [some (.ref n), some (.ref st.length), a, b, c, d, e]) ∧ Kp [] st st' ∧ st.length + 1 < st'.length ∧ st'[st.length + 1]? = some (.lst (zs.map dPh)) ∧ ∃ sf g, sf.Nodup ∧ (∀ p ∈ sf, Rc L tab p) ∧ st'[st.length]? = some (.dt false (dic sf g)),
    ⟨⟨none, none, none, none, none, rfl⟩, ((Kp.refl _ _).app _).app _, by simp, by simp, [], fun _ => .non, .nil, by simp, hs0⟩, ?_, ?_, ?_⟩
  · rintro i env st' ⟨_, _, _, h, _⟩
    exact h
  · rintro i x env st' hx ⟨⟨a, b, c, d, e, rfl⟩, hK1, hl1, hz1, sf, g, ndS, hrS, hs1⟩
    obtain ⟨p0, hp0, rfl⟩ := Option.map_eq_some_iff.mp ((List.getElem?_map ..).symm.trans hx)
    have hr0 : Rc L tab p0 := (hK.rc p0).mp (hz.mem_iff.mp (List.mem_of_getElem? hp0))
    walk_at "ab"
    refine .inl ?_
    -- the walk
    refine ⟨fun m env st2 => ∃ (cur : Option Ph) (y z : Option D) (wy : List Ph) (gw : Ph → D), env = [some (.ref n), some (.ref st.length), some (dPh p0), some (.ref st'.length), some (curD cur), y, z] ∧ Kp [] st st2 ∧ st'.length < st2.length ∧ st2[st.length + 1]? = some (.lst (zs.map dPh)) ∧
      st2[st.length]? = some (.dt false (dic sf g)) ∧ st2[st'.length]? = some (.dt false (dic wy gw)) ∧ wy.Nodup ∧ (∀ p ∈ wy, Rc L tab p ∧ p.2 = p0.2) ∧ (∀ c, cur = some c → Rc L tab c ∧ c.2 = p0.2 ∧ ∀ p ∈ wy, Tc (Nx L tab) p c) ∧ m = 4096 - wy.length,
      ⟨_, some p0, d, e, [], fun _ => .non, rfl, hK1.app _, by simp, at_app hz1 _, at_app hs1 _, at_new _ _, .nil, by simp, ?_, rfl⟩, ?_⟩
    · rintro c ⟨rfl⟩
      exact ⟨hr0, rfl, by simp⟩
    rintro m env st2 ⟨cur, y, z, wy, gw, rfl, hK2, hl2, hz2, hs2, hw2, ndW, hrW, hcur, rfl⟩
    have hwl := ks_len' hT ndW fun p hp => (hrW p hp).1.ok hT
    have hsl := ks_len' hT ndS fun p hp => (hrS p hp).ok hT
    -- what is done behind the walk
    have out : (∀ c, cur = some c → c ∉ wy) → aSeq (aIf (atAnd (atB (aO2 pIsNot (aVar 4) (aC .non))) (atB (aO2 pIn (aVar 4) (aVar 3)))) (aRet (aO1 pTuple (aLcU (aVar 3) (.nm 6) (atB (aO2 pGe (aO2 pIx (aVar 3) (aVar 6)) (aO2 pIx (aVar 3) (aVar 4)))) (aVar 6) [6]))) aNext) (aExp (aUpd (aVar 1) (aVar 3)))
        { nx := fun env st' => (∃ a b c d e, env = [some (.ref n), some (.ref st.length), a, b, c, d, e]) ∧ Kp [] st st' ∧ st.length + 1 < st'.length ∧ st'[st.length + 1]? = some (.lst (zs.map dPh)) ∧ ∃ sf g, sf.Nodup ∧ (∀ p ∈ sf, Rc L tab p) ∧ st'[st.length]? = some (.dt false (dic sf g)), rt := Q,
          bk := aRet (aC .non) { nx := fun x st' => Q D.non st', rt := Q }, ct := fun env st' => (∃ a b c d e, env = [some (.ref n), some (.ref st.length), a, b, c, d, e]) ∧ Kp [] st st' ∧ st.length + 1 < st'.length ∧ st'[st.length + 1]? = some (.lst (zs.map dPh)) ∧ ∃ sf g, sf.Nodup ∧ (∀ p ∈ sf, Rc L tab p) ∧ st'[st.length]? = some (.dt false (dic sf g)) }
        [some (.ref n), some (.ref st.length), some (dPh p0), some (.ref st'.length), some (curD cur), y, z] st2 := by
      intro hnot
      have upd : aExp (aUpd (aVar 1) (aVar 3))
        { nx := fun env st' => (∃ a b c d e, env = [some (.ref n), some (.ref st.length), a, b, c, d, e]) ∧ Kp [] st st' ∧ st.length + 1 < st'.length ∧ st'[st.length + 1]? = some (.lst (zs.map dPh)) ∧ ∃ sf g, sf.Nodup ∧ (∀ p ∈ sf, Rc L tab p) ∧ st'[st.length]? = some (.dt false (dic sf g)), rt := Q,
          bk := aRet (aC .non) { nx := fun x st' => Q D.non st', rt := Q }, ct := fun env st' => (∃ a b c d e, env = [some (.ref n), some (.ref st.length), a, b, c, d, e]) ∧ Kp [] st st' ∧ st.length + 1 < st'.length ∧ st'[st.length + 1]? = some (.lst (zs.map dPh)) ∧ ∃ sf g, sf.Nodup ∧ (∀ p ∈ sf, Rc L tab p) ∧ st'[st.length]? = some (.dt false (dic sf g)) }
        [some (.ref n), some (.ref st.length), some (dPh p0), some (.ref st'.length), some (curD cur), y, z] st2 := by
        walk_at "ab"
        obtain ⟨sf2, h2, e2, nd2, hm⟩ := fold_dic gw wy sf g ndS
        refine ⟨⟨_, _, rfl, hs2⟩, st.length, st'.length, false, _, _, rfl, rfl, by omega, hs2, hw2, .inr ?_, by rw [dic_len, dic_len, LIM_eq]; omega, ?_⟩
        · have : (dic wy gw).map (·.1) = wy.map kPh := by unfold dic; rw [List.map_map]; rfl
          rw [this]
          refine apart_of (E := p0.2) ndW fun p hp => ⟨(hrW p hp).2, ?_⟩
          exact Nat.lt_of_lt_of_le ((hrW p hp).1.ok hT).lt hT.t100
        · rw [e2]
          refine ⟨⟨_, _, _, _, _, rfl⟩, hK2.set _ (.inr (Nat.le_refl _)), by simp; omega, at_ne hz2 (by omega) _, sf2, h2, nd2, fun p hp => ?_, at_self hs2 _⟩
          rcases (hm p).mp hp with hp | hp
          · exact hrS p hp
          · exact (hrW p hp).1
      cases cur with
      | none =>
        refine t_isNotN rfl ?_
        exact br_f (br_f upd)
      | some c =>
        refine t_isNotN rfl ?_
        refine br_t ?_
        refine t_inD (p := c) rfl rfl hw2 ?_
        rw [decide_eq_false (hnot c rfl)]
        refine br_f ?_
        exact upd
    cases cur with
    | none =>
      refine t_isNotN rfl ?_
      exact br_f (br_f (out fun c e => by cases e))
    | some c =>
      obtain ⟨hrc, hec, htc⟩ := hcur c rfl
      refine t_isNotN rfl ?_
      refine br_t ?_
      refine t_ninD (p := c) rfl rfl hs2 ?_
      have cw : c ∉ wy := fun z => hN c hrc (htc c z)
      by_cases hcs : c ∈ sf
      · rw [decide_eq_true hcs]
        exact br_f (br_f (out fun c' e => by cases e; exact cw))
      · rw [decide_eq_false hcs]
        refine br_t ?_
        refine t_ninD (p := c) rfl rfl hw2 ?_
        rw [decide_eq_false cw]
        refine br_t ?_
        walk_at "ab"
        refine p_lenD hw2 (by rw [dic_len, LIM_eq]; omega) ?_
        refine p_setD (kPh c) (dk_ph c).symm (kPh_depth c) (kPh_tup c) hw2 (by rw [dic_len, LIM_eq]; omega) ?_
        rw [put_dic, if_neg cw]
        have hck : c ∈ ks := (hK.rc c).mpr hrc
        have hdc := (hK2.at hd (by simp))
        have hlc := (hK2.at (hK.ls c hck) (by simp))
        have hcl := hfl c hck
        have hl1' : st.length ≤ st'.length := by omega
        have nd' : (wy ++ [c]).Nodup := by
          rw [List.nodup_append]
          exact ⟨ndW, by simp, fun a ha b hb => by simp at hb; subst hb; exact fun e => cw (e ▸ ha)⟩
        have hr' : ∀ p ∈ wy ++ [c], Rc L tab p ∧ p.2 = p0.2 := fun p hp => by
          rcases List.mem_append.mp hp with hp | hp
          · exact hrW p hp
          · simp at hp; rw [hp]; exact ⟨hrc, hec⟩
        have hlen := ks_len' hT nd' fun p hp => (hr' p hp).1.ok hT
        rw [List.length_append, List.length_singleton] at hlen
        have hw3 := at_self hw2 (.dt false (dic (wy ++ [c]) (fset gw c (.int (dic wy gw).length))))
        have hz3 := at_ne hz2 (show st'.length ≠ st.length + 1 by omega) (.dt false (dic (wy ++ [c]) (fset gw c (.int (dic wy gw).length))))
        have hs3 := at_ne hs2 (show st'.length ≠ st.length by omega) (.dt false (dic (wy ++ [c]) (fset gw c (.int (dic wy gw).length))))
        have hd3 := at_ne hdc (show st'.length ≠ n by omega) (.dt false (dic (wy ++ [c]) (fset gw c (.int (dic wy gw).length))))
        have hl3 := at_ne hlc (show st'.length ≠ f c by omega) (.dt false (dic (wy ++ [c]) (fset gw c (.int (dic wy gw).length))))
        have hK3 := hK2.set (n := st'.length) (.dt false (dic (wy ++ [c]) (fset gw c (.int (dic wy gw).length)))) (.inr hl1')
        walk_at "ab"
        have hv : val (dic ks fun p => D.ref (f p)) (kPh c) = some (.ref (f c)) := by rw [val_dic, if_pos hck]
        refine p_ixD (kPh c) (dk_ph c).symm (kPh_depth c) (kPh_tup c) hd3 hv ?_
        walk_at "ab"
        refine p_lenL hl3 ?_
        walk_at "ab"
        rw [List.length_map]
        rcases steps_cases hT c with ⟨q', hq⟩ | hne
        · have hl4 := hl3
          have e1 : dSteps L tab c = [.tup [.non, dPh q']] := by unfold dSteps; rw [show steps L tab c = [(.no, q')] from hq]; rfl
          rw [e1] at hl4
          rw [show (steps L tab c).length = 1 by rw [show steps L tab c = [(.no, q')] from hq]; rfl]
          walk_at "ab"
          refine p_ixL hl4 atI0 ?_
          walk_at "ab"
          simp only [isNon]
          walk_at "ab"
          refine p_ixL hl4 atI0 ?_
          walk_at "ab"
          refine ⟨_, ?_, some q', some (.ref (f c)), z, wy ++ [c], _, rfl, hK3, by simpa using hl2, hz3, hs3, hw3, nd', hr', ?_, rfl⟩
          · simp; omega
          · rintro r ⟨rfl⟩
            refine ⟨.step (s := (.no, q')) hrc (by rw [show steps L tab c = [(.no, q')] from hq]; simp), by rw [Nx.snd hq]; exact hec, fun p hp => ?_⟩
            rcases List.mem_append.mp hp with hp | hp
            · exact .tail (htc p hp) hq
            · simp at hp; rw [hp]; exact .one hq
        · rw [decide_eq_false (show ¬ ((steps L tab c).length : Int) = 1 by omega)]
          walk_at "ab"
          refine ⟨_, ?_, none, some (.ref (f c)), z, wy ++ [c], _, rfl, hK3, by simpa using hl2, hz3, hs3, hw3, nd', hr', ?_, rfl⟩
          · simp; omega
          · rintro r h
            cases h
  · rintro env st' ⟨⟨a, b, c, d, e, rfl⟩, hK1, _⟩
    walk_at "ab"
    exact q st' hK1
end Ab

set_option Elab.async false
set_option linter.all false
set_option maxRecDepth 100000
set_option maxHeartbeats 2000000
/-! Plans. -/
namespace Ab
open PySem
local macro_rules | `(tactic| walk_at "ab") => `(tactic| simp (config := { failIfUnchanged := false }) only [runDef, List.map_cons, List.map_nil, List.length_cons, List.length_nil, Nat.zero_add, Nat.reduceAdd, Nat.reduceSub, Nat.sub_self, List.replicate_zero, List.replicate_succ, List.nil_append, List.append_nil, List.cons_append, aSeq, aNext, aAsg, aPar, agNm, agTup, agSub, aUpd, aFld, aSetF, aExp, aIf, aRet, aRetN, aBrk, aCnt, aO1, aO2, aVar, aC, aTup, aLst, alNil, alCons, aCall, aDNew, atB, atYes, atAnd, atOr, atNot, aAndV, aOrV, aNotV, aIfE, aChain, aM1, bindP, wipeE,
  List.getElem?_cons_zero, List.getElem?_cons_succ, List.set_cons_zero, List.set_cons_succ, List.getElem?_nil, e_add, e_sub, e_neg, e_cmp, e_eqI, e_eqS, e_neI, e_isN, e_isNotN, e_ixT, e_lenT, e_int, e_abs, e_max2, e_min2, e_tupT, e_isiI, e_isiB, e_isiS, e_isiT, atI0, atI1, atI2, e_br_t, e_br_f, e_blx, e_intx, e_somex, e_somey, e_pair, e_two, Bool.not_true, Bool.not_false, true_and, and_true, Nat.reduceLeDiff, Nat.le_refl, decide_true, decide_false, c_0, c_1, c_2, c_3, c_4, c_5, c_6, c_7, c_8, c_9, Int.reduceEq, Int.reduceLT, Int.reduceLE, s_look_say, s_look_stop, s_look_end, s_say_look, s_say_stop, s_say_end, s_stop_look, s_stop_say, s_stop_end, s_end_look, s_end_say, s_end_stop])

abbrev plF (rows L : Nat) (tab : List Tm) (n : Nat) : List (Str × D) := [("rows", dN rows), ("letters", dN L), ("table", dTab tab), ("kept_phases", .ref n)]
/-- a plan stands at o -/
structure IsPlan (st : Store) (o C rows L : Nat) (tab : List Tm) (n : Nat) (ks : List Ph) (f : Ph → Nat) : Prop where
  at_ : st[o]? = some (.ins C (plF rows L tab n))
  dt : st[n]? = some (.dt false (dic ks fun p => .ref (f p)))
  kp : Kept st n L tab ks f
theorem Kept.mono {st st' : Store} {n L : Nat} {tab : List Tm} {ks : List Ph} {f : Ph → Nat} {S : List Nat} (h : Kept st n L tab ks f) (k : Kp S st st') (hn : n ∉ S) (hf : ∀ p ∈ ks, f p ∉ S) : Kept st' n L tab ks f := by
  obtain ⟨lk, e⟩ := h.at_
  exact ⟨⟨lk, k.at e hn⟩, fun p hp => k.at (h.ls p hp) (hf p hp), h.nd, h.rc⟩
theorem IsPlan.mono {st st' : Store} {o C rows L : Nat} {tab : List Tm} {n : Nat} {ks : List Ph} {f : Ph → Nat} (h : IsPlan st o C rows L tab n ks f) (k : Kp [] st st') : IsPlan st' o C rows L tab n ks f :=
  ⟨k.at h.at_ (by simp), k.at h.dt (by simp), h.kp.mono k (by simp) fun _ _ => by simp⟩
theorem putF_len (f : Str) (v : D) : ∀ fs, (putF f v fs).length ≤ fs.length + 1
  | [] => by simp [putF]
  | (g, x) :: r => by
    have := putF_len f v r
    unfold putF
    split <;> simp <;> omega
def sKeep (cs : List Nat) : ASp := fun ds st Q => ∃ (o C rows L : Nat) (tab : List Tm), ds = [.ref o, dN rows, dN L, dTab tab] ∧ C ∈ cs ∧ st[o]? = some (.ins C []) ∧ OkTab rows L tab ∧ NoIdle L tab ∧
  ∀ st' n ks f, Kp [o] st st' → Frs st.length n ks f → IsPlan st' o C rows L tab n ks f → Q .non st'
theorem k_keep {cP cR : Nat} (ds : List D) (st : Store) (Q : DK) (h : sKeep [cP, cR] ds st Q) : runDef 6 (b_Plan_keep cP cR sAllSteps sIdleRing) ds st Q := by
  obtain ⟨o, C, rows, L, tab, rfl, hC, ho, hT, hN, q⟩ := h
  unfold b_Plan_keep
  walk_at "ab"
  refine ⟨rows, L, tab, rfl, hT, fun st1 n ks f hK1 hn hkp hdt => ?_⟩
  walk_at "ab"
  refine ⟨rows, L, tab, n, ks, f, rfl, hT, hN, hkp, fun st2 hK2 => ?_⟩
  walk_at "ab"
  simp only [isNon]
  walk_at "ab"
  have ho2 := hK2.at (hK1.at ho (by simp)) (by simp)
  have hol := at_lt ho
  have hn1 := hn.1
  have hne : o ≠ n := by omega
  refine ⟨o, C, _, rfl, ho2, hC, by simp, ?_⟩
  refine ⟨o, C, _, rfl, at_self ho2 _, hC, by simp [putF], ?_⟩
  refine ⟨o, C, _, rfl, at_self (at_self ho2 _) _, hC, ?_, ?_⟩
  · have := putF_len "letters" (dN L) (putF "rows" (dN rows) [])
    have := putF_len "rows" (dN rows) []
    simp at this ⊢
    omega
  refine ⟨o, C, _, rfl, at_self (at_self (at_self ho2 _) _) _, hC, ?_, ?_⟩
  · have h1 := putF_len "table" (dTab tab) (putF "letters" (dN L) (putF "rows" (dN rows) []))
    have h2 := putF_len "letters" (dN L) (putF "rows" (dN rows) [])
    have h3 := putF_len "rows" (dN rows) []
    simp only [List.length_nil] at h3
    omega
  have hK12 : Kp [o] st st2 := (hK1.le (by simp)).trans (hK2.le (by simp))
  simp only [List.set_set]
  have hkp2 := hkp.mono hK2 (by simp) fun _ _ => by simp
  have hdt2 := hK2.at hdt (by simp)
  have hof : ∀ p ∈ ks, o ≠ f p := fun p hp e => by
    have := hkp2.ls p hp
    rw [← e, ho2] at this
    cases this
  refine q _ n ks f (hK12.set _ (.inl (by simp))) hn ⟨?_, at_ne hdt2 hne _, ⟨false, at_ne hdt2 hne _⟩, fun p hp => at_ne (hkp2.ls p hp) (hof p hp) _, hkp2.nd, hkp2.rc⟩
  rw [at_self ho2]
  rfl
/-- Plan(..), RawPlan(..) -/
def sInit (cs : List Nat) (chk : Bool) : ASp := fun ds st Q => ∃ (o C rows L : Nat) (tab : List Tm), ds = [.ref o, dN rows, dN L, dTab tab] ∧ C ∈ cs ∧ st[o]? = some (.ins C []) ∧ OkTab rows L tab ∧ NoIdle L tab ∧ (chk = true → rows ≤ 6 ∧ C = cs.headD 0) ∧ (chk = false → C = cs.getD 1 0) ∧
  ∀ st' n ks f, Kp [o] st st' → Frs st.length n ks f → IsPlan st' o C rows L tab n ks f → Q .non st'
theorem k_RawPlan_init {cP cR : Nat} (ds : List D) (st : Store) (Q : DK) (h : sInit [cP, cR] false ds st Q) : runDef 4 (b_RawPlan_init cP cR (sKeep [cP, cR])) ds st Q := by
  obtain ⟨o, C, rows, L, tab, rfl, hC, ho, hT, hN, _, hCR, q⟩ := h
  have e : C = cR := hCR rfl
  subst e
  unfold b_RawPlan_init
  walk_at "ab"
  unfold aMeth
  walk_at "ab"
  exact ⟨o, _, rfl, ho, by simp, o, C, rows, L, tab, rfl, by simp, ho, hT, hN, q⟩
theorem k_Plan_init {cP cR : Nat} (ds : List D) (st : Store) (Q : DK) (h : sInit [cP, cR] true ds st Q) : runDef 5 (b_Plan_init cP cR sIsWithin sIsItem (sKeep [cP, cR])) ds st Q := by
  obtain ⟨o, C, rows, L, tab, rfl, hC, ho, hT, hN, hCP, _, q⟩ := h
  obtain ⟨hr6, e⟩ := hCP rfl
  have e : C = cP := e
  subst e
  have h1 := hT.L1
  have h2 := hT.L3
  have h3 := hT.r1
  have h4 := hT.t1
  have h5 := hT.t100
  unfold b_Plan_init
  walk_at "ab"
  refine ⟨_, _, _, rfl, by omega, by omega, ?_⟩
  walk_at "ab"
  refine p_lenS (by decide) ?_
  walk_at "ab"
  refine ⟨_, _, _, rfl, by omega, ?_, ?_⟩
  · have : (("abc" : Str).length : Int) = 3 := by decide
    rw [this]; omega
  walk_at "ab"
  rw [List.length_map, decide_eq_true (show (1 : Int) ≤ (tab.length : Int) by omega), decide_eq_true (show (tab.length : Int) ≤ 30 by omega)]
  walk_at "ab"
  refine .inl ?_
  unfold aLc sItems
  walk_at "ab"
  refine .inl ⟨_, rfl, fun i acc st' => acc = (List.replicate i true).map .bl ∧ Kp [] st st', ⟨rfl, Kp.refl _ _⟩, by rw [List.length_map, LIM_eq]; omega, fun _ _ _ _ => trivial, ?_, ?_⟩
  · rintro i x acc st' hx ⟨rfl, hK⟩
    obtain ⟨t, ht, rfl⟩ := Option.map_eq_some_iff.mp ((List.getElem?_map ..).symm.trans hx)
    walk_at "ab"
    refine ⟨t, rows, L, tab.length, by simp, hT.it t (List.mem_of_getElem? ht), by omega, fun st2 hK2 => ?_⟩
    refine ⟨?_, hK.trans hK2⟩
    rw [List.map_replicate, ← List.replicate_succ', List.replicate_succ]
  · rintro acc st' ⟨rfl, hK⟩
    refine p_all (List.replicate _ true) (at_new _ _) ?_
    rw [show (List.replicate (tab.map dTm).length true).all id = true by simp]
    walk_at "ab"
    unfold aMeth
    walk_at "ab"
    have ho2 := at_app (hK.at ho (by simp)) (.lst ((List.replicate (tab.map dTm).length true).map .bl))
    refine ⟨o, _, rfl, ho2, by simp, o, C, rows, L, tab, rfl, by simp, ho2, hT, hN, fun st3 n ks f hK3 hfr hp => ?_⟩
    have hle := (hK.app (.lst ((List.replicate (tab.map dTm).length true).map .bl))).1
    exact q st3 n ks f (((hK.app _).le (by simp)).trans hK3) ⟨Nat.le_trans hle hfr.1, fun p hp => Nat.le_trans hle (hfr.2 p hp)⟩ hp
end Ab

set_option Elab.async false
set_option linter.all false
set_option maxRecDepth 100000
set_option maxHeartbeats 2000000
/-! Graphs of phases: lines_of, turned. -/
namespace Ab
open PySem
local macro_rules | `(tactic| walk_at "ab") => `(tactic| simp (config := { failIfUnchanged := false }) only [runDef, List.map_cons, List.map_nil, List.length_cons, List.length_nil, Nat.zero_add, Nat.reduceAdd, Nat.reduceSub, Nat.sub_self, List.replicate_zero, List.replicate_succ, List.nil_append, List.append_nil, List.cons_append, aSeq, aNext, aAsg, aPar, agNm, agTup, agSub, aUpd, aFld, aSetF, aExp, aIf, aRet, aRetN, aBrk, aCnt, aO1, aO2, aVar, aC, aTup, aLst, alNil, alCons, aCall, aDNew, atB, atYes, atAnd, atOr, atNot, aAndV, aOrV, aNotV, aIfE, aChain, aM1, bindP, wipeE,
  List.getElem?_cons_zero, List.getElem?_cons_succ, List.set_cons_zero, List.set_cons_succ, List.getElem?_nil, e_add, e_sub, e_neg, e_cmp, e_eqI, e_eqS, e_neI, e_isN, e_isNotN, e_ixT, e_lenT, e_int, e_abs, e_max2, e_min2, e_tupT, e_isiI, e_isiB, e_isiS, e_isiT, atI0, atI1, atI2, e_br_t, e_br_f, e_blx, e_intx, e_somex, e_somey, e_pair, e_two, Bool.not_true, Bool.not_false, true_and, and_true, Nat.reduceLeDiff, Nat.le_refl, decide_true, decide_false, c_0, c_1, c_2, c_3, c_4, c_5, c_6, c_7, c_8, c_9, Int.reduceEq, Int.reduceLT, Int.reduceLE, s_look_say, s_look_stop, s_look_end, s_say_look, s_say_stop, s_say_end, s_stop_look, s_stop_say, s_stop_end, s_end_look, s_end_say, s_end_stop])

theorem Kp.back {st st' : Store} {n : Nat} {o : MO} (h : Kp [n] st st') (e : st[n]? = some o) : Kp [] st (st'.set n o) := by
  refine ⟨by rw [List.length_set]; exact h.1, fun k l _ => ?_⟩
  by_cases hk : n = k
  · subst hk
    rw [List.getElem?_set_self (Nat.lt_of_lt_of_le l h.1), e]
  · rw [List.getElem?_set_ne hk, h.2 k l (by simp; exact fun z => hk z.symm)]
theorem Kp.lock {st : Store} {n : Nat} (x : MO) : Kp [n] st (st.set n x) := (Kp.refl _ _).set _ (.inl (by simp))
/-- a comprehension over pairs whose element only looks -/
theorem lc_map2 {α : Type} {zs : List α} (a1 a2 b : α → D) {chk : Store → Prop} {env : Env} {st : Store} {Q : DK} {i j : Nat} {e : AE} (hc : chk st) (hl : zs.length ≤ LIM) (he : ∀ z ∈ zs, ∀ Qe : DK, Qe (b z) st → e (((wipeE env [i, j]).set i (some (a1 z))).set j (some (a2 z))) st Qe)
    (q : Q (.ref st.length) (st ++ [.lst (zs.map b)])) : lcRun ⟨zs.map fun z => .tup [a1 z, a2 z], chk⟩ (.pr i j) atYes e [i, j] env st Q := by
  refine ⟨fun k acc st' => acc = (zs.take k).map b ∧ st = st', ⟨by simp, rfl⟩, by simpa using hl, ?_, ?_, ?_⟩
  · rintro k acc st' ⟨rfl, rfl⟩
    exact hc
  · rintro k x acc st' hx ⟨rfl, rfl⟩
    obtain ⟨z, hz, rfl⟩ := Option.map_eq_some_iff.mp ((List.getElem?_map ..).symm.trans hx)
    refine ⟨_, _, rfl, br_t (he z (List.mem_of_getElem? hz) _ ⟨?_, rfl⟩)⟩
    rw [List.take_add_one, hz, List.map_append]
    rfl
  · rintro acc st' ⟨rfl, rfl⟩
    have : zs.take (List.map (fun z => D.tup [a1 z, a2 z]) zs).length = zs := by rw [List.length_map, List.take_length]
    rw [this]
    exact q
/-- a graph -/
structure Gr (ks : List Ph) (sc : Ph → List Ph) : Prop where
  nd : ks.Nodup
  cl : ∀ p ∈ ks, ∀ q ∈ sc p, q ∈ ks
  dg : ∀ p, (sc p).length ≤ 4
  len : ks.length ≤ 4096
/-- its lines stand at n -/
structure Lns (st : Store) (n : Nat) (ks : List Ph) (sc : Ph → List Ph) (f : Ph → Nat) : Prop where
  dt : st[n]? = some (.dt false (dic ks fun p => .ref (f p)))
  ls : ∀ p ∈ ks, st[f p]? = some (.lst ((sc p).map dPh))
theorem Lns.mono {st st' : Store} {n : Nat} {ks : List Ph} {sc : Ph → List Ph} {f : Ph → Nat} (h : Lns st n ks sc f) (k : Kp [] st st') : Lns st' n ks sc f := ⟨k.at h.dt (by simp), fun p hp => k.at (h.ls p hp) (by simp)⟩
def scP (L : Nat) (tab : List Tm) (p : Ph) : List Ph := (steps L tab p).map (·.2)
theorem gr_of {rows L : Nat} {tab : List Tm} {st : Store} {n : Nat} {ks : List Ph} {f : Ph → Nat} (hT : OkTab rows L tab) (h : Kept st n L tab ks f) : Gr ks (scP L tab) where
  nd := h.nd
  cl := fun p hp q hq => by
    obtain ⟨s, hs, rfl⟩ := List.mem_map.mp hq
    exact (h.rc _).mpr (.step ((h.rc p).mp hp) hs)
  dg := fun p => by
    unfold scP
    rw [List.length_map]
    have := steps_len L tab p
    have := hT.L3
    omega
  len := ks_len' hT h.nd fun p hp => ((h.rc p).mp hp).ok hT
/-- {p: .. for p in d}: the loop of a dict comprehension over phases -/
theorem dc_phases {ks : List Ph} {env : Env} {st : Store} {Q : DK} {v : Nat} {e : AE} (nd : ks.Nodup) (hl : ks.length ≤ LIM) (hv : v < env.length) (I : (Ph → D) → List Ph → Store → Prop) (h0 : ∀ g, I g [] st)
    (hs : ∀ g done p st1, p ∈ ks → p ∉ done → I g done st1 → ∀ Qe : DK, (∀ z st2, (∀ g', (∀ q ∈ done, g' q = g q) → g' p = z → I g' (done ++ [p]) st2) → Qe z st2) → e ((env.set v none).set v (some (dPh p))) st1 Qe)
    (q : ∀ g st1, I g ks st1 → Q (.ref st1.length) (st1 ++ [.dt false (dic ks g)])) : dcRun ⟨ks.map dPh, fun _ => True⟩ (.nm v) (aVar v) e [v] env st Q := by
  refine ⟨fun i kvs st' => ∃ g, kvs = dic (ks.take i) g ∧ I g (ks.take i) st', ⟨fun _ => .non, by simp [dic], by simpa using h0 _⟩, by simpa using hl, fun _ _ _ _ => trivial, ?_, ?_⟩
  · rintro i x kvs st1 hx ⟨g, rfl, hI⟩
    obtain ⟨p, hp, rfl⟩ := Option.map_eq_some_iff.mp ((List.getElem?_map ..).symm.trans hx)
    have hnd : p ∉ ks.take i := fun hm => by
      obtain ⟨k, hk⟩ := List.getElem?_of_mem hm
      rw [List.getElem?_take] at hk
      split at hk
      · rename_i hki
        have := (List.getElem?_inj (List.getElem?_eq_some_iff.mp hp).1 nd).mp (hp.trans hk.symm)
        omega
      · cases hk
    refine ⟨dPh p, ?_, ?_⟩
    · show ((env.set v none).set v (some (dPh p)))[v]? = _
      rw [List.getElem?_set_self (by simpa using hv)]
    refine hs g (ks.take i) p st1 (List.mem_of_getElem? hp) hnd hI _ fun z st2 hz => ⟨kPh p, (dk_ph p).symm, kPh_depth p, kPh_tup p, fset g p z, ?_, ?_⟩
    · rw [put_dic, if_neg hnd, List.take_add_one, hp]
      rfl
    · rw [List.take_add_one, hp]
      exact hz _ (fun r hr => by
        have : ¬ r = p := fun e => hnd (e ▸ hr)
        simp [fset, this]) (by simp [fset])
  · rintro kvs st1 ⟨g, rfl, hI⟩
    have : ks.take (ks.map dPh).length = ks := by rw [List.length_map, List.take_length]
    rw [this] at hI ⊢
    exact q g st1 hI

theorem take_app {st : Store} {n : Nat} {o : MO} {x : MO} (h : st[n]? = some o) : (st ++ [x])[n]? = some o := at_app h x
def sLinesOf (cs : List Nat) : ASp := fun ds st Q => ∃ (o C rows L : Nat) (tab : List Tm) (n : Nat) (ks : List Ph) (f : Ph → Nat), ds = [.ref o] ∧ C ∈ cs ∧ OkTab rows L tab ∧ IsPlan st o C rows L tab n ks f ∧
  ∀ st' m g, Kp [] st st' → st.length ≤ m → (∀ p ∈ ks, st.length ≤ g p) → Lns st' m ks (scP L tab) g → Q (.ref m) st'
theorem lk_ne {a b : Str} {v : D} {r : List (Str × D)} (h : (a == b) = false) : ((b, v) :: r).lookup a = r.lookup a := by rw [List.lookup_cons, h]
theorem lk_eq {a : Str} {v : D} {r : List (Str × D)} : ((a, v) :: r).lookup a = some v := by rw [List.lookup_cons, beq_self_eq_true]
theorem look_kept {rows L n : Nat} {tab : List Tm} : (plF rows L tab n).lookup ("kept_phases" : Str) = some (.ref n) := by
  rw [lk_ne (by decide), lk_ne (by decide), lk_ne (by decide), lk_eq]
theorem look_rows {rows L n : Nat} {tab : List Tm} : (plF rows L tab n).lookup ("rows" : Str) = some (dN rows) := lk_eq
theorem look_letters {rows L n : Nat} {tab : List Tm} : (plF rows L tab n).lookup ("letters" : Str) = some (dN L) := by rw [lk_ne (by decide), lk_eq]
theorem look_table {rows L n : Nat} {tab : List Tm} : (plF rows L tab n).lookup ("table" : Str) = some (dTab tab) := by rw [lk_ne (by decide), lk_ne (by decide), lk_eq]
theorem k_lines_of {cP cR : Nat} (ds : List D) (st : Store) (Q : DK) (h : sLinesOf [cP, cR] ds st Q) : runDef 4 (b_lines_of cP cR) ds st Q := by
  obtain ⟨o, C, rows, L, tab, n, ks, f, rfl, hC, hT, hp, q⟩ := h
  have hG := gr_of hT hp.kp
  have hks := hG.len
  have hon : n ≠ o := fun e => by
    have := hp.dt
    rw [e, hp.at_] at this
    cases this
  unfold b_lines_of
  walk_at "ab"
  refine .inr ⟨n, _, hp.dt, ?_⟩
  have ho1 : (st.set n (.dt true (dic ks fun p => .ref (f p))))[o]? = _ := at_ne hp.at_ hon _
  refine ⟨_, rfl, ?_⟩
  refine ⟨o, C, _, _, rfl, ho1, hC, look_kept, rfl, ?_⟩
  rw [dic_keys]
  have hd1 := at_self hp.dt (.dt true (dic ks fun p => .ref (f p)))
  refine dc_phases hG.nd (by rw [LIM_eq]; omega) (by simp) (fun g done st1 => Kp [n] st st1 ∧ st1[n]? = some (.dt true (dic ks fun p => .ref (f p))) ∧ ∃ g' : Ph → Nat, ∀ p ∈ done, g p = .ref (g' p) ∧ st.length ≤ g' p ∧ st1[g' p]? = some (.lst ((scP L tab p).map dPh))) (fun g => ⟨Kp.lock _, hd1, fun _ => 0, by simp⟩) (fun g done p st1 hpk hnd ⟨hK, hd, g', hg⟩ Qe hQ => ?_) (fun g st1 ⟨hK, hd, g', hg⟩ => ?_)
  · refine .inl ?_
    refine ⟨_, rfl, ?_⟩
    refine ⟨o, C, _, _, rfl, hK.at hp.at_ (by simpa using fun e => hon e.symm), hC, look_kept, ?_⟩
    refine ⟨_, rfl, ?_⟩
    have hv : val (dic ks fun p => D.ref (f p)) (kPh p) = some (.ref (f p)) := by rw [val_dic, if_pos hpk]
    refine p_ixD (kPh p) (dk_ph p).symm (kPh_depth p) (kPh_tup p) hd hv ?_
    have hfp := hp.kp.ls p hpk
    have hfn : f p ≠ n := fun e => by
      rw [e, hp.dt] at hfp
      cases hfp
    have hl1 := hK.at hfp (by simpa using hfn)
    refine .inr (.inl ⟨f p, _, rfl, hl1, ?_⟩)
    have hdeg := steps_len L tab p
    have := hT.L3
    refine lc_map2 (zs := steps L tab p) (fun s => dSg s.1) (fun s => dPh s.2) (fun s => dPh s.2) hl1 (by rw [LIM_eq]; omega) (fun z hz Qe hq => ⟨_, rfl, hq⟩) ?_
    refine hQ _ _ fun g2 h1 h2 => ⟨hK.app _, at_app hd _, fset g' p st1.length, fun r hr => ?_⟩
    rcases List.mem_append.mp hr with hr | hr
    · have e : ¬ r = p := fun e => hnd (e ▸ hr)
      obtain ⟨x1, x2, x3⟩ := hg r hr
      simp only [fset, if_neg e]
      exact ⟨by rw [h1 r hr, x1], x2, at_app x3 _⟩
    · simp at hr
      subst hr
      simp only [fset, if_pos]
      refine ⟨h2, hK.1, ?_⟩
      rw [at_new]
      unfold scP
      rw [List.map_map]
      rfl
  · have hK2 := (hK.app (.dt false (dic ks g))).back hp.dt
    have hst1 : st.length ≤ st1.length := hK.1
    have hnl := at_lt hp.dt
    refine q _ st1.length g' hK2 hst1 (fun p hp => (hg p hp).2.1) ⟨?_, fun p hpk => ?_⟩
    · rw [at_ne (at_new st1 (.dt false (dic ks g))) (by omega) _]
      rw [dic_congr fun p hp => (hg p hp).1]
    · obtain ⟨_, x2, x3⟩ := hg p hpk
      exact at_ne (at_app x3 _) (by omega) _
end Ab

set_option Elab.async false
set_option linter.all false
set_option maxRecDepth 100000
set_option maxHeartbeats 2000000
/-! turned. -/
namespace Ab
open PySem
local macro_rules | `(tactic| walk_at "ab") => `(tactic| simp (config := { failIfUnchanged := false }) only [runDef, List.map_cons, List.map_nil, List.length_cons, List.length_nil, Nat.zero_add, Nat.reduceAdd, Nat.reduceSub, Nat.sub_self, List.replicate_zero, List.replicate_succ, List.nil_append, List.append_nil, List.cons_append, aSeq, aNext, aAsg, aPar, agNm, agTup, agSub, aUpd, aFld, aSetF, aExp, aIf, aRet, aRetN, aBrk, aCnt, aO1, aO2, aVar, aC, aTup, aLst, alNil, alCons, aCall, aDNew, atB, atYes, atAnd, atOr, atNot, aAndV, aOrV, aNotV, aIfE, aChain, aM1, bindP, wipeE,
  List.getElem?_cons_zero, List.getElem?_cons_succ, List.set_cons_zero, List.set_cons_succ, List.getElem?_nil, e_add, e_sub, e_neg, e_cmp, e_eqI, e_eqS, e_neI, e_isN, e_isNotN, e_ixT, e_lenT, e_int, e_abs, e_max2, e_min2, e_tupT, e_isiI, e_isiB, e_isiS, e_isiT, atI0, atI1, atI2, e_br_t, e_br_f, e_blx, e_intx, e_somex, e_somey, e_pair, e_two, Bool.not_true, Bool.not_false, true_and, and_true, Nat.reduceLeDiff, Nat.le_refl, decide_true, decide_false, c_0, c_1, c_2, c_3, c_4, c_5, c_6, c_7, c_8, c_9, Int.reduceEq, Int.reduceLT, Int.reduceLE, s_look_say, s_look_stop, s_look_end, s_say_look, s_say_stop, s_say_end, s_stop_look, s_stop_say, s_stop_end, s_end_look, s_end_say, s_end_stop])

/-- the sum over the phases -/
def tot (ks : List Ph) (w : Ph → Nat) : Nat := (ks.map w).sum
theorem tot_up {ks : List Ph} {w w' : Ph → Nat} {q : Ph} (nd : ks.Nodup) (hq : q ∈ ks) (h1 : w' q = w q + 1) (h2 : ∀ r, r ≠ q → w' r = w r) : tot ks w' = tot ks w + 1 := by
  unfold tot
  induction ks with
  | nil => cases hq
  | cons x xs ih =>
    obtain ⟨n1, n2⟩ := List.nodup_cons.mp nd
    rw [List.map_cons, List.map_cons, List.sum_cons, List.sum_cons]
    rcases List.mem_cons.mp hq with rfl | hq'
    · have : xs.map w' = xs.map w := List.map_congr_left fun r hr => h2 r fun e => n1 (e ▸ hr)
      rw [h1, this]
      omega
    · have e : x ≠ q := fun e => n1 (e ▸ hq')
      rw [h2 x e, ih n2 hq']
      omega
theorem tot_zero (ks : List Ph) : tot ks (fun _ => 0) = 0 := by
  unfold tot
  induction ks with
  | nil => rfl
  | cons x xs ih => rw [List.map_cons, List.sum_cons, ih]
theorem le_tot {w : Ph → Nat} {q : Ph} : ∀ {ks : List Ph}, q ∈ ks → w q ≤ tot ks w
  | x :: xs, h => by
    unfold tot
    rw [List.map_cons, List.sum_cons]
    rcases List.mem_cons.mp h with rfl | h
    · omega
    · have := le_tot (w := w) h
      unfold tot at this
      omega
/-- the lines turned around: b stands at m -/
structure Bck (ks : List Ph) (sc b : Ph → List Ph) : Prop where
  mem : ∀ p q, q ∈ ks → (p ∈ b q ↔ p ∈ ks ∧ q ∈ sc p)
  sum : tot ks (fun q => (b q).length) ≤ 4 * ks.length
def sTurned : ASp := fun ds st Q => ∃ (n : Nat) (ks : List Ph) (sc : Ph → List Ph) (f : Ph → Nat), ds = [.ref n] ∧ Gr ks sc ∧ Lns st n ks sc f ∧
  ∀ st' m b h, Kp [] st st' → st.length ≤ m → Bck ks sc b → Lns st' m ks b h → Q (.ref m) st'
theorem k_turned (ds : List D) (st : Store) (Q : DK) (h : sTurned ds st Q) : runDef 4 b_turned ds st Q := by
  obtain ⟨n, ks, sc, f, rfl, hG, hL, q⟩ := h
  have hks := hG.len
  have hnl := at_lt hL.dt
  unfold b_turned
  walk_at "ab"
  refine .inr ⟨n, _, hL.dt, ?_⟩
  refine ⟨_, rfl, rfl, ?_⟩
  rw [dic_keys]
  have hd1 := at_self hL.dt (.dt true (dic ks fun p => .ref (f p)))
  refine dc_phases hG.nd (by rw [LIM_eq]; omega) (by simp) (fun g done st1 => Kp [n] st st1 ∧ ∃ g' : Ph → Nat, (∀ p ∈ done, g p = .ref (g' p) ∧ st.length ≤ g' p ∧ st1[g' p]? = some (.lst [])) ∧ ∀ p ∈ done, ∀ r ∈ done, g' p = g' r → p = r) (fun g => ⟨Kp.lock _, fun _ => 0, by simp, by simp⟩) (fun g done p st1 hpk hnd ⟨hK, g', hg, hi⟩ Qe hQ => ?_) (fun g st1 ⟨hK, g', hg, hi⟩ => ?_)
  · refine ⟨by simp, hQ _ _ fun g2 h1 h2 => ⟨hK.app _, fset g' p st1.length, fun r hr => ?_, fun r hr r' hr' e => ?_⟩⟩
    · rcases List.mem_append.mp hr with hr | hr
      · have e : ¬ r = p := fun e => hnd (e ▸ hr)
        obtain ⟨x1, x2, x3⟩ := hg r hr
        simp only [fset, if_neg e]
        exact ⟨by rw [h1 r hr, x1], x2, at_app x3 _⟩
      · simp at hr
        subst hr
        simp only [fset, if_pos]
        exact ⟨h2, hK.1, at_new _ _⟩
    · rcases List.mem_append.mp hr with h1 | h1
      · have e1 : ¬ r = p := fun e => hnd (e ▸ h1)
        rcases List.mem_append.mp hr' with h2 | h2
        · have e2 : ¬ r' = p := fun e => hnd (e ▸ h2)
          simp only [fset, if_neg e1, if_neg e2] at e
          exact hi r h1 r' h2 e
        · have e2 : r' = p := by simpa using h2
          simp only [fset, if_neg e1, if_pos e2] at e
          have := at_lt (hg r h1).2.2
          omega
      · have e1 : r = p := by simpa using h1
        rcases List.mem_append.mp hr' with h2 | h2
        · have e2 : ¬ r' = p := fun e => hnd (e ▸ h2)
          simp only [fset, if_neg e2, if_pos e1] at e
          have := at_lt (hg r' h2).2.2
          omega
        · have e2 : r' = p := by simpa using h2
          rw [e1, e2]
  -- the loops
  have hK2 := (hK.app (.dt false (dic ks g))).back hL.dt
  have hst1 : st.length ≤ st1.length := hK.1
  have hbd : ((st1 ++ [MO.dt false (dic ks g)]).set n (.dt false (dic ks fun p => .ref (f p))))[st1.length]? = some (.dt false (dic ks fun p => .ref (g' p))) := by
    rw [at_ne (at_new st1 (.dt false (dic ks g))) (by omega) _, dic_congr fun p hp => (hg p hp).1]
  have hdn : ((st1 ++ [MO.dt false (dic ks g)]).set n (.dt false (dic ks fun p => .ref (f p))))[n]? = some (.dt false (dic ks fun p => .ref (f p))) := hK2.at hL.dt (by simp)
  have hgl : ∀ p ∈ ks, ((st1 ++ [MO.dt false (dic ks g)]).set n (.dt false (dic ks fun p => .ref (f p))))[g' p]? = some (.lst []) := fun p hp => by
    obtain ⟨_, x2, x3⟩ := hg p hp
    exact at_ne (at_app x3 _) (by omega) _
  generalize (st1 ++ [MO.dt false (dic ks g)]).set n (.dt false (dic ks fun p => .ref (f p))) = s0 at *
  have hm : ∀ p ∈ ks, g' p ≠ st1.length := fun p hp e => by
    have := at_lt (hg p hp).2.2
    omega
  walk_at "ab"
  refine .inr ⟨n, _, hdn, ?_⟩
  refine ⟨_, rfl, rfl, ?_⟩
  rw [dic_keys]
  refine ⟨fun i env s => (∃ x y, env = [some (.ref n), some (.ref st1.length), x, y]) ∧ Kp [n] st s ∧ s[n]? = some (.dt true (dic ks fun p => .ref (f p))) ∧ s[st1.length]? = some (.dt false (dic ks fun p => .ref (g' p))) ∧ ∃ b : Ph → List Ph, (∀ p ∈ ks, s[g' p]? = some (.lst ((b p).map dPh))) ∧
    (∀ p r, r ∈ ks → (p ∈ b r ↔ p ∈ ks.take i ∧ r ∈ sc p)) ∧ tot ks (fun r => (b r).length) ≤ 4 * i, ⟨⟨_, _, rfl⟩, (hK2.le (by simp)).set _ (.inl (by simp)), at_self hdn _, at_ne hbd (by omega) _, fun _ => [], fun p hp => at_ne (hgl p hp) (by have := (hg p hp).2.1; omega) _, by simp, ?_⟩, fun _ _ _ _ => trivial, ?_, ?_⟩
  · rw [show (fun r : Ph => ([] : List Ph).length) = fun _ => 0 from rfl, tot_zero]
    omega
  · rintro i x env s hx ⟨⟨y1, y2, rfl⟩, hKs, hdt, hbt, b, hb, hbm, hbs⟩
    obtain ⟨p, hp, rfl⟩ := Option.map_eq_some_iff.mp ((List.getElem?_map ..).symm.trans hx)
    have hpk := List.mem_of_getElem? hp
    walk_at "ab"
    refine .inl ?_
    refine ⟨_, rfl, ?_⟩
    refine ⟨_, rfl, ?_⟩
    have hv : val (dic ks fun p => D.ref (f p)) (kPh p) = some (.ref (f p)) := by rw [val_dic, if_pos hpk]
    refine p_ixD (kPh p) (dk_ph p).symm (kPh_depth p) (kPh_tup p) hdt hv ?_
    have hfp := hL.ls p hpk
    have hfn : f p ≠ n := fun e => by
      rw [e, hL.dt] at hfp
      cases hfp
    have hfl := at_lt hfp
    have hl1 := hKs.at hfp (by simpa using hfn)
    refine .inr (.inl ⟨f p, _, rfl, hl1, ?_⟩)
    have hdeg := hG.dg p
    refine ⟨fun j env s => (∃ x y, env = [some (.ref n), some (.ref st1.length), some (dPh p), y]) ∧ Kp [n] st s ∧ s[n]? = some (.dt true (dic ks fun p => .ref (f p))) ∧ s[st1.length]? = some (.dt false (dic ks fun p => .ref (g' p))) ∧ s[f p]? = some (.lst ((sc p).map dPh)) ∧ ∃ b : Ph → List Ph, (∀ p ∈ ks, s[g' p]? = some (.lst ((b p).map dPh))) ∧
      (∀ p' r, r ∈ ks → (p' ∈ b r ↔ (p' ∈ ks.take i ∧ r ∈ sc p') ∨ (p' = p ∧ r ∈ (sc p).take j))) ∧ tot ks (fun r => (b r).length) ≤ 4 * i + j, ⟨⟨y2, y2, rfl⟩, hKs, hdt, hbt, hl1, b, hb, fun p' r hr => by rw [hbm p' r hr]; simp, hbs⟩, ?_, ?_, ?_⟩
    · rintro j env s ⟨_, _, _, _, h, _⟩
      exact h
    · rintro j x env s hx ⟨⟨z1, z2, rfl⟩, hKs, hdt, hbt, hl1, b, hb, hbm, hbs⟩
      obtain ⟨r, hr, rfl⟩ := Option.map_eq_some_iff.mp ((List.getElem?_map ..).symm.trans hx)
      have hrk := hG.cl p hpk r (List.mem_of_getElem? hr)
      have hj := (List.getElem?_eq_some_iff.mp hr).1
      walk_at "ab"
      have hv2 : val (dic ks fun p => D.ref (g' p)) (kPh r) = some (.ref (g' r)) := by rw [val_dic, if_pos hrk]
      have hi2 : i ≤ 4096 := by
        have := (List.getElem?_eq_some_iff.mp hp).1
        omega
      have hbl : (b r).length ≤ 4 * i + j := by
        exact Nat.le_trans (le_tot (w := fun r => (b r).length) hrk) hbs
      refine p_ixD (kPh r) (dk_ph r).symm (kPh_depth r) (kPh_tup r) hbt hv2 ⟨⟨_, _, rfl, hb r hrk⟩, p_app (hb r hrk) (by rw [List.length_map, LIM_eq]; omega) ?_⟩
      have hgr := (hg r hrk).2.1
      walk_at "ab"
      refine ⟨⟨z1, some (dPh r), rfl⟩, hKs.set _ (.inr hgr), at_ne hdt (by omega) _, at_ne hbt (hm r hrk) _, at_ne hl1 (by omega) _, fset b r (b r ++ [p]), fun r' hr' => ?_, fun p' r' hr' => ?_, ?_⟩
      · by_cases e : r' = r
        · subst e
          rw [at_self (hb r' hrk)]
          simp [fset]
        · have e1 : fset b r (b r ++ [p]) r' = b r' := by simp [fset, e]
          rw [e1]
          exact at_ne (hb r' hr') (fun z => e (hi r' hr' r hrk z.symm)) _
      · rw [List.take_add_one, hr]
        by_cases e : r' = r
        · subst e
          have e1 : fset b r' (b r' ++ [p]) r' = b r' ++ [p] := by simp [fset]
          rw [e1, List.mem_append, hbm p' r' hr']
          simp
          constructor
          · rintro ((h | h) | h)
            · exact .inl h
            · exact .inr h.1
            · exact .inr h
          · rintro (h | h)
            · exact .inl (.inl h)
            · exact .inr h
        · have e1 : fset b r (b r ++ [p]) r' = b r' := by simp [fset, e]
          rw [e1, hbm p' r' hr']
          simp [e]
      · rw [tot_up (w := fun r => (b r).length) hG.nd hrk (by simp [fset]) (fun r' e => by simp [fset, e])]
        omega
    · rintro env s ⟨⟨z1, z2, rfl⟩, hKs, hdt, hbt, hl1, b, hb, hbm, hbs⟩
      refine ⟨⟨_, _, rfl⟩, hKs, hdt, hbt, b, hb, fun p' r hr => ?_, ?_⟩
      · rw [hbm p' r hr, List.take_add_one, hp, List.length_map, List.take_length]
        simp
        constructor
        · rintro (h | ⟨rfl, h⟩)
          · exact ⟨.inl h.1, h.2⟩
          · exact ⟨.inr rfl, h⟩
        · rintro ⟨h | h, k⟩
          · exact .inl ⟨h, k⟩
          · subst h; exact .inr ⟨rfl, k⟩
      · rw [List.length_map] at hbs
        omega
  · rintro env s ⟨⟨y1, y2, rfl⟩, hKs, hdt, hbt, b, hb, hbm, hbs⟩
    rw [List.length_map] at hbm hbs
    rw [List.take_length] at hbm
    refine ⟨_, rfl, ?_⟩
    refine q _ st1.length b g' (hKs.back hL.dt) hst1 ⟨hbm, hbs⟩ ⟨at_ne hbt (by omega) _, fun p hp => at_ne (hb p hp) (by have := (hg p hp).2.1; omega) _⟩
end Ab

set_option Elab.async false
set_option linter.all false
set_option maxRecDepth 100000
set_option maxHeartbeats 2000000
/-! The order in which a depth first walk finishes. -/
namespace Ab
open PySem

inductive Rr (sc : Ph → List Ph) : Ph → Ph → Prop
  | refl (a : Ph) : Rr sc a a
  | tail {a b c : Ph} : Rr sc a b → c ∈ sc b → Rr sc a c
theorem Rr.trans {sc : Ph → List Ph} {a b c : Ph} (h : Rr sc a b) (k : Rr sc b c) : Rr sc a c := by
  induction k with
  | refl => exact h
  | tail _ hc ih => exact .tail ih hc
theorem Rr.one {sc : Ph → List Ph} {a b : Ph} (h : b ∈ sc a) : Rr sc a b := .tail (.refl a) h
theorem Rr.inKs {ks : List Ph} {sc : Ph → List Ph} (G : Gr ks sc) {a b : Ph} (h : Rr sc a b) (ha : a ∈ ks) : b ∈ ks := by
  induction h with
  | refl => exact ha
  | tail _ hc ih => exact G.cl _ ih _ hc
/-- what is finished: a line from x to y goes back, or y leads to all between -/
def Post (sc : Ph → List Ph) (gray : List Ph) (fd : List Ph) : Prop := ∀ A x B, fd = A ++ x :: B → ∀ y ∈ sc x, y ∈ A ∨ (∃ B1 B2, x :: B = B1 ++ y :: B2 ∧ ∀ w ∈ B1, Rr sc y w) ∨ (y ∈ gray ∧ ∀ w ∈ x :: B, Rr sc y w)
structure Dfs (ks : List Ph) (sc : Ph → List Ph) (kn fd : List Ph) (fr : List (Ph × Nat)) (pd : Option Ph) : Prop where
  pw : (fr.map (·.1)).Pairwise (Rr sc)
  pdr : ∀ c, pd = some c → c ∈ ks ∧ ∀ g ∈ fr.map (·.1), Rr sc g c
  km : ∀ p, p ∈ kn ↔ p ∈ fd ∨ p ∈ fr.map (·.1)
  knd : kn.Nodup
  fnd : (fd ++ fr.map (·.1)).Nodup
  kks : ∀ p ∈ kn, p ∈ ks
  chl : ∀ g a, (g, a) ∈ fr → 1 ≤ a ∧ a ≤ (sc g).length ∧ ∀ j y, j < a → (sc g)[j]? = some y → y ∈ kn ∨ pd = some y
  po : Post sc (fr.map (·.1)) fd
section
variable {ks : List Ph} {sc : Ph → List Ph} {kn fd : List Ph} {fr : List (Ph × Nat)} {c g : Ph} {a : Nat}
theorem Dfs.s1 (d : Dfs ks sc kn fd fr (some c)) (h : c ∈ kn) : Dfs ks sc kn fd fr none :=
  ⟨d.pw, (fun _ e => nomatch e), d.km, d.knd, d.fnd, d.kks, fun g a hm => by
    obtain ⟨h1, h2, h3⟩ := d.chl g a hm
    exact ⟨h1, h2, fun j y hj hy => .inl ((h3 j y hj hy).elim id fun z => Option.some.inj z ▸ h)⟩, d.po⟩
theorem snoc_split {A B : List Ph} {x c : Ph} {fd : List Ph} (e : fd ++ [c] = A ++ x :: B) : (fd = A ∧ x = c ∧ B = []) ∨ ∃ B', B = B' ++ [c] ∧ fd = A ++ x :: B' := by
  rcases List.eq_nil_or_concat B with rfl | ⟨B', z, rfl⟩
  · have := List.append_inj' e rfl
    simp at this
    exact .inl ⟨this.1, this.2.symm, rfl⟩
  · rw [List.concat_eq_append] at e ⊢
    have e2 : fd ++ [c] = (A ++ x :: B') ++ [z] := by rw [e]; simp
    have := List.append_inj' e2 rfl
    simp at this
    obtain ⟨h1, h2⟩ := this
    exact .inr ⟨B', by rw [h2], h1⟩
theorem nd_snoc {kn : List Ph} (h : kn.Nodup) (hc : c ∉ kn) : (kn ++ [c]).Nodup := by
  rw [List.nodup_append]
  exact ⟨h, by simp, fun x hx y hy => by simp at hy; subst hy; exact fun e => hc (e ▸ hx)⟩
theorem Dfs.s2 (d : Dfs ks sc kn fd fr (some c)) (h : c ∉ kn) (hc : sc c = []) : Dfs ks sc (kn ++ [c]) (fd ++ [c]) fr none := by
  obtain ⟨hck, hcr⟩ := d.pdr c rfl
  refine ⟨d.pw, (fun _ e => nomatch e), fun p => ?_, nd_snoc d.knd h, ?_, fun p hp => ?_, fun g a hm => ?_, ?_⟩
  · simp only [List.mem_append, d.km, List.mem_singleton]
    constructor
    · rintro ((z | z) | z)
      · exact .inl (.inl z)
      · exact .inr z
      · exact .inl (.inr z)
    · rintro ((z | z) | z)
      · exact .inl (.inl z)
      · exact .inr z
      · exact .inl (.inr z)
  · have h1 := d.fnd
    have hcf : c ∉ fd := fun z => h ((d.km c).mpr (.inl z))
    have hcg : c ∉ fr.map (·.1) := fun z => h ((d.km c).mpr (.inr z))
    have : (fd ++ fr.map (·.1) ++ [c]).Nodup := nd_snoc h1 (by rw [List.mem_append]; exact fun z => z.elim hcf hcg)
    refine (List.Perm.nodup_iff ?_).mp this
    rw [List.append_assoc, List.append_assoc]
    exact (List.perm_append_left_iff fd).mpr List.perm_append_comm
  · rcases List.mem_append.mp hp with hp | hp
    · exact d.kks p hp
    · simp at hp; rw [hp]; exact hck
  · obtain ⟨h1, h2, h3⟩ := d.chl g a hm
    refine ⟨h1, h2, fun j y hj hy => .inl ?_⟩
    rcases h3 j y hj hy with z | z
    · simp [z]
    · cases z; simp
  · intro A x B e y hy
    rcases snoc_split e with ⟨h1, h2, h3⟩ | ⟨B', rfl, h2⟩
    · rw [h2, hc] at hy
      cases hy
    · rcases d.po A x B' h2 y hy with z | ⟨B1, B2, z1, z2⟩ | ⟨z1, z2⟩
      · exact .inl z
      · exact .inr (.inl ⟨B1, B2 ++ [c], by rw [← List.cons_append, z1]; simp, z2⟩)
      · refine .inr (.inr ⟨z1, fun w hw => ?_⟩)
        rw [← List.cons_append] at hw
        rcases List.mem_append.mp hw with hw | hw
        · exact z2 w hw
        · simp at hw; rw [hw]; exact hcr y z1
theorem Dfs.s3 {e : Ph} (G : Gr ks sc) (d : Dfs ks sc kn fd fr (some c)) (h : c ∉ kn) (hc : (sc c)[0]? = some e) : Dfs ks sc (kn ++ [c]) fd (fr ++ [(c, 1)]) (some e) := by
  obtain ⟨hck, hcr⟩ := d.pdr c rfl
  have he : e ∈ sc c := List.mem_of_getElem? hc
  refine ⟨?_, ?_, fun p => ?_, nd_snoc d.knd h, ?_, fun p hp => ?_, fun g a hm => ?_, ?_⟩
  · rw [List.map_append]
    exact List.pairwise_append.mpr ⟨d.pw, by simp, fun x hx y hy => by simp at hy; rw [hy]; exact hcr x hx⟩
  · rintro e' ⟨rfl⟩
    refine ⟨G.cl c hck _ he, fun g hg => ?_⟩
    rw [List.map_append] at hg
    rcases List.mem_append.mp hg with hg | hg
    · exact .tail (hcr g hg) he
    · simp at hg; rw [hg]; exact .one he
  · rw [List.map_append, List.mem_append, List.mem_append, d.km]
    simp only [List.map_cons, List.map_nil, or_assoc]
  · have h1 := d.fnd
    have hcf : c ∉ fd := fun z => h ((d.km c).mpr (.inl z))
    have hcg : c ∉ fr.map (·.1) := fun z => h ((d.km c).mpr (.inr z))
    rw [List.map_append, ← List.append_assoc]
    exact nd_snoc h1 (by rw [List.mem_append]; exact fun z => z.elim hcf hcg)
  · rcases List.mem_append.mp hp with hp | hp
    · exact d.kks p hp
    · simp at hp; rw [hp]; exact hck
  · rcases List.mem_append.mp hm with hm | hm
    · obtain ⟨h1, h2, h3⟩ := d.chl g a hm
      refine ⟨h1, h2, fun j y hj hy => .inl ?_⟩
      rcases h3 j y hj hy with z | z
      · simp [z]
      · cases z; simp
    · simp at hm
      obtain ⟨rfl, rfl⟩ := hm
      refine ⟨Nat.le_refl _, (List.getElem?_eq_some_iff.mp hc).1, fun j y hj hy => .inr ?_⟩
      have : j = 0 := by omega
      subst this
      rw [hc] at hy
      cases hy
      rfl
  · intro A x B e' y hy
    rcases d.po A x B e' y hy with z | z | ⟨z1, z2⟩
    · exact .inl z
    · exact .inr (.inl z)
    · exact .inr (.inr ⟨by rw [List.map_append]; exact List.mem_append.mpr (.inl z1), z2⟩)
theorem Dfs.s4 (d : Dfs ks sc kn fd (fr ++ [(g, a)]) none) (h : a = (sc g).length) : Dfs ks sc kn (fd ++ [g]) fr none := by
  have pw := d.pw
  rw [List.map_append] at pw
  obtain ⟨pw1, _, pw3⟩ := List.pairwise_append.mp pw
  have hr : ∀ x ∈ fr.map (·.1), Rr sc x g := fun x hx => pw3 x hx g (by simp)
  refine ⟨pw1, (fun _ e => nomatch e), fun p => ?_, d.knd, ?_, d.kks, fun g' a' hm => ?_, ?_⟩
  · rw [d.km, List.map_append, List.mem_append, List.mem_append]
    simp only [List.map_cons, List.map_nil, List.mem_singleton]
    constructor
    · rintro (z | z | z)
      · exact .inl (.inl z)
      · exact .inr z
      · exact .inl (.inr z)
    · rintro ((z | z) | z)
      · exact .inl z
      · exact .inr (.inr z)
      · exact .inr (.inl z)
  · have h1 := d.fnd
    rw [List.map_append] at h1
    refine (List.Perm.nodup_iff ?_).mp h1
    rw [List.append_assoc]
    exact (List.perm_append_left_iff fd).mpr List.perm_append_comm
  · exact d.chl g' a' (List.mem_append.mpr (.inl hm))
  · obtain ⟨_, _, hch⟩ := d.chl g a (by simp)
    intro A x B e y hy
    rcases snoc_split e with ⟨h1, h2, h3⟩ | ⟨B', rfl, h2⟩
    · subst h1 h2 h3
      obtain ⟨j, hj⟩ := List.getElem?_of_mem hy
      have hk : y ∈ kn := (hch j y (by rw [h]; exact (List.getElem?_eq_some_iff.mp hj).1) hj).resolve_right (by simp)
      rcases (d.km y).mp hk with z | z
      · exact .inl z
      · rw [List.map_append] at z
        rcases List.mem_append.mp z with z | z
        · exact .inr (.inr ⟨z, fun w hw => by simp at hw; rw [hw]; exact hr y z⟩)
        · simp at z
          exact .inr (.inl ⟨[], [], by simp [z], by simp⟩)
    · rcases d.po A x B' h2 y hy with z | ⟨B1, B2, z1, z2⟩ | ⟨z1, z2⟩
      · exact .inl z
      · exact .inr (.inl ⟨B1, B2 ++ [g], by rw [← List.cons_append, z1]; simp, z2⟩)
      · rw [List.map_append] at z1
        rcases List.mem_append.mp z1 with z | z
        · refine .inr (.inr ⟨z, fun w hw => ?_⟩)
          rw [← List.cons_append] at hw
          rcases List.mem_append.mp hw with hw | hw
          · exact z2 w hw
          · simp at hw; rw [hw]; exact hr y z
        · simp at z
          subst z
          exact .inr (.inl ⟨x :: B', [], by simp, z2⟩)
theorem Dfs.s5 {e : Ph} (G : Gr ks sc) (d : Dfs ks sc kn fd (fr ++ [(g, a)]) none) (hc : (sc g)[a]? = some e) : Dfs ks sc kn fd (fr ++ [(g, a + 1)]) (some e) := by
  have em : (fr ++ [(g, a + 1)]).map (·.1) = (fr ++ [(g, a)]).map (·.1) := by simp
  have he : e ∈ sc g := List.mem_of_getElem? hc
  have pw := d.pw
  rw [List.map_append] at pw
  obtain ⟨pw1, _, pw3⟩ := List.pairwise_append.mp pw
  have hgk : g ∈ ks := d.kks g ((d.km g).mpr (.inr (by simp)))
  refine ⟨by rw [em]; exact d.pw, ?_, fun p => by rw [em]; exact d.km p, d.knd, by rw [em]; exact d.fnd, d.kks, fun g' a' hm => ?_, by rw [em]; exact d.po⟩
  · rintro e' ⟨rfl⟩
    refine ⟨G.cl g hgk _ he, fun x hx => ?_⟩
    rw [List.map_append] at hx
    rcases List.mem_append.mp hx with hx | hx
    · exact .tail (pw3 x hx g (by simp)) he
    · simp at hx; rw [hx]; exact .one he
  · rcases List.mem_append.mp hm with hm | hm
    · obtain ⟨h1, h2, h3⟩ := d.chl g' a' (List.mem_append.mpr (.inl hm))
      exact ⟨h1, h2, fun j y hj hy => .inl ((h3 j y hj hy).resolve_right (by simp))⟩
    · simp at hm
      obtain ⟨rfl, rfl⟩ := hm
      obtain ⟨h1, h2, h3⟩ := d.chl g' a (by simp)
      refine ⟨by omega, (List.getElem?_eq_some_iff.mp hc).1, fun j y hj hy => ?_⟩
      by_cases hja : j = a
      · subst hja
        rw [hc] at hy
        exact .inr hy
      · exact .inl ((h3 j y (by omega) hy).resolve_right (by simp))
end
end Ab

set_option Elab.async false
set_option linter.all false
set_option maxRecDepth 100000
set_option maxHeartbeats 4000000
/-! finished. -/
namespace Ab
open PySem
local macro_rules | `(tactic| walk_at "ab") => `(tactic| simp (config := { failIfUnchanged := false }) only [runDef, List.map_cons, List.map_nil, List.length_cons, List.length_nil, Nat.zero_add, Nat.reduceAdd, Nat.reduceSub, Nat.sub_self, List.replicate_zero, List.replicate_succ, List.nil_append, List.append_nil, List.cons_append, aSeq, aNext, aAsg, aPar, agNm, agTup, agSub, aUpd, aFld, aSetF, aExp, aIf, aRet, aRetN, aBrk, aCnt, aO1, aO2, aVar, aC, aTup, aLst, alNil, alCons, aCall, aDNew, atB, atYes, atAnd, atOr, atNot, aAndV, aOrV, aNotV, aIfE, aChain, aM1, bindP, wipeE,
  List.getElem?_cons_zero, List.getElem?_cons_succ, List.set_cons_zero, List.set_cons_succ, List.getElem?_nil, e_add, e_sub, e_neg, e_cmp, e_eqI, e_eqS, e_neI, e_isN, e_isNotN, e_ixT, e_lenT, e_int, e_abs, e_max2, e_min2, e_tupT, e_isiI, e_isiB, e_isiS, e_isiT, atI0, atI1, atI2, e_br_t, e_br_f, e_blx, e_intx, e_somex, e_somey, e_pair, e_two, Bool.not_true, Bool.not_false, true_and, and_true, Nat.reduceLeDiff, Nat.le_refl, decide_true, decide_false, c_0, c_1, c_2, c_3, c_4, c_5, c_6, c_7, c_8, c_9, Int.reduceEq, Int.reduceLT, Int.reduceLE, s_look_say, s_look_stop, s_look_end, s_say_look, s_say_stop, s_say_end, s_stop_look, s_stop_say, s_stop_end, s_end_look, s_end_say, s_end_stop])

abbrev yes : Ph → D := fun _ => .bl true
theorem put_yes (kn : List Ph) (c : Ph) : put (dic kn yes) (kPh c) (.bl true) = dic (if c ∈ kn then kn else kn ++ [c]) yes := by
  rw [put_dic]
  exact dic_congr fun p _ => by unfold fset; split <;> rfl
def dFr (x : Ph × Nat) : D := .tup [dPh x.1, dN x.2]
def wl (fr : List (Ph × Nat)) (pd : Option Ph) : List D := fr.map dFr ++ (match pd with | some c => [.tup [dPh c, .int 0]] | none => [])
theorem Dfs.size {ks : List Ph} {sc : Ph → List Ph} {kn fd : List Ph} {fr : List (Ph × Nat)} {pd : Option Ph} (G : Gr ks sc) (d : Dfs ks sc kn fd fr pd) : kn.length ≤ 4096 ∧ fd.length + fr.length ≤ kn.length := by
  refine ⟨Nat.le_trans (d.knd.length_le_of_subset fun p hp => d.kks p hp) G.len, ?_⟩
  have := d.fnd.length_le_of_subset (l₂ := kn) fun p hp => (d.km p).mpr (List.mem_append.mp hp)
  simpa using this
def msr (sc : Ph → List Ph) (kn : List Ph) (fr : List (Ph × Nat)) (pd : Option Ph) : Nat := (4096 - kn.length) * 20 + (fr.map fun x => 2 * ((sc x.1).length - x.2) + 1).sum + (match pd with | some _ => 1 | none => 0)
def sFinished : ASp := fun ds st Q => ∃ (n : Nat) (ks : List Ph) (sc : Ph → List Ph) (f : Ph → Nat), ds = [.ref n] ∧ Gr ks sc ∧ Lns st n ks sc f ∧
  ∀ st' m fd, Kp [] st st' → st.length ≤ m → fd.Nodup → (∀ p, p ∈ fd ↔ p ∈ ks) → Post sc [] fd → st'[m]? = some (.lst (fd.map dPh)) → Q (.ref m) st'
theorem k_finished (ds : List D) (st : Store) (Q : DK) (h : sFinished ds st Q) : runDef 7 b_finished ds st Q := by
  obtain ⟨n, ks, sc, f, rfl, hG, hL, q⟩ := h
  have hks := hG.len
  have hnl := at_lt hL.dt
  unfold b_finished
  walk_at "ab"
  refine .inl (.inl ?_)
  unfold aFor sItems
  walk_at "ab"
  refine p_sortK (at_app (at_app hL.dt _) _) (by rw [LIM_eq]; omega) fun zs hz => ?_
  have hzl : (st ++ [.dt false []] ++ [.lst []] : Store).length = st.length + 2 := by simp
  rw [hzl]
  refine .inr (.inl ⟨st.length + 2, zs.map dPh, rfl, by rw [← hzl]; exact at_new _ _, ?_⟩)
  refine ⟨fun i env s => (∃ a b c d, env = [some (.ref n), some (.ref st.length), some (.ref (st.length + 1)), a, b, c, d]) ∧ Kp [] st s ∧ st.length + 2 < s.length ∧ s[st.length + 2]? = some (.lst (zs.map dPh)) ∧ ∃ kn fd, Dfs ks sc kn fd [] none ∧ s[st.length]? = some (.dt false (dic kn yes)) ∧ s[st.length + 1]? = some (.lst (fd.map dPh)) ∧ ∀ p ∈ zs.take i, p ∈ kn,
    ⟨⟨none, none, none, none, by simp⟩, (((Kp.refl _ _).app _).app _).app _, by simp, by rw [← hzl]; exact at_new _ _, [], [], ?_, at_app (at_app (at_new _ _) _) _, at_app (by simp) _, by simp⟩, ?_, ?_, ?_⟩
  · refine ⟨by simp, fun c e => (nomatch e), by simp, .nil, by simp, by simp, by simp, ?_⟩
    intro A x B e
    simp at e
  · rintro i env s ⟨_, _, _, h, _⟩
    exact h
  · rintro i x env s hx ⟨⟨a, b, c, d, rfl⟩, hK, hsl, hzs, kn, fd, hD, hkn, hfd, hdone⟩
    obtain ⟨first, hp, rfl⟩ := Option.map_eq_some_iff.mp ((List.getElem?_map ..).symm.trans hx)
    have hfk : first ∈ ks := hz.mem_iff.mp (List.mem_of_getElem? hp)
    walk_at "ab"
    refine ⟨fun m env s' => ∃ kn' fd' fr pd y z, env = [some (.ref n), some (.ref st.length), some (.ref (st.length + 1)), some (dPh first), some (.ref s.length), y, z] ∧ Kp [] st s' ∧ s.length < s'.length ∧ s'[st.length + 2]? = some (.lst (zs.map dPh)) ∧ Dfs ks sc kn' fd' fr pd ∧ s'[st.length]? = some (.dt false (dic kn' yes)) ∧ s'[st.length + 1]? = some (.lst (fd'.map dPh)) ∧
      s'[s.length]? = some (.lst (wl fr pd)) ∧ (∀ p ∈ kn, p ∈ kn') ∧ (first ∈ kn' ∨ pd = some first) ∧ m = msr sc kn' fr pd,
      ⟨_, kn, fd, [], some first, c, d, rfl, hK.app _, by simp, at_app hzs _, ⟨hD.pw, ?_, hD.km, hD.knd, hD.fnd, hD.kks, by simp, hD.po⟩, at_app hkn _, at_app hfd _, at_new _ _, fun p hp => hp, .inr rfl, rfl⟩, ?_⟩
    · rintro c ⟨rfl⟩
      exact ⟨hfk, by simp⟩
    rintro m env s' ⟨kn', fd', fr, pd, y, z, rfl, hK', hsl', hzs', hD', hkn', hfd', hw', hsub, hfirst, rfl⟩
    obtain ⟨hsz1, hsz2⟩ := hD'.size hG
    walk_at "ab"
    refine p_lenL hw' ?_
    walk_at "ab"
    cases pd with
    | some c =>
      have e1 : wl fr (some c) = fr.map dFr ++ [.tup [dPh c, .int 0]] := rfl
      rw [e1] at hw' ⊢
      refine br_d (fun _ => ?_) (fun h => absurd (show (0 : Int) < ((fr.map dFr ++ [D.tup [dPh c, .int 0]]).length : Int) by rw [List.length_append, List.length_singleton]; omega) h)
      refine p_pop hw' ?_
      walk_at "ab"
      have hck : c ∈ ks := (hD'.pdr c rfl).1
      have hkn2 := at_ne hkn' (show s.length ≠ st.length by omega) (.lst (fr.map dFr))
      have hw2 := at_self hw' (.lst (fr.map dFr))
      have hfd2 := at_ne hfd' (show s.length ≠ st.length + 1 by omega) (.lst (fr.map dFr))
      have hzs2 := at_ne hzs' (show s.length ≠ st.length + 2 by omega) (.lst (fr.map dFr))
      have hK2 := hK'.set (n := s.length) (.lst (fr.map dFr)) (.inr hK.1)
      have hl2 : s.length < (s'.set s.length (.lst (fr.map dFr))).length := by simpa using hsl'
      generalize s'.set s.length (.lst (fr.map dFr)) = s2 at *
      refine p_inD (kPh c) (dk_ph c).symm (kPh_depth c) (kPh_tup c) hkn2 ?_
      rw [val_dic]
      by_cases hin : c ∈ kn'
      · rw [if_pos hin]
        simp only [Option.isSome_some]
        walk_at "ab"
        refine ⟨_, ?_, kn', fd', fr, none, _, _, rfl, hK2, hl2, hzs2, hD'.s1 hin, hkn2, hfd2, by rw [hw2]; simp [wl], hsub, .inl ?_, rfl⟩
        · unfold msr; simp
        · rcases hfirst with h | h
          · exact h
          · cases h; exact hin
      · rw [if_neg hin]
        simp only [Option.isSome_none]
        walk_at "ab"
        have hfst : first ∈ kn' ++ [c] := by
          rcases hfirst with h | h
          · simp [h]
          · cases h; simp
        refine p_setD (kPh c) (dk_ph c).symm (kPh_depth c) (kPh_tup c) hkn2 (by rw [dic_len, LIM_eq]; omega) ?_
        rw [put_yes, if_neg hin]
        have hkn3 := at_self hkn2 (.dt false (dic (kn' ++ [c]) yes))
        have hw3 := at_ne hw2 (show st.length ≠ s.length by omega) (.dt false (dic (kn' ++ [c]) yes))
        have hfd3 := at_ne hfd2 (show st.length ≠ st.length + 1 by omega) (.dt false (dic (kn' ++ [c]) yes))
        have hzs3 := at_ne hzs2 (show st.length ≠ st.length + 2 by omega) (.dt false (dic (kn' ++ [c]) yes))
        have hK3 := hK2.set (n := st.length) (.dt false (dic (kn' ++ [c]) yes)) (.inr (Nat.le_refl _))
        have hl3 : s.length < (s2.set st.length (.dt false (dic (kn' ++ [c]) yes))).length := by simpa using hl2
        have hln3 := hL.mono hK3
        generalize s2.set st.length (.dt false (dic (kn' ++ [c]) yes)) = s3 at *
        have hv : val (dic ks fun p => D.ref (f p)) (kPh c) = some (.ref (f c)) := by rw [val_dic, if_pos hck]
        walk_at "ab"
        refine p_ixD (kPh c) (dk_ph c).symm (kPh_depth c) (kPh_tup c) hln3.dt hv (p_lenL (hln3.ls c hck) ?_)
        rw [List.length_map]
        walk_at "ab"
        have hms : (4096 - (kn' ++ [c]).length) * 20 + 20 = (4096 - kn'.length) * 20 := by
          have h9 := (nd_snoc hD'.knd hin).length_le_of_subset (l₂ := ks) fun p hp => by
            rcases List.mem_append.mp hp with hp | hp
            · exact hD'.kks p hp
            · simp at hp; rw [hp]; exact hck
          simp at h9 ⊢
          omega
        cases hsc : sc c with
        | nil =>
          rw [show decide ((0 : Int) = (([] : List Ph).length : Int)) = true from rfl]
          walk_at "ab"
          refine ⟨⟨_, _, rfl, hfd3⟩, p_app hfd3 (by rw [List.length_map, LIM_eq]; omega) ?_⟩
          refine ⟨_, ?_, kn' ++ [c], fd' ++ [c], fr, none, _, _, rfl, hK3.set _ (.inr (by omega)), by simpa using hl3, at_ne hzs3 (by omega) _, hD'.s2 hin hsc, at_ne hkn3 (by omega) _, by rw [at_self hfd3]; simp, by rw [at_ne hw3 (by omega) _]; simp [wl], fun p hp => by simp [hsub p hp], .inl hfst, rfl⟩
          unfold msr
          simp only
          omega
        | cons e es =>
          rw [show decide ((0 : Int) = ((e :: es).length : Int)) = false from decide_eq_false (by simp; omega)]
          walk_at "ab"
          refine ⟨⟨_, _, rfl, hw3⟩, p_app hw3 (by rw [List.length_map, LIM_eq]; omega) ?_⟩
          have hw4 := at_self hw3 (.lst (fr.map dFr ++ [.tup [dPh c, .int (0 + 1)]]))
          have hK4 := hK3.set (n := s.length) (.lst (fr.map dFr ++ [.tup [dPh c, .int (0 + 1)]])) (.inr hK.1)
          have hkn4 := at_ne hkn3 (show s.length ≠ st.length by omega) (.lst (fr.map dFr ++ [.tup [dPh c, .int (0 + 1)]]))
          have hfd4 := at_ne hfd3 (show s.length ≠ st.length + 1 by omega) (.lst (fr.map dFr ++ [.tup [dPh c, .int (0 + 1)]]))
          have hzs4 := at_ne hzs3 (show s.length ≠ st.length + 2 by omega) (.lst (fr.map dFr ++ [.tup [dPh c, .int (0 + 1)]]))
          have hl4 : s.length < (s3.set s.length (.lst (fr.map dFr ++ [.tup [dPh c, .int (0 + 1)]]))).length := by simpa using hl3
          have hln4 := hL.mono hK4
          generalize s3.set s.length (.lst (fr.map dFr ++ [.tup [dPh c, .int (0 + 1)]])) = s4 at *
          refine ⟨⟨_, _, rfl, hw4⟩, p_ixD (kPh c) (dk_ph c).symm (kPh_depth c) (kPh_tup c) hln4.dt hv (p_ixL (hln4.ls c hck) (v := dPh e) (by rw [hsc]; exact atI0) (p_app hw4 (by simp; rw [LIM_eq]; omega) ?_))⟩
          refine ⟨_, ?_, kn' ++ [c], fd', fr ++ [(c, 1)], some e, _, _, rfl, hK4.set _ (.inr hK.1), by simpa using hl4, at_ne hzs4 (by omega) _, hD'.s3 hG hin (by rw [hsc]; rfl), at_ne hkn4 (by omega) _, at_ne hfd4 (by omega) _, by rw [at_self hw4]; simp [wl, dFr], fun p hp => by simp [hsub p hp], .inl hfst, rfl⟩
          have := hG.dg c
          unfold msr
          simp
          omega
    | none =>
      rcases List.eq_nil_or_concat fr with rfl | ⟨fr, ⟨g, a⟩, rfl⟩
      · refine br_d (fun h => ?_) (fun _ => ?_)
        · simp [wl] at h
        · refine ⟨⟨_, _, _, _, rfl⟩, hK', by omega, hzs', kn', fd', hD', hkn', hfd', fun p hp' => ?_⟩
          rw [List.take_add_one, hp] at hp'
          rcases List.mem_append.mp hp' with h | h
          · exact hsub p (hdone p h)
          · simp at h
            rw [h]
            exact hfirst.resolve_right (by simp)
      · rw [List.concat_eq_append] at hw' hD' hsz2 ⊢
        have e1 : wl (fr ++ [(g, a)]) none = fr.map dFr ++ [.tup [dPh g, .int (a : Nat)]] := by simp [wl, dFr]
        rw [e1] at hw' ⊢
        obtain ⟨ha1, ha2, _⟩ := hD'.chl g a (by simp)
        have hgn : g ∈ kn' := (hD'.km g).mpr (.inr (by simp))
        have hgk := hD'.kks g hgn
        have hlen : fr.length + 1 ≤ kn'.length := by simp at hsz2; omega
        refine br_d (fun _ => ?_) (fun h => absurd (show (0 : Int) < ((fr.map dFr ++ [D.tup [dPh g, .int (a : Nat)]]).length : Int) by rw [List.length_append, List.length_singleton]; omega) h)
        refine p_pop hw' ?_
        walk_at "ab"
        rw [decide_eq_false (show ¬ ((a : Nat) : Int) = 0 by omega)]
        walk_at "ab"
        have hkn2 := at_ne hkn' (show s.length ≠ st.length by omega) (.lst (fr.map dFr))
        have hw2 := at_self hw' (.lst (fr.map dFr))
        have hfd2 := at_ne hfd' (show s.length ≠ st.length + 1 by omega) (.lst (fr.map dFr))
        have hzs2 := at_ne hzs' (show s.length ≠ st.length + 2 by omega) (.lst (fr.map dFr))
        have hK2 := hK'.set (n := s.length) (.lst (fr.map dFr)) (.inr hK.1)
        have hl2 : s.length < (s'.set s.length (.lst (fr.map dFr))).length := by simpa using hsl'
        generalize s'.set s.length (.lst (fr.map dFr)) = s2 at *
        refine p_setD (kPh g) (dk_ph g).symm (kPh_depth g) (kPh_tup g) hkn2 (by rw [dic_len, LIM_eq]; omega) ?_
        rw [put_yes, if_pos hgn]
        have hkn3 := at_self hkn2 (.dt false (dic kn' yes))
        have hw3 := at_ne hw2 (show st.length ≠ s.length by omega) (.dt false (dic kn' yes))
        have hfd3 := at_ne hfd2 (show st.length ≠ st.length + 1 by omega) (.dt false (dic kn' yes))
        have hzs3 := at_ne hzs2 (show st.length ≠ st.length + 2 by omega) (.dt false (dic kn' yes))
        have hK3 := hK2.set (n := st.length) (.dt false (dic kn' yes)) (.inr (Nat.le_refl _))
        have hl3 : s.length < (s2.set st.length (.dt false (dic kn' yes))).length := by simpa using hl2
        have hln3 := hL.mono hK3
        generalize s2.set st.length (.dt false (dic kn' yes)) = s3 at *
        have hv : val (dic ks fun p => D.ref (f p)) (kPh g) = some (.ref (f g)) := by rw [val_dic, if_pos hgk]
        walk_at "ab"
        refine p_ixD (kPh g) (dk_ph g).symm (kPh_depth g) (kPh_tup g) hln3.dt hv (p_lenL (hln3.ls g hgk) ?_)
        rw [List.length_map]
        walk_at "ab"
        refine br_d (fun h => ?_) (fun h => ?_)
        · have h' : a = (sc g).length := by omega
          refine ⟨⟨_, _, rfl, hfd3⟩, p_app hfd3 (by rw [List.length_map, LIM_eq]; omega) ?_⟩
          refine ⟨_, ?_, kn', fd' ++ [g], fr, none, _, _, rfl, hK3.set _ (.inr (by omega)), by simpa using hl3, at_ne hzs3 (by omega) _, hD'.s4 h', at_ne hkn3 (by omega) _, by rw [at_self hfd3]; simp, by rw [at_ne hw3 (by omega) _]; simp [wl], hsub, .inl (hfirst.resolve_right (by simp)), rfl⟩
          unfold msr
          simp
        · have h' : a < (sc g).length := by omega
          have he : (sc g)[a]? = some (sc g)[a] := List.getElem?_eq_getElem h'
          generalize (sc g)[a] = e at he
          refine ⟨⟨_, _, rfl, hw3⟩, p_app hw3 (by rw [List.length_map, LIM_eq]; omega) ?_⟩
          have hw4 := at_self hw3 (.lst (fr.map dFr ++ [.tup [dPh g, .int ((a : Nat) + 1)]]))
          have hK4 := hK3.set (n := s.length) (.lst (fr.map dFr ++ [.tup [dPh g, .int ((a : Nat) + 1)]])) (.inr hK.1)
          have hkn4 := at_ne hkn3 (show s.length ≠ st.length by omega) (.lst (fr.map dFr ++ [.tup [dPh g, .int ((a : Nat) + 1)]]))
          have hfd4 := at_ne hfd3 (show s.length ≠ st.length + 1 by omega) (.lst (fr.map dFr ++ [.tup [dPh g, .int ((a : Nat) + 1)]]))
          have hzs4 := at_ne hzs3 (show s.length ≠ st.length + 2 by omega) (.lst (fr.map dFr ++ [.tup [dPh g, .int ((a : Nat) + 1)]]))
          have hl4 : s.length < (s3.set s.length (.lst (fr.map dFr ++ [.tup [dPh g, .int ((a : Nat) + 1)]]))).length := by simpa using hl3
          have hln4 := hL.mono hK4
          generalize s3.set s.length (.lst (fr.map dFr ++ [.tup [dPh g, .int ((a : Nat) + 1)]])) = s4 at *
          have hat : atI ((sc g).map dPh) ((a : Nat) : Int) = some (dPh e) := atI_nat (by rw [List.getElem?_map, he]; rfl)
          refine ⟨⟨_, _, rfl, hw4⟩, p_ixD (kPh g) (dk_ph g).symm (kPh_depth g) (kPh_tup g) hln4.dt hv (p_ixL (hln4.ls g hgk) hat (p_app hw4 (by simp; rw [LIM_eq]; omega) ?_))⟩
          refine ⟨_, ?_, kn', fd', fr ++ [(g, a + 1)], some e, _, _, rfl, hK4.set _ (.inr hK.1), by simpa using hl4, at_ne hzs4 (by omega) _, hD'.s5 hG he, at_ne hkn4 (by omega) _, at_ne hfd4 (by omega) _, by rw [at_self hw4]; simp [wl, dFr], hsub, .inl (hfirst.resolve_right (by simp)), rfl⟩
          unfold msr
          simp
          omega
  · rintro env s ⟨⟨a, b, c, d, rfl⟩, hK, hsl, hzs, kn, fd, hD, hkn, hfd, hdone⟩
    walk_at "ab"
    rw [List.length_map, List.take_length] at hdone
    refine q s _ fd hK (by omega) (by simpa using hD.fnd) (fun p => ?_) hD.po hfd
    have := hD.km p
    simp at this
    rw [← this]
    exact ⟨fun h => hD.kks p h, fun h => hdone p (hz.mem_iff.mpr h)⟩
end Ab

set_option Elab.async false
set_option linter.all false
set_option maxRecDepth 100000
set_option maxHeartbeats 2000000
/-! The lots. -/
namespace Ab
open PySem

def Eqv (sc : Ph → List Ph) (p q : Ph) : Prop := Rr sc p q ∧ Rr sc q p
theorem Eqv.refl {sc : Ph → List Ph} (p : Ph) : Eqv sc p p := ⟨.refl p, .refl p⟩
theorem Eqv.symm {sc : Ph → List Ph} {p q : Ph} (h : Eqv sc p q) : Eqv sc q p := ⟨h.2, h.1⟩
theorem Eqv.trans {sc : Ph → List Ph} {p q r : Ph} (h : Eqv sc p q) (k : Eqv sc q r) : Eqv sc p r := ⟨h.1.trans k.1, k.2.trans h.2⟩
theorem pre_mem {X Y B1 B2 : List Ph} {v x : Ph} (e : X ++ Y = B1 ++ v :: B2) (hv : v ∉ X) (hx : x ∈ X) : x ∈ B1 := by
  rcases List.append_eq_append_iff.mp e with ⟨as, h1, h2⟩ | ⟨as, h1, h2⟩
  · rw [h1]; exact List.mem_append.mpr (.inl hx)
  · cases as with
    | nil => rw [List.append_nil] at h1; rw [← h1]; exact hx
    | cons a as =>
      rw [List.cons_append] at h2
      have : v = a := (List.cons.inj h2).1
      exact absurd (by rw [h1, this]; simp) hv
/-- u leads to v: something like u stands at v or behind -/
theorem post_key {ks : List Ph} {sc : Ph → List Ph} {fd : List Ph} (G : Gr ks sc) (hm : ∀ p, p ∈ fd ↔ p ∈ ks) (hp : Post sc [] fd) {u v : Ph} (hu : u ∈ ks) (h : Rr sc u v) : ∃ u' A B, Eqv sc u u' ∧ fd = A ++ u' :: B ∧ (v ∈ A ∨ v = u') := by
  induction h with
  | refl =>
    obtain ⟨A, B, e⟩ := List.append_of_mem ((hm u).mpr hu)
    exact ⟨u, A, B, .refl u, e, .inr rfl⟩
  | @tail v v' huv hv' ih =>
    obtain ⟨u', A, B, he, e, hv⟩ := ih
    have hvk : v ∈ ks := huv.inKs G hu
    have hvk' : v' ∈ ks := G.cl v hvk v' hv'
    by_cases hin : v' ∈ A ∨ v' = u'
    · exact ⟨u', A, B, he, e, hin⟩
    have h1 : v' ∉ A := fun z => hin (.inl z)
    have h2 : v' ≠ u' := fun z => hin (.inr z)
    have key : Rr sc v' u' := by
      rcases hv with hv | rfl
      · obtain ⟨A1, A2, eA⟩ := List.append_of_mem hv
        subst eA
        have e2 : fd = A1 ++ v :: (A2 ++ u' :: B) := by rw [e]; simp
        rcases hp A1 v _ e2 v' hv' with z | ⟨B1, B2, z1, z2⟩ | ⟨z, _⟩
        · exact absurd (by simp [z]) h1
        · have e3 : (v :: A2 ++ [u']) ++ B = B1 ++ v' :: B2 := by rw [← z1]; simp
          refine z2 u' (pre_mem e3 ?_ (by simp))
          intro z
          rcases List.mem_append.mp z with z | z
          · exact h1 (List.mem_append.mpr (.inr z))
          · simp at z; exact h2 z
        · cases z
      · rcases hp A v B e v' hv' with z | ⟨B1, B2, z1, z2⟩ | ⟨z, _⟩
        · exact absurd z h1
        · have e3 : [v] ++ B = B1 ++ v' :: B2 := z1
          exact z2 v (pre_mem e3 (by simpa using h2) (by simp))
        · cases z
    obtain ⟨A', B', e'⟩ := List.append_of_mem ((hm v').mpr hvk')
    exact ⟨v', A', B', ⟨.tail huv hv', key.trans he.2⟩, e', .inr rfl⟩
/-- known: whole lots; all that stand behind -/
structure Lots (ks : List Ph) (sc : Ph → List Ph) (kn : List Ph) (lots : List (List Ph)) : Prop where
  nd : kn.Nodup
  kks : ∀ p ∈ kn, p ∈ ks
  cl : ∀ p ∈ kn, ∀ q, Eqv sc p q → q ∈ kn
  cov : ∀ p ∈ kn, ∃ lot ∈ lots, p ∈ lot
  lt : ∀ lot ∈ lots, lot ≠ [] ∧ lot.Nodup ∧ (∀ p ∈ lot, p ∈ ks) ∧ ∀ p ∈ lot, ∀ q, Eqv sc p q ↔ q ∈ lot
/-- one lot, while it is gathered -/
structure Lot (ks : List Ph) (sc : Ph → List Ph) (kn : List Ph) (f : Ph) (lot ws : List Ph) : Prop where
  nd : (kn ++ lot).Nodup
  lk : ∀ p ∈ lot, p ∈ ks ∧ Rr sc p f
  wk : ∀ p ∈ ws, p ∈ ks ∧ Rr sc p f
  cl : ∀ p ∈ lot, ∀ r ∈ ks, p ∈ sc r → r ∈ kn ++ lot ∨ r ∈ ws
  ff : f ∈ kn ++ lot ∨ f ∈ ws
  fk : f ∈ kn → lot = [] ∧ ∀ w ∈ ws, w ∈ kn
theorem Rr.head {sc : Ph → List Ph} {a c : Ph} (h : Rr sc a c) : a = c ∨ ∃ b, b ∈ sc a ∧ Rr sc b c := by
  induction h with
  | refl => exact .inl rfl
  | tail hab hc ih =>
    rcases ih with rfl | ⟨b, h1, h2⟩
    · exact .inr ⟨_, hc, .refl _⟩
    · exact .inr ⟨b, h1, .tail h2 hc⟩
theorem lot_done {ks : List Ph} {sc : Ph → List Ph} {fd kn : List Ph} {lots : List (List Ph)} {f : Ph} {i : Nat} {lot : List Ph} (G : Gr ks sc) (hm : ∀ p, p ∈ fd ↔ p ∈ ks) (hnd : fd.Nodup) (hp : Post sc [] fd) (hf : fd.reverse[i]? = some f) (L : Lots ks sc kn lots) (hi : ∀ p ∈ fd.reverse.take i, p ∈ kn)
    (h : Lot ks sc kn f lot []) : (lot = [] ∧ f ∈ kn) ∨ (lot ≠ [] ∧ Lots ks sc (kn ++ lot) (lots ++ [lot]) ∧ f ∈ lot) := by
  have hfk : f ∈ ks := (hm f).mp (List.mem_reverse.mp (List.mem_of_getElem? hf))
  by_cases hfn : f ∈ kn
  · exact .inl ⟨(h.fk hfn).1, hfn⟩
  · have hfl : f ∈ lot := (List.mem_append.mp (h.ff.resolve_right (by simp))).resolve_left hfn
    have disj : ∀ p ∈ lot, p ∉ kn := fun p hp hk => (List.nodup_append.mp h.nd).2.2 p hk p hp rfl
    have eq1 : ∀ p ∈ lot, Eqv sc p f := by
      intro p hpl
      obtain ⟨hpk, hpf⟩ := h.lk p hpl
      obtain ⟨p', A, B, he, e, hv⟩ := post_key G hm hp hpk hpf
      have hp' : p' ∉ kn := fun z => disj p hpl (L.cl p' z p he.symm)
      have : p' = f := by
        rcases hv with hv | hv
        · exfalso
          apply hp'
          apply hi
          have er : fd.reverse = B.reverse ++ p' :: A.reverse := by rw [e]; simp
          have hnr : fd.reverse.Nodup := (List.reverse_perm fd).symm.nodup hnd
          obtain ⟨j, hj⟩ := List.getElem?_of_mem (List.mem_reverse.mpr hv)
          have hj2 : fd.reverse[B.length + 1 + j]? = some f := by
            rw [er, List.getElem?_append_right (by simp; omega)]
            simp
            rw [show B.length + 1 + j - B.length = j + 1 by omega]
            simpa using hj
          have : B.length + 1 + j = i := (List.getElem?_inj (List.getElem?_eq_some_iff.mp hj2).1 hnr).mp (hj2.trans hf.symm)
          have e9 : (fd.reverse.take i)[B.length]? = some p' := by
            rw [List.getElem?_take_of_lt (by omega), er, List.getElem?_append_right (by simp)]
            simp
          exact List.mem_of_getElem? e9
        · exact hv.symm
      rw [this] at he
      exact he
    have eq2 : ∀ a b, Rr sc a b → b ∈ lot → Eqv sc a f → a ∈ ks → a ∈ lot := by
      intro a b hab
      induction hab with
      | refl => exact fun h _ _ => h
      | @tail b' b hab' hb ih =>
        intro hbl haf hak
        have hbk : b' ∈ ks := hab'.inKs G hak
        have hbf : Eqv sc b' f := ⟨(Rr.one hb).trans (h.lk b hbl).2, haf.2.trans hab'⟩
        have : b' ∈ kn ++ lot := (h.cl b hbl b' hbk hb).resolve_right (by simp)
        rcases List.mem_append.mp this with z | z
        · exact absurd (L.cl b' z f hbf) hfn
        · exact ih z haf hak
    have inK : ∀ p q, p ∈ ks → Eqv sc p q → q ∈ ks := fun p q hp h => h.1.inKs G hp
    refine .inr ⟨(fun e => (by rw [e] at hfl; cases hfl)), ⟨h.nd, fun p hp => ?_, fun p hp q hq => ?_, fun p hp => ?_, fun l hl => ?_⟩, hfl⟩
    · rcases List.mem_append.mp hp with hp | hp
      · exact L.kks p hp
      · exact (h.lk p hp).1
    · rcases List.mem_append.mp hp with hp | hp
      · exact List.mem_append.mpr (.inl (L.cl p hp q hq))
      · have e1 := (hq.symm.trans (eq1 p hp))
        exact List.mem_append.mpr (.inr (eq2 q f e1.1 hfl e1 (inK p q (h.lk p hp).1 hq)))
    · rcases List.mem_append.mp hp with hp | hp
      · obtain ⟨l, h1, h2⟩ := L.cov p hp
        exact ⟨l, List.mem_append.mpr (.inl h1), h2⟩
      · exact ⟨lot, by simp, hp⟩
    · rcases List.mem_append.mp hl with hl | hl
      · exact L.lt l hl
      · simp at hl
        subst hl
        refine ⟨(fun e => (by rw [e] at hfl; cases hfl)), (List.nodup_append.mp h.nd).2.1, fun p hp => (h.lk p hp).1, fun p hp q => ⟨fun hq => ?_, fun hq => (eq1 p hp).trans (eq1 q hq).symm⟩⟩
        have e1 := (hq.symm.trans (eq1 p hp))
        exact eq2 q f e1.1 hfl e1 (inK p q (h.lk p hp).1 hq)
/-- what is not known yet, weighed -/
def wsum (ks kn : List Ph) (w : Ph → Nat) : Nat := tot (ks.filter fun q => !decide (q ∈ kn)) w
theorem wsum_snoc {kn : List Ph} {w : Ph → Nat} {q : Ph} : ∀ {ks : List Ph}, ks.Nodup → q ∈ ks → q ∉ kn → wsum ks (kn ++ [q]) w + w q = wsum ks kn w
  | x :: xs, nd, hq, hn => by
    obtain ⟨n1, n2⟩ := List.nodup_cons.mp nd
    unfold wsum tot
    rw [List.filter_cons, List.filter_cons]
    by_cases e : x = q
    · subst e
      have e1 : xs.filter (fun r => !decide (r ∈ kn ++ [x])) = xs.filter fun r => !decide (r ∈ kn) := List.filter_congr fun r hr => by
        have : r ≠ x := fun e => n1 (e ▸ hr)
        simp [this]
      rw [if_neg (by simp), if_pos (by simpa using hn), e1, List.map_cons, List.sum_cons]
      omega
    · have hq' : q ∈ xs := (List.mem_cons.mp hq).resolve_left fun z => e z.symm
      have ih := wsum_snoc (kn := kn) (w := w) n2 hq' hn
      unfold wsum tot at ih
      by_cases hx : x ∈ kn
      · rw [if_neg (by simp [hx]), if_neg (by simp [hx])]
        exact ih
      · rw [if_pos (by simp [hx, e]), if_pos (by simp [hx]), List.map_cons, List.map_cons, List.sum_cons, List.sum_cons]
        omega
theorem wsum_le (kn : List Ph) (w : Ph → Nat) : ∀ ks : List Ph, wsum ks kn w ≤ tot ks w
  | [] => by simp [wsum, tot]
  | x :: xs => by
    have ih := wsum_le kn w xs
    unfold wsum tot at *
    rw [List.filter_cons, List.map_cons, List.sum_cons]
    split
    · rw [List.map_cons, List.sum_cons]; omega
    · omega
end Ab

set_option Elab.async false
set_option linter.all false
set_option maxRecDepth 100000
set_option maxHeartbeats 4000000
/-! lots_of. -/
namespace Ab
open PySem
local macro_rules | `(tactic| walk_at "ab") => `(tactic| simp (config := { failIfUnchanged := false }) only [runDef, List.map_cons, List.map_nil, List.length_cons, List.length_nil, Nat.zero_add, Nat.reduceAdd, Nat.reduceSub, Nat.sub_self, List.replicate_zero, List.replicate_succ, List.nil_append, List.append_nil, List.cons_append, aSeq, aNext, aAsg, aPar, agNm, agTup, agSub, aUpd, aFld, aSetF, aExp, aIf, aRet, aRetN, aBrk, aCnt, aO1, aO2, aVar, aC, aTup, aLst, alNil, alCons, aCall, aDNew, atB, atYes, atAnd, atOr, atNot, aAndV, aOrV, aNotV, aIfE, aChain, aM1, bindP, wipeE,
  List.getElem?_cons_zero, List.getElem?_cons_succ, List.set_cons_zero, List.set_cons_succ, List.getElem?_nil, e_add, e_sub, e_neg, e_cmp, e_eqI, e_eqS, e_neI, e_isN, e_isNotN, e_ixT, e_lenT, e_int, e_abs, e_max2, e_min2, e_tupT, e_isiI, e_isiB, e_isiS, e_isiT, atI0, atI1, atI2, e_br_t, e_br_f, e_blx, e_intx, e_somex, e_somey, e_pair, e_two, Bool.not_true, Bool.not_false, true_and, and_true, Nat.reduceLeDiff, Nat.le_refl, decide_true, decide_false, c_0, c_1, c_2, c_3, c_4, c_5, c_6, c_7, c_8, c_9, Int.reduceEq, Int.reduceLT, Int.reduceLE, s_look_say, s_look_stop, s_look_end, s_say_look, s_say_stop, s_say_end, s_stop_look, s_stop_say, s_stop_end, s_end_look, s_end_say, s_end_stop])

theorem Lot.l1 {ks : List Ph} {sc : Ph → List Ph} {kn lot ws : List Ph} {f p : Ph} (h : Lot ks sc kn f lot (ws ++ [p])) (hp : p ∈ kn ++ lot) : Lot ks sc kn f lot ws := by
  refine ⟨h.nd, h.lk, fun q hq => h.wk q (by simp [hq]), fun q hq r hr hs => ?_, ?_, fun hf => ⟨(h.fk hf).1, fun w hw => (h.fk hf).2 w (by simp [hw])⟩⟩
  · rcases h.cl q hq r hr hs with z | z
    · exact .inl z
    · rcases List.mem_append.mp z with z | z
      · exact .inr z
      · simp at z; rw [z]; exact .inl hp
  · rcases h.ff with z | z
    · exact .inl z
    · rcases List.mem_append.mp z with z | z
      · exact .inr z
      · simp at z; rw [z]; exact .inl hp
theorem Lot.l2 {ks : List Ph} {sc b : Ph → List Ph} {kn lot ws : List Ph} {f p : Ph} (B : Bck ks sc b) (h : Lot ks sc kn f lot (ws ++ [p])) (hp : p ∉ kn ++ lot) : Lot ks sc kn f (lot ++ [p]) (ws ++ b p) := by
  obtain ⟨hpk, hpf⟩ := h.wk p (by simp)
  refine ⟨?_, fun q hq => ?_, fun q hq => ?_, fun q hq r hr hs => ?_, ?_, fun hf => ?_⟩
  · rw [← List.append_assoc]
    exact nd_snoc h.nd hp
  · rcases List.mem_append.mp hq with hq | hq
    · exact h.lk q hq
    · simp at hq; rw [hq]; exact ⟨hpk, hpf⟩
  · rcases List.mem_append.mp hq with hq | hq
    · exact h.wk q (by simp [hq])
    · obtain ⟨h1, h2⟩ := (B.mem q p hpk).mp hq
      exact ⟨h1, (Rr.one h2).trans hpf⟩
  · rcases List.mem_append.mp hq with hq | hq
    · rcases h.cl q hq r hr hs with z | z
      · left
        rw [← List.append_assoc]
        exact List.mem_append.mpr (.inl z)
      · rcases List.mem_append.mp z with z | z
        · exact .inr (by simp [z])
        · simp at z; rw [z]; exact .inl (by simp)
    · simp at hq
      subst hq
      exact .inr (List.mem_append.mpr (.inr ((B.mem r q hpk).mpr ⟨hr, hs⟩)))
  · rcases h.ff with z | z
    · left
      rw [← List.append_assoc]
      exact List.mem_append.mpr (.inl z)
    · rcases List.mem_append.mp z with z | z
      · exact .inr (by simp [z])
      · simp at z; rw [z]; exact .inl (by simp)
  · have := (h.fk hf).2 p (by simp)
    exact absurd (List.mem_append.mpr (.inl this)) hp
/-- lists of phases stand at the places ids -/
def LotsAt (st : Store) (ids : List Nat) (lots : List (List Ph)) : Prop := ids.length = lots.length ∧ ∀ (i id : Nat) (lot : List Ph), ids[i]? = some id → lots[i]? = some lot → st[id]? = some (.lst (lot.map dPh))
theorem LotsAt.set {st : Store} {ids : List Nat} {lots : List (List Ph)} (h : LotsAt st ids lots) {n : Nat} (hn : ∀ id ∈ ids, n ≠ id) (o : MO) : LotsAt (st.set n o) ids lots := ⟨h.1, fun i id lot h1 h2 => at_ne (h.2 i id lot h1 h2) (hn id (List.mem_of_getElem? h1)) _⟩
theorem LotsAt.lt {st : Store} {ids : List Nat} {lots : List (List Ph)} (h : LotsAt st ids lots) : ∀ id ∈ ids, id < st.length := fun id hid => by
  obtain ⟨i, hi⟩ := List.getElem?_of_mem hid
  have hl : i < lots.length := by rw [← h.1]; exact (List.getElem?_eq_some_iff.mp hi).1
  exact at_lt (h.2 i id _ hi (List.getElem?_eq_getElem hl))
theorem LotsAt.snoc {st : Store} {ids : List Nat} {lots : List (List Ph)} (h : LotsAt st ids lots) {id : Nat} {lot : List Ph} (e : st[id]? = some (.lst (lot.map dPh))) : LotsAt st (ids ++ [id]) (lots ++ [lot]) := by
  refine ⟨by simp [h.1], fun i id' lot' h1 h2 => ?_⟩
  have hl := h.1
  by_cases hi : i < ids.length
  · rw [List.getElem?_append_left hi] at h1
    rw [List.getElem?_append_left (by omega)] at h2
    exact h.2 i id' lot' h1 h2
  · rw [List.getElem?_append_right (by omega)] at h1
    rw [List.getElem?_append_right (by omega)] at h2
    have h0 : i - ids.length = 0 := by
      have := (List.getElem?_eq_some_iff.mp h1).1
      simp at this
      omega
    rw [h0] at h1
    rw [show i - lots.length = 0 by omega] at h2
    simp at h1 h2
    subst h1 h2
    exact e
def sLotsOf : ASp := fun ds st Q => ∃ (n : Nat) (ks : List Ph) (sc : Ph → List Ph) (f : Ph → Nat), ds = [.ref n] ∧ Gr ks sc ∧ Lns st n ks sc f ∧
  ∀ st' m kn lots ids, Kp [] st st' → st.length ≤ m → Lots ks sc kn lots → (∀ p ∈ ks, p ∈ kn) → st'[m]? = some (.lst (ids.map .ref)) → LotsAt st' ids lots → ids.length ≤ 4096 → Q (.ref m) st'
theorem k_lots_of (ds : List D) (st : Store) (Q : DK) (h : sLotsOf ds st Q) : runDef 8 (b_lots_of sTurned sFinished) ds st Q := by
  obtain ⟨n, ks, sc, f, rfl, hG, hL, q⟩ := h
  have hks := hG.len
  unfold b_lots_of
  walk_at "ab"
  refine ⟨n, ks, sc, f, rfl, hG, hL, fun st1 m b hh hK1 hm hB hLb => ?_⟩
  walk_at "ab"
  refine .inl (.inl ?_)
  unfold aFor sItems aRev
  walk_at "ab"
  have hL1 := hL.mono hK1
  refine ⟨n, ks, sc, f, rfl, hG, hL1.mono (((Kp.refl _ _).app _).app _), fun st3 mf fd hK3 hmf hnd hfm hpo hfd => ?_⟩
  refine ⟨mf, _, rfl, hfd, ?_⟩
  rw [← List.map_reverse]
  refine .inr (.inl ⟨st3.length, _, rfl, at_new _ _, ?_⟩)
  have hk0 : (st1 ++ [.dt false []] ++ [.lst []] : Store)[st1.length]? = some (.dt false (dic [] yes)) := at_app (at_new _ _) _
  have hk1 : (st1 ++ [.dt false []] ++ [.lst []] : Store)[st1.length + 1]? = some (.lst (([] : List Nat).map .ref)) := by simp
  have hK03 : Kp [] st1 st3 := (((Kp.refl _ _).app _).app _).trans (hK3.le (by simp))
  have hlen3 : st1.length + 1 < st3.length := by have := hK3.1; simp at this; omega
  refine ⟨fun i env s => (∃ a b c d, env = [some (.ref n), some (.ref m), some (.ref st1.length), some (.ref (st1.length + 1)), a, b, c, d]) ∧ Kp [] st1 s ∧ st3.length < s.length ∧ s[st3.length]? = some (.lst (fd.reverse.map dPh)) ∧ ∃ kn lots ids, Lots ks sc kn lots ∧ s[st1.length]? = some (.dt false (dic kn yes)) ∧ s[st1.length + 1]? = some (.lst (ids.map .ref)) ∧ LotsAt s ids lots ∧ (∀ id ∈ ids, st3.length < id) ∧ ids.length ≤ kn.length ∧ ∀ p ∈ fd.reverse.take i, p ∈ kn,
    ⟨⟨none, none, none, none, by simp⟩, hK03.app _, by simp, at_new _ _, [], [], [], ⟨.nil, by simp, by simp, by simp, by simp⟩, at_app (hK3.at hk0 (by simp)) _, at_app (hK3.at hk1 (by simp)) _, ⟨rfl, by simp⟩, by simp, by simp, by simp⟩, ?_, ?_, ?_⟩
  · rintro i env s ⟨_, _, _, h, _⟩
    exact h
  · rintro i x env s hx ⟨⟨a, b', c, d, rfl⟩, hK, hsl, hol, kn, lots, ids, hLo, hkn, hid, hLA, hidl, hidn, hdone⟩
    obtain ⟨first, hp, rfl⟩ := Option.map_eq_some_iff.mp ((List.getElem?_map ..).symm.trans hx)
    have hfk : first ∈ ks := (hfm first).mp (List.mem_reverse.mp (List.mem_of_getElem? hp))
    have hidlt := hLA.lt
    have hknl : kn.length ≤ 4096 := Nat.le_trans (hLo.nd.length_le_of_subset fun p hp => hLo.kks p hp) hks
    walk_at "ab"
    have el : (s ++ [.lst []] : Store).length = s.length + 1 := by simp
    rw [el]
    have hwt := hB.sum
    refine ⟨fun mm env s' => ∃ lot ws y, env = [some (.ref n), some (.ref m), some (.ref st1.length), some (.ref (st1.length + 1)), some (dPh first), some (.ref s.length), some (.ref (s.length + 1)), y] ∧ Kp [] st1 s' ∧ s.length + 1 < s'.length ∧ s'[st3.length]? = some (.lst (fd.reverse.map dPh)) ∧ Lot ks sc kn first lot ws ∧ s'[st1.length]? = some (.dt false (dic (kn ++ lot) yes)) ∧
      s'[st1.length + 1]? = some (.lst (ids.map .ref)) ∧ LotsAt s' ids lots ∧ s'[s.length]? = some (.lst (lot.map dPh)) ∧ s'[s.length + 1]? = some (.lst (ws.map dPh)) ∧ ws.length + wsum ks (kn ++ lot) (fun q => (b q).length) ≤ 16385 ∧ mm = ws.length + wsum ks (kn ++ lot) (fun q => (b q).length),
      ⟨_, [], [first], d, rfl, (hK.app _).app _, by simp, at_app (at_app hol _) _, ⟨by simpa using hLo.nd, by simp, by simpa using ⟨hfk, Rr.refl first⟩, by simp, .inr (by simp), fun hf => ⟨rfl, by simpa using hf⟩⟩, by simpa using at_app (at_app hkn _) _, at_app (at_app hid _) _, ⟨hLA.1, fun i id lot h1 h2 => at_app (at_app (hLA.2 i id lot h1 h2) _) _⟩, at_app (at_new _ _) _, by simp, ?_, rfl⟩, ?_⟩
    · have h1 := wsum_le (kn ++ []) (fun q => (b q).length) ks
      simp at h1 ⊢
      omega
    rintro mm env s' ⟨lot, ws, y, rfl, hK', hsl', hol', hLt, hkn', hid', hLA', hlot', hws', hbd, rfl⟩
    have hlk : (kn ++ lot).length ≤ 4096 := Nat.le_trans (hLt.nd.length_le_of_subset fun p hp => (List.mem_append.mp hp).elim (hLo.kks p) fun h => (hLt.lk p h).1) hks
    walk_at "ab"
    refine p_lenL hws' ?_
    walk_at "ab"
    rw [List.length_map]
    refine br_d (fun hpos => ?_) fun hpos => ?_
    · obtain ⟨ws, p, rfl⟩ := snoc_of (ws := ws) (by omega)
      have hpk : p ∈ ks := (hLt.wk p (by simp)).1
      refine p_popW hws' ?_
      walk_at "ab"
      have hkn2 := at_ne hkn' (show s.length + 1 ≠ st1.length by omega) (.lst (ws.map dPh))
      have hid2 := at_ne hid' (show s.length + 1 ≠ st1.length + 1 by omega) (.lst (ws.map dPh))
      have hol2 := at_ne hol' (show s.length + 1 ≠ st3.length by omega) (.lst (ws.map dPh))
      have hlot2 := at_ne hlot' (show s.length + 1 ≠ s.length by omega) (.lst (ws.map dPh))
      have hws2 := at_self hws' (.lst (ws.map dPh))
      have hK2 := hK'.set (n := s.length + 1) (.lst (ws.map dPh)) (.inr (by have := hK.1; omega))
      have hl2 : s.length + 1 < (s'.set (s.length + 1) (.lst (ws.map dPh))).length := by simpa using hsl'
      have hLA2 : LotsAt (s'.set (s.length + 1) (.lst (ws.map dPh))) ids lots := hLA'.set (fun id hid => by have := hidlt id hid; omega) _
      generalize s'.set (s.length + 1) (.lst (ws.map dPh)) = s2 at *
      refine p_ninD (kPh p) (dk_ph p).symm (kPh_depth p) (kPh_tup p) hkn2 ?_
      rw [val_dic]
      by_cases hin : p ∈ kn ++ lot
      · rw [if_pos hin]
        simp only [Option.isSome_some]
        walk_at "ab"
        refine ⟨_, ?_, lot, ws, _, rfl, hK2, hl2, hol2, hLt.l1 hin, hkn2, hid2, hLA2, hlot2, hws2, ?_, rfl⟩
        · simp
        · simp at hbd; omega
      · rw [if_neg hin]
        simp only [Option.isSome_none]
        walk_at "ab"
        refine p_setD (kPh p) (dk_ph p).symm (kPh_depth p) (kPh_tup p) hkn2 (by rw [dic_len, LIM_eq]; omega) ?_
        rw [put_yes, if_neg hin, List.append_assoc]
        have hsl2 := hK.1
        have hkn3 := at_self hkn2 (.dt false (dic (kn ++ (lot ++ [p])) yes))
        have hid3 := at_ne hid2 (show st1.length ≠ st1.length + 1 by omega) (.dt false (dic (kn ++ (lot ++ [p])) yes))
        have hol3 := at_ne hol2 (show st1.length ≠ st3.length by omega) (.dt false (dic (kn ++ (lot ++ [p])) yes))
        have hlot3 := at_ne hlot2 (show st1.length ≠ s.length by omega) (.dt false (dic (kn ++ (lot ++ [p])) yes))
        have hws3 := at_ne hws2 (show st1.length ≠ s.length + 1 by omega) (.dt false (dic (kn ++ (lot ++ [p])) yes))
        have hK3' := hK2.set (n := st1.length) (.dt false (dic (kn ++ (lot ++ [p])) yes)) (.inr (Nat.le_refl _))
        have hl3 : s.length + 1 < (s2.set st1.length (.dt false (dic (kn ++ (lot ++ [p])) yes))).length := by simpa using hl2
        have hLA3 := hLA2.set (n := st1.length) (fun id hid => by have := hidl id hid; omega) (.dt false (dic (kn ++ (lot ++ [p])) yes))
        generalize s2.set st1.length (.dt false (dic (kn ++ (lot ++ [p])) yes)) = s3 at *
        walk_at "ab"
        have hll : lot.length ≤ 4096 := by simp at hlk; omega
        refine ⟨⟨_, _, rfl, hlot3⟩, p_app hlot3 (by rw [List.length_map, LIM_eq]; omega) ?_⟩
        have hlot4 := at_self hlot3 (.lst (lot.map dPh ++ [dPh p]))
        have hkn4 := at_ne hkn3 (show s.length ≠ st1.length by omega) (.lst (lot.map dPh ++ [dPh p]))
        have hid4 := at_ne hid3 (show s.length ≠ st1.length + 1 by omega) (.lst (lot.map dPh ++ [dPh p]))
        have hol4 := at_ne hol3 (show s.length ≠ st3.length by omega) (.lst (lot.map dPh ++ [dPh p]))
        have hws4 := at_ne hws3 (show s.length ≠ s.length + 1 by omega) (.lst (lot.map dPh ++ [dPh p]))
        have hK4 := hK3'.set (n := s.length) (.lst (lot.map dPh ++ [dPh p])) (.inr hsl2)
        have hl4 : s.length + 1 < (s3.set s.length (.lst (lot.map dPh ++ [dPh p]))).length := by simpa using hl3
        have hLA4 := hLA3.set (n := s.length) (fun id hid => by have := hidlt id hid; omega) (.lst (lot.map dPh ++ [dPh p]))
        have hLb4 := hLb.mono hK4
        generalize s3.set s.length (.lst (lot.map dPh ++ [dPh p])) = s4 at *
        walk_at "ab"
        have hv : val (dic ks fun p => D.ref (hh p)) (kPh p) = some (.ref (hh p)) := by rw [val_dic, if_pos hpk]
        have hsum := wsum_snoc (kn := kn ++ lot) (w := fun q => (b q).length) hG.nd hpk hin
        rw [List.append_assoc] at hsum
        rw [List.length_append, List.length_singleton] at hbd
        refine ⟨⟨_, _, rfl, hws4⟩, p_ixD (kPh p) (dk_ph p).symm (kPh_depth p) (kPh_tup p) hLb4.dt hv (p_ext hws4 (hLb4.ls p hpk) (by rw [List.length_map, List.length_map, LIM_eq]; omega) ?_)⟩
        refine ⟨_, ?_, lot ++ [p], ws ++ b p, _, rfl, hK4.set _ (.inr (by omega)), by simpa using hl4, at_ne hol4 (by omega) _, hLt.l2 hB hin, at_ne hkn4 (by omega) _, at_ne hid4 (by omega) _, hLA4.set (fun id hid => by have := hidlt id hid; omega) _, by rw [at_ne hlot4 (by omega) _]; simp, by rw [at_self hws4]; simp, ?_, rfl⟩
        · rw [List.length_append, List.length_append, List.length_singleton]; omega
        · rw [List.length_append]; omega
    · have e : ws = [] := List.eq_nil_of_length_eq_zero (by omega)
      subst e
      have hsl2 := hK.1
      refine p_lenL hlot' ?_
      walk_at "ab"
      rw [List.length_map]
      have tk : ∀ kn2 : List Ph, (∀ p ∈ kn, p ∈ kn2) → first ∈ kn2 → ∀ p ∈ fd.reverse.take (i + 1), p ∈ kn2 := fun kn2 h1 h2 p hp' => by
        rw [List.take_add_one, hp] at hp'
        rcases List.mem_append.mp hp' with h | h
        · exact h1 p (hdone p h)
        · simp at h; rw [h]; exact h2
      rcases lot_done hG hfm hnd hpo hp hLo hdone hLt with ⟨rfl, hf⟩ | ⟨hne, hLo2, hfl⟩
      · refine br_d (fun h => absurd h (by simp)) fun _ => ?_
        refine ⟨⟨_, _, _, _, rfl⟩, hK', by omega, hol', kn, lots, ids, hLo, by simpa using hkn', hid', hLA', hidl, hidn, tk kn (fun _ h => h) hf⟩
      · have hpos2 : 0 < lot.length := List.length_pos_iff.mpr hne
        refine br_d (fun _ => ?_) fun h => absurd (show (0 : Int) < (lot.length : Int) by omega) h
        refine ⟨⟨_, _, rfl, hid'⟩, p_app hid' (by rw [List.length_map, LIM_eq]; omega) ?_⟩
        refine ⟨⟨_, _, _, _, rfl⟩, hK'.set _ (.inr (by omega)), by rw [List.length_set]; omega, at_ne hol' (by omega) _, kn ++ lot, lots ++ [lot], ids ++ [s.length], hLo2, at_ne hkn' (by omega) _, by rw [at_self hid']; simp, ?_, fun id hid => ?_, by rw [List.length_append, List.length_append, List.length_singleton]; omega, tk _ (fun _ h => List.mem_append.mpr (.inl h)) (List.mem_append.mpr (.inr hfl))⟩
        · exact (hLA'.set (fun id hid => by have := hidl id hid; omega) _).snoc (at_ne hlot' (by omega) _)
        · rcases List.mem_append.mp hid with hid | hid
          · exact hidl id hid
          · simp at hid; omega
  · rintro env s ⟨⟨a, b', c, d, rfl⟩, hK, hsl, hol, kn, lots, ids, hLo, hkn, hid, hLA, hidl, hidn, hdone⟩
    walk_at "ab"
    rw [List.length_map, List.take_length] at hdone
    exact q s _ kn lots ids (hK1.trans hK) (by have := hK1.1; omega) hLo (fun p hp => hdone p (List.mem_reverse.mpr ((hfm p).mpr hp))) hid hLA (Nat.le_trans hidn (Nat.le_trans (hLo.nd.length_le_of_subset fun p hp => hLo.kks p hp) hks))
end Ab

set_option Elab.async false
set_option linter.all false
set_option maxRecDepth 100000
set_option maxHeartbeats 4000000
/-! rows_in. -/
namespace Ab
open PySem
local macro_rules | `(tactic| walk_at "ab") => `(tactic| simp (config := { failIfUnchanged := false }) only [runDef, List.map_cons, List.map_nil, List.length_cons, List.length_nil, Nat.zero_add, Nat.reduceAdd, Nat.reduceSub, Nat.sub_self, List.replicate_zero, List.replicate_succ, List.nil_append, List.append_nil, List.cons_append, aSeq, aNext, aAsg, aPar, agNm, agTup, agSub, aUpd, aFld, aSetF, aExp, aIf, aRet, aRetN, aBrk, aCnt, aO1, aO2, aVar, aC, aTup, aLst, alNil, alCons, aCall, aDNew, atB, atYes, atAnd, atOr, atNot, aAndV, aOrV, aNotV, aIfE, aChain, aM1, bindP, wipeE,
  List.getElem?_cons_zero, List.getElem?_cons_succ, List.set_cons_zero, List.set_cons_succ, List.getElem?_nil, e_add, e_sub, e_neg, e_cmp, e_eqI, e_eqS, e_neI, e_isN, e_isNotN, e_ixT, e_lenT, e_int, e_abs, e_max2, e_min2, e_tupT, e_isiI, e_isiB, e_isiS, e_isiT, atI0, atI1, atI2, e_br_t, e_br_f, e_blx, e_intx, e_somex, e_somey, e_pair, e_two, Bool.not_true, Bool.not_false, true_and, and_true, Nat.reduceLeDiff, Nat.le_refl, decide_true, decide_false, c_0, c_1, c_2, c_3, c_4, c_5, c_6, c_7, c_8, c_9, Int.reduceEq, Int.reduceLT, Int.reduceLE, s_look_say, s_look_stop, s_look_end, s_say_look, s_say_stop, s_say_end, s_stop_look, s_stop_say, s_stop_end, s_end_look, s_end_say, s_end_stop])

def dicI (rs : List Nat) : List (Int × D) := rs.map fun (r : Nat) => ((r : Int), D.bl true)
theorem put_dicI (rs : List Nat) (r : Nat) : put (dicI rs) (r : Int) (.bl true) = dicI (if r ∈ rs then rs else rs ++ [r]) := by
  have an : ((dicI rs).any fun kv => decide (kv.1 = (r : Int))) = decide (r ∈ rs) := by
    unfold dicI
    rw [List.any_map]
    induction rs with
    | nil => simp
    | cons q rs ih =>
      rw [List.any_cons, ih]
      by_cases e : q = r
      · subst e; simp
      · have e' : ¬ (q : Int) = (r : Int) := by omega
        have e2 : ¬ r = q := fun z => e z.symm
        simp [e', e2]
  unfold put
  rw [an]
  by_cases h : r ∈ rs
  · rw [if_pos (by simpa using h), if_pos h]
    unfold dicI
    rw [List.map_map]
    refine List.map_congr_left fun q _ => ?_
    by_cases e : (q : Int) = (r : Int)
    · simp [e]
    · simp [e]
  · rw [if_neg (by simpa using h), if_neg h]
    unfold dicI
    rw [List.map_append]
    rfl
def sortN (rs : List Nat) : List Nat := rs.mergeSort fun a b => decide (a ≤ b)
theorem sortN_perm (rs : List Nat) : (sortN rs).Perm rs := List.mergeSort_perm _ _
theorem sortN_le (rs : List Nat) : (sortN rs).Pairwise (· ≤ ·) := by
  have := List.pairwise_mergeSort (le := fun a b : Nat => decide (a ≤ b)) (fun a b c h1 h2 => by simp at *; omega) (fun a b => by simp; omega) rs
  exact this.imp fun h => by simpa using h
theorem p_neS {i j : Str} {st : Store} {Q : DK} (q : Q (.bl (!decide (i = j))) st) : pNe (.str i) (.str j) st Q := .inr (.inl ⟨i, j, rfl, rfl, q⟩)
def rowOf (tab : List Tm) (p : Ph) : Nat := match tab[p.1]? with
  | some (.look r _) => r
  | _ => 0
/-- a letter leads from the lot into the lot, at row r -/
def LiveIn (L : Nat) (tab : List Tm) (lot : List Ph) (r : Nat) : Prop := ∃ p ∈ lot, ∃ s ∈ steps L tab p, (∃ k, s.1 = .ch k) ∧ s.2 ∈ lot ∧ rowOf tab p = r
theorem ch_look {L : Nat} {tab : List Tm} {p : Ph} {s : Sg × Ph} (hs : s ∈ steps L tab p) {k : Nat} (hk : s.1 = .ch k) : ∃ r ns, tab[p.1]? = some (.look r ns) ∧ k < L ∧ r ∉ p.2 := by
  unfold steps at hs
  split at hs
  · simp at hs; rw [hs] at hk; cases hk
  · rename_i r ns e
    split at hs
    · simp at hs; rw [hs] at hk; cases hk
    · rename_i hr
      rcases List.mem_append.mp hs with hs | hs
      · obtain ⟨k', hk', rfl⟩ := List.mem_map.mp hs
        cases hk
        exact ⟨r, ns, e, List.mem_range.mp hk', hr⟩
      · simp at hs; rw [hs] at hk; cases hk
  · cases hs
def sRowsIn (cs : List Nat) : ASp := fun ds st Q => ∃ (o C rows L : Nat) (tab : List Tm) (n : Nat) (ks : List Ph) (f : Ph → Nat) (li : Nat) (lot : List Ph), ds = [.ref o, .ref li] ∧ C ∈ cs ∧ OkTab rows L tab ∧ IsPlan st o C rows L tab n ks f ∧ st[li]? = some (.lst (lot.map dPh)) ∧ (∀ p ∈ lot, p ∈ ks) ∧ lot.Nodup ∧
  ∀ st' (F : List Nat), Kp [] st st' → F.Pairwise (· ≤ ·) → F.Nodup → (∀ r ∈ F, r < rows) → (∀ r, r ∈ F ↔ LiveIn L tab lot r) → Q (.tup (F.map dN)) st'
theorem k_rows_in {cP cR : Nat} (ds : List D) (st : Store) (Q : DK) (h : sRowsIn [cP, cR] ds st Q) : runDef 7 (b_rows_in cP cR) ds st Q := by
  obtain ⟨o, C, rows, L, tab, n, ks, f, li, lot, rfl, hC, hT, hp, hli, hlk, hlnd, q⟩ := h
  have hG := gr_of hT hp.kp
  have hks := hG.len
  have hll : lot.length ≤ 4096 := Nat.le_trans (hlnd.length_le_of_subset fun p hp => hlk p hp) hks
  unfold b_rows_in
  walk_at "ab"
  refine .inl ?_
  unfold aDc sItems
  walk_at "ab"
  refine .inr (.inl ⟨li, _, rfl, hli, ?_⟩)
  -- inner
  refine ⟨fun i kvs st' => kvs = dic (lot.take i) yes ∧ st = st', ⟨rfl, rfl⟩, by rw [List.length_map, LIM_eq]; omega, ?_, ?_, ?_⟩
  · rintro i kvs st' ⟨rfl, rfl⟩
    exact hli
  · rintro i x kvs st' hx ⟨rfl, rfl⟩
    obtain ⟨p, hp', rfl⟩ := Option.map_eq_some_iff.mp ((List.getElem?_map ..).symm.trans hx)
    walk_at "ab"
    have hnd : p ∉ lot.take i := fun hm => by
      obtain ⟨k, hk⟩ := List.getElem?_of_mem hm
      rw [List.getElem?_take] at hk
      split at hk
      · rename_i hki
        have := (List.getElem?_inj (List.getElem?_eq_some_iff.mp hp').1 hlnd).mp (hp'.trans hk.symm)
        omega
      · cases hk
    refine ⟨kPh p, (dk_ph p).symm, kPh_depth p, kPh_tup p, ?_⟩
    rw [put_yes, if_neg hnd, List.take_add_one, hp']
    rfl
  rintro kvs st' ⟨rfl, rfl⟩
  rw [List.length_map, List.take_length]
  walk_at "ab"
  refine .inr ?_
  refine .inl ?_
  unfold aFor sItems
  walk_at "ab"
  have hK0 : Kp [] st (st ++ [.dt false (dic lot yes)] ++ [.di false []]) := ((Kp.refl _ _).app _).app _
  have hin0 : (st ++ [.dt false (dic lot yes)] ++ [.di false []] : Store)[st.length]? = some (.dt false (dic lot yes)) := at_app (at_new _ _) _
  have hfo0 : (st ++ [.dt false (dic lot yes)] ++ [.di false []] : Store)[st.length + 1]? = some (.di false (dicI [])) := by simp [dicI]
  refine .inr (.inl ⟨li, _, rfl, hK0.at hli (by simp), ?_⟩)
  have el : (st ++ [.dt false (dic lot yes)] : Store).length = st.length + 1 := by simp
  rw [el]
  refine ⟨fun i env s => (∃ a b c, env = [some (.ref o), some (.ref li), some (.ref st.length), some (.ref (st.length + 1)), a, b, c]) ∧ Kp [] st s ∧ s[st.length]? = some (.dt false (dic lot yes)) ∧ ∃ rs, s[st.length + 1]? = some (.di false (dicI rs)) ∧ rs.Nodup ∧ (∀ r ∈ rs, r < rows) ∧
    ∀ r, r ∈ rs ↔ ∃ p ∈ lot.take i, ∃ s ∈ steps L tab p, (∃ k, s.1 = .ch k) ∧ s.2 ∈ lot ∧ rowOf tab p = r, ⟨⟨none, none, none, by simp⟩, hK0, hin0, [], hfo0, .nil, by simp, by simp⟩, ?_, ?_, ?_⟩
  · rintro i env s ⟨_, h, _⟩
    exact h.at hli (by simp)
  · rintro i x env s hx ⟨⟨a, b, c, rfl⟩, hK, hin, rs, hfo, hnd, hrr, hrs⟩
    obtain ⟨p, hp', rfl⟩ := Option.map_eq_some_iff.mp ((List.getElem?_map ..).symm.trans hx)
    have hpk : p ∈ ks := hlk p (List.mem_of_getElem? hp')
    have hps := hp.mono hK
    walk_at "ab"
    refine .inl ?_
    refine ⟨_, rfl, ?_⟩
    refine ⟨o, C, _, _, rfl, hps.at_, hC, look_kept, ?_⟩
    refine ⟨_, rfl, ?_⟩
    have hv : val (dic ks fun p => D.ref (f p)) (kPh p) = some (.ref (f p)) := by rw [val_dic, if_pos hpk]
    refine p_ixD (kPh p) (dk_ph p).symm (kPh_depth p) (kPh_tup p) hps.dt hv ?_
    refine .inr (.inl ⟨f p, _, rfl, hps.kp.ls p hpk, ?_⟩)
    refine ⟨fun j env s => (∃ b c, env = [some (.ref o), some (.ref li), some (.ref st.length), some (.ref (st.length + 1)), some (dPh p), b, c]) ∧ Kp [] st s ∧ s[st.length]? = some (.dt false (dic lot yes)) ∧ ∃ rs, s[st.length + 1]? = some (.di false (dicI rs)) ∧ rs.Nodup ∧ (∀ r ∈ rs, r < rows) ∧
      ∀ r, r ∈ rs ↔ (∃ p ∈ lot.take i, ∃ s ∈ steps L tab p, (∃ k, s.1 = .ch k) ∧ s.2 ∈ lot ∧ rowOf tab p = r) ∨ ∃ s ∈ (steps L tab p).take j, (∃ k, s.1 = .ch k) ∧ s.2 ∈ lot ∧ rowOf tab p = r, ⟨⟨b, c, rfl⟩, hK, hin, rs, hfo, hnd, hrr, fun r => by rw [hrs r]; simp⟩, ?_, ?_, ?_⟩
    · rintro j env s ⟨_, h, _⟩
      exact (hp.mono h).kp.ls p hpk
    · rintro j x env s hx ⟨⟨b, c, rfl⟩, hK, hin, rs, hfo, hnd, hrr, hrs⟩
      obtain ⟨sp, hsp, rfl⟩ := Option.map_eq_some_iff.mp ((List.getElem?_map ..).symm.trans hx)
      have hspm := List.mem_of_getElem? hsp
      obtain ⟨sg, q'⟩ := sp
      have skip : (¬ ((∃ k, sg = .ch k) ∧ q' ∈ lot)) → ∀ r, r ∈ rs ↔ (∃ p ∈ lot.take i, ∃ s ∈ steps L tab p, (∃ k, s.1 = .ch k) ∧ s.2 ∈ lot ∧ rowOf tab p = r) ∨ ∃ s ∈ (steps L tab p).take (j + 1), (∃ k, s.1 = .ch k) ∧ s.2 ∈ lot ∧ rowOf tab p = r := fun hn r => by
        rw [hrs r, List.take_add_one, hsp]
        constructor
        · rintro (h | ⟨s, h1, h2⟩)
          · exact .inl h
          · exact .inr ⟨s, by simp [h1], h2⟩
        · rintro (h | ⟨s, h1, h2⟩)
          · exact .inl h
          · rcases List.mem_append.mp h1 with h1 | h1
            · exact .inr ⟨s, h1, h2⟩
            · simp at h1
              rw [h1] at h2
              exact absurd ⟨h2.1, h2.2.1⟩ hn
      unfold dStp
      walk_at "ab"
      cases sg with
      | no =>
        simp only [dSg, isNon]
        walk_at "ab"
        exact ⟨⟨_, _, rfl⟩, hK, hin, rs, hfo, hnd, hrr, skip (by simp)⟩
      | fin =>
        simp only [dSg, isNon]
        walk_at "ab"
        refine p_neS ?_
        walk_at "ab"
        exact ⟨⟨_, _, rfl⟩, hK, hin, rs, hfo, hnd, hrr, skip (by simp)⟩
      | ch k =>
        obtain ⟨r0, ns, htm, hkL, hr0⟩ := ch_look hspm rfl
        have hL3 := hT.L3
        simp only [dSg, isNon]
        walk_at "ab"
        refine p_neS ?_
        have hne : ¬ (⟨#[97 + k]⟩ : Str) = "end" := by
          have : k = 0 ∨ k = 1 ∨ k = 2 := by omega
          rcases this with rfl | rfl | rfl <;> decide
        rw [decide_eq_false hne]
        walk_at "ab"
        refine p_inD (kPh q') (dk_ph q').symm (kPh_depth q') (kPh_tup q') hin ?_
        rw [val_dic]
        by_cases hq : q' ∈ lot
        · rw [if_pos hq]
          simp only [Option.isSome_some]
          walk_at "ab"
          have hps2 := hp.mono hK
          refine ⟨o, C, _, _, rfl, hps2.at_, hC, look_table, ?_⟩
          refine p_ixT (xs := [dN p.1, .tup (p.2.map dN)]) atI0 ?_
          refine p_ixT (atTab htm) ?_
          refine p_ixT (xs := [.str "look", dN r0, .tup (ns.map dN)]) atI1 ?_
          have hro : rowOf tab p = r0 := by unfold rowOf; rw [htm]
          have hrows : r0 < rows := (hT.it _ (List.mem_of_getElem? htm)).1
          have hrl : rs.length ≤ rows := by
            have := hnd.length_le_of_subset (l₂ := List.range rows) fun r hr => List.mem_range.mpr (hrr r hr)
            simpa using this
          have h8 := hT.r64
          refine p_setI hfo (by unfold dicI; rw [List.length_map, LIM_eq]; omega) ?_
          rw [put_dicI]
          refine ⟨⟨_, _, rfl⟩, hK.set _ (.inr (by omega)), at_ne hin (by omega) _, _, at_self hfo _, ?_, ?_, fun r => ?_⟩
          · split
            · exact hnd
            · rename_i h
              rw [List.nodup_append]
              exact ⟨hnd, by simp, fun a ha b hb => by simp at hb; subst hb; exact fun e => h (e ▸ ha)⟩
          · intro r hr
            split at hr
            · exact hrr r hr
            · rcases List.mem_append.mp hr with hr | hr
              · exact hrr r hr
              · simp at hr; omega
          · have e1 : r ∈ (if r0 ∈ rs then rs else rs ++ [r0]) ↔ r ∈ rs ∨ r = r0 := by
              split
              · rename_i h
                exact ⟨.inl, fun z => z.elim id fun e => e ▸ h⟩
              · simp
            rw [e1, hrs r, List.take_add_one, hsp]
            constructor
            · rintro ((h | ⟨s, h1, h2⟩) | h)
              · exact .inl h
              · exact .inr ⟨s, by simp [h1], h2⟩
              · exact .inr ⟨(.ch k, q'), by simp, ⟨k, rfl⟩, hq, by rw [h, hro]⟩
            · rintro (h | ⟨s, h1, h2⟩)
              · exact .inl (.inl h)
              · rcases List.mem_append.mp h1 with h1 | h1
                · exact .inl (.inr ⟨s, h1, h2⟩)
                · exact .inr (by rw [← h2.2.2, hro])
        · rw [if_neg hq]
          simp only [Option.isSome_none]
          walk_at "ab"
          exact ⟨⟨_, _, rfl⟩, hK, hin, rs, hfo, hnd, hrr, skip fun h => hq h.2⟩
    · rintro env s ⟨⟨b, c, rfl⟩, hK, hin, rs, hfo, hnd, hrr, hrs⟩
      refine ⟨⟨_, _, _, rfl⟩, hK, hin, rs, hfo, hnd, hrr, fun r => ?_⟩
      rw [hrs r, List.length_map, List.take_length, List.take_add_one, hp']
      constructor
      · rintro (⟨p, h1, h2⟩ | h)
        · exact ⟨p, by simp [h1], h2⟩
        · exact ⟨p, by simp, h⟩
      · rintro ⟨p', h1, h2⟩
        rcases List.mem_append.mp h1 with h1 | h1
        · exact .inl ⟨p', h1, h2⟩
        · simp at h1; subst h1; exact .inr h2
  · rintro env s ⟨⟨a, b, c, rfl⟩, hK, hin, rs, hfo, hnd, hrr, hrs⟩
    walk_at "ab"
    rw [List.length_map, List.take_length] at hrs
    have hrl : rs.length ≤ rows := by
      have := hnd.length_le_of_subset (l₂ := List.range rows) fun r hr => List.mem_range.mpr (hrr r hr)
      simpa using this
    have h8 := hT.r64
    refine p_sortN (E := rs) (F := sortN rs) (.inr (.inr ⟨_, false, _, rfl, hfo, ?_⟩)) (by rw [LIM_eq]; omega) (sortN_perm rs) (sortN_le rs) ?_
    · unfold dicI
      rw [List.map_map]
      rfl
    refine p_tupL (at_new _ _) ?_
    refine q _ (sortN rs) (hK.app _) (sortN_le rs) ((sortN_perm rs).symm.nodup hnd) (fun r hr => hrr r ((sortN_perm rs).mem_iff.mp hr)) fun r => ?_
    rw [(sortN_perm rs).mem_iff, hrs r]
    rfl
end Ab

set_option Elab.async false
set_option linter.all false
set_option maxRecDepth 100000
set_option maxHeartbeats 4000000
/-! pairs_among; dicts by any keys. -/
namespace Ab
open PySem
local macro_rules | `(tactic| walk_at "ab") => `(tactic| simp (config := { failIfUnchanged := false }) only [runDef, List.map_cons, List.map_nil, List.length_cons, List.length_nil, Nat.zero_add, Nat.reduceAdd, Nat.reduceSub, Nat.sub_self, List.replicate_zero, List.replicate_succ, List.nil_append, List.append_nil, List.cons_append, aSeq, aNext, aAsg, aPar, agNm, agTup, agSub, aUpd, aFld, aSetF, aExp, aIf, aRet, aRetN, aBrk, aCnt, aO1, aO2, aVar, aC, aTup, aLst, alNil, alCons, aCall, aDNew, atB, atYes, atAnd, atOr, atNot, aAndV, aOrV, aNotV, aIfE, aChain, aM1, bindP, wipeE,
  List.getElem?_cons_zero, List.getElem?_cons_succ, List.set_cons_zero, List.set_cons_succ, List.getElem?_nil, e_add, e_sub, e_neg, e_cmp, e_eqI, e_eqS, e_neI, e_isN, e_isNotN, e_ixT, e_lenT, e_int, e_abs, e_max2, e_min2, e_tupT, e_isiI, e_isiB, e_isiS, e_isiT, atI0, atI1, atI2, e_br_t, e_br_f, e_blx, e_intx, e_somex, e_somey, e_pair, e_two, Bool.not_true, Bool.not_false, true_and, and_true, Nat.reduceLeDiff, Nat.le_refl, decide_true, decide_false, c_0, c_1, c_2, c_3, c_4, c_5, c_6, c_7, c_8, c_9, Int.reduceEq, Int.reduceLT, Int.reduceLE, s_look_say, s_look_stop, s_look_end, s_say_look, s_say_stop, s_say_end, s_stop_look, s_stop_say, s_stop_end, s_end_look, s_end_say, s_end_stop])

abbrev Pr := Nat × Nat
def dPr (p : Pr) : D := .tup [dN p.1, dN p.2]
theorem cut_take (F : List Nat) (i : Nat) : cut (F.map dN) none (some (i : Int)) = (F.take i).map dN := by
  unfold cut sIx
  simp only [List.drop_zero, Nat.sub_zero]
  rw [if_neg (by omega), Int.toNat_natCast, List.length_map, List.map_take]
  rcases Nat.le_total i F.length with h | h
  · rw [Nat.min_eq_left h]
  · rw [Nat.min_eq_right h, List.take_of_length_le (by simp), List.take_of_length_le (by simpa using h)]
def sPairsAmong : ASp := fun ds st Q => ∃ F : List Nat, ds = [.tup (F.map dN)] ∧ F.length ≤ 100 ∧
  ∀ st' n (ps : List Pr), Kp [] st st' → st.length ≤ n → st'[n]? = some (.lst (ps.map dPr)) → (∀ a b : Nat, (a, b) ∈ ps ↔ ∃ j : Nat, F[j]? = some b ∧ ∃ k : Nat, k < j ∧ F[k]? = some a) → ps.length ≤ 100000 → Q (.ref n) st'
theorem k_pairs_among (ds : List D) (st : Store) (Q : DK) (h : sPairsAmong ds st Q) : runDef 4 b_pairs_among ds st Q := by
  obtain ⟨F, rfl, hl, q⟩ := h
  unfold b_pairs_among
  walk_at "ab"
  unfold aLc2 sEnum
  walk_at "ab"
  refine ⟨_, rfl, fun i acc st' => ∃ ps : List Pr, acc = ps.map dPr ∧ ps.length ≤ 1000 * i ∧ st = st' ∧ ∀ a b : Nat, (a, b) ∈ ps ↔ ∃ j : Nat, j < i ∧ F[j]? = some b ∧ ∃ k : Nat, k < j ∧ F[k]? = some a, ⟨[], rfl, by simp, rfl, by simp⟩, ?_, fun _ _ _ _ => trivial, ?_, ?_⟩
  · unfold enumD; simp; omega
  · rintro i x acc st' hx ⟨ps, rfl, hpl, rfl, hps⟩
    unfold enumD at hx
    obtain ⟨i', hi, rfl⟩ := Option.map_eq_some_iff.mp ((List.getElem?_map ..).symm.trans hx)
    obtain ⟨hi1, hi2⟩ := List.getElem?_eq_some_iff.mp hi
    rw [List.getElem_range] at hi2
    subst hi2
    rw [List.length_range, List.length_map] at hi1
    have hFi : F[i]? = some F[i] := List.getElem?_eq_getElem hi1
    generalize F[i] = fi at hFi
    have hg : (F.map dN).getD i .non = dN fi := by rw [List.getD, List.getElem?_map, hFi]; rfl
    rw [hg]
    walk_at "ab"
    unfold sItems aSl aoNone aoSome
    walk_at "ab"
    refine .inl ⟨_, rfl, .inl ⟨_, rfl, ?_⟩⟩
    rw [cut_take]
    refine ⟨fun j acc st' => ∃ ps : List Pr, acc = ps.map dPr ∧ ps.length ≤ 1000 * i + j ∧ st = st' ∧ ∀ a b : Nat, (a, b) ∈ ps ↔ (∃ j : Nat, j < i ∧ F[j]? = some b ∧ ∃ k : Nat, k < j ∧ F[k]? = some a) ∨ (b = fi ∧ ∃ k : Nat, k < j ∧ F[k]? = some a), ⟨ps, rfl, by omega, rfl, fun a b => by rw [hps a b]; simp⟩, by simp; omega, fun _ _ _ _ => trivial, ?_, ?_⟩
    · rintro j y acc st' hy ⟨ps, rfl, hpl, rfl, hps⟩
      obtain ⟨fk, hk, rfl⟩ := Option.map_eq_some_iff.mp ((List.getElem?_map ..).symm.trans hy)
      have hFk : F[j]? = some fk := by
        rw [List.getElem?_take] at hk
        split at hk
        · exact hk
        · cases hk
      walk_at "ab"
      refine ⟨ps ++ [(fk, fi)], by simp [dPr], by simp; omega, fun a b => ?_⟩
      rw [List.mem_append, hps a b]
      constructor
      · rintro ((h | ⟨h1, k, h2, h3⟩) | h)
        · exact .inl h
        · exact .inr ⟨h1, k, by omega, h3⟩
        · simp at h
          rw [h.1, h.2]
          exact .inr ⟨rfl, j, by omega, hFk⟩
      · rintro (h | ⟨h1, k, h2, h3⟩)
        · exact .inl (.inl h)
        · by_cases hkj : k = j
          · subst hkj
            rw [hFk] at h3
            cases h3
            exact .inr (by rw [h1]; simp)
          · exact .inl (.inr ⟨h1, k, by omega, h3⟩)
    · rintro acc st' ⟨ps, rfl, hpl, rfl, hps⟩
      have hlen : ((F.take i).map dN).length = i := by simp; omega
      rw [hlen] at hpl hps
      refine ⟨ps, rfl, by omega, rfl, fun a b => ?_⟩
      rw [hps a b]
      constructor
      · rintro (⟨j, h1, h2⟩ | ⟨h1, h2⟩)
        · exact ⟨j, by omega, h2⟩
        · exact ⟨i, by omega, by rw [hFi, h1], h2⟩
      · rintro ⟨j, h1, h2, h3⟩
        by_cases hji : j = i
        · subst hji
          rw [hFi] at h2
          cases h2
          exact .inr ⟨rfl, h3⟩
        · exact .inl ⟨j, by omega, h2, h3⟩
  · rintro acc st' ⟨ps, rfl, hpl, rfl, hps⟩
    have hlen : (enumD (F.map dN)).length = F.length := by unfold enumD; simp
    rw [hlen] at hpl hps
    refine q _ _ ps ((Kp.refl _ _).app _) (Nat.le_refl _) (at_new _ _) (fun a b => ?_) (by omega)
    rw [hps a b]
    constructor
    · rintro ⟨j, _, h2⟩
      exact ⟨j, h2⟩
    · rintro ⟨j, h2, h3⟩
      exact ⟨j, (List.getElem?_eq_some_iff.mp h2).1, h2, h3⟩
theorem pairs_sorted {F : List Nat} (h1 : F.Pairwise (· ≤ ·)) (h2 : F.Nodup) (a b : Nat) : (∃ j : Nat, F[j]? = some b ∧ ∃ k : Nat, k < j ∧ F[k]? = some a) ↔ a ∈ F ∧ b ∈ F ∧ a < b := by
  have hlt : F.Pairwise (· < ·) := (List.pairwise_and_iff.mpr ⟨h1, h2⟩).imp fun ⟨x, y⟩ => Nat.lt_of_le_of_ne x y
  constructor
  · rintro ⟨j, hj, k, hk, ha⟩
    refine ⟨List.mem_of_getElem? ha, List.mem_of_getElem? hj, ?_⟩
    obtain ⟨l1, e1⟩ := List.getElem?_eq_some_iff.mp ha
    obtain ⟨l2, e2⟩ := List.getElem?_eq_some_iff.mp hj
    rw [← e1, ← e2]
    exact List.pairwise_iff_getElem.mp hlt k j l1 l2 hk
  · rintro ⟨ha, hb, hab⟩
    obtain ⟨k, hk⟩ := List.getElem?_of_mem ha
    obtain ⟨j, hj⟩ := List.getElem?_of_mem hb
    refine ⟨j, hj, k, ?_, hk⟩
    obtain ⟨l1, e1⟩ := List.getElem?_eq_some_iff.mp hk
    obtain ⟨l2, e2⟩ := List.getElem?_eq_some_iff.mp hj
    rcases Nat.lt_trichotomy k j with h | h | h
    · exact h
    · subst h; rw [hk] at hj; cases hj; omega
    · have := List.pairwise_iff_getElem.mp hlt j k l2 l1 h
      omega

/-! ### dicts whose values are True -/
def kPr (p : Pr) : NestedKey := .tup [kN p.1, kN p.2]
theorem dk_pr (p : Pr) : dk (kPr p) = dPr p := by simp [kPr, dPr, dk, dks]
theorem kPr_inj {p q : Pr} (h : kPr p = kPr q) : p = q := by
  obtain ⟨a, b⟩ := p
  obtain ⟨c, d⟩ := q
  unfold kPr at h
  simp only [NestedKey.tup.injEq, List.cons.injEq, NestedKey.num.injEq, and_true] at h
  rw [show a = c by omega, show b = d by omega]
theorem kPr_depth (p : Pr) : (kPr p).depth ≤ 8 := by simp [kPr, NestedKey.depth, NestedKey.depthAll]
theorem kPr_tup (p : Pr) : ∃ ks, kPr p = .tup ks := ⟨_, rfl⟩
/-- a dict whose keys are the k of these things, all True -/
def dicT {α : Type} (k : α → NestedKey) (xs : List α) : List (NestedKey × D) := xs.map fun x => (k x, .bl true)
theorem val_dicT {α : Type} [DecidableEq α] (k : α → NestedKey) (ki : ∀ a b, k a = k b → a = b) (p : α) : ∀ xs, val (dicT k xs) (k p) = if p ∈ xs then some (.bl true) else none
  | [] => by simp [dicT, val]
  | q :: xs => by
    have ih := val_dicT k ki p xs
    unfold dicT val at ih ⊢
    rw [List.map_cons, List.find?_cons]
    by_cases e : q = p
    · subst e; simp
    · have e' : ¬ k q = k p := fun z => e (ki _ _ z)
      have e2 : ¬ p = q := fun z => e z.symm
      simp only [decide_eq_false e']
      rw [ih]
      simp [e2]
theorem put_dicT {α : Type} [DecidableEq α] (k : α → NestedKey) (ki : ∀ a b, k a = k b → a = b) (p : α) (xs : List α) : put (dicT k xs) (k p) (.bl true) = dicT k (if p ∈ xs then xs else xs ++ [p]) := by
  have an : ((dicT k xs).any fun kv => decide (kv.1 = k p)) = decide (p ∈ xs) := by
    unfold dicT
    rw [List.any_map]
    induction xs with
    | nil => simp
    | cons q xs ih =>
      rw [List.any_cons, ih]
      by_cases e : q = p
      · subst e; simp
      · have e' : ¬ k q = k p := fun z => e (ki _ _ z)
        have e2 : ¬ p = q := fun z => e z.symm
        simp [e', e2]
  unfold put
  rw [an]
  by_cases h : p ∈ xs
  · rw [if_pos (by simpa using h), if_pos h]
    unfold dicT
    rw [List.map_map]
    refine List.map_congr_left fun q _ => ?_
    by_cases e : k q = k p
    · simp [e]
    · simp [e]
  · rw [if_neg (by simpa using h), if_neg h]
    unfold dicT
    rw [List.map_append]
    rfl
theorem add_nd {α : Type} [DecidableEq α] {xs : List α} {p : α} (h : xs.Nodup) : (if p ∈ xs then xs else xs ++ [p]).Nodup := by
  split
  · exact h
  · rename_i hp
    rw [List.nodup_append]
    exact ⟨h, by simp, fun a ha b hb => by simp at hb; subst hb; exact fun e => hp (e ▸ ha)⟩
theorem add_mem {α : Type} [DecidableEq α] {xs : List α} {p q : α} : q ∈ (if p ∈ xs then xs else xs ++ [p]) ↔ q ∈ xs ∨ q = p := by
  split
  · rename_i hp
    exact ⟨.inl, fun h => h.elim id fun e => e ▸ hp⟩
  · simp
end Ab

set_option Elab.async false
set_option linter.all false
set_option maxRecDepth 100000
set_option maxHeartbeats 4000000
/-! kept_pieces, web. -/
namespace Ab
open PySem
local macro_rules | `(tactic| walk_at "ab") => `(tactic| simp (config := { failIfUnchanged := false }) only [runDef, List.map_cons, List.map_nil, List.length_cons, List.length_nil, Nat.zero_add, Nat.reduceAdd, Nat.reduceSub, Nat.sub_self, List.replicate_zero, List.replicate_succ, List.nil_append, List.append_nil, List.cons_append, aSeq, aNext, aAsg, aPar, agNm, agTup, agSub, aUpd, aFld, aSetF, aExp, aIf, aRet, aRetN, aBrk, aCnt, aO1, aO2, aVar, aC, aTup, aLst, alNil, alCons, aCall, aDNew, atB, atYes, atAnd, atOr, atNot, aAndV, aOrV, aNotV, aIfE, aChain, aM1, bindP, wipeE,
  List.getElem?_cons_zero, List.getElem?_cons_succ, List.set_cons_zero, List.set_cons_succ, List.getElem?_nil, e_add, e_sub, e_neg, e_cmp, e_eqI, e_eqS, e_neI, e_isN, e_isNotN, e_ixT, e_lenT, e_int, e_abs, e_max2, e_min2, e_tupT, e_isiI, e_isiB, e_isiS, e_isiT, atI0, atI1, atI2, e_br_t, e_br_f, e_blx, e_intx, e_somex, e_somey, e_pair, e_two, Bool.not_true, Bool.not_false, true_and, and_true, Nat.reduceLeDiff, Nat.le_refl, decide_true, decide_false, c_0, c_1, c_2, c_3, c_4, c_5, c_6, c_7, c_8, c_9, Int.reduceEq, Int.reduceLT, Int.reduceLE, s_look_say, s_look_stop, s_look_end, s_say_look, s_say_stop, s_say_end, s_stop_look, s_stop_say, s_stop_end, s_end_look, s_end_say, s_end_stop])

theorem p_sortA {α : Type} [DecidableEq α] {st : Store} {Q : DK} {x : D} {xs : List α} (g : α → D) (t : Ty) (hs : source st x (xs.map g)) (hl : xs.length ≤ LIM) (ht : Ty.ok t = true) (hd : t.dep ≤ 8) (hT : ∀ a, HasTy t (g a)) (q : ∀ zs : List α, zs.Perm xs → Q (.ref st.length) (st ++ [.lst (zs.map g)])) : pSorted x st Q := by
  refine ⟨xs.map g, t, hs, by simpa using hl, ht, hd, fun y hy => ?_, fun ys hys _ => ?_⟩
  · obtain ⟨p, _, rfl⟩ := List.mem_map.mp hy
    exact hT p
  · obtain ⟨zs, h1, rfl⟩ := perm_map hys
    exact q zs h1
theorem kPh_depth7 (p : Ph) : (kPh p).depth ≤ 7 := by
  unfold kPh
  simp [NestedKey.depth, NestedKey.depthAll, depth_nums]
theorem mem_kPh {p : Ph} {xs : List Ph} : kPh p ∈ xs.map kPh ↔ p ∈ xs := by
  constructor
  · intro h
    obtain ⟨q, hq, e⟩ := List.mem_map.mp h
    rw [← kPh_inj e]
    exact hq
  · exact fun h => List.mem_map_of_mem h
abbrev Pc := List Ph × List Nat
def dPc (x : Pc) : D := .tup [.tup (x.1.map dPh), .tup (x.2.map dN)]
theorem ty_pc (x : Pc) : HasTy (.pr (.seq (.pr .int (.seq .int))) (.seq .int)) (dPc x) := by
  refine ⟨fun y hy => ?_, fun y hy => ?_⟩
  · obtain ⟨p, _, rfl⟩ := List.mem_map.mp hy
    exact ty_ph p
  · obtain ⟨p, _, rfl⟩ := List.mem_map.mp hy
    trivial
/-- the pieces, told by their lots -/
structure Pieces (L : Nat) (tab : List Tm) (lots : List (List Ph)) (ps : List Pc) : Prop where
  snd : ∀ x ∈ ps, x.2.Pairwise (· ≤ ·) ∧ x.2.Nodup ∧ (∀ r ∈ x.2, r < 8) ∧ ∃ lot ∈ lots, ∀ r, r ∈ x.2 ↔ LiveIn L tab lot r
  cov : ∀ lot ∈ lots, ∀ r, LiveIn L tab lot r → ∃ x ∈ ps, ∀ r, r ∈ x.2 ↔ LiveIn L tab lot r
  len : ps.length ≤ 4096
def sKeptPieces (cs : List Nat) : ASp := fun ds st Q => ∃ (o C rows L : Nat) (tab : List Tm) (n : Nat) (ks : List Ph) (f : Ph → Nat), ds = [.ref o] ∧ C ∈ cs ∧ OkTab rows L tab ∧ IsPlan st o C rows L tab n ks f ∧
  ∀ st' m kn lots ps, Kp [] st st' → st.length ≤ m → Lots ks (scP L tab) kn lots → (∀ p ∈ ks, p ∈ kn) → Pieces L tab lots ps → st'[m]? = some (.lst (ps.map dPc)) → Q (.ref m) st'
theorem k_kept_pieces {cP cR : Nat} (ds : List D) (st : Store) (Q : DK) (h : sKeptPieces [cP, cR] ds st Q) : runDef 4 (b_kept_pieces (sLinesOf [cP, cR]) sLotsOf (sRowsIn [cP, cR])) ds st Q := by
  obtain ⟨o, C, rows, L, tab, n, ks, f, rfl, hC, hT, hp, q⟩ := h
  have hG := gr_of hT hp.kp
  have hks := hG.len
  unfold b_kept_pieces
  walk_at "ab"
  refine ⟨o, C, rows, L, tab, n, ks, f, rfl, hC, hT, hp, fun st1 m g hK1 hm hg hL1 => ?_⟩
  walk_at "ab"
  refine .inl ?_
  unfold aFor sItems
  walk_at "ab"
  have hL2 := hL1.mono ((Kp.refl _ _).app (.lst []))
  refine ⟨m, ks, scP L tab, g, rfl, hG, hL2, fun st2 m2 kn lots ids hK2 hm2 hLo hall hids hLA hidn => ?_⟩
  refine .inr (.inl ⟨m2, _, rfl, hids, ?_⟩)
  have hK12 : Kp [] st1 st2 := ((Kp.refl _ _).app _).trans (hK2.le (by simp))
  have hf0 : st2[st1.length]? = some (.lst (([] : List Pc).map dPc)) := hK2.at (at_new _ _) (by simp)
  rw [List.length_append, List.length_singleton] at hm2
  have hm2l := at_lt hids
  have hidlt := hLA.lt
  refine ⟨fun i env s => (∃ a, env = [some (.ref o), some (.ref m), some (.ref st1.length), a]) ∧ Kp [st1.length] st2 s ∧ ∃ ps, s[st1.length]? = some (.lst (ps.map dPc)) ∧ ps.length ≤ i ∧ Pieces L tab (lots.take i) ps, ⟨⟨none, by simp⟩, Kp.refl _ _, [], hf0, by simp, ⟨by simp, by simp, by simp⟩⟩, ?_, ?_, ?_⟩
  · rintro i env s ⟨_, h, _⟩
    exact h.at hids (by simp; omega)
  · rintro i x env s hx ⟨⟨a, rfl⟩, hK, ps, hps, hpl, hP⟩
    obtain ⟨id, hid, rfl⟩ := Option.map_eq_some_iff.mp ((List.getElem?_map ..).symm.trans hx)
    have hil : i < lots.length := by rw [← hLA.1]; exact (List.getElem?_eq_some_iff.mp hid).1
    have hlot := List.getElem?_eq_getElem hil
    generalize lots[i] = lot at hlot
    have hlt := hLA.2 i id lot hid hlot
    have hidf : id ≠ st1.length := fun e => by
      rw [e, hf0] at hlt
      have := hLo.lt lot (List.mem_of_getElem? hlot)
      cases lot with
      | nil => exact this.1 rfl
      | cons x xs => simp at hlt
    have hls := hK.at hlt (by simpa using hidf)
    obtain ⟨l1, l2, l3, l4⟩ := hLo.lt lot (List.mem_of_getElem? hlot)
    have hll : lot.length ≤ 4096 := Nat.le_trans (l2.length_le_of_subset l3) hks
    have htk : lots.take (i + 1) = lots.take i ++ [lot] := by rw [List.take_add_one, hlot]; rfl
    have hi4 : i < 4096 := by have := (List.getElem?_eq_some_iff.mp hid).1; omega
    -- no row
    have none_ok : (∀ r, ¬ LiveIn L tab lot r) → Pieces L tab (lots.take (i + 1)) ps := fun hn => by
      rw [htk]
      refine ⟨fun x hx => ?_, fun l hl r hr => ?_, hP.len⟩
      · obtain ⟨x1, x2, x3, l, x4, x5⟩ := hP.snd x hx
        exact ⟨x1, x2, x3, l, by simp [x4], x5⟩
      · rcases List.mem_append.mp hl with hl | hl
        · exact hP.cov l hl r hr
        · simp at hl; rw [hl] at hr; exact absurd hr (hn r)
    have app_ok : (∃ n xs, D.ref st1.length = D.ref n ∧ s[n]? = some (MO.lst xs)) ∧ pSorted (D.ref id) s fun x s1 => pTuple x s1 fun x s2 => sRowsIn [cP, cR] [D.ref o, D.ref id] s2 fun y s3 => pAppend (D.ref st1.length) (D.tup [x, y]) s3 fun _ s4 =>
        (∃ a, [some (D.ref o), some (D.ref m), some (D.ref st1.length), some (D.ref id)] = [some (D.ref o), some (D.ref m), some (D.ref st1.length), a]) ∧ Kp [st1.length] st2 s4 ∧ ∃ ps, s4[st1.length]? = some (MO.lst (ps.map dPc)) ∧ ps.length ≤ i + 1 ∧ Pieces L tab (lots.take (i + 1)) ps := by
      refine ⟨⟨_, _, rfl, hps⟩, ?_⟩
      refine p_sortA dPh (.pr .int (.seq .int)) (.inl (.inr ⟨id, rfl, hls⟩)) (by rw [LIM_eq]; omega) rfl (by decide) ty_ph fun zs hz => ?_
      refine p_tupL (at_new _ _) ?_
      have hKa : Kp [] st1 s := ((hK12.le (T := [st1.length]) (by simp)).trans hK).le fun k hk hl => by simp at hk; omega
      have hpS : IsPlan (s ++ [.lst (zs.map dPh)]) o C rows L tab n ks f := (hp.mono (hK1.trans hKa)).mono ((Kp.refl _ _).app _)
      refine ⟨o, C, rows, L, tab, n, ks, f, id, lot, rfl, hC, hT, hpS, at_app hls _, l3, l2, fun s2 F hK3 hF1 hF2 hF3 hF4 => ?_⟩
      have hps2 := hK3.at (at_app hps _) (by simp)
      refine p_app hps2 (by rw [List.length_map, LIM_eq]; omega) ?_
      have h8 := hT.r64
      refine ⟨⟨_, rfl⟩, ((hK.app _).trans (hK3.le (by simp))).set _ (.inl (by simp)), ps ++ [(zs, F)], by rw [at_self hps2]; simp [dPc], by simp; omega, ?_⟩
      rw [htk]
      refine ⟨fun x hx => ?_, fun l hl r hr => ?_, by simp; omega⟩
      · rcases List.mem_append.mp hx with hx | hx
        · obtain ⟨x1, x2, x3, l, x4, x5⟩ := hP.snd x hx
          exact ⟨x1, x2, x3, l, by simp [x4], x5⟩
        · simp at hx
          rw [hx]
          exact ⟨hF1, hF2, fun r hr => Nat.lt_of_lt_of_le (hF3 r hr) h8, lot, by simp, hF4⟩
      · rcases List.mem_append.mp hl with hl | hl
        · obtain ⟨x, x1, x2⟩ := hP.cov l hl r hr
          exact ⟨x, by simp [x1], x2⟩
        · simp at hl
          rw [hl]
          exact ⟨(zs, F), by simp, hF4⟩
    walk_at "ab"
    refine p_lenL hls ?_
    walk_at "ab"
    rw [List.length_map]
    refine br_d (fun _ => app_ok) fun h1 => ?_
    match lot, l1, h1 with
    | [p], _, _ =>
      have hpk := l3 p (by simp)
      have hLs := hL1.mono (((hK12.le (T := [st1.length]) (by simp)).trans hK).le (T := []) fun k hk hl => by simp at hk; omega)
      have hv : val (dic ks fun p => D.ref (g p)) (kPh p) = some (.ref (g p)) := by rw [val_dic, if_pos hpk]
      refine p_ixL hls atI0 ?_
      refine p_ixL hls atI0 ?_
      refine p_ixD (kPh p) (dk_ph p).symm (kPh_depth p) (kPh_tup p) hLs.dt hv ?_
      have hlp := hLs.ls p hpk
      have em : (scP L tab p).map dPh = ((scP L tab p).map kPh).map dk := by
        rw [List.map_map]
        exact List.map_congr_left fun q _ => (dk_ph q).symm
      refine p_inL (kPh p) ((scP L tab p).map kPh) (dk_ph p).symm (by rw [← em]; exact hlp) (kPh_depth7 p) (fun k hk => ?_) ?_
      · obtain ⟨q', _, rfl⟩ := List.mem_map.mp hk
        exact kPh_depth7 q'
      · refine ⟨_, rfl, br_d (fun _ => app_ok) fun hn => ?_⟩
        refine ⟨⟨_, rfl⟩, hK, ps, hps, by omega, none_ok fun r ⟨p1, h2, s, h3, h4, h5, h6⟩ => ?_⟩
        simp at h2 h5
        subst h2
        exact hn (mem_kPh.mpr (List.mem_map.mpr ⟨s, h3, h5⟩))
    | [], h, _ => exact absurd rfl h
    | _ :: _ :: _, _, h => exact absurd (by simp; omega) h
  · rintro env s ⟨⟨a, rfl⟩, hK, ps, hps, hpl, hP⟩
    walk_at "ab"
    rw [List.length_map, hLA.1, List.take_length] at hP
    have hKa : Kp [] st1 s := ((hK12.le (T := [st1.length]) (by simp)).trans hK).le fun k hk hl => by simp at hk; omega
    refine p_sortA dPc (.pr (.seq (.pr .int (.seq .int))) (.seq .int)) (.inl (.inr ⟨_, rfl, hps⟩)) (by have := hP.len; rw [LIM_eq]; omega) rfl (by decide) ty_pc fun zs hz => ?_
    refine q _ _ kn lots zs ((hK1.trans hKa).app _) (by have := hK1.1; have := hKa.1; omega) hLo hall ⟨fun x hx => hP.snd x (hz.mem_iff.mp hx), fun l hl r hr => ?_, by rw [hz.length_eq]; exact hP.len⟩ (at_new _ _)
    obtain ⟨x, x1, x2⟩ := hP.cov l hl r hr
    exact ⟨x, hz.mem_iff.mpr x1, x2⟩
end Ab

set_option Elab.async false
set_option linter.all false
set_option maxRecDepth 100000
set_option maxHeartbeats 4000000
/-! web. -/
namespace Ab
open PySem
local macro_rules | `(tactic| walk_at "ab") => `(tactic| simp (config := { failIfUnchanged := false }) only [runDef, List.map_cons, List.map_nil, List.length_cons, List.length_nil, Nat.zero_add, Nat.reduceAdd, Nat.reduceSub, Nat.sub_self, List.replicate_zero, List.replicate_succ, List.nil_append, List.append_nil, List.cons_append, aSeq, aNext, aAsg, aPar, agNm, agTup, agSub, aUpd, aFld, aSetF, aExp, aIf, aRet, aRetN, aBrk, aCnt, aO1, aO2, aVar, aC, aTup, aLst, alNil, alCons, aCall, aDNew, atB, atYes, atAnd, atOr, atNot, aAndV, aOrV, aNotV, aIfE, aChain, aM1, bindP, wipeE,
  List.getElem?_cons_zero, List.getElem?_cons_succ, List.set_cons_zero, List.set_cons_succ, List.getElem?_nil, e_add, e_sub, e_neg, e_cmp, e_eqI, e_eqS, e_neI, e_isN, e_isNotN, e_ixT, e_lenT, e_int, e_abs, e_max2, e_min2, e_tupT, e_isiI, e_isiB, e_isiS, e_isiT, atI0, atI1, atI2, e_br_t, e_br_f, e_blx, e_intx, e_somex, e_somey, e_pair, e_two, Bool.not_true, Bool.not_false, true_and, and_true, Nat.reduceLeDiff, Nat.le_refl, decide_true, decide_false, c_0, c_1, c_2, c_3, c_4, c_5, c_6, c_7, c_8, c_9, Int.reduceEq, Int.reduceLT, Int.reduceLE, s_look_say, s_look_stop, s_look_end, s_say_look, s_say_stop, s_say_end, s_stop_look, s_stop_say, s_stop_end, s_end_look, s_end_say, s_end_stop])

/-- a letter leads on within p's lot, at row r -/
def LiveAt (L : Nat) (tab : List Tm) (p : Ph) (r : Nat) : Prop := ∃ s ∈ steps L tab p, (∃ k, s.1 = .ch k) ∧ Eqv (scP L tab) p s.2 ∧ rowOf tab p = r
def WebP (L : Nat) (tab : List Tm) (a b : Nat) : Prop := a < b ∧ ∃ p q, Rc L tab p ∧ Rc L tab q ∧ Eqv (scP L tab) p q ∧ LiveAt L tab p a ∧ LiveAt L tab q b
theorem web_lots {rows L : Nat} {tab : List Tm} {ks kn : List Ph} {lots : List (List Ph)} (hk : ∀ p, p ∈ ks ↔ Rc L tab p) (hL : Lots ks (scP L tab) kn lots) (hall : ∀ p ∈ ks, p ∈ kn) (a b : Nat) :
    WebP L tab a b ↔ a < b ∧ ∃ lot ∈ lots, LiveIn L tab lot a ∧ LiveIn L tab lot b := by
  constructor
  · rintro ⟨h, p, q, hp, hq, he, ⟨s, s1, s2, s3, s4⟩, t, t1, t2, t3, t4⟩
    obtain ⟨lot, l1, l2⟩ := hL.cov p (hall p ((hk p).mpr hp))
    obtain ⟨_, _, _, l3⟩ := hL.lt lot l1
    have hql := (l3 p l2 q).mp he
    exact ⟨h, lot, l1, ⟨p, l2, s, s1, s2, (l3 p l2 _).mp s3, s4⟩, ⟨q, hql, t, t1, t2, (l3 q hql _).mp t3, t4⟩⟩
  · rintro ⟨h, lot, l1, ⟨p, p1, s, s1, s2, s3, s4⟩, ⟨q, q1, t, t1, t2, t3, t4⟩⟩
    obtain ⟨_, _, l2, l3⟩ := hL.lt lot l1
    exact ⟨h, p, q, (hk p).mp (l2 p p1), (hk q).mp (l2 q q1), (l3 p p1 q).mpr q1, ⟨s, s1, s2, (l3 p p1 _).mpr s3, s4⟩, ⟨t, t1, t2, (l3 q q1 _).mpr t3, t4⟩⟩
theorem ty_pr (p : Pr) : HasTy (.pr .int .int) (dPr p) := ⟨trivial, trivial⟩
theorem dicT_keys {α : Type} (k : α → NestedKey) (g : α → D) (hk : ∀ a, dk (k a) = g a) (xs : List α) : ((dicT k xs).map fun q => dk q.1) = xs.map g := by
  unfold dicT
  rw [List.map_map]
  exact List.map_congr_left fun a _ => hk a
/-- a web -/
structure IsWeb (L : Nat) (tab : List Tm) (W : List Pr) : Prop where
  mem : ∀ a b, (a, b) ∈ W ↔ WebP L tab a b
  nd : W.Nodup
  lt : ∀ x ∈ W, x.1 < 8 ∧ x.2 < 8
theorem pr64 {W : List Pr} (nd : W.Nodup) (h : ∀ x ∈ W, x.1 < 8 ∧ x.2 < 8) : W.length ≤ 64 := by
  have := nd.length_le_of_subset (l₂ := (List.range 8).flatMap fun a => (List.range 8).map fun b => (a, b)) fun x hx => by
    obtain ⟨h1, h2⟩ := h x hx
    rw [List.mem_flatMap]
    exact ⟨x.1, List.mem_range.mpr h1, List.mem_map.mpr ⟨x.2, List.mem_range.mpr h2, rfl⟩⟩
  exact Nat.le_trans this (by decide)
def sWeb (cs : List Nat) : ASp := fun ds st Q => ∃ (o C rows L : Nat) (tab : List Tm) (n : Nat) (ks : List Ph) (f : Ph → Nat), ds = [.ref o] ∧ C ∈ cs ∧ OkTab rows L tab ∧ IsPlan st o C rows L tab n ks f ∧
  ∀ st' (W : List Pr), Kp [] st st' → IsWeb L tab W → Q (.tup (W.map dPr)) st'
theorem k_web {cP cR : Nat} (ds : List D) (st : Store) (Q : DK) (h : sWeb [cP, cR] ds st Q) : runDef 5 (b_web (sKeptPieces [cP, cR]) sPairsAmong) ds st Q := by
  obtain ⟨o, C, rows, L, tab, n, ks, f, rfl, hC, hT, hp, q⟩ := h
  unfold b_web
  walk_at "ab"
  refine .inl (.inl ?_)
  unfold aFor sItems
  walk_at "ab"
  refine ⟨o, C, rows, L, tab, n, ks, f, rfl, hC, hT, hp.mono ((Kp.refl _ _).app _), fun st1 m kn lots ps hK1 hm hLo hall hP hps => ?_⟩
  refine .inr (.inl ⟨m, _, rfl, hps, ?_⟩)
  rw [List.length_append, List.length_singleton] at hm
  have hd0 : st1[st.length]? = some (.dt false (dicT kPr ([] : List Pr))) := hK1.at (at_new _ _) (by simp)
  have hK0 : Kp [] st st1 := ((Kp.refl _ _).app _).trans (hK1.le (by simp))
  have good : ∀ a b, WebP L tab a b ↔ ∃ x ∈ ps, a ∈ x.2 ∧ b ∈ x.2 ∧ a < b := by
    intro a b
    rw [web_lots (rows := rows) (fun p => hp.kp.rc p) hLo hall]
    constructor
    · rintro ⟨h, lot, l1, l2, l3⟩
      obtain ⟨x, x1, x2⟩ := hP.cov lot l1 a l2
      exact ⟨x, x1, (x2 a).mpr l2, (x2 b).mpr l3, h⟩
    · rintro ⟨x, x1, x2, x3, x4⟩
      obtain ⟨_, _, _, lot, l1, l2⟩ := hP.snd x x1
      exact ⟨x4, lot, l1, (l2 a).mp x2, (l2 b).mp x3⟩
  refine ⟨fun i env s => (∃ a b c, env = [some (.ref o), some (.ref st.length), a, b, c]) ∧ Kp [st.length] st1 s ∧ ∃ W : List Pr, s[st.length]? = some (.dt false (dicT kPr W)) ∧ W.Nodup ∧ (∀ x ∈ W, x.1 < 8 ∧ x.2 < 8) ∧ ∀ a b, (a, b) ∈ W ↔ ∃ x ∈ ps.take i, a ∈ x.2 ∧ b ∈ x.2 ∧ a < b, ⟨⟨none, none, none, rfl⟩, Kp.refl _ _, [], hd0, .nil, by simp, by simp⟩, ?_, ?_, ?_⟩
  · rintro i env s ⟨_, h, _⟩
    exact h.at hps (by simp; omega)
  · rintro i x env s hx ⟨⟨a, b, c, rfl⟩, hK, W, hW, hnd, hlt, hWm⟩
    obtain ⟨pc, hpc, rfl⟩ := Option.map_eq_some_iff.mp ((List.getElem?_map ..).symm.trans hx)
    obtain ⟨z1, z2, z3, z4⟩ := hP.snd pc (List.mem_of_getElem? hpc)
    have hFl : pc.2.length ≤ 8 := by
      have := z2.length_le_of_subset (l₂ := List.range 8) fun r hr => List.mem_range.mpr (z3 r hr)
      simpa using this
    unfold dPc
    walk_at "ab"
    refine .inl ?_
    refine ⟨_, rfl, pc.2, rfl, by omega, fun s1 n1 prs hK1' hn1 hprs hpm hpl => ?_⟩
    refine .inr (.inl ⟨n1, _, rfl, hprs, ?_⟩)
    have hlen := hK.1
    have hst := at_lt hd0
    have hKs := hK.trans (hK1'.le (T := [st.length]) (by simp))
    refine ⟨fun j env s2 => (∃ c, env = [some (.ref o), some (.ref st.length), some (.tup (pc.1.map dPh)), some (.tup (pc.2.map dN)), c]) ∧ Kp [st.length] st1 s2 ∧ s2[n1]? = some (.lst (prs.map dPr)) ∧ ∃ W : List Pr, s2[st.length]? = some (.dt false (dicT kPr W)) ∧ W.Nodup ∧ (∀ x ∈ W, x.1 < 8 ∧ x.2 < 8) ∧ ∀ a b, (a, b) ∈ W ↔ (∃ x ∈ ps.take i, a ∈ x.2 ∧ b ∈ x.2 ∧ a < b) ∨ (a, b) ∈ prs.take j,
      ⟨⟨c, rfl⟩, hKs, hprs, W, hK1'.at hW (by simp), hnd, hlt, fun a b => by rw [hWm a b]; simp⟩, ?_, ?_, ?_⟩
    · rintro j env s2 ⟨_, _, h, _⟩
      exact h
    · rintro j y env s2 hy ⟨⟨c, rfl⟩, hK2, hpr2, W, hW, hnd, hlt, hWm⟩
      obtain ⟨pr, hpr, rfl⟩ := Option.map_eq_some_iff.mp ((List.getElem?_map ..).symm.trans hy)
      obtain ⟨pa, pb⟩ := pr
      have hmem := (pairs_sorted z1 z2 pa pb).mp ((hpm pa pb).mp (List.mem_of_getElem? hpr))
      have hWl := pr64 hnd hlt
      walk_at "ab"
      refine p_setD (kPr (pa, pb)) (dk_pr _).symm (kPr_depth _) (kPr_tup _) hW (by unfold dicT; rw [List.length_map, LIM_eq]; omega) ?_
      rw [put_dicT kPr (fun _ _ => kPr_inj)]
      refine ⟨⟨_, rfl⟩, hK2.set _ (.inl (by simp)), at_ne hpr2 (by omega) _, _, at_self hW _, add_nd hnd, fun x hx => ?_, fun a b => ?_⟩
      · rcases add_mem.mp hx with hx | hx
        · exact hlt x hx
        · rw [hx]; exact ⟨z3 pa hmem.1, z3 pb hmem.2.1⟩
      · rw [add_mem, hWm a b, List.take_add_one, hpr, List.mem_append]
        simp [or_assoc]
    · rintro env s2 ⟨⟨c, rfl⟩, hK2, hpr2, W, hW, hnd, hlt, hWm⟩
      refine ⟨⟨_, _, _, rfl⟩, hK2, W, hW, hnd, hlt, fun a b => ?_⟩
      rw [hWm a b, List.length_map, List.take_length, hpm a b, pairs_sorted z1 z2 a b, List.take_add_one, hpc]
      constructor
      · rintro (⟨x, x1, x2⟩ | h)
        · exact ⟨x, by simp [x1], x2⟩
        · exact ⟨pc, by simp, h⟩
      · rintro ⟨x, x1, x2⟩
        rcases List.mem_append.mp x1 with x1 | x1
        · exact .inl ⟨x, x1, x2⟩
        · simp at x1; rw [x1] at x2; exact .inr x2
  · rintro env s ⟨⟨a, b, c, rfl⟩, hK, W, hW, hnd, hlt, hWm⟩
    walk_at "ab"
    rw [List.length_map, List.take_length] at hWm
    have hWl := pr64 hnd hlt
    have hKs : Kp [] st s := ((hK0.le (T := [st.length]) (by simp)).trans hK).le fun k hk hl => by simp at hk; omega
    refine p_sortA dPr (.pr .int .int) (xs := W) (.inr (.inl ⟨_, false, _, rfl, hW, (dicT_keys kPr dPr dk_pr W).symm⟩)) (by rw [LIM_eq]; omega) rfl (by decide) ty_pr fun zs hz => ?_
    refine p_tupL (at_new _ _) ?_
    exact q _ zs (hKs.app _) ⟨fun a b => by rw [hz.mem_iff, hWm a b, good a b], hz.symm.nodup hnd, fun x hx => hlt x (hz.mem_iff.mp hx)⟩
end Ab

set_option Elab.async false
set_option linter.all false
set_option maxRecDepth 100000
set_option maxHeartbeats 2000000
/-! Dealings that grow. -/
namespace Ab
open PySem

/-- how many hands are in use -/
def hu (t : List Nat) : Nat := t.foldl (fun a x => max a (x + 1)) 0
theorem hu_snoc (t : List Nat) (h : Nat) : hu (t ++ [h]) = max (hu t) (h + 1) := by unfold hu; rw [List.foldl_append]; rfl
theorem fold_ge (t : List Nat) : ∀ a, a ≤ t.foldl (fun a x => max a (x + 1)) a := by
  induction t with
  | nil => intro a; exact Nat.le_refl _
  | cons x xs ih => intro a; exact Nat.le_trans (Nat.le_max_left _ _) (ih _)
theorem hu_app (t e : List Nat) : hu t ≤ hu (t ++ e) := by
  unfold hu
  rw [List.foldl_append]
  exact fold_ge e _
theorem lt_hu {t : List Nat} {x : Nat} (h : x ∈ t) : x < hu t := by
  obtain ⟨A, B, rfl⟩ := List.append_of_mem h
  have h1 := hu_app (A ++ [x]) B
  rw [hu_snoc] at h1
  rw [show A ++ x :: B = A ++ [x] ++ B by simp]
  omega
theorem hu_le {t : List Nat} {m : Nat} (h : ∀ x ∈ t, x < m) : hu t ≤ m := by
  unfold hu
  have : ∀ a, a ≤ m → t.foldl (fun a x => max a (x + 1)) a ≤ m := by
    induction t with
    | nil => exact fun a h => h
    | cons x xs ih => exact fun a ha => ih (fun y hy => h y (by simp [hy])) _ (Nat.max_le.mpr ⟨ha, h x (by simp)⟩)
  exact this 0 (Nat.zero_le _)
/-- the next row may be dealt this hand -/
def okAt (W : List Pr) (t : List Nat) (h : Nat) : Bool := !(List.range t.length).any fun r => decide ((r, t.length) ∈ W) && decide (t[r]? = some h)
/-- no pair shares a hand -/
def proper (W : List Pr) : Nat → List Nat → Bool
  | 0, _ => true
  | n + 1, t => proper W n t && okAt W (t.take n) (t.getD n 0)
def valid (W : List Pr) (m : Nat) (t : List Nat) : Bool := proper W t.length t && decide (hu t ≤ m)
def growFrom : Nat → List Nat → List (List Nat)
  | 0, t => [t]
  | n + 1, t => (List.range (hu t + 1)).flatMap fun h => growFrom n (t ++ [h])
def dealF (W : List Pr) (m : Nat) : Nat → List Nat → Option (List Nat)
  | 0, t => some t
  | n + 1, t => (List.range (min m (hu t + 1))).findSome? fun h => if okAt W t h then dealF W m n (t ++ [h]) else none
theorem proper_ext (W : List Pr) (t : List Nat) : ∀ (n : Nat) (e : List Nat), n ≤ t.length → proper W n (t ++ e) = proper W n t
  | 0, _, _ => rfl
  | n + 1, e, h => by
    unfold proper
    rw [proper_ext W t n e (by omega), List.take_append_of_le_length (by omega)]
    congr 2
    simp [List.getD, List.getElem?_append_left (show n < t.length by omega)]
theorem proper_snoc (W : List Pr) (t : List Nat) (h : Nat) : proper W (t ++ [h]).length (t ++ [h]) = (proper W t.length t && okAt W t h) := by
  rw [List.length_append, List.length_singleton]
  show (proper W t.length (t ++ [h]) && okAt W ((t ++ [h]).take t.length) ((t ++ [h]).getD t.length 0)) = _
  rw [proper_ext W t t.length [h] (Nat.le_refl _)]
  simp
theorem proper_pre {W : List Pr} {t e : List Nat} (h : proper W (t ++ e).length (t ++ e) = true) : proper W t.length t = true := by
  induction e generalizing t with
  | nil => simpa using h
  | cons x xs ih =>
    have h1 : proper W (t ++ [x]).length (t ++ [x]) = true := ih (by simpa using h)
    rw [proper_snoc, Bool.and_eq_true] at h1
    exact h1.1
theorem valid_pre {W : List Pr} {m : Nat} {t e : List Nat} (h : valid W m (t ++ e) = true) : valid W m t = true := by
  unfold valid at *
  rw [Bool.and_eq_true, decide_eq_true_eq] at *
  exact ⟨proper_pre h.1, Nat.le_trans (hu_app t e) h.2⟩
theorem grow_pre : ∀ (n : Nat) (t g : List Nat), g ∈ growFrom n t → ∃ e, g = t ++ e ∧ e.length = n
  | 0, t, g, h => by simp [growFrom] at h; exact ⟨[], by simp [h]⟩
  | n + 1, t, g, h => by
    unfold growFrom at h
    obtain ⟨x, _, hx⟩ := List.mem_flatMap.mp h
    obtain ⟨e, h1, h2⟩ := grow_pre n _ g hx
    exact ⟨x :: e, by rw [h1]; simp, by simp [h2]⟩
theorem find_flat {α β : Type} (p : β → Bool) (f : α → List β) : ∀ xs : List α, (xs.flatMap f).find? p = xs.findSome? fun x => (f x).find? p
  | [] => rfl
  | x :: xs => by
    rw [List.flatMap_cons, List.find?_append, List.findSome?_cons, find_flat p f xs]
    cases (f x).find? p <;> rfl
theorem deal_eq (W : List Pr) (m : Nat) : ∀ (n : Nat) (t : List Nat), valid W m t = true → dealF W m n t = (growFrom n t).find? (valid W m)
  | 0, t, h => by simp [dealF, growFrom, h]
  | n + 1, t, h => by
    unfold dealF growFrom
    rw [find_flat]
    have hm : hu t ≤ m := by
      unfold valid at h
      rw [Bool.and_eq_true, decide_eq_true_eq] at h
      exact h.2
    have hp : proper W t.length t = true := by
      unfold valid at h
      rw [Bool.and_eq_true] at h
      exact h.1
    have key : ∀ x, (if x < m then (if okAt W t x then dealF W m n (t ++ [x]) else none) else none) = (growFrom n (t ++ [x])).find? (valid W m) := by
      intro x
      by_cases hv : valid W m (t ++ [x]) = true
      · have hv' := hv
        unfold valid at hv'
        rw [Bool.and_eq_true, decide_eq_true_eq, proper_snoc, Bool.and_eq_true, hu_snoc] at hv'
        rw [if_pos (by omega), if_pos hv'.1.2, deal_eq W m n _ hv]
      · have hnone : (growFrom n (t ++ [x])).find? (valid W m) = none := by
          rw [List.find?_eq_none]
          intro g hg hgv
          obtain ⟨e, rfl, _⟩ := grow_pre n _ g hg
          exact hv (valid_pre hgv)
        rw [hnone]
        by_cases hx : x < m
        · rw [if_pos hx]
          rw [if_neg]
          intro hok
          apply hv
          unfold valid
          rw [Bool.and_eq_true, decide_eq_true_eq, proper_snoc, Bool.and_eq_true, hu_snoc]
          exact ⟨⟨hp, hok⟩, by omega⟩
        · rw [if_neg hx]
    have e1 : ∀ (k : Nat), (List.range (min m k)).findSome? (fun h => if okAt W t h then dealF W m n (t ++ [h]) else none) = (List.range k).findSome? fun x => (growFrom n (t ++ [x])).find? (valid W m) := by
      intro k
      induction k with
      | zero => simp
      | succ k ih =>
        rw [List.range_succ (n := k), List.findSome?_append, ← ih]
        by_cases hk : k < m
        · rw [show min m (k + 1) = min m k + 1 by omega, List.range_succ, List.findSome?_append, show min m k = k by omega]
          congr 1
          simp only [List.findSome?_cons, List.findSome?_nil]
          rw [← key k, if_pos hk]
        · rw [show min m (k + 1) = min m k by omega]
          have := key k
          rw [if_neg hk] at this
          simp only [List.findSome?_cons, List.findSome?_nil, ← this]
          simp
    exact e1 _
end Ab

set_option Elab.async false
set_option linter.all false
set_option maxRecDepth 100000
set_option maxHeartbeats 4000000
/-! dealt_on, hues. -/
namespace Ab
open PySem
local macro_rules | `(tactic| walk_at "ab") => `(tactic| simp (config := { failIfUnchanged := false }) only [runDef, List.map_cons, List.map_nil, List.length_cons, List.length_nil, Nat.zero_add, Nat.reduceAdd, Nat.reduceSub, Nat.sub_self, List.replicate_zero, List.replicate_succ, List.nil_append, List.append_nil, List.cons_append, aSeq, aNext, aAsg, aPar, agNm, agTup, agSub, aUpd, aFld, aSetF, aExp, aIf, aRet, aRetN, aBrk, aCnt, aO1, aO2, aVar, aC, aTup, aLst, alNil, alCons, aCall, aDNew, atB, atYes, atAnd, atOr, atNot, aAndV, aOrV, aNotV, aIfE, aChain, aM1, bindP, wipeE,
  List.getElem?_cons_zero, List.getElem?_cons_succ, List.set_cons_zero, List.set_cons_succ, List.getElem?_nil, e_add, e_sub, e_neg, e_cmp, e_eqI, e_eqS, e_neI, e_isN, e_isNotN, e_ixT, e_lenT, e_int, e_abs, e_max2, e_min2, e_tupT, e_isiI, e_isiB, e_isiS, e_isiT, atI0, atI1, atI2, e_br_t, e_br_f, e_blx, e_intx, e_somex, e_somey, e_pair, e_two, Bool.not_true, Bool.not_false, true_and, and_true, Nat.reduceLeDiff, Nat.le_refl, decide_true, decide_false, c_0, c_1, c_2, c_3, c_4, c_5, c_6, c_7, c_8, c_9, Int.reduceEq, Int.reduceLT, Int.reduceLE, s_look_say, s_look_stop, s_look_end, s_say_look, s_say_stop, s_say_end, s_stop_look, s_stop_say, s_stop_end, s_end_look, s_end_say, s_end_stop])

def optD : Option (List Nat) → D
  | none => .non
  | some g => .tup (g.map dN)
theorem p_maxT {st : Store} {Q : DK} {t : List Nat} (q : Q (.int ((hu t : Int) - 1)) st) : pMax (.tup (t.map dN ++ [.int (-1)])) st Q := by
  refine ⟨(t.map fun (e : Nat) => (e : Int)) ++ [-1], by rw [List.map_append, ← dN_map]; rfl, by simp, fun m hm hall => ?_⟩
  have h1 : hu t ≤ (m + 1).toNat := hu_le fun x hx => by
    have := hall (x : Int) (by rw [List.mem_append]; exact .inl (List.mem_map_of_mem (f := fun (e : Nat) => (e : Int)) hx))
    omega
  have h2 : -1 ≤ m := hall (-1) (by simp)
  have e : m = (hu t : Int) - 1 := by
    rcases List.mem_append.mp hm with hm | hm
    · obtain ⟨x, hx, rfl⟩ := List.mem_map.mp hm
      have := lt_hu hx
      omega
    · simp at hm
      subst hm
      have : hu t = 0 := by omega
      omega
  rw [← e] at q
  exact q
theorem mem_kPr {p : Pr} {xs : List Pr} : kPr p ∈ xs.map kPr ↔ p ∈ xs := by
  constructor
  · intro h
    obtain ⟨q, hq, e⟩ := List.mem_map.mp h
    rw [← kPr_inj e]
    exact hq
  · exact fun h => List.mem_map_of_mem h
theorem kPr_depth7 (p : Pr) : (kPr p).depth ≤ 7 := by simp [kPr, NestedKey.depth, NestedKey.depthAll]
theorem p_inW {st : Store} {Q : DK} {W : List Pr} {a b : Nat} (q : Q (.bl (decide ((a, b) ∈ W))) st) : pIn (.tup [dN a, dN b]) (.tup (W.map dPr)) st Q := by
  refine p_inT (kPr (a, b)) (W.map kPr) (dk_pr (a, b)).symm (by rw [List.map_map]; exact congrArg D.tup (List.map_congr_left fun p _ => (dk_pr p).symm)) (kPr_depth7 _) (fun k hk => ?_) ?_
  · obtain ⟨p, _, rfl⟩ := List.mem_map.mp hk
    exact kPr_depth7 p
  · rw [show decide (kPr (a, b) ∈ W.map kPr) = decide ((a, b) ∈ W) from decide_eq_decide.mpr mem_kPr]
    exact q
def sDealt (k : Nat) : ASp := fun ds st Q => ∃ (W : List Pr) (many most : Nat) (t : List Nat), ds = [dN many, .tup (W.map dPr), .tup (t.map dN), dN most] ∧ t.length + k = many ∧ many ≤ 8 ∧ most ≤ 8 ∧ ∀ st', Kp [] st st' → Q (optD (dealF W most k t)) st'
def spNo : ASp := fun _ _ _ => False
def sDealtPre : Nat → ASp
  | 0 => spNo
  | k + 1 => sDealt k
theorem k_dealt_on (k : Nat) (ds : List D) (st : Store) (Q : DK) (h : sDealt k ds st Q) : runDef 7 (b_dealt_on (sDealtPre k)) ds st Q := by
  obtain ⟨W, many, most, t, rfl, hl, h8, hm8, q⟩ := h
  unfold b_dealt_on
  walk_at "ab"
  rw [List.length_map]
  refine br_d (fun h => ?_) (fun h => ?_)
  · have : k = 0 := by omega
    subst this
    exact q st (Kp.refl _ _)
  · obtain ⟨k, rfl⟩ : ∃ j, k = j + 1 := ⟨k - 1, by omega⟩
    unfold aFor sRng1
    walk_at "ab"
    refine p_addT (by simp; rw [LIM_eq]; omega) ?_
    refine p_maxT ?_
    walk_at "ab"
    have hhu : ∀ z, z = (if ((hu t : Int) - 1 + 2) < (most : Int) then ((hu t : Int) - 1 + 2) else (most : Int)) → z = ((min most (hu t + 1) : Nat) : Int) := fun z hz => by
      rw [hz]
      split <;> omega
    refine ⟨_, rfl, ?_⟩
    rw [hhu _ rfl]
    refine ⟨by omega, by omega, ?_⟩
    refine ⟨fun i env s => (∃ a b c, env = [some (dN many), some (.tup (W.map dPr)), some (.tup (t.map dN)), some (dN most), a, b, c]) ∧ Kp [] st s ∧ (List.range i).findSome? (fun h => if okAt W t h then dealF W most k (t ++ [h]) else none) = none, ⟨⟨none, none, none, rfl⟩, Kp.refl _ _, rfl⟩, fun _ _ _ _ => trivial, ?_, ?_⟩
    · rintro i x env s hx ⟨⟨a, b, c, rfl⟩, hK, hn⟩
      unfold rng at hx
      obtain ⟨i', hi, rfl⟩ := Option.map_eq_some_iff.mp ((List.getElem?_map ..).symm.trans hx)
      obtain ⟨hi1, hi2⟩ := List.getElem?_eq_some_iff.mp hi
      rw [List.getElem_range] at hi2
      subst hi2
      rw [List.length_range] at hi1
      rw [Int.zero_add]
      have hnx : (okAt W t i = true → dealF W most k (t ++ [i]) = none) → (List.range (i + 1)).findSome? (fun h => if okAt W t h then dealF W most k (t ++ [h]) else none) = none := fun h => by
        rw [List.range_succ, List.findSome?_append, hn]
        simp
        exact h
      unfold aLc
      walk_at "ab"
      refine ⟨_, rfl, by rw [List.length_map]; omega, by rw [List.length_map]; omega, ?_⟩
      rw [List.length_map, Int.toNat_natCast]
      refine lc_map (zs := List.range t.length) (fun r => .int (0 + (r : Int))) (fun r => .bl (decide ((r, t.length) ∈ W) && decide (t[r]? = some i))) trivial (by simp; rw [LIM_eq]; omega) (fun r hr Qe hq => ?_) ?_
      · have hr' := List.mem_range.mp hr
        walk_at "ab"
        rw [Int.zero_add, List.length_map]
        refine p_inW ?_
        walk_at "ab"
        have hg : t[r]? = some t[r] := List.getElem?_eq_getElem hr'
        refine br_d (fun h1 => ?_) fun h1 => ?_
        · refine ⟨_, atNs hg, ?_⟩
          walk_at "ab"
          rw [decide_eq_true h1, Bool.true_and, hg] at hq
          have : decide ((t[r] : Int) = (i : Int)) = decide (some t[r] = some i) := decide_eq_decide.mpr ⟨fun h => by rw [show t[r] = i by omega], fun h => by rw [Option.some.inj h]⟩
          rw [this]
          exact hq
        · rw [decide_eq_false h1, Bool.false_and] at hq
          exact hq
      · refine p_any ((List.range t.length).map fun r => decide ((r, t.length) ∈ W) && decide (t[r]? = some i)) (by rw [at_new, List.map_map]; rfl) ?_
        have hany : ((List.range t.length).map fun r => decide ((r, t.length) ∈ W) && decide (t[r]? = some i)).any id = !okAt W t i := by
          unfold okAt
          rw [List.any_map, Bool.not_not]
          rfl
        rw [hany]
        walk_at "ab"
        rw [Bool.not_not]
        cases hok : okAt W t i with
        | false =>
          walk_at "ab"
          exact ⟨⟨_, _, _, rfl⟩, hK.app _, hnx (fun h => by rw [hok] at h; cases h)⟩
        | true =>
          walk_at "ab"
          refine p_addT (by simp; rw [LIM_eq]; omega) ?_
          refine ⟨W, many, most, t ++ [i], by simp, by simp; omega, h8, hm8, fun s2 hK2 => ?_⟩
          walk_at "ab"
          cases hd : dealF W most k (t ++ [i]) with
          | none =>
            simp only [optD, isNon]
            walk_at "ab"
            exact ⟨⟨_, _, _, rfl⟩, (hK.app _).trans hK2, hnx (fun _ => hd)⟩
          | some g =>
            simp only [optD, isNon]
            walk_at "ab"
            have e1 : dealF W most (k + 1) t = some g := by
              unfold dealF
              rw [show min most (hu t + 1) = (i + 1) + (min most (hu t + 1) - (i + 1)) by omega, List.range_add, List.findSome?_append, List.range_succ, List.findSome?_append, hn]
              simp [hok, hd]
            rw [e1] at q
            exact q s2 ((hK.app _).trans hK2)
    · rintro env s ⟨⟨a, b, c, rfl⟩, hK, hn⟩
      walk_at "ab"
      have : dealF W most (k + 1) t = none := by
        rw [show (({ xs := rng 0 (((min most (hu t + 1) : Nat) : Int)).toNat, chk := fun _ => True } : Itm).xs).length = min most (hu t + 1) by simp [rng]] at hn
        exact hn
      rw [this] at q
      exact q s hK
end Ab

set_option Elab.async false
set_option linter.all false
set_option maxRecDepth 100000
set_option maxHeartbeats 4000000
/-! hues and what rests on it. -/
namespace Ab
open PySem
local macro_rules | `(tactic| walk_at "ab") => `(tactic| simp (config := { failIfUnchanged := false }) only [runDef, List.map_cons, List.map_nil, List.length_cons, List.length_nil, Nat.zero_add, Nat.reduceAdd, Nat.reduceSub, Nat.sub_self, List.replicate_zero, List.replicate_succ, List.nil_append, List.append_nil, List.cons_append, aSeq, aNext, aAsg, aPar, agNm, agTup, agSub, aUpd, aFld, aSetF, aExp, aIf, aRet, aRetN, aBrk, aCnt, aO1, aO2, aVar, aC, aTup, aLst, alNil, alCons, aCall, aDNew, atB, atYes, atAnd, atOr, atNot, aAndV, aOrV, aNotV, aIfE, aChain, aM1, bindP, wipeE,
  List.getElem?_cons_zero, List.getElem?_cons_succ, List.set_cons_zero, List.set_cons_succ, List.getElem?_nil, e_add, e_sub, e_neg, e_cmp, e_eqI, e_eqS, e_neI, e_isN, e_isNotN, e_ixT, e_lenT, e_int, e_abs, e_max2, e_min2, e_tupT, e_isiI, e_isiB, e_isiS, e_isiT, atI0, atI1, atI2, e_br_t, e_br_f, e_blx, e_intx, e_somex, e_somey, e_pair, e_two, Bool.not_true, Bool.not_false, true_and, and_true, Nat.reduceLeDiff, Nat.le_refl, decide_true, decide_false, c_0, c_1, c_2, c_3, c_4, c_5, c_6, c_7, c_8, c_9, Int.reduceEq, Int.reduceLT, Int.reduceLE, s_look_say, s_look_stop, s_look_end, s_say_look, s_say_stop, s_say_end, s_stop_look, s_stop_say, s_stop_end, s_end_look, s_end_say, s_end_stop])

theorem hu_range : ∀ k, hu (List.range k) = k
  | 0 => rfl
  | k + 1 => by rw [List.range_succ, hu_snoc, hu_range k]; omega
theorem proper_range (W : List Pr) : ∀ k, proper W k (List.range k) = true
  | 0 => rfl
  | k + 1 => by
    have h1 := proper_snoc W (List.range k) k
    rw [← List.range_succ, List.length_range, List.length_range, proper_range W k, Bool.true_and] at h1
    rw [h1]
    unfold okAt
    rw [Bool.not_eq_true', List.any_eq_false]
    intro r hr
    have hr' : r < k := by simpa using hr
    simp [List.getElem?_range hr']
    intro _ h
    omega
theorem range_grow : ∀ n k, List.range (k + n) ∈ growFrom n (List.range k)
  | 0, k => by simp [growFrom]
  | n + 1, k => by
    unfold growFrom
    rw [List.mem_flatMap]
    refine ⟨k, by rw [hu_range]; simp, ?_⟩
    rw [← List.range_succ, show k + (n + 1) = (k + 1) + n by omega]
    exact range_grow n (k + 1)
theorem valid_nil (W : List Pr) (m : Nat) : valid W m [] = true := by simp [valid, proper, hu]
theorem deal_some (W : List Pr) (n : Nat) : dealF W n n [] ≠ none := by
  rw [deal_eq W n n [] (valid_nil W n)]
  intro h
  rw [List.find?_eq_none] at h
  refine h (List.range n) (by simpa using range_grow n 0) ?_
  unfold valid
  rw [List.length_range, proper_range, hu_range]
  simp
/-- the fewest hands, and the first dealing with them -/
structure Best (W : List Pr) (n χ : Nat) (g : List Nat) : Prop where
  pos : 1 ≤ χ
  le : χ ≤ n
  some : dealF W χ n [] = some g
  none : ∀ m, 1 ≤ m → m < χ → dealF W m n [] = none
theorem Best.uniq {W : List Pr} {n χ χ' : Nat} {g g' : List Nat} (h : Best W n χ g) (k : Best W n χ' g') : χ = χ' ∧ g = g' := by
  have e : χ = χ' := by
    rcases Nat.lt_trichotomy χ χ' with z | z | z
    · have := k.none χ h.pos z
      rw [h.some] at this; cases this
    · exact z
    · have := h.none χ' k.pos z
      rw [k.some] at this; cases this
  subst e
  have := h.some.symm.trans k.some
  exact ⟨rfl, Option.some.inj this⟩
def sHues : ASp := fun ds st Q => ∃ (W : List Pr) (n : Nat), ds = [dN n, .tup (W.map dPr)] ∧ 1 ≤ n ∧ n ≤ 8 ∧ ∀ st' χ (g : List Nat), Kp [] st st' → Best W n χ g → Q (.tup [dN χ, .tup (g.map dN)]) st'
def sDealtAny : ASp := fun ds st Q => ∃ k, k ≤ 8 ∧ sDealt k ds st Q
theorem k_hues (ds : List D) (st : Store) (Q : DK) (h : sHues ds st Q) : runDef 4 (b_hues sDealtAny) ds st Q := by
  obtain ⟨W, n, rfl, h1, h8, q⟩ := h
  unfold b_hues
  walk_at "ab"
  unfold aFor sRng2
  walk_at "ab"
  refine ⟨_, _, rfl, by omega, ?_⟩
  refine ⟨fun i env s => (∃ a b, env = [some (dN n), some (.tup (W.map dPr)), a, b]) ∧ Kp [] st s ∧ ∀ m, 1 ≤ m → m < i + 1 → dealF W m n [] = none, ⟨⟨none, none, rfl⟩, Kp.refl _ _, fun m h1 h2 => by omega⟩, fun _ _ _ _ => trivial, ?_, ?_⟩
  · rintro i x env s hx ⟨⟨a, b, rfl⟩, hK, hn⟩
    unfold rng at hx
    obtain ⟨i', hi, rfl⟩ := Option.map_eq_some_iff.mp ((List.getElem?_map ..).symm.trans hx)
    obtain ⟨hi1, hi2⟩ := List.getElem?_eq_some_iff.mp hi
    rw [List.getElem_range] at hi2
    subst hi2
    rw [List.length_range] at hi1
    have ei : (1 + ((i : Nat) : Int)) = ((i + 1 : Nat) : Int) := by omega
    rw [ei]
    walk_at "ab"
    refine ⟨n, h8, W, n, i + 1, [], by simp, by simp, h8, by omega, fun s2 hK2 => ?_⟩
    cases hd : dealF W (i + 1) n [] with
    | none =>
      simp only [optD, isNon]
      walk_at "ab"
      refine ⟨⟨_, _, rfl⟩, hK.trans hK2, fun m h2 h3 => ?_⟩
      by_cases e : m = i + 1
      · rw [e]; exact hd
      · exact hn m h2 (by omega)
    | some g =>
      simp only [optD, isNon]
      walk_at "ab"
      exact q s2 (i + 1) g (hK.trans hK2) ⟨by omega, by omega, hd, hn⟩
  · rintro env s ⟨_, _, hn⟩
    have : (({ xs := rng 1 (((n : Int) + 1) - 1).toNat, chk := fun _ => True } : Itm).xs).length = n := by simp [rng]
    rw [this] at hn
    exact deal_some W n (hn n h1 (by omega))
/-- a plan with its web -/
def sFewest (cs : List Nat) (i : Nat) : ASp := fun ds st Q => ∃ (o C rows L : Nat) (tab : List Tm) (n : Nat) (ks : List Ph) (f : Ph → Nat), ds = [.ref o] ∧ C ∈ cs ∧ OkTab rows L tab ∧ IsPlan st o C rows L tab n ks f ∧
  ∀ st' (W : List Pr) χ (g : List Nat), Kp [] st st' → IsWeb L tab W → Best W rows χ g → Q (if i = 0 then dN χ else .tup (g.map dN)) st'
theorem k_fewest {cP cR : Nat} (ds : List D) (st : Store) (Q : DK) (h : sFewest [cP, cR] 0 ds st Q) : runDef 1 (b_fewest_hands cP cR sHues (sWeb [cP, cR])) ds st Q := by
  obtain ⟨o, C, rows, L, tab, n, ks, f, rfl, hC, hT, hp, q⟩ := h
  unfold b_fewest_hands
  walk_at "ab"
  refine ⟨o, C, _, _, rfl, hp.at_, hC, look_rows, o, C, rows, L, tab, n, ks, f, rfl, hC, hT, hp, fun st1 W hK1 hW => ?_⟩
  refine ⟨W, rows, rfl, hT.r1, hT.r64, fun st2 χ g hK2 hB => ?_⟩
  refine p_ixT (xs := [dN χ, .tup (g.map dN)]) atI0 ?_
  exact q st2 W χ g (hK1.trans hK2) hW hB
theorem k_least {cP cR : Nat} (ds : List D) (st : Store) (Q : DK) (h : sFewest [cP, cR] 1 ds st Q) : runDef 1 (b_least_dealing cP cR sHues (sWeb [cP, cR])) ds st Q := by
  obtain ⟨o, C, rows, L, tab, n, ks, f, rfl, hC, hT, hp, q⟩ := h
  unfold b_least_dealing
  walk_at "ab"
  refine ⟨o, C, _, _, rfl, hp.at_, hC, look_rows, o, C, rows, L, tab, n, ks, f, rfl, hC, hT, hp, fun st1 W hK1 hW => ?_⟩
  refine ⟨W, rows, rfl, hT.r1, hT.r64, fun st2 χ g hK2 hB => ?_⟩
  refine p_ixT (xs := [dN χ, .tup (g.map dN)]) atI1 ?_
  exact q st2 W χ g (hK1.trans hK2) hW hB
end Ab

set_option Elab.async false
set_option linter.all false
set_option maxRecDepth 100000
set_option maxHeartbeats 4000000
/-! is_dealing, is_free. -/
namespace Ab
open PySem
local macro_rules | `(tactic| walk_at "ab") => `(tactic| simp (config := { failIfUnchanged := false }) only [runDef, List.map_cons, List.map_nil, List.length_cons, List.length_nil, Nat.zero_add, Nat.reduceAdd, Nat.reduceSub, Nat.sub_self, List.replicate_zero, List.replicate_succ, List.nil_append, List.append_nil, List.cons_append, aSeq, aNext, aAsg, aPar, agNm, agTup, agSub, aUpd, aFld, aSetF, aExp, aIf, aRet, aRetN, aBrk, aCnt, aO1, aO2, aVar, aC, aTup, aLst, alNil, alCons, aCall, aDNew, atB, atYes, atAnd, atOr, atNot, aAndV, aOrV, aNotV, aIfE, aChain, aM1, bindP, wipeE,
  List.getElem?_cons_zero, List.getElem?_cons_succ, List.set_cons_zero, List.set_cons_succ, List.getElem?_nil, e_add, e_sub, e_neg, e_cmp, e_eqI, e_eqS, e_neI, e_isN, e_isNotN, e_ixT, e_lenT, e_int, e_abs, e_max2, e_min2, e_tupT, e_isiI, e_isiB, e_isiS, e_isiT, atI0, atI1, atI2, e_br_t, e_br_f, e_blx, e_intx, e_somex, e_somey, e_pair, e_two, Bool.not_true, Bool.not_false, true_and, and_true, Nat.reduceLeDiff, Nat.le_refl, decide_true, decide_false, c_0, c_1, c_2, c_3, c_4, c_5, c_6, c_7, c_8, c_9, Int.reduceEq, Int.reduceLT, Int.reduceLE, s_look_say, s_look_stop, s_look_end, s_say_look, s_say_stop, s_say_end, s_stop_look, s_stop_say, s_stop_end, s_end_look, s_end_say, s_end_stop])

theorem p_maxG {st : Store} {Q : DK} {t : List Nat} (h0 : 0 < t.length) (q : Q (.int ((hu t : Int) - 1)) st) : pMax (.tup (t.map dN)) st Q := by
  refine ⟨t.map fun (e : Nat) => (e : Int), by rw [← dN_map], by simpa using h0, fun m hm hall => ?_⟩
  obtain ⟨x, hx, rfl⟩ := List.mem_map.mp hm
  have h1 : hu t ≤ x + 1 := hu_le fun y hy => by
    have := hall (y : Int) (List.mem_map_of_mem (f := fun (e : Nat) => (e : Int)) hy)
    omega
  have h2 := lt_hu hx
  have e : (x : Int) = (hu t : Int) - 1 := by omega
  rw [← e] at q
  exact q
theorem grow_full : ∀ (n : Nat) (t g : List Nat), (∀ h, h < hu t → h ∈ t) → g ∈ growFrom n t → ∀ h, h < hu g → h ∈ g
  | 0, t, g, ht, hg => by simp [growFrom] at hg; rw [hg]; exact ht
  | n + 1, t, g, ht, hg => by
    unfold growFrom at hg
    obtain ⟨x, hx, hx2⟩ := List.mem_flatMap.mp hg
    have hx' := List.mem_range.mp hx
    refine grow_full n (t ++ [x]) g (fun h hh => ?_) hx2
    rw [hu_snoc] at hh
    by_cases e : h < hu t
    · exact List.mem_append.mpr (.inl (ht h e))
    · exact List.mem_append.mpr (.inr (by simp; omega))
theorem Best.facts {W : List Pr} {n χ : Nat} {g : List Nat} (h : Best W n χ g) : g.length = n ∧ proper W n g = true ∧ hu g ≤ χ ∧ ∀ x, x < hu g → x ∈ g := by
  have h1 := h.some
  rw [deal_eq W χ n [] (valid_nil W χ)] at h1
  have h2 := List.mem_of_find?_eq_some h1
  have h3 := List.find?_some h1
  obtain ⟨e, h4, h5⟩ := grow_pre n [] g h2
  have hl : g.length = n := by rw [h4]; simpa using h5
  unfold valid at h3
  rw [Bool.and_eq_true, decide_eq_true_eq, hl] at h3
  exact ⟨hl, h3.1, h3.2, grow_full n [] g (by simp [hu]) h2⟩
theorem proper_spec {W : List Pr} {g : List Nat} : ∀ {n : Nat}, proper W n g = true → n ≤ g.length → ∀ a b, (a, b) ∈ W → a < b → b < n → g[a]? ≠ g[b]?
  | n + 1, h, hl, a, b, hW, hab, hb => by
    unfold proper at h
    rw [Bool.and_eq_true] at h
    by_cases e : b = n
    · subst e
      have h2 := h.2
      unfold okAt at h2
      rw [Bool.not_eq_true', List.any_eq_false] at h2
      have hlt : (g.take b).length = b := by simp; omega
      have h3 := h2 a (by rw [hlt]; exact List.mem_range.mpr hab)
      rw [hlt] at h3
      have hgb : g[b]? = some (g.getD b 0) := by simp [List.getD, List.getElem?_eq_getElem (show b < g.length by omega)]
      rw [hgb]
      intro h4
      apply h3
      rw [List.getElem?_take_of_lt hab, h4]
      simp [hW]
    · exact proper_spec h.1 (by omega) a b hW hab (by omega)
def sIsDealing : ASp := fun ds st Q => ∃ (n : Nat) (g : List Nat), ds = [dN n, .tup (g.map dN)] ∧ g.length = n ∧ 1 ≤ n ∧ n ≤ 8 ∧ (∀ x ∈ g, x < n) ∧ (∀ x, x < hu g → x ∈ g) ∧ ∀ st', Kp [] st st' → Q (.bl true) st'
theorem k_is_dealing (ds : List D) (st : Store) (Q : DK) (h : sIsDealing ds st Q) : runDef 3 (b_is_dealing sIsWithin) ds st Q := by
  obtain ⟨n, g, rfl, hl, h1, h8, hx, hf, q⟩ := h
  unfold b_is_dealing
  walk_at "ab"
  rw [List.length_map, hl]
  walk_at "ab"
  refine .inl ?_
  unfold aLc sItems
  walk_at "ab"
  refine .inl ⟨_, rfl, ?_⟩
  refine lc_map (zs := g) dN (fun _ => .bl true) trivial (by rw [LIM_eq]; omega) (fun z hz Qe hq => ?_) ?_
  · walk_at "ab"
    have := hx z hz
    exact ⟨_, _, _, rfl, by omega, by omega, hq⟩
  · refine p_all (g.map fun _ => true) (by rw [at_new, List.map_map]; rfl) ?_
    rw [show (g.map fun _ => true).all id = true by simp]
    walk_at "ab"
    unfold sRng1
    walk_at "ab"
    refine p_maxG (by omega) ?_
    refine ⟨_, rfl, by omega, ?_, ?_⟩
    · have : hu g ≤ n := hu_le hx
      omega
    rw [show ((hu g : Int) - 1).toNat = hu g - 1 by omega]
    have hg8 : hu g ≤ n := hu_le hx
    refine lc_map (zs := List.range (hu g - 1)) (fun (r : Nat) => .int (0 + (r : Int))) (fun _ => .bl true) trivial (by rw [LIM_eq]; simp; omega) (fun z hz Qe hq => ?_) ?_
    · walk_at "ab"
      rw [Int.zero_add]
      have hzm := hf z (by have := List.mem_range.mp hz; omega)
      refine p_inT (kN z) (g.map kN) (by simp [dk]) (by rw [mapN]) (by simp [NestedKey.depth]) depN ?_
      rw [decide_eq_true (memN.mpr hzm)]
      exact hq
    · refine p_all ((List.range (hu g - 1)).map fun _ => true) (by rw [at_new, List.map_map]; rfl) ?_
      rw [show ((List.range (hu g - 1)).map fun _ => true).all id = true by simp]
      exact q _ (((Kp.refl _ _).app _).app _)
theorem web_row {rows L : Nat} {tab : List Tm} {a b : Nat} (hT : OkTab rows L tab) (h : WebP L tab a b) : a < b ∧ b < rows := by
  obtain ⟨hab, p, q, hp, hq, _, _, s, s1, ⟨k, s2⟩, _, s4⟩ := h
  obtain ⟨r, ns, h1, _, _⟩ := ch_look s1 s2
  have h2 := hT.it _ (List.mem_of_getElem? h1)
  unfold rowOf at s4
  rw [h1] at s4
  exact ⟨hab, by rw [← s4]; exact h2.1⟩
def sIsFree (cs : List Nat) : ASp := fun ds st Q => ∃ (o C rows L : Nat) (tab : List Tm) (n : Nat) (ks : List Ph) (f : Ph → Nat) (W : List Pr) (χ : Nat) (g : List Nat), ds = [.ref o, .tup (g.map dN)] ∧ C ∈ cs ∧ OkTab rows L tab ∧ IsPlan st o C rows L tab n ks f ∧ IsWeb L tab W ∧ Best W rows χ g ∧ ∀ st', Kp [] st st' → Q (.bl true) st'
theorem k_is_free {cP cR : Nat} (ds : List D) (st : Store) (Q : DK) (h : sIsFree [cP, cR] ds st Q) : runDef 4 (b_is_free cP cR (sWeb [cP, cR]) sIsDealing) ds st Q := by
  obtain ⟨o, C, rows, L, tab, n, ks, f, W, χ, g, rfl, hC, hT, hp, hW, hB, q⟩ := h
  obtain ⟨f1, f2, f3, f4⟩ := hB.facts
  have hx : ∀ x ∈ g, x < rows := fun x hx => by
    have := lt_hu hx
    have := hB.le
    omega
  unfold b_is_free
  walk_at "ab"
  refine ⟨o, C, _, _, rfl, hp.at_, hC, look_rows, rows, g, rfl, f1, hT.r1, hT.r64, hx, f4, fun st1 hK1 => ?_⟩
  walk_at "ab"
  refine .inl ?_
  unfold aLc sItems
  walk_at "ab"
  refine ⟨o, C, rows, L, tab, n, ks, f, rfl, hC, hT, hp.mono hK1, fun st2 W2 hK2 hW2 => ?_⟩
  refine .inl ⟨_, rfl, ?_⟩
  have hl := pr64 hW2.nd hW2.lt
  refine lc_map2 (zs := W2) (fun p => dN p.1) (fun p => dN p.2) (fun _ => .bl true) trivial (by rw [LIM_eq]; omega) (fun z hz Qe hq => ?_) ?_
  · obtain ⟨a, b⟩ := z
    have hwp := (hW2.mem a b).mp hz
    obtain ⟨r1, r2⟩ := web_row hT hwp
    have hne := proper_spec f2 (by omega) a b ((hW.mem a b).mpr hwp) r1 r2
    have ga : g[a]? = some g[a] := List.getElem?_eq_getElem (by omega)
    have gb : g[b]? = some g[b] := List.getElem?_eq_getElem (by omega)
    walk_at "ab"
    refine ⟨_, atNs ga, _, atNs gb, ?_⟩
    walk_at "ab"
    rw [ga, gb] at hne
    rw [decide_eq_false (fun h => hne (by rw [show g[a] = g[b] by omega]))]
    exact hq
  · refine p_all (W2.map fun _ => true) (by rw [at_new, List.map_map]; rfl) ?_
    rw [show (W2.map fun _ => true).all id = true by simp]
    exact q _ ((hK1.trans hK2).app _)
end Ab

set_option Elab.async false
set_option linter.all false
set_option maxRecDepth 100000
set_option maxHeartbeats 4000000
/-! The law's steps and phases. -/
namespace Ab
open PySem
local macro_rules | `(tactic| walk_at "ab") => `(tactic| simp (config := { failIfUnchanged := false }) only [runDef, List.map_cons, List.map_nil, List.length_cons, List.length_nil, Nat.zero_add, Nat.reduceAdd, Nat.reduceSub, Nat.sub_self, List.replicate_zero, List.replicate_succ, List.nil_append, List.append_nil, List.cons_append, aSeq, aNext, aAsg, aPar, agNm, agTup, agSub, aUpd, aFld, aSetF, aExp, aIf, aRet, aRetN, aBrk, aCnt, aO1, aO2, aVar, aC, aTup, aLst, alNil, alCons, aCall, aDNew, atB, atYes, atAnd, atOr, atNot, aAndV, aOrV, aNotV, aIfE, aChain, aM1, bindP, wipeE,
  List.getElem?_cons_zero, List.getElem?_cons_succ, List.set_cons_zero, List.set_cons_succ, List.getElem?_nil, e_add, e_sub, e_neg, e_cmp, e_eqI, e_eqS, e_neI, e_isN, e_isNotN, e_ixT, e_lenT, e_int, e_abs, e_max2, e_min2, e_tupT, e_isiI, e_isiB, e_isiS, e_isiT, atI0, atI1, atI2, e_br_t, e_br_f, e_blx, e_intx, e_somex, e_somey, e_pair, e_two, Bool.not_true, Bool.not_false, true_and, and_true, Nat.reduceLeDiff, Nat.le_refl, decide_true, decide_false, c_0, c_1, c_2, c_3, c_4, c_5, c_6, c_7, c_8, c_9, Int.reduceEq, Int.reduceLT, Int.reduceLE, s_look_say, s_look_stop, s_look_end, s_say_look, s_say_stop, s_say_end, s_stop_look, s_stop_say, s_stop_end, s_end_look, s_end_say, s_end_stop])

theorem p_ixA {st : Store} {Q : DK} {x : D} {xs : List D} {i : Int} {v : D} (hx : items st x xs) (h : atI xs i = some v) (q : Q v st) : pIx x (.int i) st Q := by
  rcases hx with rfl | ⟨n, rfl, hn⟩
  · exact p_ixT h q
  · exact p_ixL hn h q
theorem items.mono {st st' : Store} {x : D} {xs : List D} {S : List Nat} (h : items st x xs) (k : Kp S st st') (hs : ∀ n, x = .ref n → n ∉ S) : items st' x xs := by
  rcases h with rfl | ⟨n, rfl, hn⟩
  · exact .inl rfl
  · exact .inr ⟨n, rfl, k.at hn (hs n rfl)⟩
def sLawSteps : ASp := fun ds st Q => ∃ (rows L : Nat) (tab : List Tm) (tb : D) (p : Ph), ds = [dN L, tb, dPh p] ∧ items st tb (tab.map dTm) ∧ OkTab rows L tab ∧ OkPh rows tab p ∧
  ∀ st' n, Kp [] st st' → st.length ≤ n → st'[n]? = some (.lst (dSteps L tab p)) → Q (.ref n) st'
theorem k_law_steps (ds : List D) (st : Store) (Q : DK) (h : sLawSteps ds st Q) : runDef 6 b_law_steps ds st Q := by
  obtain ⟨rows, L, tab, tb, ⟨s, E⟩, rfl, hI, hT, hp, q⟩ := h
  have hlt : s < tab.length := hp.lt
  have hE : E.length ≤ rows := hp.len
  have hr64 := hT.r64
  have hL3 := hT.L3
  obtain ⟨t, ht⟩ : ∃ t, tab[s]? = some t := ⟨_, List.getElem?_eq_getElem hlt⟩
  have hok := hT.it t (List.mem_of_getElem? ht)
  unfold b_law_steps dPh
  walk_at "ab"
  refine p_ixA hI (atTab ht) ?_
  cases t with
  | stop =>
    have e : dSteps L tab (s, E) = [] := by unfold dSteps steps; rw [ht]; rfl
    rw [e] at q
    unfold dTm
    walk_at "ab"
    exact q _ _ ((Kp.refl _ _).app _) (Nat.le_refl _) (at_new _ _)
  | say wd j =>
    have e : dSteps L tab (s, E) = [.tup [.non, dPh (j, E)]] := by unfold dSteps steps; rw [ht]; rfl
    rw [e] at q
    unfold dTm
    walk_at "ab"
    exact q _ _ ((Kp.refl _ _).app _) (Nat.le_refl _) (at_new _ _)
  | look r ns =>
    obtain ⟨h1, h2, h3⟩ := hok
    have hne : ns ≠ [] := by intro z; rw [z] at h2; simp at h2
    unfold dTm
    walk_at "ab"
    refine p_inT (kN r) (E.map kN) (by simp [dk]) (by rw [mapN]) (by simp [NestedKey.depth]) depN ?_
    walk_at "ab"
    refine br_d (fun hr => ?_) fun hr => ?_
    · have e : dSteps L tab (s, E) = [.tup [.non, dPh (lastN ns, E)]] := by unfold dSteps steps; rw [ht]; simp only [if_pos (memN.mp hr)]; rfl
      rw [e] at q
      refine ⟨_, lastD hne, ?_⟩
      walk_at "ab"
      exact q _ _ ((Kp.refl _ _).app _) (Nat.le_refl _) (at_new _ _)
    · have hr' : r ∉ E := fun z => hr (memN.mpr z)
      have e : dSteps L tab (s, E) = (List.range L).map (fun k => dStp (.ch k, (ns.getD k 0, E))) ++ [.tup [.str "end", dPh (lastN ns, ins r E)]] := by
        unfold dSteps steps; rw [ht]; simp only [if_neg hr', List.map_append, List.map_map]; rfl
      unfold aFor sRng1
      walk_at "ab"
      refine ⟨_, rfl, by omega, by omega, ?_⟩
      refine ⟨fun i env s' => (∃ a, env = [some (dN L), some tb, some (.tup [dN s, .tup (E.map dN)]), some (.tup [.str "look", dN r, .tup (ns.map dN)]), some (.ref st.length), a]) ∧ Kp [] st s' ∧ s'[st.length]? = some (.lst ((List.range i).map fun k => dStp (.ch k, (ns.getD k 0, E)))),
        ⟨⟨none, rfl⟩, (Kp.refl _ _).app _, by rw [at_new]; rfl⟩, fun _ _ _ _ => trivial, ?_, ?_⟩
      · rintro i x env s' hx ⟨⟨a, rfl⟩, hK, hf⟩
        unfold rng at hx
        obtain ⟨i', hi, rfl⟩ := Option.map_eq_some_iff.mp ((List.getElem?_map ..).symm.trans hx)
        obtain ⟨hi1, hi2⟩ := List.getElem?_eq_some_iff.mp hi
        rw [List.getElem_range] at hi2
        subst hi2
        rw [List.length_range] at hi1
        have hi3 : i < L := by omega
        have hns : ns[i]? = some (ns.getD i 0) := by simp [List.getD, List.getElem?_eq_getElem (show i < ns.length by omega)]
        rw [Int.zero_add]
        walk_at "ab"
        refine ⟨⟨_, _, rfl, hf⟩, p_ixS (c := 97 + i) (by decide) ?_ ?_⟩
        · have : i = 0 ∨ i = 1 ∨ i = 2 := by omega
          rcases this with rfl | rfl | rfl <;> decide
        · walk_at "ab"
          refine ⟨_, atNs hns, ?_⟩
          walk_at "ab"
          refine p_app hf (by simp; rw [LIM_eq]; omega) ?_
          refine ⟨⟨_, rfl⟩, hK.set _ (.inr (Nat.le_refl _)), ?_⟩
          rw [at_self hf, List.range_succ, List.map_append]
          rfl
      · rintro env s' ⟨⟨a, rfl⟩, hK, hf⟩
        have hl : (({ xs := rng 0 (L : Int).toNat, chk := fun _ => True } : Itm).xs).length = L := by simp [rng]
        rw [hl] at hf
        walk_at "ab"
        refine ⟨_, lastD hne, ?_⟩
        walk_at "ab"
        refine p_addT (by simp; rw [LIM_eq]; omega) ?_
        rw [show E.map dN ++ [dN r] = (E ++ [r]).map dN by simp]
        refine p_sortN (.inl (.inl rfl)) (by rw [LIM_eq]; simp; omega) (ins_perm r E) (ins_sorted hp.le) ?_
        refine p_tupL (at_new _ _) ?_
        walk_at "ab"
        refine p_addL (at_app (at_app hf _) _) (at_new _ _) (by simp; rw [LIM_eq]; omega) ?_
        rw [e] at q
        refine q _ _ (((hK.app _).app _).app _) ?_ ?_
        · have := hK.1; simp; omega
        · rw [at_new]
          rfl
end Ab

set_option Elab.async false
set_option linter.all false
set_option maxRecDepth 100000
set_option maxHeartbeats 4000000
/-! The law's phases. -/
namespace Ab
open PySem
local macro_rules | `(tactic| walk_at "ab") => `(tactic| simp (config := { failIfUnchanged := false }) only [runDef, List.map_cons, List.map_nil, List.length_cons, List.length_nil, Nat.zero_add, Nat.reduceAdd, Nat.reduceSub, Nat.sub_self, List.replicate_zero, List.replicate_succ, List.nil_append, List.append_nil, List.cons_append, aSeq, aNext, aAsg, aPar, agNm, agTup, agSub, aUpd, aFld, aSetF, aExp, aIf, aRet, aRetN, aBrk, aCnt, aO1, aO2, aVar, aC, aTup, aLst, alNil, alCons, aCall, aDNew, atB, atYes, atAnd, atOr, atNot, aAndV, aOrV, aNotV, aIfE, aChain, aM1, bindP, wipeE,
  List.getElem?_cons_zero, List.getElem?_cons_succ, List.set_cons_zero, List.set_cons_succ, List.getElem?_nil, e_add, e_sub, e_neg, e_cmp, e_eqI, e_eqS, e_neI, e_isN, e_isNotN, e_ixT, e_lenT, e_int, e_abs, e_max2, e_min2, e_tupT, e_isiI, e_isiB, e_isiS, e_isiT, atI0, atI1, atI2, e_br_t, e_br_f, e_blx, e_intx, e_somex, e_somey, e_pair, e_two, Bool.not_true, Bool.not_false, true_and, and_true, Nat.reduceLeDiff, Nat.le_refl, decide_true, decide_false, c_0, c_1, c_2, c_3, c_4, c_5, c_6, c_7, c_8, c_9, Int.reduceEq, Int.reduceLT, Int.reduceLE, s_look_say, s_look_stop, s_look_end, s_say_look, s_say_stop, s_say_end, s_stop_look, s_stop_say, s_stop_end, s_end_look, s_end_say, s_end_stop])

def sLawPhases : ASp := fun ds st Q => ∃ (rows L : Nat) (tab : List Tm) (tb : D), ds = [dN L, tb] ∧ items st tb (tab.map dTm) ∧ OkTab rows L tab ∧ L ≤ 2 ∧ tab.length * 2 ^ rows ≤ 640 ∧
  ∀ st' n ks f, Kp [] st st' → st.length ≤ n → Kept st' n L tab ks f → st'[n]? = some (.dt false (dic ks fun p => .ref (f p))) → Q (.ref n) st'
theorem k_law_phases (ds : List D) (st : Store) (Q : DK) (h : sLawPhases ds st Q) : runDef 9 (b_law_phases sLawSteps) ds st Q := by
  obtain ⟨rows, L, tab, tb, rfl, hI, hT, hL2, hsz, q⟩ := h
  unfold b_law_phases
  walk_at "ab"
  refine .inl ?_
  walk_at "ab"
  have el : (st ++ [.dt false []] : Store).length = st.length + 1 := by simp
  rw [el]
  unfold aFor sRng1
  walk_at "ab"
  refine ⟨_, rfl, by omega, by omega, ?_⟩
  refine ⟨fun i env s => (∃ at' a b c d, env = [some (dN L), some tb, some (.ref st.length), some (.ref (st.length + 1)), some (dN at'), a, b, c, d] ∧ ∃ ks ws f, Kp [] st s ∧ s[st.length]? = some (.dt false (dic ks fun p => .ref (f p))) ∧ s[st.length + 1]? = some (.lst (ws.map dPh)) ∧ (∀ p ∈ ks, st.length + 1 < f p ∧ s[f p]? = some (.lst (dSteps L tab p))) ∧ ks.Nodup ∧
    (∀ p ∈ ks, Rc L tab p) ∧ (∀ p ∈ ws, Rc L tab p) ∧ (∀ p ∈ ks, ∀ s ∈ steps L tab p, s.2 ∈ ws) ∧ (0, []) ∈ ws ∧ ws.length ≤ 1 + 3 * ks.length ∧ at' ≤ ws.length ∧ (∀ j p, j < at' → ws[j]? = some p → p ∈ ks) ∧ (at' = i ∨ at' = ws.length)),
    ⟨0, none, none, none, none, by simp, [], [(0, [])], fun _ => 0, ((Kp.refl _ _).app _).app _, at_app (at_new _ _) _, by simp [dPh], by simp, .nil, by simp, by simpa using Rc.first, by simp, by simp, by simp, by simp, by omega, .inl rfl⟩, fun _ _ _ _ => trivial, ?_, ?_⟩
  · rintro i x env s hx ⟨at', a, b, c, d, rfl, ks, ws, f, hK, hd, hw, hs, nd, hrk, hrw, hcl, h0, hb, hat, hdone, hprog⟩
    have hks : ks.length ≤ 640 := Nat.le_trans (ks_len nd fun p hp => (hrk p hp).ok hT) hsz
    walk_at "ab"
    refine p_lenL hw ?_
    walk_at "ab"
    rw [List.length_map]
    refine br_d (fun hlt => ?_) fun hlt => ?_
    · have hlt' : at' < ws.length := by omega
      have hai : at' = i := hprog.resolve_right (by omega)
      have hwp : ws[at']? = some ws[at'] := List.getElem?_eq_getElem hlt'
      generalize ws[at'] = p at hwp
      have hp : Rc L tab p := hrw p (List.mem_of_getElem? hwp)
      refine p_ixL hw (atI_nat (by rw [List.getElem?_map, hwp]; rfl)) ?_
      walk_at "ab"
      have e1 : ((at' : Int) + 1) = ((at' + 1 : Nat) : Int) := by omega
      rw [e1]
      refine p_ninD (kPh p) (dk_ph p).symm (kPh_depth p) (kPh_tup p) hd ?_
      rw [val_dic]
      by_cases hin : p ∈ ks
      · rw [if_pos hin]
        simp only [Option.isSome_some]
        walk_at "ab"
        refine ⟨at' + 1, _, _, _, _, rfl, ks, ws, f, hK, hd, hw, hs, nd, hrk, hrw, hcl, h0, hb, hlt', fun j r hj hr => ?_, .inl (by omega)⟩
        by_cases e : j = at'
        · subst e; rw [hwp] at hr; cases hr; exact hin
        · exact hdone j r (by omega) hr
      · rw [if_neg hin]
        simp only [Option.isSome_none]
        walk_at "ab"
        have hIs : items s tb (tab.map dTm) := hI.mono hK fun _ _ => by simp
        refine ⟨rows, L, tab, tb, p, rfl, hIs, hT, hp.ok hT, fun st2 n hK2 hn hn2 => ?_⟩
        have hd2 := hK2.at hd (by simp)
        have hw2 := hK2.at hw (by simp)
        have hst0 := at_lt hw
        have hKs2 := hK.trans hK2
        have hs2 : ∀ r ∈ ks, st.length + 1 < f r ∧ st2[f r]? = some (.lst (dSteps L tab r)) := fun r hr => ⟨(hs r hr).1, hK2.at (hs r hr).2 (by simp)⟩
        walk_at "ab"
        refine p_setD (kPh p) (dk_ph p).symm (kPh_depth p) (kPh_tup p) hd2 (by rw [dic_len, LIM_eq]; omega) ?_
        rw [put_dic, if_neg hin]
        have hd3 := at_self hd2 (.dt false (dic (ks ++ [p]) (fset (fun p => .ref (f p)) p (.ref n))))
        have hw3 := at_ne hw2 (show st.length ≠ st.length + 1 by omega) (.dt false (dic (ks ++ [p]) (fset (fun p => .ref (f p)) p (.ref n))))
        have hn3 := at_ne hn2 (show st.length ≠ n by omega) (.dt false (dic (ks ++ [p]) (fset (fun p => .ref (f p)) p (.ref n))))
        have hs3 : ∀ r ∈ ks, st.length + 1 < f r ∧ (st2.set st.length (.dt false (dic (ks ++ [p]) (fset (fun p => .ref (f p)) p (.ref n)))))[f r]? = some (.lst (dSteps L tab r)) := fun r hr => ⟨(hs2 r hr).1, at_ne (hs2 r hr).2 (by have := (hs2 r hr).1; omega) _⟩
        have hK3 := hKs2.set (n := st.length) (.dt false (dic (ks ++ [p]) (fset (fun p => .ref (f p)) p (.ref n)))) (.inr (Nat.le_refl _))
        generalize st2.set st.length (.dt false (dic (ks ++ [p]) (fset (fun p => .ref (f p)) p (.ref n)))) = s3 at *
        walk_at "ab"
        refine .inl ?_
        unfold aFor sItems
        walk_at "ab"
        have hv : val (dic (ks ++ [p]) (fset (fun p => D.ref (f p)) p (D.ref n))) (kPh p) = some (.ref n) := by rw [val_dic]; simp [fset]
        refine p_ixD (kPh p) (dk_ph p).symm (kPh_depth p) (kPh_tup p) hd3 hv ?_
        refine .inr (.inl ⟨n, _, rfl, hn3, ?_⟩)
        have hsl := steps_len L tab p
        have nd' : (ks ++ [p]).Nodup := nd_snoc nd hin
        have ed : dic (ks ++ [p]) (fun r => D.ref (fset f p n r)) = dic (ks ++ [p]) (fset (fun p => D.ref (f p)) p (D.ref n)) := dic_congr fun r _ => by
          unfold fset; split <;> rfl
        refine ⟨fun j env s4 => (∃ c d, env = [some (dN L), some tb, some (.ref st.length), some (.ref (st.length + 1)), some (dN (at' + 1)), some x, some (dPh p), c, d]) ∧ Kp [] st s4 ∧ s4[st.length]? = some (.dt false (dic (ks ++ [p]) fun r => .ref (fset f p n r))) ∧ s4[st.length + 1]? = some (.lst ((ws ++ ((steps L tab p).take j).map (·.2)).map dPh)) ∧ s4[n]? = some (.lst (dSteps L tab p)) ∧ ∀ r ∈ ks, s4[f r]? = some (.lst (dSteps L tab r)),
          ⟨⟨_, _, rfl⟩, hK3, by rw [ed]; exact hd3, by simpa using hw3, hn3, fun r hr => (hs3 r hr).2⟩, ?_, ?_, ?_⟩
        · rintro j env s4 ⟨_, _, _, _, h, _⟩
          exact h
        · rintro j y env s4 hy ⟨⟨c', d', rfl⟩, hK4, hd4, hw4, hn4, hs4⟩
          obtain ⟨sp, hsp, rfl⟩ := Option.map_eq_some_iff.mp ((List.getElem?_map ..).symm.trans hy)
          have hj := (List.getElem?_eq_some_iff.mp hsp).1
          unfold dStp
          walk_at "ab"
          refine ⟨⟨_, _, rfl, hw4⟩, p_app hw4 (by simp; rw [LIM_eq]; omega) ?_⟩
          refine ⟨⟨_, _, rfl⟩, hK4.set _ (.inr (by omega)), at_ne hd4 (by omega) _, ?_, at_ne hn4 (by omega) _, fun r hr => at_ne (hs4 r hr) (by have := (hs3 r hr).1; omega) _⟩
          rw [at_self hw4, List.take_add_one, hsp]
          simp
        · rintro env s4 ⟨⟨c', d', rfl⟩, hK4, hd4, hw4, hn4, hs4⟩
          rw [List.length_map, List.take_length] at hw4
          refine ⟨at' + 1, _, _, _, _, rfl, ks ++ [p], ws ++ (steps L tab p).map (·.2), fset f p n, hK4, hd4, hw4, fun r hr => ?_, nd', fun r hr => ?_, fun r hr => ?_, fun r hr s hs' => ?_, by simp [h0], by simp; omega, by simp; omega, fun j r hj hr => ?_, .inl (by omega)⟩
          · by_cases e : r = p
            · subst e
              rw [show fset f r n r = n by simp [fset]]
              exact ⟨by omega, hn4⟩
            · have hr' : r ∈ ks := by
                rcases List.mem_append.mp hr with hr | hr
                · exact hr
                · simp at hr; exact absurd hr e
              rw [show fset f p n r = f r by simp [fset, e]]
              exact ⟨(hs3 r hr').1, hs4 r hr'⟩
          · rcases List.mem_append.mp hr with hr | hr
            · exact hrk r hr
            · simp at hr; rw [hr]; exact hp
          · rcases List.mem_append.mp hr with hr | hr
            · exact hrw r hr
            · obtain ⟨s, hs', rfl⟩ := List.mem_map.mp hr
              exact .step hp hs'
          · rcases List.mem_append.mp hr with hr | hr
            · exact List.mem_append.mpr (.inl (hcl r hr s hs'))
            · simp at hr
              subst hr
              exact List.mem_append.mpr (.inr (List.mem_map_of_mem hs'))
          · by_cases e : j = at'
            · subst e
              rw [List.getElem?_append_left hlt', hwp] at hr
              cases hr
              simp
            · rw [List.getElem?_append_left (by omega)] at hr
              exact List.mem_append.mpr (.inl (hdone j r (by omega) hr))
    · have hae : at' = ws.length := by omega
      exact ⟨at', _, _, _, _, rfl, ks, ws, f, hK, hd, hw, hs, nd, hrk, hrw, hcl, h0, hb, hat, hdone, .inr hae⟩
  · rintro env s ⟨at', a, b, c, d, rfl, ks, ws, f, hK, hd, hw, hs, nd, hrk, hrw, hcl, h0, hb, hat, hdone, hprog⟩
    have hks : ks.length ≤ 640 := Nat.le_trans (ks_len nd fun p hp => (hrk p hp).ok hT) hsz
    have h4 : (({ xs := rng 0 (4000 : Int).toNat, chk := fun _ => True } : Itm).xs).length = 4000 := by simp [rng]
    rw [h4] at hprog
    have hae : at' = ws.length := by omega
    have hall : ∀ p ∈ ws, p ∈ ks := fun p hp => by
      obtain ⟨j, hj⟩ := List.getElem?_of_mem hp
      exact hdone j p (by rw [hae]; exact (List.getElem?_eq_some_iff.mp hj).1) hj
    walk_at "ab"
    exact q s _ ks f hK (Nat.le_refl _) ⟨⟨_, hd⟩, fun p hp => (hs p hp).2, nd, closed hrk (hall _ h0) fun p hp s hs => hall _ (hcl p hp s hs)⟩ hd
end Ab

set_option Elab.async false
set_option linter.all false
set_option maxRecDepth 100000
set_option maxHeartbeats 2000000
/-! Rings of single steps are short. -/
namespace Ab
open PySem

/-- k single steps -/
inductive Ch (L : Nat) (tab : List Tm) : Nat → Ph → Ph → Prop
  | zero (a : Ph) : Ch L tab 0 a a
  | succ {k : Nat} {a b c : Ph} : Ch L tab k a b → Nx L tab b c → Ch L tab (k + 1) a c
section
variable {L : Nat} {tab : List Tm}
theorem Nx.det {a b c : Ph} (h : Nx L tab a b) (k : Nx L tab a c) : b = c := by
  unfold Nx at h k
  rw [h] at k
  simpa using k
theorem Ch.det : ∀ {k : Nat} {a b c : Ph}, Ch L tab k a b → Ch L tab k a c → b = c
  | 0, _, _, _, .zero _, .zero _ => rfl
  | k + 1, _, _, _, .succ h1 h2, .succ k1 k2 => by
    have e := Ch.det h1 k1
    subst e
    exact h2.det k2
theorem Ch.add {a b : Ph} {j : Nat} (h : Ch L tab j a b) : ∀ {k : Nat} {c : Ph}, Ch L tab k b c → Ch L tab (j + k) a c
  | 0, _, .zero _ => h
  | k + 1, _, .succ h1 h2 => .succ (Ch.add h h1) h2
theorem Ch.split : ∀ {k j : Nat} {a c : Ph}, Ch L tab (j + k) a c → ∃ b, Ch L tab j a b ∧ Ch L tab k b c
  | 0, j, a, c, h => ⟨c, h, .zero c⟩
  | k + 1, j, a, c, .succ h1 h2 => by
    obtain ⟨b, h3, h4⟩ := Ch.split h1
    exact ⟨b, h3, .succ h4 h2⟩
theorem tc_ch {a b : Ph} (h : Tc (Nx L tab) a b) : ∃ k, Ch L tab (k + 1) a b := by
  induction h with
  | one h => exact ⟨0, .succ (.zero _) h⟩
  | tail _ h ih =>
    obtain ⟨k, hk⟩ := ih
    exact ⟨k + 1, .succ hk h⟩
theorem Ch.rc {k : Nat} {a b : Ph} (h : Ch L tab k a b) (ha : Rc L tab a) : Rc L tab b := by
  induction h with
  | zero => exact ha
  | @succ k a b c _ h ih => exact .step (s := (.no, c)) (ih ha) (by rw [show steps L tab b = [(.no, c)] from h]; simp)
/-- the shortest ring through a is no longer than the phases are many -/
theorem ring_short {ks : List Ph} (hk : ∀ p, p ∈ ks ↔ Rc L tab p) {a : Ph} (ha : Rc L tab a) (h : Tc (Nx L tab) a a) : ∃ k, 1 ≤ k ∧ k ≤ ks.length ∧ Ch L tab k a a := by
  obtain ⟨k0, hk0⟩ := tc_ch h
  have least : ∀ n, (∃ k, 1 ≤ k ∧ k ≤ n ∧ Ch L tab k a a) → ∃ k, 1 ≤ k ∧ Ch L tab k a a ∧ ∀ j, 1 ≤ j → j < k → ¬ Ch L tab j a a := by
    intro n
    induction n with
    | zero => rintro ⟨k, h1, h2, _⟩; omega
    | succ n ih =>
      rintro ⟨k, h1, h2, h3⟩
      by_cases hs : ∃ j, 1 ≤ j ∧ j ≤ n ∧ Ch L tab j a a
      · exact ih hs
      · exact ⟨k, h1, h3, fun j j1 j2 j3 => hs ⟨j, j1, by omega, j3⟩⟩
  obtain ⟨k, h1, h2, h3⟩ := least (k0 + 1) ⟨k0 + 1, by omega, Nat.le_refl _, hk0⟩
  refine ⟨k, h1, ?_, h2⟩
  -- the places of the ring
  have pl : ∀ i, i ≤ k → ∃ b, Ch L tab i a b ∧ Ch L tab (k - i) b a := fun i hi => by
    have : Ch L tab (i + (k - i)) a a := by rw [show i + (k - i) = k by omega]; exact h2
    exact Ch.split this
  have go : ∀ n, n ≤ k → ∃ xs : List Ph, xs.length = n ∧ xs.Nodup ∧ ∀ x ∈ xs, ∃ i, i < n ∧ Ch L tab i a x := by
    intro n
    induction n with
    | zero => exact fun _ => ⟨[], rfl, .nil, by simp⟩
    | succ n ih =>
      intro hn
      obtain ⟨xs, x1, x2, x3⟩ := ih (by omega)
      obtain ⟨b, b1, b2⟩ := pl n (by omega)
      refine ⟨xs ++ [b], by simp [x1], nd_snoc x2 fun hb => ?_, fun x hx => ?_⟩
      · obtain ⟨i, i1, i2⟩ := x3 b hb
        exact h3 (i + (k - n)) (by omega) (by omega) (Ch.add i2 b2)
      · rcases List.mem_append.mp hx with hx | hx
        · obtain ⟨i, i1, i2⟩ := x3 x hx
          exact ⟨i, by omega, i2⟩
        · simp at hx; rw [hx]; exact ⟨n, by omega, b1⟩
  obtain ⟨xs, x1, x2, x3⟩ := go k (Nat.le_refl _)
  rw [← x1]
  exact x2.length_le_of_subset fun x hx => by
    obtain ⟨i, _, hi⟩ := x3 x hx
    exact (hk x).mpr (hi.rc ha)
end
end Ab

set_option Elab.async false
set_option linter.all false
set_option maxRecDepth 100000
set_option maxHeartbeats 4000000
/-! _law_is_idle. -/
namespace Ab
open PySem
local macro_rules | `(tactic| walk_at "ab") => `(tactic| simp (config := { failIfUnchanged := false }) only [runDef, List.map_cons, List.map_nil, List.length_cons, List.length_nil, Nat.zero_add, Nat.reduceAdd, Nat.reduceSub, Nat.sub_self, List.replicate_zero, List.replicate_succ, List.nil_append, List.append_nil, List.cons_append, aSeq, aNext, aAsg, aPar, agNm, agTup, agSub, aUpd, aFld, aSetF, aExp, aIf, aRet, aRetN, aBrk, aCnt, aO1, aO2, aVar, aC, aTup, aLst, alNil, alCons, aCall, aDNew, atB, atYes, atAnd, atOr, atNot, aAndV, aOrV, aNotV, aIfE, aChain, aM1, bindP, wipeE,
  List.getElem?_cons_zero, List.getElem?_cons_succ, List.set_cons_zero, List.set_cons_succ, List.getElem?_nil, e_add, e_sub, e_neg, e_cmp, e_eqI, e_eqS, e_neI, e_isN, e_isNotN, e_ixT, e_lenT, e_int, e_abs, e_max2, e_min2, e_tupT, e_isiI, e_isiB, e_isiS, e_isiT, atI0, atI1, atI2, e_br_t, e_br_f, e_blx, e_intx, e_somex, e_somey, e_pair, e_two, Bool.not_true, Bool.not_false, true_and, and_true, Nat.reduceLeDiff, Nat.le_refl, decide_true, decide_false, c_0, c_1, c_2, c_3, c_4, c_5, c_6, c_7, c_8, c_9, Int.reduceEq, Int.reduceLT, Int.reduceLE, s_look_say, s_look_stop, s_look_end, s_say_look, s_say_stop, s_say_end, s_stop_look, s_stop_say, s_stop_end, s_end_look, s_end_say, s_end_stop])

theorem keysOk_nums : ∀ E : List Nat, keysOk (E.map kN) = true
  | [] => by simp [keysOk]
  | e :: E => by simp [keysOk, keyOk, keysOk_nums E]
theorem kPh_ok (p : Ph) : keyOk (kPh p) = true := by simp [kPh, keyOk, keysOk, keysOk_nums]
theorem p_eqPh {st : Store} {Q : DK} {a b : Ph} (q : Q (.bl (decide (a = b))) st) : pEq (dPh a) (dPh b) st Q := by
  refine p_eqK (kPh a) (kPh b) (dk_ph a).symm (dk_ph b).symm (kPh_depth a) (kPh_depth b) (kPh_ok a) (kPh_ok b) ?_
  rw [show decide (kPh a = kPh b) = decide (a = b) from decide_eq_decide.mpr ⟨kPh_inj, fun h => by rw [h]⟩]
  exact q
theorem Ch.first {L : Nat} {tab : List Tm} {m : Nat} {a c : Ph} (h : Ch L tab (m + 1) a c) : ∃ b, Nx L tab a b := by
  rw [Nat.add_comm] at h
  obtain ⟨b, h1, _⟩ := Ch.split h
  cases h1 with
  | succ h2 h3 => cases h2; exact ⟨b, h3⟩
def sLawIdle : ASp := fun ds st Q => ∃ (rows L : Nat) (tab : List Tm) (n : Nat) (ks : List Ph) (f : Ph → Nat), ds = [.ref n] ∧ OkTab rows L tab ∧ Kept st n L tab ks f ∧ st[n]? = some (.dt false (dic ks fun p => .ref (f p))) ∧ ∀ b, (b = false → NoIdle L tab) → Q (.bl b) st
theorem k_law_is_idle (ds : List D) (st : Store) (Q : DK) (h : sLawIdle ds st Q) : runDef 5 b_law_is_idle ds st Q := by
  obtain ⟨rows, L, tab, n, ks, f, rfl, hT, hK, hd, q⟩ := h
  have hks := ks_len' hT hK.nd fun p hp => ((hK.rc p).mp hp).ok hT
  unfold b_law_is_idle
  walk_at "ab"
  refine .inr ⟨n, _, hd, ?_⟩
  refine ⟨_, rfl, rfl, ?_⟩
  rw [dic_keys]
  have hd1 := at_self hd (.dt true (dic ks fun p => .ref (f p)))
  have hback := set_back hd (.dt true (dic ks fun p => .ref (f p)))
  have hls : ∀ p ∈ ks, (st.set n (.dt true (dic ks fun p => .ref (f p))))[f p]? = some (.lst (dSteps L tab p)) := fun p hp => at_ne (hK.ls p hp) (fun e => by
    have := hK.ls p hp
    rw [← e, hd] at this
    cases this) _
  generalize st.set n (.dt true (dic ks fun p => .ref (f p))) = s1 at *
  refine ⟨fun i env s => (∃ a b c d, env = [some (.ref n), a, b, c, d]) ∧ s1 = s ∧ ∀ p ∈ ks.take i, ∀ k, 1 ≤ k → k ≤ ks.length → ¬ Ch L tab k p p, ⟨⟨_, _, _, _, rfl⟩, rfl, by simp⟩, fun _ _ _ _ => trivial, ?_, ?_⟩
  · rintro i x env s hx ⟨⟨a, b, c, d, rfl⟩, rfl, hdone⟩
    obtain ⟨p, hp, rfl⟩ := Option.map_eq_some_iff.mp ((List.getElem?_map ..).symm.trans hx)
    have hpk := List.mem_of_getElem? hp
    have hpr := (hK.rc p).mp hpk
    have fin : (∀ k, 1 ≤ k → k ≤ ks.length → ¬ Ch L tab k p p) → ∀ r ∈ ks.take (i + 1), ∀ k, 1 ≤ k → k ≤ ks.length → ¬ Ch L tab k r r := fun h r hr => by
      rw [List.take_add_one, hp] at hr
      rcases List.mem_append.mp hr with hr | hr
      · exact hdone r hr
      · simp at hr; rw [hr]; exact h
    walk_at "ab"
    unfold aFor sRng1
    walk_at "ab"
    refine p_lenD hd1 (by rw [dic_len, LIM_eq]; omega) ?_
    rw [dic_len]
    refine ⟨_, rfl, by omega, by omega, ?_⟩
    refine ⟨fun j env s => (∃ cur x y, env = [some (.ref n), some (dPh p), some (dPh cur), x, y] ∧ Ch L tab j p cur) ∧ s1 = s ∧ ∀ k, 1 ≤ k → k ≤ j → ¬ Ch L tab k p p, ⟨⟨p, _, _, rfl, .zero p⟩, rfl, fun k h1 h2 => by omega⟩, fun _ _ _ _ => trivial, ?_, ?_⟩
    · rintro j y env s hy ⟨⟨cur, x, y', rfl, hch⟩, rfl, hno⟩
      have hck : cur ∈ ks := (hK.rc cur).mpr (hch.rc hpr)
      have hv : val (dic ks fun p => D.ref (f p)) (kPh cur) = some (.ref (f cur)) := by rw [val_dic, if_pos hck]
      walk_at "ab"
      refine p_ixD (kPh cur) (dk_ph cur).symm (kPh_depth cur) (kPh_tup cur) hd1 hv ?_
      have hl := hls cur hck
      refine p_lenL hl ?_
      walk_at "ab"
      rw [List.length_map]
      rcases steps_cases hT cur with ⟨q', hq⟩ | hne
      · have e1 : dSteps L tab cur = [.tup [.non, dPh q']] := by unfold dSteps; rw [show steps L tab cur = [(.no, q')] from hq]; rfl
        rw [e1] at hl
        rw [show (steps L tab cur).length = 1 by rw [show steps L tab cur = [(.no, q')] from hq]; rfl]
        walk_at "ab"
        refine p_ixL hl atI0 ?_
        walk_at "ab"
        refine p_eqPh ?_
        walk_at "ab"
        refine br_d (fun h => ?_) (fun h => ?_)
        · show Q (.bl true) (s1.set n _)
          rw [hback]
          exact q true (fun h => by cases h)
        · refine ⟨⟨q', _, _, rfl, .succ hch hq⟩, fun k h1 h2 h3 => ?_⟩
          by_cases e : k = j + 1
          · subst e
            exact h ((Ch.succ hch hq).det h3)
          · exact hno k h1 (by omega) h3
      · rw [decide_eq_false (show ¬ ((steps L tab cur).length : Int) = 1 by omega)]
        walk_at "ab"
        refine ⟨⟨_, _, _, _, rfl⟩, fin fun k h1 h2 h3 => ?_⟩
        by_cases e : k ≤ j
        · exact hno k h1 e h3
        · have h4 : Ch L tab (j + ((k - j - 1) + 1)) p p := by rw [show j + ((k - j - 1) + 1) = k by omega]; exact h3
          obtain ⟨b', h5, h6⟩ := Ch.split h4
          have := hch.det h5
          subst this
          obtain ⟨z, hz⟩ := h6.first
          unfold Nx at hz
          rw [hz] at hne
          exact hne rfl
    · rintro env s ⟨⟨cur, x, y, rfl, hch⟩, rfl, hno⟩
      have hl : (({ xs := rng 0 ((ks.length : Nat) : Int).toNat, chk := fun _ => True } : Itm).xs).length = ks.length := by simp [rng]
      rw [hl] at hno
      exact ⟨⟨_, _, _, _, rfl⟩, rfl, fin hno⟩
  · rintro env s ⟨⟨a, b, c, d, rfl⟩, rfl, hdone⟩
    rw [List.length_map, List.take_length] at hdone
    show Q (.bl false) (s1.set n _)
    rw [hback]
    refine q false fun _ p hp htc => ?_
    obtain ⟨k, k1, k2, k3⟩ := ring_short hK.rc hp htc
    exact hdone p ((hK.rc p).mpr hp) k k1 k2 k3
end Ab

set_option Elab.async false
set_option linter.all false
set_option maxRecDepth 100000
set_option maxHeartbeats 4000000
/-! The pot. -/
namespace Ab
open PySem
local macro_rules | `(tactic| walk_at "ab") => `(tactic| simp (config := { failIfUnchanged := false }) only [runDef, List.map_cons, List.map_nil, List.length_cons, List.length_nil, Nat.zero_add, Nat.reduceAdd, Nat.reduceSub, Nat.sub_self, List.replicate_zero, List.replicate_succ, List.nil_append, List.append_nil, List.cons_append, aSeq, aNext, aAsg, aPar, agNm, agTup, agSub, aUpd, aFld, aSetF, aExp, aIf, aRet, aRetN, aBrk, aCnt, aO1, aO2, aVar, aC, aTup, aLst, alNil, alCons, aCall, aDNew, atB, atYes, atAnd, atOr, atNot, aAndV, aOrV, aNotV, aIfE, aChain, aM1, bindP, wipeE,
  List.getElem?_cons_zero, List.getElem?_cons_succ, List.set_cons_zero, List.set_cons_succ, List.getElem?_nil, e_add, e_sub, e_neg, e_cmp, e_eqI, e_eqS, e_neI, e_isN, e_isNotN, e_ixT, e_lenT, e_int, e_abs, e_max2, e_min2, e_tupT, e_isiI, e_isiB, e_isiS, e_isiT, atI0, atI1, atI2, e_br_t, e_br_f, e_blx, e_intx, e_somex, e_somey, e_pair, e_two, Bool.not_true, Bool.not_false, true_and, and_true, Nat.reduceLeDiff, Nat.le_refl, decide_true, decide_false, c_0, c_1, c_2, c_3, c_4, c_5, c_6, c_7, c_8, c_9, Int.reduceEq, Int.reduceLT, Int.reduceLE, s_look_say, s_look_stop, s_look_end, s_say_look, s_say_stop, s_say_end, s_stop_look, s_stop_say, s_stop_end, s_end_look, s_end_say, s_end_stop])

/-- a pot stands at p -/
structure IsPot (st : Store) (p g sm : Nat) : Prop where
  at_ : ∃ t k : Int, st[p]? = some (.lst [.ref g, .ref sm, .int t, .int k])
  gr : ∃ gs : List Int, st[g]? = some (.lst (gs.map .int))
  sm_ : ∃ ss : List Int, ss ≠ [] ∧ st[sm]? = some (.lst (ss.map .int))
  pg : p ≠ g
  ps : p ≠ sm
  gs : g ≠ sm
def sDraw : ASp := fun ds st Q => ∃ (p g sm m : Nat), ds = [.ref p, dN m] ∧ IsPot st p g sm ∧ 1 ≤ m ∧ m < 1000000 ∧ ∀ st' r, Kp [p, g] st st' → st'.length = st.length → IsPot st' p g sm → r < m → Q (dN r) st'
theorem p_mod {i j : Int} {st : Store} {Q : DK} (h : 0 < j) (q : Q (.int (i % j)) st) : pMod (.int i) (.int j) st Q := ⟨i, j, rfl, rfl, h, q⟩
theorem p_fdiv {i j : Int} {st : Store} {Q : DK} (h : 0 < j) (h2 : j < 1073741824) (q : Q (.int (i / j)) st) : pFdiv (.int i) (.int j) st Q := ⟨i, j, rfl, rfl, h, h2, q⟩
theorem p_mulR {i j : Int} {st : Store} {Q : DK} (h : -(2 ^ 64) < j ∧ j < 2 ^ 64) (q : Q (.int (i * j)) st) : pMul (.int i) (.int j) st Q := .inl ⟨i, j, rfl, rfl, .inr h, q⟩
theorem p_mulL {i j : Int} {st : Store} {Q : DK} (h : -(2 ^ 64) < i ∧ i < 2 ^ 64) (q : Q (.int (i * j)) st) : pMul (.int i) (.int j) st Q := .inl ⟨i, j, rfl, rfl, .inl h, q⟩
theorem ixN0 {n : Nat} (h : 0 < n) : ixN n 0 = some 0 := by unfold ixN; rw [if_pos (by omega), if_pos (by omega)]; rfl
theorem k_law_draw (ds : List D) (st : Store) (Q : DK) (h : sDraw ds st Q) : runDef 5 b_law_draw ds st Q := by
  obtain ⟨p, g, sm, m, rfl, hP, hm1, hm2, q⟩ := h
  obtain ⟨t, k, hp⟩ := hP.at_
  obtain ⟨gs, hg⟩ := hP.gr
  obtain ⟨ss, hs0, hs⟩ := hP.sm_
  have fin : ∀ (i : Int) (st' : Store), Kp [p, g] st st' → st'.length = st.length → IsPot st' p g sm → Q (.int (i % (m : Int))) st' := fun i st' h1 h2 h3 => by
    have h4 := Int.emod_nonneg i (show (m : Int) ≠ 0 by omega)
    have h5 := Int.emod_lt_of_pos i (show (0 : Int) < m by omega)
    have := q st' (i % (m : Int)).toNat h1 h2 h3 (by omega)
    rwa [show dN (i % (m : Int)).toNat = .int (i % (m : Int)) by simp [dN, Int.toNat_of_nonneg h4]] at this
  unfold b_law_draw
  walk_at "ab"
  refine p_ixL hp atI2 ?_
  walk_at "ab"
  refine p_setL hp (j := 2) rfl ?_
  have hp1 := at_self hp (.lst [.ref g, .ref sm, .int (t + 1), .int k])
  have hg1 := at_ne hg hP.pg (.lst [.ref g, .ref sm, .int (t + 1), .int k])
  have hs1 := at_ne hs hP.ps (.lst [.ref g, .ref sm, .int (t + 1), .int k])
  have hK1 : Kp [p, g] st (st.set p (.lst [.ref g, .ref sm, .int (t + 1), .int k])) := (Kp.refl _ _).set _ (.inl (by simp))
  have hl1 : (st.set p (.lst [.ref g, .ref sm, .int (t + 1), .int k])).length = st.length := by simp
  simp only [List.set_cons_zero, List.set_cons_succ]
  generalize st.set p (.lst [.ref g, .ref sm, .int (t + 1), .int k]) = s1 at *
  have hP1 : IsPot s1 p g sm := ⟨⟨_, _, hp1⟩, ⟨gs, hg1⟩, ⟨ss, hs0, hs1⟩, hP.pg, hP.ps, hP.gs⟩
  refine p_ixL hp1 atI0 ?_
  refine p_lenL hg1 ?_
  walk_at "ab"
  refine br_d (fun hpos => ?_) fun hpos => ?_
  · cases gs with
    | nil => simp at hpos
    | cons n0 gs =>
      refine p_ixL hp1 atI0 ?_
      refine p_ixL hg1 atI0 ?_
      refine p_fdiv (by omega) (by omega) ?_
      refine p_ixL hp1 atI0 ?_
      refine p_setL hg1 (j := 0) (ixN0 (by simp)) ?_
      have hg2 := at_self hg1 (.lst ((D.int (n0 / (m : Int))) :: gs.map .int))
      have hp2 := at_ne hp1 hP.pg.symm (.lst ((D.int (n0 / (m : Int))) :: gs.map .int))
      have hs2 := at_ne hs1 hP.gs (.lst ((D.int (n0 / (m : Int))) :: gs.map .int))
      have hK2 := hK1.set (n := g) (.lst ((D.int (n0 / (m : Int))) :: gs.map .int)) (.inl (by simp))
      have hl2 : (s1.set g (.lst ((D.int (n0 / (m : Int))) :: gs.map .int))).length = st.length := by simpa using hl1
      simp only [List.map_cons, List.set_cons_zero]
      generalize s1.set g (.lst ((D.int (n0 / (m : Int))) :: gs.map .int)) = s2 at *
      walk_at "ab"
      refine br_i (fun _ => ?_) fun _ => ?_
      · refine p_ixL hp2 atI0 ⟨⟨_, _, rfl, hg2⟩, ⟨g, gs.map .int, _, rfl, rfl, hg2, ?_⟩⟩
        walk_at "ab"
        refine p_mod (by omega) (fin _ _ (hK2.set _ (.inl (by simp))) (by simpa using hl2) ⟨⟨_, _, at_ne hp2 hP.pg.symm _⟩, ⟨gs, at_self hg2 _⟩, ⟨ss, hs0, at_ne hs2 hP.gs _⟩, hP.pg, hP.ps, hP.gs⟩)
      · refine p_mod (by omega) (fin _ _ hK2 hl2 ⟨⟨_, _, hp2⟩, ⟨(n0 / (m : Int)) :: gs, hg2⟩, ⟨ss, hs0, hs2⟩, hP.pg, hP.ps, hP.gs⟩)
  · have hsl : 0 < ss.length := List.length_pos_iff.mpr hs0
    refine p_ixL hp1 atI1 ?_
    refine p_ixL hp1 atI1 ?_
    refine p_lenL hs1 ?_
    rw [List.length_map]
    refine p_mod (by omega) ?_
    have h4 := Int.emod_nonneg t (show (ss.length : Int) ≠ 0 by omega)
    have h5 := Int.emod_lt_of_pos t (show (0 : Int) < ss.length by omega)
    have hi : (t % (ss.length : Int)).toNat < ss.length := by omega
    have hat : atI (ss.map D.int) (t % (ss.length : Int)) = some (.int ss[(t % (ss.length : Int)).toNat]) := by
      have := atI_nat (xs := ss.map D.int) (i := (t % (ss.length : Int)).toNat) (v := .int ss[(t % (ss.length : Int)).toNat]) (by rw [List.getElem?_map, List.getElem?_eq_getElem hi]; rfl)
      rwa [Int.toNat_of_nonneg h4] at this
    refine p_ixL hs1 hat ?_
    refine p_mulR (by decide) ?_
    refine p_mulL (by decide) ?_
    walk_at "ab"
    refine p_ixL hp1 (v := .int k) rfl ?_
    refine p_mulR (by decide) ?_
    walk_at "ab"
    refine p_mulR (by decide) ?_
    walk_at "ab"
    refine p_mod (by decide) ?_
    have b1 : ∀ x : Int, 0 ≤ x % 2147483647 ∧ x % 2147483647 < 2147483647 := fun x => ⟨Int.emod_nonneg x (by decide), Int.emod_lt_of_pos x (by decide)⟩
    have b2 : ∀ x : Int, 0 ≤ x % 2147483629 ∧ x % 2147483629 < 2147483629 := fun x => ⟨Int.emod_nonneg x (by decide), Int.emod_lt_of_pos x (by decide)⟩
    refine p_fdiv (by decide) (by decide) ?_
    walk_at "ab"
    refine p_mulL (by have := b1 ((ss[(t % (ss.length : Int)).toNat] * 7919 + 104729 * t + k * 31) * 48271 + 11); omega) ?_
    walk_at "ab"
    refine p_mod (by decide) ?_
    refine p_fdiv (by decide) (by decide) ?_
    walk_at "ab"
    refine p_mulL ⟨by have := b2; exact Int.lt_of_lt_of_le (by decide) (b2 _).1, Int.lt_of_lt_of_le (b2 _).2 (by decide)⟩ ?_
    walk_at "ab"
    refine p_mod (by decide) ?_
    refine p_fdiv (by decide) (by decide) ?_
    walk_at "ab"
    exact p_mod (by omega) (fin _ _ hK1 hl1 hP1)
end Ab

set_option Elab.async false
set_option linter.all false
set_option maxRecDepth 100000
set_option maxHeartbeats 4000000
/-! The pot is made. -/
namespace Ab
open PySem
local macro_rules | `(tactic| walk_at "ab") => `(tactic| simp (config := { failIfUnchanged := false }) only [runDef, List.map_cons, List.map_nil, List.length_cons, List.length_nil, Nat.zero_add, Nat.reduceAdd, Nat.reduceSub, Nat.sub_self, List.replicate_zero, List.replicate_succ, List.nil_append, List.append_nil, List.cons_append, aSeq, aNext, aAsg, aPar, agNm, agTup, agSub, aUpd, aFld, aSetF, aExp, aIf, aRet, aRetN, aBrk, aCnt, aO1, aO2, aVar, aC, aTup, aLst, alNil, alCons, aCall, aDNew, atB, atYes, atAnd, atOr, atNot, aAndV, aOrV, aNotV, aIfE, aChain, aM1, bindP, wipeE,
  List.getElem?_cons_zero, List.getElem?_cons_succ, List.set_cons_zero, List.set_cons_succ, List.getElem?_nil, e_add, e_sub, e_neg, e_cmp, e_eqI, e_eqS, e_neI, e_isN, e_isNotN, e_ixT, e_lenT, e_int, e_abs, e_max2, e_min2, e_tupT, e_isiI, e_isiB, e_isiS, e_isiT, atI0, atI1, atI2, e_br_t, e_br_f, e_blx, e_intx, e_somex, e_somey, e_pair, e_two, Bool.not_true, Bool.not_false, true_and, and_true, Nat.reduceLeDiff, Nat.le_refl, decide_true, decide_false, c_0, c_1, c_2, c_3, c_4, c_5, c_6, c_7, c_8, c_9, Int.reduceEq, Int.reduceLT, Int.reduceLE, s_look_say, s_look_stop, s_look_end, s_say_look, s_say_stop, s_say_end, s_stop_look, s_stop_say, s_stop_end, s_end_look, s_end_say, s_end_stop])

theorem p_sum {st : Store} {Q : DK} {n : Nat} {is : List Int} (h : st[n]? = some (.lst (is.map .int))) (q : Q (.int is.sum) st) : pSum (.ref n) st Q := ⟨n, is, rfl, h, q⟩
theorem p_pow {i : Int} {st : Store} {Q : DK} (h : i.natAbs < 2 ^ 64) (q : Q (.int (i ^ 18)) st) : pPow (.int i) (.int 18) st Q := ⟨i, 18, rfl, rfl, by decide, by decide, h, q⟩
def sPot : ASp := fun ds st Q => ∃ is : List Int, ds = [.fl (is.map .int)] ∧ is.length ≤ 63 ∧ ∀ st' p g sm, Kp [] st st' → st.length ≤ p → st.length ≤ g → IsPot st' p g sm → Q (.ref p) st'
theorem k_law_pot (ds : List D) (st : Store) (Q : DK) (h : sPot ds st Q) : runDef 5 b_law_pot ds st Q := by
  obtain ⟨is, rfl, hl, q⟩ := h
  unfold b_law_pot
  walk_at "ab"
  refine .inl ?_
  unfold aLc sItems aSl aoNone aoSome
  walk_at "ab"
  refine .inr (.inl ⟨_, rfl, ?_⟩)
  have hc : cut (is.map D.int) none (some 63) = is.map .int := by
    have h1 : sIx (is.map D.int).length (is.map D.int).length (some 63) = is.length := by
      show (if (63 : Int) < 0 then ((63 : Int) + ((is.map D.int).length : Int)).toNat else min (63 : Int).toNat (is.map D.int).length) = _
      rw [if_neg (by decide), List.length_map, show (63 : Int).toNat = 63 from rfl]
      omega
    have h2 : sIx (is.map D.int).length 0 none = 0 := rfl
    unfold cut
    rw [h1, h2, List.drop_zero, Nat.sub_zero, List.take_of_length_le (by simp)]
  rw [hc]
  refine .inr (.inl ⟨st.length, _, rfl, at_new _ _, ?_⟩)
  refine lc_map (zs := is) D.int D.int (at_new _ _) (by rw [LIM_eq]; omega) (fun z hz Qe hq => ?_) ?_
  · walk_at "ab"
    exact hq
  walk_at "ab"
  refine .inl ?_
  unfold aLc sItems
  walk_at "ab"
  refine .inr (.inl ⟨_, _, rfl, at_new _ _, ?_⟩)
  refine lc_filter (zs := is) D.int (fun z => .int (if z < 0 then -z else z)) (fun z => decide ((10 : Int) ^ 18 ≤ if z < 0 then -z else z)) (at_new _ _) (by rw [LIM_eq]; omega) (fun z hz Qt hq => ?_) (fun z hz _ Qe hq => ?_) ?_
  · walk_at "ab"
    refine p_pow (by decide) ?_
    walk_at "ab"
    exact hq
  · walk_at "ab"
    exact hq
  walk_at "ab"
  refine .inl ?_
  unfold aLc sItems
  walk_at "ab"
  refine .inr (.inl ⟨_, _, rfl, at_app (at_new _ _) _, ?_⟩)
  refine lc_filter (zs := is) D.int (fun z => .int (z % 1000000007)) (fun z => decide ((if z < 0 then -z else z) < (10 : Int) ^ 18)) (at_app (at_new _ _) _) (by rw [LIM_eq]; omega) (fun z hz Qt hq => ?_) (fun z hz _ Qe hq => ?_) ?_
  · walk_at "ab"
    refine p_pow (by decide) ?_
    walk_at "ab"
    exact hq
  · walk_at "ab"
    exact p_mod (by decide) hq
  refine p_lenL (at_app (at_app (at_new _ _) _) _) ?_
  walk_at "ab"
  have fl : (is.filter fun z => decide ((if z < 0 then -z else z) < (10 : Int) ^ 18)).length ≤ 63 := Nat.le_trans (List.length_filter_le _ _) hl
  refine p_addL (at_app (at_new _ _) _) (at_new _ _) (by simp only [List.length_map, List.length_cons, List.length_nil]; rw [LIM_eq]; omega) ?_
  walk_at "ab"
  refine p_sum (is := (is.filter fun z => decide ((if z < 0 then -z else z) < (10 : Int) ^ 18)).map (fun z => z % 1000000007) ++ [(is.length : Int) + 1]) (by rw [at_new, List.map_append, List.map_map, List.length_map]; rfl) ?_
  walk_at "ab"
  refine p_mod (by decide) ?_
  refine q _ _ _ _ (((((((Kp.refl _ _).app _).app _).app _).app _).app _).app _ |>.app _) (by simp) (by simp) ⟨⟨_, _, at_new _ _⟩, ⟨(is.filter fun z => decide ((10 : Int) ^ 18 ≤ if z < 0 then -z else z)).map fun z => if z < 0 then -z else z, ?_⟩, ⟨(is.filter fun z => decide ((if z < 0 then -z else z) < (10 : Int) ^ 18)).map (fun z => z % 1000000007) ++ [(is.length : Int) + 1], by simp, ?_⟩, by simp, by simp, by simp⟩
  · rw [List.map_map]
    exact at_app (at_app (at_app (at_app (at_new _ _) _) _) _) _
  · rw [List.map_append, List.map_map]
    refine at_app ?_ _
    rw [at_new, List.length_map]
    rfl
end Ab

set_option Elab.async false
set_option linter.all false
set_option maxRecDepth 100000
set_option maxHeartbeats 4000000
/-! _law_mixed. -/
namespace Ab
open PySem
local macro_rules | `(tactic| walk_at "ab") => `(tactic| simp (config := { failIfUnchanged := false }) only [runDef, List.map_cons, List.map_nil, List.length_cons, List.length_nil, Nat.zero_add, Nat.reduceAdd, Nat.reduceSub, Nat.sub_self, List.replicate_zero, List.replicate_succ, List.nil_append, List.append_nil, List.cons_append, aSeq, aNext, aAsg, aPar, agNm, agTup, agSub, aUpd, aFld, aSetF, aExp, aIf, aRet, aRetN, aBrk, aCnt, aO1, aO2, aVar, aC, aTup, aLst, alNil, alCons, aCall, aDNew, atB, atYes, atAnd, atOr, atNot, aAndV, aOrV, aNotV, aIfE, aChain, aM1, bindP, wipeE,
  List.getElem?_cons_zero, List.getElem?_cons_succ, List.set_cons_zero, List.set_cons_succ, List.getElem?_nil, e_add, e_sub, e_neg, e_cmp, e_eqI, e_eqS, e_neI, e_isN, e_isNotN, e_ixT, e_lenT, e_int, e_abs, e_max2, e_min2, e_tupT, e_isiI, e_isiB, e_isiS, e_isiT, atI0, atI1, atI2, e_br_t, e_br_f, e_blx, e_intx, e_somex, e_somey, e_pair, e_two, Bool.not_true, Bool.not_false, true_and, and_true, Nat.reduceLeDiff, Nat.le_refl, decide_true, decide_false, c_0, c_1, c_2, c_3, c_4, c_5, c_6, c_7, c_8, c_9, Int.reduceEq, Int.reduceLT, Int.reduceLE, s_look_say, s_look_stop, s_look_end, s_say_look, s_say_stop, s_say_end, s_stop_look, s_stop_say, s_stop_end, s_end_look, s_end_say, s_end_stop])

theorem swap_perm {xs : List Nat} {i j : Nat} (hi : i < xs.length) (hj : j < xs.length) : ((xs.set i xs[j]).set j xs[i]).Perm xs := by
  rw [List.perm_iff_count]
  intro b
  rw [List.count_set (by simpa using hj), List.count_set hi]
  have h1 : xs[i] = b → 0 < xs.count b := fun e => List.count_pos_iff.mpr (e ▸ List.getElem_mem hi)
  have h2 : xs[j] = b → 0 < xs.count b := fun e => List.count_pos_iff.mpr (e ▸ List.getElem_mem hj)
  rw [List.getElem_set]
  by_cases e : i = j
  · subst e
    simp
    split <;> omega
  · rw [if_neg e]
    simp only [beq_iff_eq]
    by_cases ei : xs[i] = b <;> by_cases ej : xs[j] = b <;> simp only [ei, ej, if_true, if_false] <;> have := h1 <;> have := h2 <;> simp_all <;> omega
def sMixed : ASp := fun ds st Q => ∃ (p g sm : Nat) (x : D) (E : List Nat), ds = [.ref p, x] ∧ source st x (E.map dN) ∧ E.length ≤ 1000 ∧ IsPot st p g sm ∧
  ∀ st' n (F : List Nat), Kp [p, g] st st' → st.length ≤ n → IsPot st' p g sm → F.Perm E → st'[n]? = some (.lst (F.map dN)) → Q (.ref n) st'
theorem k_law_mixed (ds : List D) (st : Store) (Q : DK) (h : sMixed ds st Q) : runDef 5 (b_law_mixed sDraw) ds st Q := by
  obtain ⟨p, g, sm, x, E, rfl, hx, hE, hP, q⟩ := h
  obtain ⟨t, k, hp⟩ := hP.at_
  have hpl := at_lt hp
  obtain ⟨gs, hg⟩ := hP.gr
  have hgl := at_lt hg
  obtain ⟨ss, hs0, hs⟩ := hP.sm_
  have hsl := at_lt hs
  unfold b_law_mixed
  walk_at "ab"
  refine ⟨_, hx, by simp; rw [LIM_eq]; omega, ?_⟩
  unfold aFor sRng1
  walk_at "ab"
  refine p_lenL (at_new _ _) ?_
  rw [List.length_map]
  refine ⟨_, rfl, by omega, by omega, ?_⟩
  have hP0 : IsPot (st ++ [.lst (E.map dN)]) p g sm := ⟨⟨_, _, at_app hp _⟩, ⟨_, at_app hg _⟩, ⟨_, hs0, at_app hs _⟩, hP.pg, hP.ps, hP.gs⟩
  refine ⟨fun i env s => (∃ a b, env = [some (.ref p), some x, some (.ref st.length), a, b]) ∧ Kp [p, g] st s ∧ st.length < s.length ∧ IsPot s p g sm ∧ ∃ F : List Nat, F.Perm E ∧ s[st.length]? = some (.lst (F.map dN)), ⟨⟨_, _, rfl⟩, (Kp.refl _ _).app _, by simp, hP0, E, .refl _, at_new _ _⟩, fun _ _ _ _ => trivial, ?_, ?_⟩
  · rintro i y env s hy ⟨⟨a, b, rfl⟩, hK, hl, hPs, F, hF, hf⟩
    unfold rng at hy
    obtain ⟨i', hi, rfl⟩ := Option.map_eq_some_iff.mp ((List.getElem?_map ..).symm.trans hy)
    obtain ⟨hi1, hi2⟩ := List.getElem?_eq_some_iff.mp hi
    rw [List.getElem_range] at hi2
    subst hi2
    rw [List.length_range] at hi1
    have hFl : F.length = E.length := hF.length_eq
    have hiF : i < F.length := by omega
    rw [Int.zero_add]
    walk_at "ab"
    refine p_lenL hf ?_
    rw [List.length_map]
    refine ⟨p, g, sm, F.length, rfl, hPs, by omega, by omega, fun s2 r hK2 hl2 hP2 hr => ?_⟩
    have hf2 := hK2.at hf (by simp; omega)
    walk_at "ab"
    have hri : F[r]? = some F[r] := List.getElem?_eq_getElem hr
    have hii : F[i]? = some F[i] := List.getElem?_eq_getElem hiF
    refine p_ixL hf2 (atNs hri) ?_
    refine p_ixL hf2 (atNs hii) ?_
    refine p_setL hf2 (j := i) (ixN_nat (by simpa using hiF)) ?_
    refine p_setL (at_self hf2 _) (j := r) (ixN_nat (by simpa using hr)) ?_
    have hK3 := hK.trans hK2
    obtain ⟨t2, k2, a1⟩ := hP2.at_
    obtain ⟨gs2, a2⟩ := hP2.gr
    obtain ⟨ss2, a3, a4⟩ := hP2.sm_
    refine ⟨⟨_, _, rfl⟩, (hK3.set _ (.inr (Nat.le_refl _))).set _ (.inr (Nat.le_refl _)), by simp; omega, ⟨⟨_, _, at_ne (at_ne a1 (by omega) _) (by omega) _⟩, ⟨_, at_ne (at_ne a2 (by omega) _) (by omega) _⟩, ⟨_, a3, at_ne (at_ne a4 (by omega) _) (by omega) _⟩, hP.pg, hP.ps, hP.gs⟩, (F.set i F[r]).set r F[i], (swap_perm hiF hr).trans hF, ?_⟩
    rw [at_self (at_self hf2 _), List.map_set, List.map_set]
  · rintro env s ⟨⟨a, b, rfl⟩, hK, hl, hPs, F, hF, hf⟩
    walk_at "ab"
    exact q s _ F hK (Nat.le_refl _) hPs hF hf
end Ab

set_option Elab.async false
set_option linter.all false
set_option maxRecDepth 100000
set_option maxHeartbeats 4000000
/-! _law_made. -/
namespace Ab
open PySem
local macro_rules | `(tactic| walk_at "ab") => `(tactic| simp (config := { failIfUnchanged := false }) only [runDef, List.map_cons, List.map_nil, List.length_cons, List.length_nil, Nat.zero_add, Nat.reduceAdd, Nat.reduceSub, Nat.sub_self, List.replicate_zero, List.replicate_succ, List.nil_append, List.append_nil, List.cons_append, aSeq, aNext, aAsg, aPar, agNm, agTup, agSub, aUpd, aFld, aSetF, aExp, aIf, aRet, aRetN, aBrk, aCnt, aO1, aO2, aVar, aC, aTup, aLst, alNil, alCons, aCall, aDNew, atB, atYes, atAnd, atOr, atNot, aAndV, aOrV, aNotV, aIfE, aChain, aM1, bindP, wipeE,
  List.getElem?_cons_zero, List.getElem?_cons_succ, List.set_cons_zero, List.set_cons_succ, List.getElem?_nil, e_add, e_sub, e_neg, e_cmp, e_eqI, e_eqS, e_neI, e_isN, e_isNotN, e_ixT, e_lenT, e_int, e_abs, e_max2, e_min2, e_tupT, e_isiI, e_isiB, e_isiS, e_isiT, atI0, atI1, atI2, e_br_t, e_br_f, e_blx, e_intx, e_somex, e_somey, e_pair, e_two, Bool.not_true, Bool.not_false, true_and, and_true, Nat.reduceLeDiff, Nat.le_refl, decide_true, decide_false, c_0, c_1, c_2, c_3, c_4, c_5, c_6, c_7, c_8, c_9, Int.reduceEq, Int.reduceLT, Int.reduceLE, s_look_say, s_look_stop, s_look_end, s_say_look, s_say_stop, s_say_end, s_stop_look, s_stop_say, s_stop_end, s_end_look, s_end_say, s_end_stop])

def dSpec (rows L : Nat) (tab : List Tm) : D := .tup [dN rows, dN L, dTab tab]
def sMade (cP : Nat) : ASp := fun ds st Q => ∃ (rows L : Nat) (tab : List Tm), ds = [dSpec rows L tab] ∧ OkTab rows L tab ∧ rows ≤ 6 ∧ NoIdle L tab ∧
  ∀ st' o n ks f, Kp [] st st' → st.length ≤ o → Frs st.length n ks f → IsPlan st' o cP rows L tab n ks f → Q (.ref o) st'
theorem k_law_made {cP cR : Nat} (ds : List D) (st : Store) (Q : DK) (h : sMade cP ds st Q) : runDef 1 (b_law_made cP cR (sInit [cP, cR] true)) ds st Q := by
  obtain ⟨rows, L, tab, rfl, hT, hr, hN, q⟩ := h
  unfold b_law_made dSpec aMake
  walk_at "ab"
  refine ⟨st.length, cP, rows, L, tab, rfl, by simp, at_new _ _, hT, hN, fun _ => ⟨hr, rfl⟩, (fun h => nomatch h), fun st' n ks f hK hfr hp => ⟨rfl, ?_⟩⟩
  have h1 : Kp [st.length] st (st ++ [.ins cP []]) := (Kp.refl _ _).app _
  have h2 : Kp [] st st' := (h1.trans hK).le fun k hk hl => by simp at hk; omega
  exact q st' st.length n ks f h2 (Nat.le_refl _) ⟨Nat.le_trans h1.1 hfr.1, fun p hp => Nat.le_trans h1.1 (hfr.2 p hp)⟩ hp
end Ab

set_option Elab.async false
set_option linter.all false
set_option maxRecDepth 100000
set_option maxHeartbeats 4000000
/-! _law_growths. -/
namespace Ab
open PySem
local macro_rules | `(tactic| walk_at "ab") => `(tactic| simp (config := { failIfUnchanged := false }) only [runDef, List.map_cons, List.map_nil, List.length_cons, List.length_nil, Nat.zero_add, Nat.reduceAdd, Nat.reduceSub, Nat.sub_self, List.replicate_zero, List.replicate_succ, List.nil_append, List.append_nil, List.cons_append, aSeq, aNext, aAsg, aPar, agNm, agTup, agSub, aUpd, aFld, aSetF, aExp, aIf, aRet, aRetN, aBrk, aCnt, aO1, aO2, aVar, aC, aTup, aLst, alNil, alCons, aCall, aDNew, atB, atYes, atAnd, atOr, atNot, aAndV, aOrV, aNotV, aIfE, aChain, aM1, bindP, wipeE,
  List.getElem?_cons_zero, List.getElem?_cons_succ, List.set_cons_zero, List.set_cons_succ, List.getElem?_nil, e_add, e_sub, e_neg, e_cmp, e_eqI, e_eqS, e_neI, e_isN, e_isNotN, e_ixT, e_lenT, e_int, e_abs, e_max2, e_min2, e_tupT, e_isiI, e_isiB, e_isiS, e_isiT, atI0, atI1, atI2, e_br_t, e_br_f, e_blx, e_intx, e_somex, e_somey, e_pair, e_two, Bool.not_true, Bool.not_false, true_and, and_true, Nat.reduceLeDiff, Nat.le_refl, decide_true, decide_false, c_0, c_1, c_2, c_3, c_4, c_5, c_6, c_7, c_8, c_9, Int.reduceEq, Int.reduceLT, Int.reduceLE, s_look_say, s_look_stop, s_look_end, s_say_look, s_say_stop, s_say_end, s_stop_look, s_stop_say, s_stop_end, s_end_look, s_end_say, s_end_stop])

def ext1 (t : List Nat) : List (List Nat) := (List.range (hu t + 1)).map fun h => t ++ [h]
def growL : Nat → List (List Nat)
  | 0 => [[]]
  | n + 1 => (growL n).flatMap ext1
theorem grow_snoc : ∀ (n : Nat) (t : List Nat), growFrom (n + 1) t = (growFrom n t).flatMap ext1
  | 0, t => by
    show (List.range (hu t + 1)).flatMap (fun h => [t ++ [h]]) = [t].flatMap ext1
    unfold ext1
    simp [List.flatMap_singleton']
    induction List.range (hu t + 1) with
    | nil => rfl
    | cons x xs ih => simp [ih]
  | n + 1, t => by
    have h1 : growFrom (n + 1 + 1) t = (List.range (hu t + 1)).flatMap fun h => growFrom (n + 1) (t ++ [h]) := rfl
    have h2 : growFrom (n + 1) t = (List.range (hu t + 1)).flatMap fun h => growFrom n (t ++ [h]) := rfl
    rw [h1, h2, List.flatMap_assoc]
    congr 1
    funext h
    exact grow_snoc n (t ++ [h])
theorem growL_eq : ∀ n, growL n = growFrom n []
  | 0 => rfl
  | n + 1 => by rw [grow_snoc, ← growL_eq n]; rfl
theorem ext1_len (t : List Nat) : (ext1 t).length = hu t + 1 := by simp [ext1]
theorem flat_len {xs : List (List Nat)} {m : Nat} (h : ∀ t ∈ xs, hu t ≤ m) : (xs.flatMap ext1).length ≤ xs.length * (m + 1) := by
  induction xs with
  | nil => simp
  | cons x xs ih =>
    rw [List.flatMap_cons, List.length_append, ext1_len, List.length_cons, Nat.succ_mul]
    have := h x (by simp)
    have := ih fun t ht => h t (by simp [ht])
    omega
theorem growL_hu : ∀ (n : Nat), ∀ t ∈ growL n, hu t ≤ n ∧ t.length = n
  | 0, t, h => by simp [growL] at h; rw [h]; exact ⟨Nat.le_refl _, rfl⟩
  | n + 1, t, h => by
    unfold growL at h
    obtain ⟨s, hs, ht⟩ := List.mem_flatMap.mp h
    obtain ⟨x, hx, rfl⟩ := List.mem_map.mp ht
    obtain ⟨h1, h2⟩ := growL_hu n s hs
    have := List.mem_range.mp hx
    rw [hu_snoc]
    exact ⟨by omega, by simp [h2]⟩
theorem growL_len : ∀ n, n ≤ 8 → (growL n).length ≤ 9 ^ n
  | 0, _ => by simp [growL]
  | n + 1, h => by
    have h1 := growL_len n (by omega)
    have h2 := flat_len (m := 8) fun t ht => Nat.le_trans (growL_hu n t ht).1 (by omega)
    unfold growL
    rw [Nat.pow_succ]
    exact Nat.le_trans h2 (Nat.mul_le_mul_right 9 h1)
abbrev dLs (t : List Nat) : D := .tup (t.map dN)
def sGrowths : ASp := fun ds st Q => ∃ n : Nat, ds = [dN n] ∧ n ≤ 6 ∧ ∀ st' m, Kp [] st st' → st.length ≤ m → st'[m]? = some (.lst ((growL n).map dLs)) → Q (.ref m) st'
theorem k_law_growths (ds : List D) (st : Store) (Q : DK) (h : sGrowths ds st Q) : runDef 6 b_law_growths ds st Q := by
  obtain ⟨n, rfl, hn, q⟩ := h
  unfold b_law_growths
  walk_at "ab"
  unfold aFor sRng1
  walk_at "ab"
  refine ⟨_, rfl, by omega, by omega, ?_⟩
  refine ⟨fun i env s => ∃ m a b c d, env = [some (dN n), some (.ref m), a, b, c, d] ∧ Kp [] st s ∧ st.length ≤ m ∧ s[m]? = some (.lst ((growL i).map dLs)), ⟨st.length, none, none, none, none, rfl, (Kp.refl _ _).app _, Nat.le_refl _, by rw [at_new]; rfl⟩, fun _ _ _ _ => trivial, ?_, ?_⟩
  · rintro i y env s hy ⟨m, a, b, c, d, rfl, hK, hm, hs⟩
    unfold rng at hy
    obtain ⟨i', hi, rfl⟩ := Option.map_eq_some_iff.mp ((List.getElem?_map ..).symm.trans hy)
    obtain ⟨hi1, hi2⟩ := List.getElem?_eq_some_iff.mp hi
    rw [List.getElem_range] at hi2
    subst hi2
    rw [List.length_range] at hi1
    have hgl : (growL i).length ≤ 531441 := Nat.le_trans (growL_len i (by omega)) (Nat.pow_le_pow_right (by decide) (show i ≤ 6 by omega))
    walk_at "ab"
    refine .inl ?_
    unfold aFor sItems
    walk_at "ab"
    refine .inr (.inl ⟨m, _, rfl, at_app hs _, ?_⟩)
    have hml := at_lt hs
    refine ⟨fun j env s2 => (∃ c d, env = [some (dN n), some (.ref m), some (.int (0 + (i : Int))), some (.ref s.length), c, d]) ∧ Kp [] st s2 ∧ s2[m]? = some (.lst ((growL i).map dLs)) ∧ s.length < s2.length ∧ s2[s.length]? = some (.lst ((((growL i).take j).flatMap ext1).map dLs)), ⟨⟨_, _, rfl⟩, hK.app _, at_app hs _, by simp, by rw [at_new]; rfl⟩, ?_, ?_, ?_⟩
    · rintro j env s2 ⟨_, _, h, _⟩
      exact h
    · rintro j z env s2 hz ⟨⟨c, d, rfl⟩, hK2, hm2, hl2, hf2⟩
      obtain ⟨t, ht, rfl⟩ := Option.map_eq_some_iff.mp ((List.getElem?_map ..).symm.trans hz)
      obtain ⟨g1, g2⟩ := growL_hu i t (List.mem_of_getElem? ht)
      have hfl : (((growL i).take j).flatMap ext1).length ≤ 531441 * 7 := by
        refine Nat.le_trans (flat_len (m := 6) fun t ht => ?_) (Nat.mul_le_mul_right 7 ?_)
        · have := growL_hu i t (List.mem_of_mem_take ht)
          omega
        · exact Nat.le_trans (by simp; omega) hgl
      walk_at "ab"
      refine ⟨⟨_, _, rfl, hf2⟩, ?_⟩
      unfold aLc
      walk_at "ab"
      refine p_addT (by simp; rw [LIM_eq]; omega) ?_
      refine p_maxT ?_
      walk_at "ab"
      refine ⟨_, rfl, by omega, by omega, ?_⟩
      rw [show ((hu t : Int) - 1 + 2).toNat = hu t + 1 by omega]
      refine lc_map (zs := List.range (hu t + 1)) (fun (r : Nat) => .int (0 + (r : Int))) (fun r => dLs (t ++ [r])) trivial (by simp; rw [LIM_eq]; omega) (fun r hr Qe hq => ?_) ?_
      · walk_at "ab"
        rw [Int.zero_add]
        refine p_addT (by simp; rw [LIM_eq]; omega) ?_
        rw [show t.map dN ++ [D.int (r : Int)] = (t ++ [r]).map dN by simp]
        exact hq
      · refine p_ext (at_app hf2 _) (at_new _ _) (by simp only [List.length_map, List.length_range]; rw [LIM_eq]; omega) ?_
        refine ⟨⟨_, _, rfl⟩, (hK2.app _).set _ (.inr hK.1), at_ne (at_app hm2 _) (by omega) _, by simp; omega, ?_⟩
        rw [at_self (at_app hf2 _), List.take_add_one, ht, List.flatMap_append, List.map_append]
        simp [ext1]
    · rintro env s2 ⟨⟨c, d, rfl⟩, hK2, hm2, hl2, hf2⟩
      rw [List.length_map, List.take_length] at hf2
      walk_at "ab"
      exact ⟨s.length, _, _, _, _, rfl, hK2, hK.1, hf2⟩
  · rintro env s ⟨m, a, b, c, d, rfl, hK, hm, hs⟩
    have hl : (({ xs := rng 0 ((n : Nat) : Int).toNat, chk := fun _ => True } : Itm).xs).length = n := by simp [rng]
    rw [hl] at hs
    walk_at "ab"
    exact q s m hK hm hs
end Ab

set_option Elab.async false
set_option linter.all false
set_option maxRecDepth 100000
set_option maxHeartbeats 4000000
/-! _law_least. -/
namespace Ab
open PySem
local macro_rules | `(tactic| walk_at "ab") => `(tactic| simp (config := { failIfUnchanged := false }) only [runDef, List.map_cons, List.map_nil, List.length_cons, List.length_nil, Nat.zero_add, Nat.reduceAdd, Nat.reduceSub, Nat.sub_self, List.replicate_zero, List.replicate_succ, List.nil_append, List.append_nil, List.cons_append, aSeq, aNext, aAsg, aPar, agNm, agTup, agSub, aUpd, aFld, aSetF, aExp, aIf, aRet, aRetN, aBrk, aCnt, aO1, aO2, aVar, aC, aTup, aLst, alNil, alCons, aCall, aDNew, atB, atYes, atAnd, atOr, atNot, aAndV, aOrV, aNotV, aIfE, aChain, aM1, bindP, wipeE,
  List.getElem?_cons_zero, List.getElem?_cons_succ, List.set_cons_zero, List.set_cons_succ, List.getElem?_nil, e_add, e_sub, e_neg, e_cmp, e_eqI, e_eqS, e_neI, e_isN, e_isNotN, e_ixT, e_lenT, e_int, e_abs, e_max2, e_min2, e_tupT, e_isiI, e_isiB, e_isiS, e_isiT, atI0, atI1, atI2, e_br_t, e_br_f, e_blx, e_intx, e_somex, e_somey, e_pair, e_two, Bool.not_true, Bool.not_false, true_and, and_true, Nat.reduceLeDiff, Nat.le_refl, decide_true, decide_false, c_0, c_1, c_2, c_3, c_4, c_5, c_6, c_7, c_8, c_9, Int.reduceEq, Int.reduceLT, Int.reduceLE, s_look_say, s_look_stop, s_look_end, s_say_look, s_say_stop, s_say_end, s_stop_look, s_stop_say, s_stop_end, s_end_look, s_end_say, s_end_stop])

theorem proper_of {W : List Pr} {g : List Nat} : ∀ {n : Nat}, n ≤ g.length → (∀ a b, (a, b) ∈ W → a < b → b < n → g[a]? ≠ g[b]?) → proper W n g = true
  | 0, _, _ => rfl
  | n + 1, hl, h => by
    unfold proper
    rw [Bool.and_eq_true]
    refine ⟨proper_of (by omega) fun a b hW hab hb => h a b hW hab (by omega), ?_⟩
    unfold okAt
    rw [Bool.not_eq_true', List.any_eq_false]
    have hlt : (g.take n).length = n := by simp; omega
    rw [hlt]
    intro r hr
    have hr' := List.mem_range.mp hr
    have hgn : g[n]? = some (g.getD n 0) := by simp [List.getD, List.getElem?_eq_getElem (show n < g.length by omega)]
    intro hc
    rw [Bool.and_eq_true, decide_eq_true_eq, decide_eq_true_eq, List.getElem?_take_of_lt hr'] at hc
    exact h r n hc.1 hr' (by omega) (by rw [hc.2, hgn])
def sLawWeb : ASp := fun ds st Q => ∃ (rows L : Nat) (tab : List Tm), ds = [dSpec rows L tab] ∧ OkTab rows L tab ∧ L ≤ 2 ∧ tab.length * 2 ^ rows ≤ 640 ∧ ∀ st' (W : List Pr), Kp [] st st' → IsWeb L tab W → Q (.tup (W.map dPr)) st'
def sLawLeast : ASp := fun ds st Q => ∃ (rows L : Nat) (tab : List Tm), ds = [dSpec rows L tab] ∧ OkTab rows L tab ∧ L ≤ 2 ∧ rows ≤ 6 ∧ tab.length * 2 ^ rows ≤ 640 ∧ ∀ st' (W : List Pr) χ (g : List Nat), Kp [] st st' → IsWeb L tab W → Best W rows χ g → Q (.tup [dN χ, .tup (g.map dN)]) st'
def bestD : Option (Nat × List Nat) → D
  | none => .non
  | some (c, g) => .tup [dN c, .tup (g.map dN)]
/-- the best so far -/
def BestIn (W : List Pr) (xs : List (List Nat)) : Option (Nat × List Nat) → Prop
  | none => ∀ t ∈ xs, proper W t.length t = false
  | some (c, g) => 1 ≤ c ∧ xs.find? (valid W c) = some g ∧ ∀ m, m < c → xs.find? (valid W m) = none
theorem BestIn.skip {W : List Pr} {xs : List (List Nat)} {t : List Nat} (h : proper W t.length t = false) : ∀ {b : Option (Nat × List Nat)}, BestIn W xs b → BestIn W (xs ++ [t]) b
  | none, k => fun s hs => by
    rcases List.mem_append.mp hs with hs | hs
    · exact k s hs
    · simp at hs; rw [hs]; exact h
  | some (c, g), ⟨k1, k2, k3⟩ => by
    have hv : ∀ m, valid W m t = false := fun m => by unfold valid; rw [h]; rfl
    refine ⟨k1, by rw [List.find?_append, k2]; rfl, fun m hm => ?_⟩
    rw [List.find?_append, k3 m hm]
    simp [List.find?_cons, hv m]
theorem BestIn.keep {W : List Pr} {xs : List (List Nat)} {t : List Nat} {c : Nat} {g : List Nat} (hc : c ≤ hu t) (k : BestIn W xs (some (c, g))) : BestIn W (xs ++ [t]) (some (c, g)) := by
  obtain ⟨k1, k2, k3⟩ := k
  refine ⟨k1, by rw [List.find?_append, k2]; rfl, fun m hm => ?_⟩
  have hv : valid W m t = false := by unfold valid; rw [decide_eq_false (by omega), Bool.and_false]
  rw [List.find?_append, k3 m hm]
  simp [List.find?_cons, hv]
theorem BestIn.better {W : List Pr} {xs : List (List Nat)} {t : List Nat} (hp : proper W t.length t = true) (h1 : 1 ≤ hu t) : ∀ {b : Option (Nat × List Nat)}, (∀ c g, b = some (c, g) → hu t < c) → BestIn W xs b → BestIn W (xs ++ [t]) (some (hu t, t))
  | none, _, k => by
    have hn : ∀ m, xs.find? (valid W m) = none := fun m => by
      rw [List.find?_eq_none]
      intro s hs
      unfold valid
      rw [k s hs]
      simp
    have hv : valid W (hu t) t = true := by unfold valid; rw [hp]; simp
    refine ⟨h1, by rw [List.find?_append, hn]; simp [List.find?_cons, hv], fun m hm => ?_⟩
    have hv : valid W m t = false := by unfold valid; rw [decide_eq_false (by omega), Bool.and_false]
    rw [List.find?_append, hn]
    simp [List.find?_cons, hv]
  | some (c, g), hb, ⟨k1, k2, k3⟩ => by
    have hc := hb c g rfl
    have hv : valid W (hu t) t = true := by unfold valid; rw [hp]; simp
    refine ⟨h1, by rw [List.find?_append, k3 _ hc]; simp [List.find?_cons, hv], fun m hm => ?_⟩
    have hv : valid W m t = false := by unfold valid; rw [decide_eq_false (by omega), Bool.and_false]
    rw [List.find?_append, k3 m (by omega)]
    simp [List.find?_cons, hv]
theorem best_of {W : List Pr} {n : Nat} (h1 : 1 ≤ n) : ∀ {b : Option (Nat × List Nat)}, BestIn W (growFrom n []) b → ∃ c g, b = some (c, g) ∧ Best W n c g
  | none, k => by
    have := deal_some W n
    rw [deal_eq W n n [] (valid_nil W n)] at this
    exfalso
    apply this
    rw [List.find?_eq_none]
    intro s hs
    unfold valid
    rw [k s hs]
    simp
  | some (c, g), ⟨k1, k2, k3⟩ => by
    have hcn : c ≤ n := by
      have h2 := deal_some W n
      rw [deal_eq W n n [] (valid_nil W n)] at h2
      rcases Nat.lt_or_ge n c with h | h
      · exact absurd (k3 n h) h2
      · exact h
    exact ⟨c, g, rfl, ⟨k1, hcn, by rw [deal_eq W c n [] (valid_nil W c)]; exact k2, fun m _ hm => by rw [deal_eq W m n [] (valid_nil W m)]; exact k3 m hm⟩⟩
theorem k_law_least (ds : List D) (st : Store) (Q : DK) (h : sLawLeast ds st Q) : runDef 5 (b_law_least sLawWeb sGrowths) ds st Q := by
  obtain ⟨rows, L, tab, rfl, hT, hL2, hr6, hsz, q⟩ := h
  have hr1 := hT.r1
  unfold b_law_least
  walk_at "ab"
  refine ⟨rows, L, tab, rfl, hT, hL2, hsz, fun st1 W hK1 hW => ?_⟩
  walk_at "ab"
  refine .inl ?_
  unfold aFor sItems
  walk_at "ab"
  refine p_ixT (xs := [dN rows, dN L, dTab tab]) atI0 ?_
  refine ⟨rows, rfl, hr6, fun st2 m hK2 hm hgr => ?_⟩
  refine .inr (.inl ⟨m, _, rfl, hgr, ?_⟩)
  have hWl := pr64 hW.nd hW.lt
  have hml := at_lt hgr
  refine ⟨fun i env s => (∃ b d e, env = [some (dSpec rows L tab), some (.tup (W.map dPr)), some (bestD b), d, e] ∧ BestIn W ((growL rows).take i) b) ∧ Kp [] st2 s, ⟨⟨none, none, none, rfl, by simp [BestIn]⟩, Kp.refl _ _⟩, ?_, ?_, ?_⟩
  · rintro i env s ⟨_, h⟩
    exact h.at hgr (by simp)
  · rintro i x env s hx ⟨⟨b, d, e, rfl, hb⟩, hK⟩
    obtain ⟨t, ht, rfl⟩ := Option.map_eq_some_iff.mp ((List.getElem?_map ..).symm.trans hx)
    obtain ⟨g1, g2⟩ := growL_hu rows t (List.mem_of_getElem? ht)
    have htk : (growL rows).take (i + 1) = (growL rows).take i ++ [t] := by rw [List.take_add_one, ht]; rfl
    have inr : ∀ a b, (a, b) ∈ W → a < b ∧ b < rows := fun a b h => web_row hT ((hW.mem a b).mp h)
    walk_at "ab"
    refine .inl ?_
    unfold aLc sItems
    walk_at "ab"
    refine .inl ⟨_, rfl, ?_⟩
    refine lc_filter (zs := W) dPr dPr (fun pr => decide (t[pr.1]? = t[pr.2]?)) trivial (by rw [LIM_eq]; omega) (fun z hz Qt hq => ?_) (fun z hz _ Qe hq => ?_) ?_
    · obtain ⟨a, b'⟩ := z
      obtain ⟨r1, r2⟩ := inr a b' hz
      have ga : t[a]? = some t[a] := List.getElem?_eq_getElem (by omega)
      have gb : t[b']? = some t[b'] := List.getElem?_eq_getElem (by omega)
      unfold dPr
      walk_at "ab"
      refine ⟨_, atNs ga, _, atNs gb, ?_⟩
      walk_at "ab"
      simp only [ga, gb] at hq
      rw [show decide ((t[a] : Int) = (t[b'] : Int)) = decide (some t[a] = some t[b']) from decide_eq_decide.mpr ⟨fun h => by rw [show t[a] = t[b'] by omega], fun h => by rw [Option.some.inj h]⟩]
      exact hq
    · walk_at "ab"
      exact hq
    refine p_lenL (at_new _ _) ?_
    rw [List.length_map]
    walk_at "ab"
    have hu1 : 1 ≤ hu t := by
      have : t[0]? = some t[0] := List.getElem?_eq_getElem (by omega)
      have := lt_hu (List.getElem_mem (show 0 < t.length by omega))
      omega
    have hpr : (W.filter fun pr => decide (t[pr.1]? = t[pr.2]?)).length = 0 ↔ proper W t.length t = true := by
      rw [List.length_eq_zero_iff, List.filter_eq_nil_iff]
      constructor
      · intro h
        exact proper_of (Nat.le_refl _) fun a b hab _ _ => by simpa using h (a, b) hab
      · intro h z hz
        obtain ⟨r1, r2⟩ := inr z.1 z.2 hz
        have := proper_spec h (Nat.le_refl _) z.1 z.2 hz r1 (by omega)
        simpa using this
    refine br_d (fun h => ?_) fun h => ?_
    · have hp := hpr.mp (by omega)
      cases b with
      | none =>
        simp only [bestD, isNon]
        walk_at "ab"
        refine p_maxG (by omega) ?_
        walk_at "ab"
        refine ⟨⟨some (hu t, t), some (dLs t), e, ?_, by rw [htk]; exact hb.better hp hu1 (fun c g e => by cases e)⟩, hK.app _⟩
        rw [show (hu t : Int) - 1 + 1 = (hu t : Int) by omega]
      | some cg =>
        obtain ⟨c, g⟩ := cg
        simp only [bestD, isNon]
        walk_at "ab"
        refine p_maxG (by omega) ?_
        walk_at "ab"
        refine br_d (fun hlt => ?_) fun hlt => ?_
        · refine p_maxG (by omega) ?_
          walk_at "ab"
          refine ⟨⟨some (hu t, t), some (dLs t), e, ?_, by rw [htk]; exact hb.better hp hu1 (fun c' g' e => by cases e; omega)⟩, hK.app _⟩
          rw [show (hu t : Int) - 1 + 1 = (hu t : Int) by omega]
        · exact ⟨⟨some (c, g), _, _, rfl, by rw [htk]; exact hb.keep (by omega)⟩, hK.app _⟩
    · have hp : proper W t.length t = false := by
        cases hq : proper W t.length t with
        | false => rfl
        | true => exact absurd (by rw [hpr.mpr hq]; rfl) h
      exact ⟨⟨b, _, _, rfl, by rw [htk]; exact hb.skip hp⟩, hK.app _⟩
  · rintro env s ⟨⟨b, d, e, rfl, hb⟩, hK⟩
    rw [List.length_map, List.take_length, growL_eq] at hb
    obtain ⟨c, g, rfl, hB⟩ := best_of hr1 hb
    walk_at "ab"
    exact q s W c g ((hK1.trans hK2).trans hK) hW hB
end Ab

set_option Elab.async false
set_option linter.all false
set_option maxRecDepth 100000
set_option maxHeartbeats 4000000
/-! _law_reach. -/
namespace Ab
open PySem
local macro_rules | `(tactic| walk_at "ab") => `(tactic| simp (config := { failIfUnchanged := false }) only [runDef, List.map_cons, List.map_nil, List.length_cons, List.length_nil, Nat.zero_add, Nat.reduceAdd, Nat.reduceSub, Nat.sub_self, List.replicate_zero, List.replicate_succ, List.nil_append, List.append_nil, List.cons_append, aSeq, aNext, aAsg, aPar, agNm, agTup, agSub, aUpd, aFld, aSetF, aExp, aIf, aRet, aRetN, aBrk, aCnt, aO1, aO2, aVar, aC, aTup, aLst, alNil, alCons, aCall, aDNew, atB, atYes, atAnd, atOr, atNot, aAndV, aOrV, aNotV, aIfE, aChain, aM1, bindP, wipeE,
  List.getElem?_cons_zero, List.getElem?_cons_succ, List.set_cons_zero, List.set_cons_succ, List.getElem?_nil, e_add, e_sub, e_neg, e_cmp, e_eqI, e_eqS, e_neI, e_isN, e_isNotN, e_ixT, e_lenT, e_int, e_abs, e_max2, e_min2, e_tupT, e_isiI, e_isiB, e_isiS, e_isiT, atI0, atI1, atI2, e_br_t, e_br_f, e_blx, e_intx, e_somex, e_somey, e_pair, e_two, Bool.not_true, Bool.not_false, true_and, and_true, Nat.reduceLeDiff, Nat.le_refl, decide_true, decide_false, c_0, c_1, c_2, c_3, c_4, c_5, c_6, c_7, c_8, c_9, Int.reduceEq, Int.reduceLT, Int.reduceLE, s_look_say, s_look_stop, s_look_end, s_say_look, s_say_stop, s_say_end, s_stop_look, s_stop_say, s_stop_end, s_end_look, s_end_say, s_end_stop])

/-- one step or more -/
def Rn (sc : Ph → List Ph) (p q : Ph) : Prop := ∃ r ∈ sc p, Rr sc r q
theorem Rn.of {sc : Ph → List Ph} {a b c : Ph} (h : Rn sc a b) (k : Rr sc b c) : Rn sc a c := by
  obtain ⟨r, h1, h2⟩ := h
  exact ⟨r, h1, h2.trans k⟩
theorem Rn.rr {sc : Ph → List Ph} {a b : Ph} (h : Rn sc a b) : Rr sc a b := by
  obtain ⟨r, h1, h2⟩ := h
  exact (Rr.one h1).trans h2
theorem Rr.rn {sc : Ph → List Ph} {a b : Ph} (h : Rr sc a b) (k : Rn sc b b) : Rn sc a b := by
  rcases h.head with e | ⟨c, h1, h2⟩
  · rw [e]; exact k
  · exact ⟨c, h1, h2⟩
theorem take_snoc {α : Type} {ks : List α} {i : Nat} {p : α} (h : ks[i]? = some p) : ks.take (i + 1) = ks.take i ++ [p] := by
  rw [List.take_add_one, h]; rfl
theorem not_take {α : Type} {ks : List α} {i : Nat} {p : α} (nd : ks.Nodup) (h : ks[i]? = some p) : p ∉ ks.take i := fun hp => by
  have h1 := nd.sublist (List.take_sublist (i + 1) ks)
  rw [take_snoc h, List.nodup_append] at h1
  exact h1.2.2 p hp p (by simp) rfl
/-- dicts of what is reached -/
structure RAt (s : Store) (L : Nat) (tab : List Tm) (b : Nat) (ps : List Ph) (h : Ph → Nat) (ms : Ph → List Ph) : Prop where
  gt : ∀ p ∈ ps, b < h p
  at_ : ∀ p ∈ ps, s[h p]? = some (.dt false (dic (ms p) yes))
  nd : ∀ p ∈ ps, (ms p).Nodup
  mem : ∀ p ∈ ps, ∀ q, q ∈ ms p ↔ Rn (scP L tab) p q
theorem RAt.mono {s s' : Store} {L b : Nat} {tab : List Tm} {ps : List Ph} {h : Ph → Nat} {ms : Ph → List Ph} {S : List Nat} (k : RAt s L tab b ps h ms) (hK : Kp S s s') (hS : ∀ p ∈ ps, h p ∉ S) : RAt s' L tab b ps h ms :=
  ⟨k.gt, fun p hp => hK.at (k.at_ p hp) (hS p hp), k.nd, k.mem⟩
theorem RAt.set {s : Store} {L b : Nat} {tab : List Tm} {ps : List Ph} {h : Ph → Nat} {ms : Ph → List Ph} (k : RAt s L tab b ps h ms) {n : Nat} (o : MO) (hn : ∀ p ∈ ps, n ≠ h p) : RAt (s.set n o) L tab b ps h ms :=
  ⟨k.gt, fun p hp => at_ne (k.at_ p hp) (hn p hp) _, k.nd, k.mem⟩
def sLawReach : ASp := fun ds st Q => ∃ (rows L : Nat) (tab : List Tm) (n : Nat) (ks : List Ph) (f : Ph → Nat), ds = [.ref n] ∧ OkTab rows L tab ∧ Kept st n L tab ks f ∧ st[n]? = some (.dt false (dic ks fun p => .ref (f p))) ∧
  ∀ st' m h ms, Kp [] st st' → st.length ≤ m → st'[m]? = some (.dt false (dic ks fun p => .ref (h p))) → RAt st' L tab m ks h ms → Q (.ref m) st'
theorem k_law_reach (ds : List D) (st : Store) (Q : DK) (h : sLawReach ds st Q) : runDef 7 b_law_reach ds st Q := by
  obtain ⟨rows, L, tab, n, ks, f, rfl, hT, hKe, hdt, q⟩ := h
  have hks := ks_len' hT hKe.nd fun p hp => ((hKe.rc p).mp hp).ok hT
  have hG := gr_of hT hKe
  have hL3 := hT.L3
  have hfn : ∀ p ∈ ks, f p ≠ n := fun p hp e => by
    have := hKe.ls p hp
    rw [e, hdt] at this
    cases this
  have hnl := at_lt hdt
  unfold b_law_reach
  walk_at "ab"
  refine .inl ?_
  walk_at "ab"
  refine .inr ⟨n, _, at_app hdt _, ?_⟩
  refine ⟨_, rfl, rfl, ?_⟩
  rw [dic_keys]
  have hdt1 := at_self (at_app hdt (.dt false [])) (.dt true (dic ks fun p => .ref (f p)))
  have hfd1 : ((st ++ [.dt false []] : Store).set n (.dt true (dic ks fun p => .ref (f p))))[st.length]? = some (.dt false (dic [] fun _ => .non)) := at_ne (at_new _ _) (by omega) _
  have hK1 : Kp [n] st ((st ++ [.dt false []] : Store).set n (.dt true (dic ks fun p => .ref (f p)))) := ((Kp.refl _ _).app _).set _ (.inl (by simp))
  generalize (st ++ [.dt false []] : Store).set n (.dt true (dic ks fun p => .ref (f p))) = s1 at *
  refine ⟨fun i env s => (∃ a b c d e, env = [some (.ref n), some (.ref st.length), a, b, c, d, e]) ∧ ∃ h ms, Kp [n] st s ∧ s[n]? = some (.dt true (dic ks fun p => .ref (f p))) ∧ s[st.length]? = some (.dt false (dic (ks.take i) fun p => .ref (h p))) ∧ RAt s L tab st.length (ks.take i) h ms,
    ⟨⟨none, none, none, none, none, rfl⟩, fun _ => 0, fun _ => [], hK1, hdt1, hfd1, ⟨by simp, by simp, by simp, by simp⟩⟩, fun _ _ _ _ => trivial, ?_, ?_⟩
  · rintro i x env s hx ⟨⟨a, b, c, d, e, rfl⟩, h, ms, hK, hd, hfd, hR⟩
    obtain ⟨p, hp, rfl⟩ := Option.map_eq_some_iff.mp ((List.getElem?_map ..).symm.trans hx)
    have hpk := List.mem_of_getElem? hp
    have hlen := hK.1
    have hsl := at_lt hfd
    walk_at "ab"
    refine .inl ?_
    walk_at "ab"
    refine .inl ?_
    unfold aLc sItems
    walk_at "ab"
    have hv : ∀ r ∈ ks, val (dic ks fun p => D.ref (f p)) (kPh r) = some (.ref (f r)) := fun r hr => by rw [val_dic, if_pos hr]
    refine p_ixD (kPh p) (dk_ph p).symm (kPh_depth p) (kPh_tup p) (at_app hd _) (hv p hpk) ?_
    have hlp := hK.at (hKe.ls p hpk) (by simp [hfn p hpk])
    refine .inr (.inl ⟨f p, _, rfl, at_app hlp _, ?_⟩)
    have hsp := steps_len L tab p
    refine lc_map (zs := steps L tab p) dStp (fun s => dPh s.2) (at_app hlp _) (by rw [LIM_eq]; omega) (fun z hz Qe hq => ?_) ?_
    · unfold dStp
      walk_at "ab"
      exact hq
    have ew : (steps L tab p).map (fun s => dPh s.2) = (scP L tab p).map dPh := by unfold scP; rw [List.map_map]; rfl
    rw [ew]
    walk_at "ab"
    have el : (s ++ [.dt false []] : Store).length = s.length + 1 := by simp
    rw [el]
    have hRk : ∀ r ∈ ks.take i, h r < s.length := fun r hr => at_lt (hR.at_ r hr)
    have hscl : ∀ r, (scP L tab r).length ≤ 4 := fun r => by
      have := steps_len L tab r
      unfold scP
      rw [List.length_map]
      omega
    refine ⟨fun m env s' => ∃ met ws y z, env = [some (.ref n), some (.ref st.length), some (dPh p), some (.ref s.length), some (.ref (s.length + 1)), y, z] ∧ Kp [n] st s' ∧ s'[n]? = some (.dt true (dic ks fun p => .ref (f p))) ∧ s'[st.length]? = some (.dt false (dic (ks.take i) fun p => .ref (h p))) ∧ RAt s' L tab st.length (ks.take i) h ms ∧
      s'[s.length]? = some (.dt false (dic met yes)) ∧ s'[s.length + 1]? = some (.lst (ws.map dPh)) ∧ met.Nodup ∧ (∀ q ∈ met, Rn (scP L tab) p q) ∧ (∀ q ∈ ws, Rn (scP L tab) p q) ∧ (∀ q ∈ met, ∀ r ∈ scP L tab q, r ∈ met ∨ r ∈ ws) ∧ (∀ r ∈ scP L tab p, r ∈ met ∨ r ∈ ws) ∧ ws.length ≤ 4 + 4 * met.length ∧ m = (4096 - met.length) * 10 + ws.length,
      ⟨_, [], scP L tab p, d, e, rfl, (hK.app _).app _, at_app (at_app hd _) _, at_app (at_app hfd _) _, (hR.mono ((Kp.refl [] _).app _) (by simp)).mono ((Kp.refl [] _).app _) (by simp), at_app (at_new _ _) _, by rw [← el]; exact at_new _ _, .nil, by simp, fun q hq => ⟨q, hq, .refl q⟩, by simp, fun r hr => .inr hr, by have := hscl p; omega, rfl⟩, ?_⟩
    rintro m env s' ⟨met, ws, y, z, rfl, hK', hd', hfd', hR', hm', hw', nd, hrm, hrw, hcl, h0, hb, rfl⟩
    have hmk : met.length ≤ ks.length := nd.length_le_of_subset fun q hq => (hrm q hq).rr.inKs hG hpk
    walk_at "ab"
    refine p_lenL hw' ?_
    walk_at "ab"
    rw [List.length_map]
    refine br_d (fun hpos => ?_) fun hpos => ?_
    · obtain ⟨ws, r, rfl⟩ := snoc_of (ws := ws) (by omega)
      have hr : Rn (scP L tab) p r := hrw r (by simp)
      have hrk : r ∈ ks := hr.rr.inKs hG hpk
      refine p_popW hw' ?_
      walk_at "ab"
      have hd2 := at_ne hd' (show s.length + 1 ≠ n by omega) (.lst (ws.map dPh))
      have hfd2 := at_ne hfd' (show s.length + 1 ≠ st.length by omega) (.lst (ws.map dPh))
      have hm2 := at_ne hm' (show s.length + 1 ≠ s.length by omega) (.lst (ws.map dPh))
      have hw2 := at_self hw' (.lst (ws.map dPh))
      have hK2 := hK'.set (n := s.length + 1) (.lst (ws.map dPh)) (.inr (by omega))
      have hR2 := hR'.set (n := s.length + 1) (.lst (ws.map dPh)) (fun r hr => by have := hRk r hr; omega)
      generalize s'.set (s.length + 1) (.lst (ws.map dPh)) = s2 at *
      refine p_ninD (kPh r) (dk_ph r).symm (kPh_depth r) (kPh_tup r) hm2 ?_
      rw [val_dic]
      by_cases hin : r ∈ met
      · rw [if_pos hin]
        simp only [Option.isSome_some]
        walk_at "ab"
        refine ⟨_, ?_, met, ws, _, _, rfl, hK2, hd2, hfd2, hR2, hm2, hw2, nd, hrm, fun q hq => hrw q (by simp [hq]), fun q hq t ht => ?_, fun t ht => ?_, ?_, rfl⟩
        · simp
        · rcases hcl q hq t ht with u | u
          · exact .inl u
          · rcases List.mem_append.mp u with u | u
            · exact .inr u
            · simp at u; rw [u]; exact .inl hin
        · rcases h0 t ht with u | u
          · exact .inl u
          · rcases List.mem_append.mp u with u | u
            · exact .inr u
            · simp at u; rw [u]; exact .inl hin
        · simp at hb; omega
      · rw [if_neg hin]
        simp only [Option.isSome_none]
        walk_at "ab"
        have nd' : (met ++ [r]).Nodup := nd_snoc nd hin
        have hrm' : ∀ q ∈ met ++ [r], Rn (scP L tab) p q := fun q hq => by
          rcases List.mem_append.mp hq with hq | hq
          · exact hrm q hq
          · simp at hq; rw [hq]; exact hr
        have hmk' : (met ++ [r]).length ≤ ks.length := nd'.length_le_of_subset fun q hq => (hrm' q hq).rr.inKs hG hpk
        rw [List.length_append, List.length_singleton] at hmk'
        refine p_setD (kPh r) (dk_ph r).symm (kPh_depth r) (kPh_tup r) hm2 (by rw [dic_len, LIM_eq]; omega) ?_
        rw [put_yes, if_neg hin]
        have hm3 := at_self hm2 (.dt false (dic (met ++ [r]) yes))
        have hd3 := at_ne hd2 (show s.length ≠ n by omega) (.dt false (dic (met ++ [r]) yes))
        have hfd3 := at_ne hfd2 (show s.length ≠ st.length by omega) (.dt false (dic (met ++ [r]) yes))
        have hw3 := at_ne hw2 (show s.length ≠ s.length + 1 by omega) (.dt false (dic (met ++ [r]) yes))
        have hK3 := hK2.set (n := s.length) (.dt false (dic (met ++ [r]) yes)) (.inr (by omega))
        have hR3 := hR2.set (n := s.length) (.dt false (dic (met ++ [r]) yes)) (fun t ht => by have := hRk t ht; omega)
        generalize s2.set s.length (.dt false (dic (met ++ [r]) yes)) = s3 at *
        walk_at "ab"
        refine ⟨⟨_, _, rfl, hw3⟩, .inl ?_⟩
        unfold aLc sItems
        walk_at "ab"
        refine p_ixD (kPh r) (dk_ph r).symm (kPh_depth r) (kPh_tup r) hd3 (hv r hrk) ?_
        have hlr := hK3.at (hKe.ls r hrk) (by simp [hfn r hrk])
        refine .inr (.inl ⟨f r, _, rfl, hlr, ?_⟩)
        have hsr := steps_len L tab r
        refine lc_map (zs := steps L tab r) dStp (fun s => dPh s.2) hlr (by rw [LIM_eq]; omega) (fun z hz Qe hq => ?_) ?_
        · unfold dStp
          walk_at "ab"
          exact hq
        have ew2 : (steps L tab r).map (fun s => dPh s.2) = (scP L tab r).map dPh := by unfold scP; rw [List.map_map]; rfl
        rw [ew2]
        have hsc := hscl r
        have hs3 := at_lt hw3
        refine p_ext (at_app hw3 _) (at_new _ _) (by simp at hb ⊢; rw [LIM_eq]; omega) ?_
        walk_at "ab"
        rw [← List.map_append]
        refine ⟨_, ?_, met ++ [r], ws ++ scP L tab r, _, _, rfl, (hK3.app _).set _ (.inr (by omega)), at_ne (at_app hd3 _) (by omega) _, at_ne (at_app hfd3 _) (by omega) _, (hR3.mono ((Kp.refl [] _).app _) (by simp)).set _ (fun t ht => by have := hRk t ht; omega), at_ne (at_app hm3 _) (by omega) _, at_self (at_app hw3 _) _, nd', hrm', fun q hq => ?_, fun q hq t ht => ?_, fun t ht => ?_, ?_, rfl⟩
        · simp at hb ⊢
          omega
        · rcases List.mem_append.mp hq with hq | hq
          · exact hrw q (by simp [hq])
          · exact hr.of (.one hq)
        · rcases List.mem_append.mp hq with hq | hq
          · rcases hcl q hq t ht with u | u
            · exact .inl (by simp [u])
            · rcases List.mem_append.mp u with u | u
              · exact .inr (by simp [u])
              · simp at u; exact .inl (by simp [u])
          · simp at hq
            subst hq
            exact .inr (by simp [ht])
        · rcases h0 t ht with u | u
          · exact .inl (by simp [u])
          · rcases List.mem_append.mp u with u | u
            · exact .inr (by simp [u])
            · simp at u; exact .inl (by simp [u])
        · simp at hb ⊢
          omega
    · have e0 : ws = [] := List.eq_nil_of_length_eq_zero (by omega)
      subst e0
      walk_at "ab"
      refine p_setD (kPh p) (dk_ph p).symm (kPh_depth p) (kPh_tup p) hfd' (by rw [dic_len, LIM_eq, List.length_take]; omega) ?_
      have hpn := not_take hKe.nd hp
      rw [put_dic, if_neg hpn]
      have ed : dic (ks.take i ++ [p]) (fun r => D.ref (fset h p s.length r)) = dic (ks.take i ++ [p]) (fset (fun p => D.ref (h p)) p (D.ref s.length)) := dic_congr fun r _ => by
        unfold fset; split <;> rfl
      rw [← ed]
      have hm4 := at_ne hm' (show st.length ≠ s.length by omega) (.dt false (dic (ks.take i ++ [p]) fun r => D.ref (fset h p s.length r)))
      have hR4 := hR'.set (n := st.length) (.dt false (dic (ks.take i ++ [p]) fun r => D.ref (fset h p s.length r))) (fun t ht => by have := hR.gt t ht; omega)
      have hclm : ∀ q, Rn (scP L tab) p q → q ∈ met := fun q hq => by
        obtain ⟨r, hr, hrq⟩ := hq
        have hr' : r ∈ met := by simpa using h0 r hr
        induction hrq with
        | refl => exact hr'
        | tail _ hc ih => simpa using hcl _ ih _ hc
      refine ⟨⟨_, _, _, _, _, rfl⟩, fset h p s.length, fset ms p met, hK'.set _ (.inr (by omega)), at_ne hd' (by omega) _, by rw [take_snoc hp]; exact at_self hfd' _, ?_⟩
      rw [take_snoc hp]
      have eo : ∀ r ∈ ks.take i ++ [p], (r = p ∧ fset h p s.length r = s.length ∧ fset ms p met r = met) ∨ (r ∈ ks.take i ∧ fset h p s.length r = h r ∧ fset ms p met r = ms r) := fun r hr => by
        by_cases e : r = p
        · exact .inl ⟨e, by simp [fset, e], by simp [fset, e]⟩
        · rcases List.mem_append.mp hr with hr | hr
          · exact .inr ⟨hr, by simp [fset, e], by simp [fset, e]⟩
          · simp at hr; exact absurd hr e
      refine ⟨fun r hr => ?_, fun r hr => ?_, fun r hr => ?_, fun r hr => ?_⟩
      · rcases eo r hr with ⟨e1, e2, e3⟩ | ⟨e1, e2, e3⟩
        · rw [e2]; omega
        · rw [e2]; exact hR4.gt r e1
      · rcases eo r hr with ⟨e1, e2, e3⟩ | ⟨e1, e2, e3⟩
        · rw [e2, e3]; exact hm4
        · rw [e2, e3]; exact hR4.at_ r e1
      · rcases eo r hr with ⟨e1, e2, e3⟩ | ⟨e1, e2, e3⟩
        · rw [e3]; exact nd
        · rw [e3]; exact hR4.nd r e1
      · rcases eo r hr with ⟨e1, e2, e3⟩ | ⟨e1, e2, e3⟩
        · rw [e3, e1]; exact fun q => ⟨hrm q, hclm q⟩
        · rw [e3]; exact hR4.mem r e1
  · rintro env s ⟨⟨a, b, c, d, e, rfl⟩, h, ms, hK, hd, hfd, hR⟩
    rw [List.length_map, List.take_length] at hfd hR
    walk_at "ab"
    have hhn : ∀ p ∈ ks, n ≠ h p := fun p hp e => by
      have := hR.gt p hp
      omega
    refine ⟨_, rfl, ?_⟩
    exact q _ _ h ms (hK.back hdt) (Nat.le_refl _) (at_ne hfd (by omega) _) (hR.set _ hhn)
end Ab

set_option Elab.async false
set_option linter.all false
set_option maxRecDepth 100000
set_option maxHeartbeats 4000000
/-! _law_pieces. -/
namespace Ab
open PySem
local macro_rules | `(tactic| walk_at "ab") => `(tactic| simp (config := { failIfUnchanged := false }) only [runDef, List.map_cons, List.map_nil, List.length_cons, List.length_nil, Nat.zero_add, Nat.reduceAdd, Nat.reduceSub, Nat.sub_self, List.replicate_zero, List.replicate_succ, List.nil_append, List.append_nil, List.cons_append, aSeq, aNext, aAsg, aPar, agNm, agTup, agSub, aUpd, aFld, aSetF, aExp, aIf, aRet, aRetN, aBrk, aCnt, aO1, aO2, aVar, aC, aTup, aLst, alNil, alCons, aCall, aDNew, atB, atYes, atAnd, atOr, atNot, aAndV, aOrV, aNotV, aIfE, aChain, aM1, bindP, wipeE,
  List.getElem?_cons_zero, List.getElem?_cons_succ, List.set_cons_zero, List.set_cons_succ, List.getElem?_nil, e_add, e_sub, e_neg, e_cmp, e_eqI, e_eqS, e_neI, e_isN, e_isNotN, e_ixT, e_lenT, e_int, e_abs, e_max2, e_min2, e_tupT, e_isiI, e_isiB, e_isiS, e_isiT, atI0, atI1, atI2, e_br_t, e_br_f, e_blx, e_intx, e_somex, e_somey, e_pair, e_two, Bool.not_true, Bool.not_false, true_and, and_true, Nat.reduceLeDiff, Nat.le_refl, decide_true, decide_false, c_0, c_1, c_2, c_3, c_4, c_5, c_6, c_7, c_8, c_9, Int.reduceEq, Int.reduceLT, Int.reduceLE, s_look_say, s_look_stop, s_look_end, s_say_look, s_say_stop, s_say_end, s_stop_look, s_stop_say, s_stop_end, s_end_look, s_end_say, s_end_stop])

theorem set_back_app {st : Store} {n : Nat} {o : MO} (h : st[n]? = some o) (x : MO) (ys : List MO) : (st.set n x ++ ys).set n o = st ++ ys := by
  rw [List.set_append_left _ _ (by rw [List.length_set]; exact at_lt h), set_back h]
theorem add_len {α : Type} [DecidableEq α] {xs : List α} {p : α} : (if p ∈ xs then xs else xs ++ [p]).length ≤ xs.length + 1 := by split <;> simp
def kLot (zs : List Ph) : NestedKey := .tup (zs.map kPh)
def dLot (zs : List Ph) : D := .tup (zs.map dPh)
theorem map_kPh_inj : ∀ {a b : List Ph}, a.map kPh = b.map kPh → a = b
  | [], [], _ => rfl
  | x :: a, y :: b, h => by
    simp only [List.map_cons, List.cons.injEq] at h
    rw [kPh_inj h.1, map_kPh_inj h.2]
theorem kLot_inj {a b : List Ph} (h : kLot a = kLot b) : a = b := by
  unfold kLot at h
  injection h with h
  exact map_kPh_inj h
theorem dk_lot (zs : List Ph) : dk (kLot zs) = dLot zs := by
  unfold kLot dLot
  simp only [dk, dks_map, List.map_map]
  congr 1
  exact List.map_congr_left fun p _ => dk_ph p
theorem depth_phs : ∀ zs : List Ph, NestedKey.depthAll (zs.map kPh) ≤ 7
  | [] => by simp [NestedKey.depthAll]
  | z :: zs => by
    have := depth_phs zs
    have := kPh_depth7 z
    simp only [List.map_cons, NestedKey.depthAll]
    omega
theorem kLot_depth (zs : List Ph) : (kLot zs).depth ≤ 8 := by
  have := depth_phs zs
  simp only [kLot, NestedKey.depth]
  omega
def kSg : Sg → NestedKey
  | .no => .none
  | .ch k => .text ⟨#[97 + k]⟩
  | .fin => .text "end"
theorem dk_sg (s : Sg) : dSg s = dk (kSg s) := by cases s <;> simp [dSg, kSg, dk]
def isCh : Sg → Bool
  | .ch _ => true
  | _ => false
theorem isCh_t {s : Sg} (h : isCh s = true) : ∃ k, s = .ch k := by cases s <;> first | exact ⟨_, rfl⟩ | cases h
theorem isCh_f {s : Sg} (h : isCh s = false) : ¬ ∃ k, s = .ch k := by rintro ⟨k, rfl⟩; cases h
/-- the lot of a phase -/
def LotOf (sc : Ph → List Ph) (p : Ph) (lot : List Ph) : Prop := ∀ q, q ∈ lot ↔ Rn sc p q ∧ Rn sc q p
structure LLots (ks : List Ph) (sc : Ph → List Ph) (i : Nat) (lots : List (List Ph)) : Prop where
  snd : ∀ lot ∈ lots, lot.Nodup ∧ ∃ p ∈ ks, Rn sc p p ∧ LotOf sc p lot
  cov : ∀ p ∈ ks.take i, Rn sc p p → ∃ lot ∈ lots, LotOf sc p lot
  len : lots.length ≤ i
theorem web_llots {L : Nat} {tab : List Tm} {ks : List Ph} {lots : List (List Ph)} (hk : ∀ p, p ∈ ks ↔ Rc L tab p) (h : LLots ks (scP L tab) ks.length lots) (a b : Nat) :
    WebP L tab a b ↔ a < b ∧ ∃ lot ∈ lots, LiveIn L tab lot a ∧ LiveIn L tab lot b := by
  have hs : ∀ {p : Ph} {s : Sg × Ph}, s ∈ steps L tab p → s.2 ∈ scP L tab p := fun {p s} h => List.mem_map_of_mem h
  constructor
  · rintro ⟨hab, p, q, hp, hq, he, ⟨s, s1, s2, s3, s4⟩, t, t1, t2, t3, t4⟩
    have hpp : Rn (scP L tab) p p := ⟨s.2, hs s1, s3.2⟩
    have hqq : Rn (scP L tab) q q := ⟨t.2, hs t1, t3.2⟩
    obtain ⟨lot, l1, l2⟩ := h.cov p (by rw [List.take_length]; exact (hk p).mpr hp) hpp
    have hpq := he.1.rn hqq
    have hqp := he.2.rn hpp
    refine ⟨hab, lot, l1, ⟨p, (l2 p).mpr ⟨hpp, hpp⟩, s, s1, s2, (l2 _).mpr ⟨⟨s.2, hs s1, .refl _⟩, s3.2.rn hpp⟩, s4⟩, ⟨q, (l2 q).mpr ⟨hpq, hqp⟩, t, t1, t2, (l2 _).mpr ⟨hpq.of (.one (hs t1)), ?_⟩, t4⟩⟩
    exact (t3.2.rn hqq).of he.2
  · rintro ⟨hab, lot, l1, ⟨p, p1, s, s1, s2, s3, s4⟩, ⟨q, q1, t, t1, t2, t3, t4⟩⟩
    obtain ⟨_, o, ho, _, l2⟩ := h.snd lot l1
    have eq2 : ∀ x ∈ lot, ∀ y ∈ lot, Eqv (scP L tab) x y := fun x hx y hy => ⟨((l2 x).mp hx).2.rr.trans ((l2 y).mp hy).1.rr, ((l2 y).mp hy).2.rr.trans ((l2 x).mp hx).1.rr⟩
    have rcs : ∀ {x y : Ph}, Rr (scP L tab) x y → Rc L tab x → Rc L tab y := fun {x y} h hx => by
      induction h with
      | refl => exact hx
      | tail _ hc ih =>
        obtain ⟨u, u1, rfl⟩ := List.mem_map.mp hc
        exact .step ih u1
    have hor := (hk o).mp ho
    exact ⟨hab, p, q, rcs ((l2 p).mp p1).1.rr hor, rcs ((l2 q).mp q1).1.rr hor, eq2 p p1 q q1, ⟨s, s1, s2, eq2 p p1 _ s3, s4⟩, ⟨t, t1, t2, eq2 q q1 _ t3, t4⟩⟩
def sLawPieces : ASp := fun ds st Q => ∃ (rows L : Nat) (tab : List Tm), ds = [dSpec rows L tab] ∧ OkTab rows L tab ∧ L ≤ 2 ∧ tab.length * 2 ^ rows ≤ 640 ∧
  ∀ st' m (ps : List Pc), Kp [] st st' → st.length ≤ m → st'[m]? = some (.lst (ps.map dPc)) → (∀ a b, WebP L tab a b ↔ ∃ x ∈ ps, a ∈ x.2 ∧ b ∈ x.2 ∧ a < b) → Q (.ref m) st'
theorem k_law_pieces (ds : List D) (st : Store) (Q : DK) (h : sLawPieces ds st Q) : runDef 11 (b_law_pieces sLawPhases sLawReach) ds st Q := by
  obtain ⟨rows, L, tab, rfl, hT, hL2, hsz, q⟩ := h
  unfold b_law_pieces dSpec
  walk_at "ab"
  refine ⟨rows, L, tab, dTab tab, rfl, .inl rfl, hT, hL2, hsz, fun st1 n ks f hK1 hn hKe hdt => ?_⟩
  walk_at "ab"
  refine ⟨rows, L, tab, n, ks, f, rfl, hT, hKe, hdt, fun st2 m h ms hK2 hm hrd hR => ?_⟩
  have hks := ks_len' hT hKe.nd fun p hp => ((hKe.rc p).mp hp).ok hT
  have hG := gr_of hT hKe
  have hdt2 := hK2.at hdt (by simp)
  have hn1 := at_lt hdt
  have hm2 := at_lt hrd
  have hle2 := hK2.1
  walk_at "ab"
  refine .inl ?_
  walk_at "ab"
  refine .inr ⟨n, _, at_app hdt2 _, ?_⟩
  refine ⟨_, rfl, rfl, ?_⟩
  rw [dic_keys]
  have hdt3 := at_self (at_app hdt2 (.dt false [])) (.dt true (dic ks fun p => .ref (f p)))
  have hfd3 : ((st2 ++ [.dt false []] : Store).set n (.dt true (dic ks fun p => .ref (f p))))[st2.length]? = some (.dt false (dicT kLot [])) := at_ne (at_new _ _) (by omega) _
  have hK3 : Kp [n] st2 ((st2 ++ [.dt false []] : Store).set n (.dt true (dic ks fun p => .ref (f p)))) := ((Kp.refl _ _).app _).set _ (.inl (by simp))
  generalize (st2 ++ [.dt false []] : Store).set n (.dt true (dic ks fun p => .ref (f p))) = s3 at *
  have hhn : ∀ p ∈ ks, h p ∉ [n] := fun p hp e => by
    simp at e
    have := hR.gt p hp
    omega
  refine ⟨fun i env s => (∃ a b c d e g o, env = [some (dSpec rows L tab), some (.ref n), some (.ref m), some (.ref st2.length), a, b, c, d, e, g, o]) ∧ ∃ lots, Kp [n] st2 s ∧ s[n]? = some (.dt true (dic ks fun p => .ref (f p))) ∧ s[st2.length]? = some (.dt false (dicT kLot lots)) ∧ LLots ks (scP L tab) i lots,
    ⟨⟨none, none, none, none, none, none, none, rfl⟩, [], hK3, hdt3, hfd3, ⟨by simp, by simp, by simp⟩⟩, fun _ _ _ _ => trivial, ?_, ?_⟩
  · rintro i x env s hx ⟨⟨a, b, c, d, e, g, o, rfl⟩, lots, hK, hd, hfd, hLL⟩
    obtain ⟨p, hp, rfl⟩ := Option.map_eq_some_iff.mp ((List.getElem?_map ..).symm.trans hx)
    have hpk := List.mem_of_getElem? hp
    have hil := (List.getElem?_eq_some_iff.mp hp).1
    have hRs := hR.mono hK hhn
    have hrs := hK.at hrd (by simp; omega)
    have hv : ∀ r ∈ ks, val (dic ks fun p => D.ref (h p)) (kPh r) = some (.ref (h r)) := fun r hr => by rw [val_dic, if_pos hr]
    walk_at "ab"
    refine p_ixD (kPh p) (dk_ph p).symm (kPh_depth p) (kPh_tup p) hrs (hv p hpk) ?_
    refine p_inD (kPh p) (dk_ph p).symm (kPh_depth p) (kPh_tup p) (hRs.at_ p hpk) ?_
    rw [val_dic]
    by_cases hin : p ∈ ms p
    · rw [if_pos hin]
      simp only [Option.isSome_some]
      walk_at "ab"
      have hpp : Rn (scP L tab) p p := (hR.mem p hpk p).mp hin
      have hap := hRs.at_ p hpk
      refine .inr ⟨h p, _, hap, ?_⟩
      have hgm := hR.gt p hpk
      walk_at "ab"
      refine p_ixD (kPh p) (dk_ph p).symm (kPh_depth p) (kPh_tup p) (at_ne hrs (show h p ≠ m by omega) _) (hv p hpk) ?_
      refine ⟨rfl, ?_⟩
      rw [dic_keys]
      have hmk : ∀ q ∈ ms p, q ∈ ks := fun q hq => ((hR.mem p hpk q).mp hq).rr.inKs hG hpk
      have hml : (ms p).length ≤ ks.length := (hR.nd p hpk).length_le_of_subset fun q hq => hmk q hq
      refine lc_filter (zs := ms p) dPh dPh (fun r => decide (p ∈ ms r)) trivial (by rw [LIM_eq]; omega) (fun r hr Qt hq => ?_) (fun r hr _ Qe hq => ?_) ?_
      · walk_at "ab"
        refine p_ixD (kPh r) (dk_ph r).symm (kPh_depth r) (kPh_tup r) (at_ne hrs (show h p ≠ m by omega) _) (hv r (hmk r hr)) ?_
        have har := hRs.at_ r (hmk r hr)
        obtain ⟨lk, hlk⟩ : ∃ lk, (s.set (h p) (.dt true (dic (ms p) yes)))[h r]? = some (.dt lk (dic (ms r) yes)) := by
          by_cases e : h p = h r
          · rw [← e, hap] at har
            injection har with har
            injection har with _ har
            rw [← har, ← e]
            exact ⟨true, at_self hap _⟩
          · exact ⟨false, at_ne har e _⟩
        refine p_inD (kPh p) (dk_ph p).symm (kPh_depth p) (kPh_tup p) hlk ?_
        rw [val_dic]
        by_cases e : p ∈ ms r
        · rw [if_pos e]; simpa [e] using hq
        · rw [if_neg e]; simpa [e] using hq
      · walk_at "ab"
        exact hq
      rw [set_back_app hap]
      have hfl : ((ms p).filter fun r => decide (p ∈ ms r)).length ≤ (ms p).length := List.length_filter_le _ _
      rw [List.length_set]
      refine p_sortA dPh (.pr .int (.seq .int)) (.inl (.inr ⟨_, rfl, at_new _ _⟩)) (by rw [LIM_eq]; omega) rfl (by decide) ty_ph fun zs hz => ?_
      refine p_tupL (at_new _ _) ?_
      walk_at "ab"
      have hfd4 := at_app (at_app hfd (.lst (((ms p).filter fun r => decide (p ∈ ms r)).map dPh))) (.lst (zs.map dPh))
      have hd4 := at_app (at_app hd (.lst (((ms p).filter fun r => decide (p ∈ ms r)).map dPh))) (.lst (zs.map dPh))
      have hK4 := (hK.app (.lst (((ms p).filter fun r => decide (p ∈ ms r)).map dPh))).app (.lst (zs.map dPh))
      have hll := hLL.len
      refine p_setD (kLot zs) (dk_lot zs).symm (kLot_depth zs) ⟨_, rfl⟩ hfd4 (by unfold dicT; rw [List.length_map, LIM_eq]; omega) ?_
      rw [put_dicT kLot (fun _ _ => kLot_inj)]
      have hzs : LotOf (scP L tab) p zs := fun r => by
        rw [hz.mem_iff, List.mem_filter]
        constructor
        · rintro ⟨h1, h2⟩
          have h3 := of_decide_eq_true h2
          exact ⟨(hR.mem p hpk r).mp h1, (hR.mem r (hmk r h1) p).mp h3⟩
        · rintro ⟨h1, h2⟩
          have h3 := (hR.mem p hpk r).mpr h1
          exact ⟨h3, decide_eq_true ((hR.mem r (hmk r h3) p).mpr h2)⟩
      have hznd : zs.Nodup := hz.symm.nodup ((hR.nd p hpk).filter _)
      refine ⟨⟨_, _, _, _, _, _, _, rfl⟩, _, hK4.set _ (.inr (Nat.le_refl _)), at_ne hd4 (by omega) _, at_self hfd4 _, ⟨fun lot hl => ?_, fun r hr hrr => ?_, ?_⟩⟩
      · rcases add_mem.mp hl with hl | hl
        · exact hLL.snd lot hl
        · rw [hl]; exact ⟨hznd, p, hpk, hpp, hzs⟩
      · rw [take_snoc hp] at hr
        rcases List.mem_append.mp hr with hr | hr
        · obtain ⟨lot, l1, l2⟩ := hLL.cov r hr hrr
          exact ⟨lot, add_mem.mpr (.inl l1), l2⟩
        · simp at hr
          rw [hr]
          exact ⟨zs, add_mem.mpr (.inr rfl), hzs⟩
      · exact Nat.le_trans add_len (Nat.succ_le_succ hll)
    · rw [if_neg hin]
      simp only [Option.isSome_none]
      walk_at "ab"
      refine ⟨⟨_, _, _, _, _, _, _, rfl⟩, lots, hK, hd, hfd, ⟨hLL.snd, fun r hr hrr => ?_, by have := hLL.len; omega⟩⟩
      rw [take_snoc hp] at hr
      rcases List.mem_append.mp hr with hr | hr
      · exact hLL.cov r hr hrr
      · simp at hr
        rw [hr] at hrr
        exact absurd ((hR.mem p hpk p).mpr hrr) hin
  · rintro env s ⟨⟨a, b, c, d, e, g, o, rfl⟩, lots, hK, hd, hfd, hLL⟩
    rw [List.length_map] at hLL
    have hKs := hK.back hdt2
    have hfd' := at_ne hfd (show n ≠ st2.length by omega) (.dt false (dic ks fun p => .ref (f p)))
    have hdt' := at_self hd (.dt false (dic ks fun p => .ref (f p)))
    unfold unlock
    walk_at "ab"
    generalize s.set n (.dt false (dic ks fun p => .ref (f p))) = s4 at *
    have hfd5 := at_app hfd' (.lst [])
    refine .inr ⟨st2.length, _, hfd5, ?_⟩
    refine ⟨_, rfl, rfl, ?_⟩
    rw [dicT_keys kLot dLot dk_lot]
    have hs4 := at_lt hfd'
    have hfd6 := at_self hfd5 (.dt true (dicT kLot lots))
    have hto6 : ((s4 ++ [.lst []] : Store).set st2.length (.dt true (dicT kLot lots)))[s4.length]? = some (.lst (([] : List Pc).map dPc)) := at_ne (at_new _ _) (by omega) _
    have hK6 : Kp [st2.length] s4 ((s4 ++ [.lst []] : Store).set st2.length (.dt true (dicT kLot lots))) := ((Kp.refl _ _).app _).set _ (.inl (by simp))
    have hK4 : Kp [] st2 s4 := hKs
    have hKe4 := (hKe.mono hK2 (by simp) fun _ _ => by simp).mono hK4 (by simp) fun _ _ => by simp
    generalize (s4 ++ [.lst []] : Store).set st2.length (.dt true (dicT kLot lots)) = s6 at *
    have hfF : ∀ p ∈ ks, f p ∉ [st2.length] := fun p hp e => by
      simp at e
      have := hKe4.ls p hp
      rw [e, hfd'] at this
      cases this
    have hll := hLL.len
    refine ⟨fun i env s => (∃ a b d e g o, env = [some (dSpec rows L tab), some (.ref n), some (.ref m), some (.ref st2.length), a, b, some (.ref s4.length), d, e, g, o]) ∧ ∃ ps : List Pc, Kp [st2.length] s4 s ∧ s[s4.length]? = some (.lst (ps.map dPc)) ∧ s[st2.length]? = some (.dt true (dicT kLot lots)) ∧ ps.length = i ∧ (∀ x ∈ ps, x.1 ∈ lots.take i ∧ ∀ r, r ∈ x.2 ↔ LiveIn L tab x.1 r) ∧ ∀ lot ∈ lots.take i, ∃ x ∈ ps, x.1 = lot,
      ⟨⟨_, _, _, _, _, _, rfl⟩, [], hK6, hto6, hfd6, rfl, by simp, by simp⟩, fun _ _ _ _ => trivial, ?_, ?_⟩
    · rintro i x env s hx ⟨⟨a, b, d, e, g, o, rfl⟩, ps, hK, hto, hfd7, hpl, hP, hPc⟩
      obtain ⟨lot, hlot, rfl⟩ := Option.map_eq_some_iff.mp ((List.getElem?_map ..).symm.trans hx)
      have hlm := List.mem_of_getElem? hlot
      have hil := (List.getElem?_eq_some_iff.mp hlot).1
      obtain ⟨hlnd, p0, hp0, hpp0, hl0⟩ := hLL.snd lot hlm
      have hlk : ∀ p ∈ lot, p ∈ ks := fun p hp => ((hl0 p).mp hp).1.rr.inKs hG hp0
      have hsl := at_lt hto
      unfold dLot
      walk_at "ab"
      refine .inr ?_
      walk_at "ab"
      refine .inl ?_
      unfold aFor sItems
      walk_at "ab"
      refine .inl ⟨_, rfl, ?_⟩
      have hro0 : (s ++ [.di false []] : Store)[s.length]? = some (.di false (dicI [])) := at_new _ _
      refine ⟨fun j env s' => (∃ a e g o, env = [some (dSpec rows L tab), some (.ref n), some (.ref m), some (.ref st2.length), a, some (.tup (lot.map dPh)), some (.ref s4.length), some (.ref s.length), e, g, o]) ∧ Kp [] s s' ∧ ∃ rs, s'[s.length]? = some (.di false (dicI rs)) ∧ rs.Nodup ∧ (∀ r ∈ rs, r < rows) ∧
        ∀ r, r ∈ rs ↔ ∃ p ∈ lot.take j, ∃ s ∈ steps L tab p, (∃ k, s.1 = .ch k) ∧ s.2 ∈ lot ∧ rowOf tab p = r,
        ⟨⟨_, _, _, _, rfl⟩, (Kp.refl _ _).app _, [], hro0, .nil, by simp, by simp⟩, fun _ _ _ _ => trivial, ?_, ?_⟩
      · rintro j x env s' hx ⟨⟨a, e, g, o, rfl⟩, hK', rs, hro, hnd, hrr, hrs⟩
        obtain ⟨p, hp, rfl⟩ := Option.map_eq_some_iff.mp ((List.getElem?_map ..).symm.trans hx)
        have hpl' := List.mem_of_getElem? hp
        have hpk := hlk p hpl'
        walk_at "ab"
        refine .inl ?_
        unfold aFor sItems
        walk_at "ab"
        have hKt : Kp [st2.length] s4 s' := hK.trans (hK'.le (by simp))
        have hdt7 := hKt.at hdt' (by simp; omega)
        have hv : val (dic ks fun p => D.ref (f p)) (kPh p) = some (.ref (f p)) := by rw [val_dic, if_pos hpk]
        refine p_ixD (kPh p) (dk_ph p).symm (kPh_depth p) (kPh_tup p) hdt7 hv ?_
        have hls7 := hKt.at (hKe4.ls p hpk) (hfF p hpk)
        refine .inr (.inl ⟨f p, _, rfl, hls7, ?_⟩)
        refine ⟨fun t env s2 => (∃ e g o, env = [some (dSpec rows L tab), some (.ref n), some (.ref m), some (.ref st2.length), some (dPh p), some (.tup (lot.map dPh)), some (.ref s4.length), some (.ref s.length), e, g, o]) ∧ Kp [] s s2 ∧ ∃ rs, s2[s.length]? = some (.di false (dicI rs)) ∧ rs.Nodup ∧ (∀ r ∈ rs, r < rows) ∧
          ∀ r, r ∈ rs ↔ (∃ p ∈ lot.take j, ∃ s ∈ steps L tab p, (∃ k, s.1 = .ch k) ∧ s.2 ∈ lot ∧ rowOf tab p = r) ∨ ∃ s ∈ (steps L tab p).take t, (∃ k, s.1 = .ch k) ∧ s.2 ∈ lot ∧ rowOf tab p = r,
          ⟨⟨_, _, _, rfl⟩, hK', rs, hro, hnd, hrr, fun r => by rw [hrs r]; simp⟩, ?_, ?_, ?_⟩
        · rintro t env s2 ⟨_, hk, _⟩
          exact (hK.trans (hk.le (by simp))).at (hKe4.ls p hpk) (hfF p hpk)
        · rintro t x env s2 hx ⟨⟨e, g, o, rfl⟩, hk2, rs, hro, hnd, hrr, hrs⟩
          obtain ⟨sp, hsp, rfl⟩ := Option.map_eq_some_iff.mp ((List.getElem?_map ..).symm.trans hx)
          have hspm := List.mem_of_getElem? hsp
          obtain ⟨sg, q'⟩ := sp
          have skip : (¬ ((∃ k, sg = .ch k) ∧ q' ∈ lot)) → ∀ r, r ∈ rs ↔ (∃ p ∈ lot.take j, ∃ s ∈ steps L tab p, (∃ k, s.1 = .ch k) ∧ s.2 ∈ lot ∧ rowOf tab p = r) ∨ ∃ s ∈ (steps L tab p).take (t + 1), (∃ k, s.1 = .ch k) ∧ s.2 ∈ lot ∧ rowOf tab p = r := fun hn r => by
            rw [hrs r, List.take_add_one, hsp]
            constructor
            · rintro (h | ⟨s, h1, h2⟩)
              · exact .inl h
              · exact .inr ⟨s, by simp [h1], h2⟩
            · rintro (h | ⟨s, h1, h2⟩)
              · exact .inl h
              · rcases List.mem_append.mp h1 with h1 | h1
                · exact .inr ⟨s, h1, h2⟩
                · simp at h1
                  rw [h1] at h2
                  exact absurd ⟨h2.1, h2.2.1⟩ hn
          have hL3 := hT.L3
          have hsg : decide (kSg sg ∈ [NestedKey.none, .text "end"]) = !isCh sg := by
            cases sg with
            | no => simp [kSg, isCh]
            | fin => simp [kSg, isCh]
            | ch k =>
              obtain ⟨r0, ns, htm, hkL, hr0⟩ := ch_look hspm rfl
              have hne : ¬ (⟨#[97 + k]⟩ : Str) = "end" := by
                have : k = 0 ∨ k = 1 ∨ k = 2 := by omega
                rcases this with rfl | rfl | rfl <;> decide
              simp [kSg, isCh, hne]
          unfold dStp
          walk_at "ab"
          refine p_ninL (kSg sg) [.none, .text "end"] (dk_sg sg) (at_new _ _) (by cases sg <;> simp [kSg, NestedKey.depth]) (by simp [NestedKey.depth]) ?_
          rw [hsg, Bool.not_not]
          walk_at "ab"
          refine br_i (fun hch => ?_) fun hch => ?_
          · refine p_inT (kPh q') (lot.map kPh) (dk_ph q').symm (by rw [List.map_map]; exact congrArg D.tup (List.map_congr_left fun p _ => (dk_ph p).symm)) (kPh_depth7 _) (fun k hk => ?_) ?_
            · obtain ⟨p, _, rfl⟩ := List.mem_map.mp hk
              exact kPh_depth7 p
            rw [show decide (kPh q' ∈ lot.map kPh) = decide (q' ∈ lot) from decide_eq_decide.mpr mem_kPh]
            walk_at "ab"
            refine br_d (fun hq => ?_) fun hq => ?_
            · obtain ⟨k, rfl⟩ := isCh_t hch
              obtain ⟨r0, ns, htm, hkL, hr0⟩ := ch_look hspm rfl
              unfold dSpec dPh
              walk_at "ab"
              refine ⟨_, atTab htm, ?_⟩
              unfold dTm
              walk_at "ab"
              have hro' : rowOf tab p = r0 := by unfold rowOf; rw [htm]
              have hrows : r0 < rows := (hT.it _ (List.mem_of_getElem? htm)).1
              have hrl : rs.length ≤ rows := by
                have := hnd.length_le_of_subset (l₂ := List.range rows) fun r hr => List.mem_range.mpr (hrr r hr)
                simpa using this
              have h8 := hT.r64
              refine p_setI (at_app hro _) (by unfold dicI; rw [List.length_map, LIM_eq]; omega) ?_
              rw [put_dicI]
              refine ⟨⟨_, _, _, rfl⟩, (hk2.app _).set _ (.inr (Nat.le_refl _)), _, at_self (at_app hro _) _, add_nd hnd, fun r hr => ?_, fun r => ?_⟩
              · rcases add_mem.mp hr with hr | hr
                · exact hrr r hr
                · omega
              · rw [add_mem, hrs r, List.take_add_one, hsp]
                constructor
                · rintro ((h | ⟨s, h1, h2⟩) | h)
                  · exact .inl h
                  · exact .inr ⟨s, by simp [h1], h2⟩
                  · exact .inr ⟨(.ch k, q'), by simp, ⟨k, rfl⟩, hq, by rw [hro', h]⟩
                · rintro (h | ⟨s, h1, h2⟩)
                  · exact .inl (.inl h)
                  · rcases List.mem_append.mp h1 with h1 | h1
                    · exact .inl (.inr ⟨s, h1, h2⟩)
                    · exact .inr (by rw [← h2.2.2, hro'])
            · exact ⟨⟨_, _, _, rfl⟩, hk2.app _, rs, at_app hro _, hnd, hrr, skip fun h => hq h.2⟩
          · exact ⟨⟨_, _, _, rfl⟩, hk2.app _, rs, at_app hro _, hnd, hrr, skip fun h => isCh_f hch h.1⟩
        · rintro env s2 ⟨⟨e, g, o, rfl⟩, hk2, rs, hro, hnd, hrr, hrs⟩
          refine ⟨⟨_, _, _, _, rfl⟩, hk2, rs, hro, hnd, hrr, fun r => ?_⟩
          rw [hrs r, List.length_map, List.take_length, take_snoc hp]
          constructor
          · rintro (⟨x, x1, x2⟩ | h)
            · exact ⟨x, by simp [x1], x2⟩
            · exact ⟨p, by simp, h⟩
          · rintro ⟨x, x1, x2⟩
            rcases List.mem_append.mp x1 with x1 | x1
            · exact .inl ⟨x, x1, x2⟩
            · simp at x1; rw [x1] at x2; exact .inr x2
      · rintro env s' ⟨⟨a, e, g, o, rfl⟩, hK', rs, hro, hnd, hrr, hrs⟩
        rw [List.length_map, List.take_length] at hrs
        have hto8 := hK'.at hto (by simp)
        have hrl : rs.length ≤ rows := by
          have := hnd.length_le_of_subset (l₂ := List.range rows) fun r hr => List.mem_range.mpr (hrr r hr)
          simpa using this
        have h8 := hT.r64
        walk_at "ab"
        refine ⟨⟨_, _, rfl, hto8⟩, ?_⟩
        refine ⟨rs.map dN, .inr (.inr ⟨_, false, _, rfl, hro, by unfold dicI; rw [List.map_map]; rfl⟩), by rw [List.length_map, LIM_eq]; omega, ?_⟩
        refine p_sortN (E := rs) (F := sortN rs) (.inl (.inr ⟨_, rfl, at_new _ _⟩)) (by rw [LIM_eq]; omega) (sortN_perm rs) (sortN_le rs) ?_
        refine p_tupL (at_new _ _) ?_
        walk_at "ab"
        refine p_app (at_app (at_app hto8 _) _) (by rw [List.length_map, hpl, LIM_eq]; omega) ?_
        walk_at "ab"
        have hK9 : Kp [st2.length] s4 s' := hK.trans (hK'.le (by simp))
        refine ⟨⟨_, _, _, _, _, _, rfl⟩, ps ++ [(lot, sortN rs)], ((hK9.app _).app _).set _ (.inr (Nat.le_refl _)), ?_, at_ne (at_app (at_app (hK'.at hfd7 (by simp)) _) _) (by omega) _, by simp [hpl], fun x hx => ?_, fun lo hlo => ?_⟩
        · rw [at_self (at_app (at_app hto8 _) _), List.map_append]
          rfl
        · rw [take_snoc hlot]
          rcases List.mem_append.mp hx with hx | hx
          · obtain ⟨h1, h2⟩ := hP x hx
            exact ⟨by simp [h1], h2⟩
          · simp at hx
            rw [hx]
            exact ⟨by simp, fun r => by rw [(sortN_perm rs).mem_iff, hrs r]; rfl⟩
        · rw [take_snoc hlot] at hlo
          rcases List.mem_append.mp hlo with hlo | hlo
          · obtain ⟨x, x1, x2⟩ := hPc lo hlo
            exact ⟨x, by simp [x1], x2⟩
          · simp at hlo
            exact ⟨(lot, sortN rs), by simp, hlo.symm⟩
    · rintro env s ⟨⟨a, b, d, e, g, o, rfl⟩, ps, hK, hto, hfd7, hpl, hP, hPc⟩
      rw [List.length_map] at hpl
      rw [List.length_map, List.take_length] at hP hPc
      unfold unlock
      walk_at "ab"
      have hKb := hK.back hfd'
      have htob := at_ne hto (show st2.length ≠ s4.length by omega) (.dt false (dicT kLot lots))
      refine p_sortA dPc (.pr (.seq (.pr .int (.seq .int))) (.seq .int)) (.inl (.inr ⟨_, rfl, htob⟩)) (by rw [LIM_eq]; omega) rfl (by decide) ty_pc fun zs hz => ?_
      refine q _ _ zs (((hK1.trans hK2).trans (hK4.trans hKb)).app _) ?_ (at_new _ _) fun a b => ?_
      · have := hK1.1
        have := hKb.1
        omega
      rw [web_llots (fun p => hKe.rc p) hLL]
      constructor
      · rintro ⟨h1, lot, h2, h3, h4⟩
        obtain ⟨x, x1, x2⟩ := hPc lot h2
        obtain ⟨_, x4⟩ := hP x x1
        exact ⟨x, hz.mem_iff.mpr x1, (x4 a).mpr (by rw [x2]; exact h3), (x4 b).mpr (by rw [x2]; exact h4), h1⟩
      · rintro ⟨x, x1, x2, x3, x4⟩
        obtain ⟨y1, y2⟩ := hP x (hz.mem_iff.mp x1)
        exact ⟨x4, x.1, y1, (y2 a).mp x2, (y2 b).mp x3⟩
end Ab

set_option Elab.async false
set_option linter.all false
set_option maxRecDepth 100000
set_option maxHeartbeats 4000000
/-! _law_web. -/
namespace Ab
open PySem
local macro_rules | `(tactic| walk_at "ab") => `(tactic| simp (config := { failIfUnchanged := false }) only [runDef, List.map_cons, List.map_nil, List.length_cons, List.length_nil, Nat.zero_add, Nat.reduceAdd, Nat.reduceSub, Nat.sub_self, List.replicate_zero, List.replicate_succ, List.nil_append, List.append_nil, List.cons_append, aSeq, aNext, aAsg, aPar, agNm, agTup, agSub, aUpd, aFld, aSetF, aExp, aIf, aRet, aRetN, aBrk, aCnt, aO1, aO2, aVar, aC, aTup, aLst, alNil, alCons, aCall, aDNew, atB, atYes, atAnd, atOr, atNot, aAndV, aOrV, aNotV, aIfE, aChain, aM1, bindP, wipeE,
  List.getElem?_cons_zero, List.getElem?_cons_succ, List.set_cons_zero, List.set_cons_succ, List.getElem?_nil, e_add, e_sub, e_neg, e_cmp, e_eqI, e_eqS, e_neI, e_isN, e_isNotN, e_ixT, e_lenT, e_int, e_abs, e_max2, e_min2, e_tupT, e_isiI, e_isiB, e_isiS, e_isiT, atI0, atI1, atI2, e_br_t, e_br_f, e_blx, e_intx, e_somex, e_somey, e_pair, e_two, Bool.not_true, Bool.not_false, true_and, and_true, Nat.reduceLeDiff, Nat.le_refl, decide_true, decide_false, c_0, c_1, c_2, c_3, c_4, c_5, c_6, c_7, c_8, c_9, Int.reduceEq, Int.reduceLT, Int.reduceLE, s_look_say, s_look_stop, s_look_end, s_say_look, s_say_stop, s_say_end, s_stop_look, s_stop_say, s_stop_end, s_end_look, s_end_say, s_end_stop])

theorem k_law_web (ds : List D) (st : Store) (Q : DK) (h : sLawWeb ds st Q) : runDef 6 (b_law_web sLawPieces) ds st Q := by
  obtain ⟨rows, L, tab, rfl, hT, hL2, hsz, q⟩ := h
  unfold b_law_web
  walk_at "ab"
  refine .inl (.inl ?_)
  unfold aFor sItems
  walk_at "ab"
  refine ⟨rows, L, tab, rfl, hT, hL2, hsz, fun st1 m ps hK1 hm hps good => ?_⟩
  refine .inr (.inl ⟨m, _, rfl, hps, ?_⟩)
  rw [List.length_append, List.length_singleton] at hm
  have hd0 : st1[st.length]? = some (.dt false (dicT kPr ([] : List Pr))) := hK1.at (at_new _ _) (by simp)
  have hK0 : Kp [] st st1 := ((Kp.refl _ _).app _).trans (hK1.le (by simp))
  have h8 := hT.r64
  have hlt : ∀ x ∈ ps, ∀ a b, a ∈ x.2 → b ∈ x.2 → a < b → a < 8 ∧ b < 8 := fun x hx a b ha hb hab => by
    have := web_row hT ((good a b).mpr ⟨x, hx, ha, hb, hab⟩)
    omega
  refine ⟨fun i env s => (∃ a b c d, env = [some (dSpec rows L tab), some (.ref st.length), a, b, c, d]) ∧ Kp [st.length] st1 s ∧ ∃ W : List Pr, s[st.length]? = some (.dt false (dicT kPr W)) ∧ W.Nodup ∧ (∀ x ∈ W, x.1 < 8 ∧ x.2 < 8) ∧ ∀ a b, (a, b) ∈ W ↔ ∃ x ∈ ps.take i, a ∈ x.2 ∧ b ∈ x.2 ∧ a < b, ⟨⟨none, none, none, none, rfl⟩, Kp.refl _ _, [], hd0, .nil, by simp, by simp⟩, ?_, ?_, ?_⟩
  · rintro i env s ⟨_, h, _⟩
    exact h.at hps (by simp; omega)
  · rintro i x env s hx ⟨⟨a, b, c, d, rfl⟩, hK, W, hW, hnd, hl8, hWm⟩
    obtain ⟨pc, hpc, rfl⟩ := Option.map_eq_some_iff.mp ((List.getElem?_map ..).symm.trans hx)
    have hpm := List.mem_of_getElem? hpc
    unfold dPc
    walk_at "ab"
    refine .inl ?_
    unfold aFor sItems
    walk_at "ab"
    refine .inl ⟨_, rfl, ?_⟩
    refine ⟨fun j env s2 => (∃ c d, env = [some (dSpec rows L tab), some (.ref st.length), some (.tup (pc.1.map dPh)), some (.tup (pc.2.map dN)), c, d]) ∧ Kp [st.length] st1 s2 ∧ ∃ W : List Pr, s2[st.length]? = some (.dt false (dicT kPr W)) ∧ W.Nodup ∧ (∀ x ∈ W, x.1 < 8 ∧ x.2 < 8) ∧ ∀ a b, (a, b) ∈ W ↔ (∃ x ∈ ps.take i, a ∈ x.2 ∧ b ∈ x.2 ∧ a < b) ∨ (a ∈ pc.2 ∧ b ∈ pc.2.take j ∧ a < b),
      ⟨⟨_, _, rfl⟩, hK, W, hW, hnd, hl8, fun a b => by rw [hWm a b]; simp⟩, fun _ _ _ _ => trivial, ?_, ?_⟩
    · rintro j y env s2 hy ⟨⟨c, d, rfl⟩, hK2, W, hW, hnd, hl8, hWm⟩
      obtain ⟨o, ho, rfl⟩ := Option.map_eq_some_iff.mp ((List.getElem?_map ..).symm.trans hy)
      have hom := List.mem_of_getElem? ho
      walk_at "ab"
      refine .inl ?_
      unfold aFor sItems
      walk_at "ab"
      refine .inl ⟨_, rfl, ?_⟩
      refine ⟨fun t env s3 => (∃ d, env = [some (dSpec rows L tab), some (.ref st.length), some (.tup (pc.1.map dPh)), some (.tup (pc.2.map dN)), some (dN o), d]) ∧ Kp [st.length] st1 s3 ∧ ∃ W : List Pr, s3[st.length]? = some (.dt false (dicT kPr W)) ∧ W.Nodup ∧ (∀ x ∈ W, x.1 < 8 ∧ x.2 < 8) ∧ ∀ a b, (a, b) ∈ W ↔ ((∃ x ∈ ps.take i, a ∈ x.2 ∧ b ∈ x.2 ∧ a < b) ∨ (a ∈ pc.2 ∧ b ∈ pc.2.take j ∧ a < b)) ∨ (a ∈ pc.2.take t ∧ b = o ∧ a < b),
        ⟨⟨_, rfl⟩, hK2, W, hW, hnd, hl8, fun a b => by rw [hWm a b]; simp⟩, fun _ _ _ _ => trivial, ?_, ?_⟩
      · rintro t y env s3 hy ⟨⟨d, rfl⟩, hK3, W, hW, hnd, hl8, hWm⟩
        obtain ⟨e, he, rfl⟩ := Option.map_eq_some_iff.mp ((List.getElem?_map ..).symm.trans hy)
        have hem := List.mem_of_getElem? he
        have hWl := pr64 hnd hl8
        walk_at "ab"
        refine br_d (fun hlt' => ?_) fun hlt' => ?_
        · refine p_setD (kPr (e, o)) (dk_pr (e, o)).symm (kPr_depth _) (kPr_tup _) hW (by unfold dicT; rw [List.length_map, LIM_eq]; omega) ?_
          rw [put_dicT kPr (fun _ _ => kPr_inj)]
          refine ⟨⟨_, rfl⟩, hK3.set _ (.inl (by simp)), _, at_self hW _, add_nd hnd, fun x hx => ?_, fun a b => ?_⟩
          · rcases add_mem.mp hx with hx | hx
            · exact hl8 x hx
            · rw [hx]; exact hlt pc hpm e o hem hom (by omega)
          · rw [add_mem, hWm a b, take_snoc he, List.mem_append]
            constructor
            · rintro (h | h)
              · rcases h with h | ⟨h1, h2⟩
                · exact .inl h
                · exact .inr ⟨.inl h1, h2⟩
              · cases h
                exact .inr ⟨.inr (by simp), rfl, by omega⟩
            · rintro (h | ⟨h1 | h1, h2, h3⟩)
              · exact .inl (.inl h)
              · exact .inl (.inr ⟨h1, h2, h3⟩)
              · simp at h1
                exact .inr (by rw [h1, h2])
        · refine ⟨⟨_, rfl⟩, hK3, W, hW, hnd, hl8, fun a b => ?_⟩
          rw [hWm a b, take_snoc he, List.mem_append]
          constructor
          · rintro (h | ⟨h1, h2⟩)
            · exact .inl h
            · exact .inr ⟨.inl h1, h2⟩
          · rintro (h | ⟨h1 | h1, h2, h3⟩)
            · exact .inl h
            · exact .inr ⟨h1, h2, h3⟩
            · simp at h1
              omega
      · rintro env s3 ⟨⟨d, rfl⟩, hK3, W, hW, hnd, hl8, hWm⟩
        refine ⟨⟨_, _, rfl⟩, hK3, W, hW, hnd, hl8, fun a b => ?_⟩
        rw [hWm a b, List.length_map, List.take_length, take_snoc ho, List.mem_append]
        constructor
        · rintro ((h | ⟨h1, h2, h3⟩) | ⟨h1, h2, h3⟩)
          · exact .inl h
          · exact .inr ⟨h1, .inl h2, h3⟩
          · exact .inr ⟨h1, .inr (by simp [h2]), h3⟩
        · rintro (h | ⟨h1, h2 | h2, h3⟩)
          · exact .inl (.inl h)
          · exact .inl (.inr ⟨h1, h2, h3⟩)
          · simp at h2
            exact .inr ⟨h1, h2, h3⟩
    · rintro env s2 ⟨⟨c, d, rfl⟩, hK2, W, hW, hnd, hl8, hWm⟩
      refine ⟨⟨_, _, _, _, rfl⟩, hK2, W, hW, hnd, hl8, fun a b => ?_⟩
      rw [hWm a b, List.length_map, List.take_length, take_snoc hpc]
      constructor
      · rintro (⟨x, x1, x2⟩ | h)
        · exact ⟨x, by simp [x1], x2⟩
        · exact ⟨pc, by simp, h⟩
      · rintro ⟨x, x1, x2⟩
        rcases List.mem_append.mp x1 with x1 | x1
        · exact .inl ⟨x, x1, x2⟩
        · simp at x1; rw [x1] at x2; exact .inr x2
  · rintro env s ⟨⟨a, b, c, d, rfl⟩, hK, W, hW, hnd, hl8, hWm⟩
    walk_at "ab"
    rw [List.length_map, List.take_length] at hWm
    have hWl := pr64 hnd hl8
    have hKs : Kp [] st s := ((hK0.le (T := [st.length]) (by simp)).trans hK).le fun k hk hl => by simp at hk; omega
    refine ⟨W.map dPr, .inr (.inl ⟨_, false, _, rfl, hW, (dicT_keys kPr dPr dk_pr W).symm⟩), by rw [List.length_map, LIM_eq]; omega, ?_⟩
    refine p_sortA dPr (.pr .int .int) (xs := W) (.inl (.inr ⟨_, rfl, at_new _ _⟩)) (by rw [LIM_eq]; omega) rfl (by decide) ty_pr fun zs hz => ?_
    refine p_tupL (at_new _ _) ?_
    exact q _ zs ((hKs.app _).app _) ⟨fun a b => by rw [hz.mem_iff, hWm a b, good a b], hz.symm.nodup hnd, fun x hx => hl8 x (hz.mem_iff.mp hx)⟩
end Ab

set_option Elab.async false
set_option linter.all false
set_option maxRecDepth 100000
set_option maxHeartbeats 4000000
/-! _law_drawn_table. -/
namespace Ab
open PySem
local macro_rules | `(tactic| walk_at "ab") => `(tactic| simp (config := { failIfUnchanged := false }) only [runDef, List.map_cons, List.map_nil, List.length_cons, List.length_nil, Nat.zero_add, Nat.reduceAdd, Nat.reduceSub, Nat.sub_self, List.replicate_zero, List.replicate_succ, List.nil_append, List.append_nil, List.cons_append, aSeq, aNext, aAsg, aPar, agNm, agTup, agSub, aUpd, aFld, aSetF, aExp, aIf, aRet, aRetN, aBrk, aCnt, aO1, aO2, aVar, aC, aTup, aLst, alNil, alCons, aCall, aDNew, atB, atYes, atAnd, atOr, atNot, aAndV, aOrV, aNotV, aIfE, aChain, aM1, bindP, wipeE,
  List.getElem?_cons_zero, List.getElem?_cons_succ, List.set_cons_zero, List.set_cons_succ, List.getElem?_nil, e_add, e_sub, e_neg, e_cmp, e_eqI, e_eqS, e_neI, e_isN, e_isNotN, e_ixT, e_lenT, e_int, e_abs, e_max2, e_min2, e_tupT, e_isiI, e_isiB, e_isiS, e_isiT, atI0, atI1, atI2, e_br_t, e_br_f, e_blx, e_intx, e_somex, e_somey, e_pair, e_two, Bool.not_true, Bool.not_false, true_and, and_true, Nat.reduceLeDiff, Nat.le_refl, decide_true, decide_false, c_0, c_1, c_2, c_3, c_4, c_5, c_6, c_7, c_8, c_9, Int.reduceEq, Int.reduceLT, Int.reduceLE, s_look_say, s_look_stop, s_look_end, s_say_look, s_say_stop, s_say_end, s_stop_look, s_stop_say, s_stop_end, s_end_look, s_end_say, s_end_stop])

theorem cut_init {α : Type} (xs : List α) (y : α) : cut (xs ++ [y]) none (some (-1)) = xs := by
  unfold cut sIx
  simp only [List.length_append, List.length_singleton, List.drop_zero, Nat.sub_zero, Int.reduceNeg, Int.reduceLT, if_true]
  rw [show ((-1 : Int) + ((xs.length + 1 : Nat) : Int)).toNat = xs.length by omega]
  simp
theorem last_snoc (xs : List Nat) (y : Nat) : lastN (xs ++ [y]) = y := by unfold lastN; simp
/-- single steps lead on -/
def UpTm (s : Nat) : Tm → Prop
  | .say _ j => s < j
  | .look _ ns => s < lastN ns
  | .stop => True
theorem ok_x : okWord "x" := ⟨by decide, by decide, by decide⟩
theorem ok_yes : okWord "yes" := ⟨by decide, by decide, by decide⟩
theorem ok_words : okWord "words" := ⟨by decide, by decide, by decide⟩
def sDrawnTable : ASp := fun ds st Q => ∃ (p g sm rows L size : Nat) (up : Bool), ds = [.ref p, dN rows, dN L, dN size, .bl up] ∧ IsPot st p g sm ∧ 1 ≤ rows ∧ rows ≤ 8 ∧ 1 ≤ L ∧ L ≤ 3 ∧ 1 ≤ size ∧ size ≤ 16 ∧
  ∀ st' n (tab : List Tm), Kp [p, g] st st' → st.length ≤ n → IsPot st' p g sm → tab.length = size → (∀ t ∈ tab, okTm rows L size t) → (up = true → ∀ s t, tab[s]? = some t → UpTm s t) → st'[n]? = some (.lst (tab.map dTm)) → Q (.ref n) st'
theorem IsPot.app {st : Store} {p g sm : Nat} (h : IsPot st p g sm) (o : MO) : IsPot (st ++ [o]) p g sm := by
  obtain ⟨t, k, a1⟩ := h.at_
  obtain ⟨gs, a2⟩ := h.gr
  obtain ⟨ss, a3, a4⟩ := h.sm_
  exact ⟨⟨t, k, at_app a1 _⟩, ⟨gs, at_app a2 _⟩, ⟨ss, a3, at_app a4 _⟩, h.pg, h.ps, h.gs⟩
theorem IsPot.set {st : Store} {p g sm n : Nat} (h : IsPot st p g sm) (h1 : n ≠ p) (h2 : n ≠ g) (h3 : n ≠ sm) (o : MO) : IsPot (st.set n o) p g sm := by
  obtain ⟨t, k, a1⟩ := h.at_
  obtain ⟨gs, a2⟩ := h.gr
  obtain ⟨ss, a3, a4⟩ := h.sm_
  exact ⟨⟨t, k, at_ne a1 h1 _⟩, ⟨gs, at_ne a2 h2 _⟩, ⟨ss, a3, at_ne a4 h3 _⟩, h.pg, h.ps, h.gs⟩
theorem IsPot.mono {st st' : Store} {p g sm : Nat} (h : IsPot st p g sm) (k : Kp [] st st') : IsPot st' p g sm := by
  obtain ⟨t, j, a1⟩ := h.at_
  obtain ⟨gs, a2⟩ := h.gr
  obtain ⟨ss, a3, a4⟩ := h.sm_
  exact ⟨⟨t, j, k.at a1 (by simp)⟩, ⟨gs, k.at a2 (by simp)⟩, ⟨ss, a3, k.at a4 (by simp)⟩, h.pg, h.ps, h.gs⟩
theorem IsPot.lt {st : Store} {p g sm : Nat} (h : IsPot st p g sm) : p < st.length ∧ g < st.length ∧ sm < st.length := by
  obtain ⟨t, k, a1⟩ := h.at_
  obtain ⟨gs, a2⟩ := h.gr
  obtain ⟨ss, a3, a4⟩ := h.sm_
  exact ⟨at_lt a1, at_lt a2, at_lt a4⟩
theorem up_snoc {tab : List Tm} {t : Tm} (h : ∀ s t, tab[s]? = some t → UpTm s t) (k : UpTm tab.length t) : ∀ s t', (tab ++ [t])[s]? = some t' → UpTm s t' := fun s t' hs => by
  rcases Nat.lt_or_ge s tab.length with h1 | h1
  · rw [List.getElem?_append_left h1] at hs
    exact h s t' hs
  · have h2 := (List.getElem?_eq_some_iff.mp hs).1
    simp at h2
    have h3 : s = tab.length := by omega
    subst h3
    simp at hs
    rw [← hs]
    exact k
theorem k_law_drawn_table (ds : List D) (st : Store) (Q : DK) (h : sDrawnTable ds st Q) : runDef 11 (b_law_drawn_table sDraw) ds st Q := by
  obtain ⟨p, g, sm, rows, L, size, up, rfl, hP, hr1, hr8, hL1, hL3, hz1, hz16, q⟩ := h
  obtain ⟨lp, lg, ls⟩ := hP.lt
  unfold b_law_drawn_table
  walk_at "ab"
  unfold aFor sRng1
  walk_at "ab"
  refine ⟨_, rfl, by omega, by omega, ?_⟩
  refine ⟨fun i env s => (∃ a b c d e, env = [some (.ref p), some (dN rows), some (dN L), some (dN size), some (.bl up), some (.ref st.length), a, b, c, d, e]) ∧ Kp [p, g] st s ∧ IsPot s p g sm ∧ ∃ tab : List Tm, s[st.length]? = some (.lst (tab.map dTm)) ∧ tab.length = i ∧ (∀ t ∈ tab, okTm rows L size t) ∧ (up = true → ∀ s t, tab[s]? = some t → UpTm s t),
    ⟨⟨_, _, _, _, _, rfl⟩, (Kp.refl _ _).app _, hP.app _, [], at_new _ _, rfl, by simp, by simp⟩, fun _ _ _ _ => trivial, ?_, ?_⟩
  · rintro i y env s hy ⟨⟨a, b, c, d, e, rfl⟩, hK, hPs, tab, htb, htl, hok, hup⟩
    unfold rng at hy
    obtain ⟨i', hi, rfl⟩ := Option.map_eq_some_iff.mp ((List.getElem?_map ..).symm.trans hy)
    obtain ⟨hi1, hi2⟩ := List.getElem?_eq_some_iff.mp hi
    rw [List.getElem_range] at hi2
    subst hi2
    rw [List.length_range] at hi1
    have hiz : i < size := by omega
    rw [Int.zero_add]
    walk_at "ab"
    refine ⟨p, g, sm, 10, rfl, hPs, by omega, by omega, fun s1 kd hK1 hl1 hP1 hkd => ?_⟩
    have htb1 := hK1.at htb (by simp; omega)
    walk_at "ab"
    unfold aLc
    walk_at "ab"
    refine ⟨_, rfl, by omega, by omega, ?_⟩
    refine ⟨fun j acc s' => ∃ ns : List Nat, acc = ns.map dN ∧ ns.length = j ∧ (∀ x ∈ ns, x < size) ∧ Kp [p, g] s1 s' ∧ IsPot s' p g sm, ⟨[], rfl, rfl, by simp, Kp.refl _ _, hP1⟩, by simp [rng]; rw [LIM_eq]; omega, fun _ _ _ _ => trivial, ?_, ?_⟩
    · rintro j x acc s' hx ⟨ns, rfl, hnl, hns, hK2, hP2⟩
      walk_at "ab"
      refine ⟨p, g, sm, size, rfl, hP2, by omega, by omega, fun s2 r hK3 hl3 hP3 hr => ?_⟩
      exact ⟨ns ++ [r], by simp, by simp [hnl], fun x hx => by
        rcases List.mem_append.mp hx with hx | hx
        · exact hns x hx
        · simp at hx; omega, hK2.trans hK3, hP3⟩
    rintro acc s2 ⟨ns, rfl, hnl, hns, hK2, hP2⟩
    have hnl' : ns.length = L + 1 := by rw [hnl]; simp [rng] <;> omega
    have hne : ns ≠ [] := by intro z; rw [z] at hnl'; simp at hnl'
    obtain ⟨xs, hxs⟩ := last_eq hne
    have hlast := hns _ (last_mem hne)
    walk_at "ab"
    have hN2 := at_new s2 (.lst (ns.map dN))
    have htb2 := at_app (hK2.at htb1 (by simp; omega)) (.lst (ns.map dN))
    have hP2' := hP2.app (.lst (ns.map dN))
    have hK2' : Kp [p, g] st (s2 ++ [.lst (ns.map dN)]) := ((hK.trans hK1).trans hK2).app _
    have hs2 : st.length < s2.length := by have := at_lt htb; have := hK1.1; have := hK2.1; omega
    generalize s2 ++ [.lst (ns.map dN)] = s3 at *
    refine p_ixL hN2 (lastD hne) ?_
    have key : ∀ (later : Nat) (s4 : Store), later < size → (up = true → i + 1 < size → i < later) → Kp [p, g] st s4 → IsPot s4 p g sm → s4[s2.length]? = some (.lst (ns.map dN)) → s4[st.length]? = some (.lst (tab.map dTm)) →
        (aIf (atOr (atB (aO2 pEq (aVar 7) (aC (.int 9)))) (atAnd (atB (aVar 4)) (atB (aO2 pEq (aO2 pAdd (aVar 6) (aC (.int 1))) (aVar 3)))))
 (aExp (aM1 pAppend (aVar 5) (aTup (alCons (aC (.str "stop")) alNil))))
 (aIf (atB (aO2 pGt (aVar 7) (aC (.int 6))))
 (aExp (aM1 pAppend (aVar 5) (aTup (alCons (aC (.str "say")) (alCons (aO2 pIx (aTup (alCons (aC (.str "x")) (alCons (aC (.str "yes")) (alCons (aC (.str "words")) alNil)))) (aCall sDraw (alCons (aVar 0) (alCons (aC (.int 3)) alNil)))) (alCons (aVar 9) alNil))))))
 (aExp (aM1 pAppend (aVar 5) (aTup (alCons (aC (.str "look")) (alCons (aCall sDraw (alCons (aVar 0) (alCons (aVar 1) alNil))) (alCons (aO1 pTuple (aO2 pAdd (aSl (aVar 8) aoNone (aoSome (aO1 pNeg (aC (.int 1))))) (aLst (alCons (aVar 9) alNil)))) alNil)))))))) 
        { nx := fun env s => (∃ a b c d e, env = [some (.ref p), some (dN rows), some (dN L), some (dN size), some (.bl up), some (.ref st.length), a, b, c, d, e]) ∧ Kp [p, g] st s ∧ IsPot s p g sm ∧ ∃ tab : List Tm, s[st.length]? = some (.lst (tab.map dTm)) ∧ tab.length = i + 1 ∧ (∀ t ∈ tab, okTm rows L size t) ∧ (up = true → ∀ s t, tab[s]? = some t → UpTm s t), rt := Q }
        [some (.ref p), some (dN rows), some (dN L), some (dN size), some (.bl up), some (.ref st.length), some (dN i), some (dN kd), some (.ref s2.length), some (dN later), e] s4 := by
      intro later s4 hla hlu hK4 hP4 hN4 htb4
      have fin : ∀ (s5 : Store) (t : Tm), okTm rows L size t → (up = true → UpTm i t) → Kp [p, g] st s5 → IsPot s5 p g sm → s5[st.length]? = some (.lst (tab.map dTm)) →
          Kp [p, g] st (s5.set st.length (.lst (tab.map dTm ++ [dTm t]))) ∧ IsPot (s5.set st.length (.lst (tab.map dTm ++ [dTm t]))) p g sm ∧ ∃ tab' : List Tm, (s5.set st.length (.lst (tab.map dTm ++ [dTm t])))[st.length]? = some (.lst (tab'.map dTm)) ∧ tab'.length = i + 1 ∧ (∀ t ∈ tab', okTm rows L size t) ∧ (up = true → ∀ s t, tab'[s]? = some t → UpTm s t) := fun s5 t h1 h2 h3 h4 h5 =>
        ⟨h3.set _ (.inr (Nat.le_refl _)), h4.set (by omega) (by omega) (by omega) _, tab ++ [t], by rw [at_self h5]; simp, by simp [htl], fun u hu => by
          rcases List.mem_append.mp hu with hu | hu
          · exact hok u hu
          · simp at hu; rw [hu]; exact h1, fun e => up_snoc (hup e) (by rw [htl]; exact h2 e)⟩
      have hll : (tab.map dTm).length < LIM := by rw [List.length_map, LIM_eq]; omega
      have stop : ∀ e : Option D, ((∃ n xs, D.ref st.length = D.ref n ∧ s4[n]? = some (.lst xs)) ∧ pAppend (.ref st.length) (.tup [.str "stop"]) s4 fun x s => (∃ a b c d e', [some (.ref p), some (dN rows), some (dN L), some (dN size), some (.bl up), some (.ref st.length), some (dN i), some (dN kd), some (.ref s2.length), some (dN later), e] = [some (.ref p), some (dN rows), some (dN L), some (dN size), some (.bl up), some (.ref st.length), a, b, c, d, e']) ∧ Kp [p, g] st s ∧ IsPot s p g sm ∧ ∃ tab : List Tm, s[st.length]? = some (.lst (tab.map dTm)) ∧ tab.length = i + 1 ∧ (∀ t ∈ tab, okTm rows L size t) ∧ (up = true → ∀ s t, tab[s]? = some t → UpTm s t)) := fun e =>
        ⟨⟨_, _, rfl, htb4⟩, p_app htb4 hll ⟨⟨_, _, _, _, _, rfl⟩, fin s4 .stop trivial (fun _ => trivial) hK4 hP4 htb4⟩⟩
      walk_at "ab"
      refine br_d (fun h9 => ?_) fun h9 => ?_
      · exact stop e
      · have nst : ∀ (hu : up = true → i + 1 < size), Br (decide (6 < (kd : Int)))
            ((∃ n xs, D.ref st.length = D.ref n ∧ s4[n]? = some (.lst xs)) ∧ sDraw [.ref p, .int 3] s4 fun x s5 => pIx (.tup [.str "x", .str "yes", .str "words"]) x s5 fun x s6 => pAppend (.ref st.length) (.tup [.str "say", x, dN later]) s6 fun x s => (∃ a b c d e', [some (.ref p), some (dN rows), some (dN L), some (dN size), some (.bl up), some (.ref st.length), some (dN i), some (dN kd), some (.ref s2.length), some (dN later), e] = [some (.ref p), some (dN rows), some (dN L), some (dN size), some (.bl up), some (.ref st.length), a, b, c, d, e']) ∧ Kp [p, g] st s ∧ IsPot s p g sm ∧ ∃ tab : List Tm, s[st.length]? = some (.lst (tab.map dTm)) ∧ tab.length = i + 1 ∧ (∀ t ∈ tab, okTm rows L size t) ∧ (up = true → ∀ s t, tab[s]? = some t → UpTm s t)) True := fun hu => br_d (fun h6 => by
              refine ⟨⟨_, _, rfl, htb4⟩, ?_⟩
              refine ⟨p, g, sm, 3, rfl, hP4, by omega, by omega, fun s5 r hK5 hl5 hP5 hr => ?_⟩
              have htb5 := hK5.at htb4 (by simp; omega)
              have h0 : r = 0 ∨ r = 1 ∨ r = 2 := by omega
              rcases h0 with rfl | rfl | rfl
              · exact p_ixT atI0 (p_app htb5 hll ⟨⟨_, _, _, _, _, rfl⟩, fin s5 (.say "x" later) ⟨ok_x, hla⟩ (fun e => hlu e (hu e)) (hK4.trans hK5) hP5 htb5⟩)
              · exact p_ixT atI1 (p_app htb5 hll ⟨⟨_, _, _, _, _, rfl⟩, fin s5 (.say "yes" later) ⟨ok_yes, hla⟩ (fun e => hlu e (hu e)) (hK4.trans hK5) hP5 htb5⟩)
              · exact p_ixT atI2 (p_app htb5 hll ⟨⟨_, _, _, _, _, rfl⟩, fin s5 (.say "words" later) ⟨ok_words, hla⟩ (fun e => hlu e (hu e)) (hK4.trans hK5) hP5 htb5⟩)) fun _ => trivial
        have look : ∀ (hu : up = true → i + 1 < size), aExp (aM1 pAppend (aVar 5) (aTup (alCons (aC (.str "look")) (alCons (aCall sDraw (alCons (aVar 0) (alCons (aVar 1) alNil))) (alCons (aO1 pTuple (aO2 pAdd (aSl (aVar 8) aoNone (aoSome (aO1 pNeg (aC (.int 1))))) (aLst (alCons (aVar 9) alNil)))) alNil)))))
          { nx := fun env s => (∃ a b c d e, env = [some (.ref p), some (dN rows), some (dN L), some (dN size), some (.bl up), some (.ref st.length), a, b, c, d, e]) ∧ Kp [p, g] st s ∧ IsPot s p g sm ∧ ∃ tab : List Tm, s[st.length]? = some (.lst (tab.map dTm)) ∧ tab.length = i + 1 ∧ (∀ t ∈ tab, okTm rows L size t) ∧ (up = true → ∀ s t, tab[s]? = some t → UpTm s t), rt := Q }
          [some (.ref p), some (dN rows), some (dN L), some (dN size), some (.bl up), some (.ref st.length), some (dN i), some (dN kd), some (.ref s2.length), some (dN later), e] s4 := fun hu => by
          walk_at "ab"
          refine ⟨⟨_, _, rfl, htb4⟩, ?_⟩
          refine ⟨p, g, sm, rows, rfl, hP4, by omega, by omega, fun s5 r hK5 hl5 hP5 hr => ?_⟩
          have htb5 := hK5.at htb4 (by simp; omega)
          have hN5 := hK5.at hN4 (by simp; omega)
          unfold aSl aoNone aoSome
          walk_at "ab"
          refine .inr (.inr ⟨_, _, rfl, hN5, ?_⟩)
          have hcut : cut (ns.map dN) none (some (-1)) = xs.map dN := by
            rw [hxs, List.map_append, List.map_singleton, cut_init]
          rw [hcut]
          walk_at "ab"
          have hxl : xs.length = L := by
            have := congrArg List.length hxs
            simp at this
            omega
          refine p_addL (at_app (at_new _ _) _) (at_new _ _) (by simp; rw [LIM_eq]; omega) ?_
          refine p_tupL (at_new _ _) ?_
          walk_at "ab"
          refine p_app (at_app (at_app (at_app htb5 _) _) _) hll ?_
          refine ⟨⟨_, _, _, _, _, rfl⟩, ?_⟩
          have := fin _ (.look r (xs ++ [later])) ⟨hr, by simp [hxl], fun x hx => by
            rcases List.mem_append.mp hx with hx | hx
            · exact hns x (by rw [hxs]; simp [hx])
            · simp at hx; omega⟩ (fun e => by show i < lastN (xs ++ [later]); rw [last_snoc]; exact hlu e (hu e)) ((((hK4.trans hK5).app (.lst (xs.map dN))).app (.lst [dN later])).app (.lst (xs.map dN ++ [dN later]))) (((hP5.app (.lst (xs.map dN))).app (.lst [dN later])).app (.lst (xs.map dN ++ [dN later]))) (at_app (at_app (at_app htb5 _) _) _)
          have e1 : dTm (.look r (xs ++ [later])) = .tup [.str "look", dN r, .tup (xs.map dN ++ [dN later])] := by unfold dTm; simp
          rw [e1] at this
          exact this
        cases up with
        | false =>
          walk_at "ab"
          refine ⟨fun h => ?_, fun h => ?_⟩
          · exact (nst (by simp)).1 h
          · have this := look (by simp)
            revert this
            walk_at "ab"
            first | done | exact id
        | true =>
          walk_at "ab"
          refine br_d (fun h1 => ?_) fun h1 => ?_
          · have this := stop e
            revert this
            walk_at "ab"
            first | done | exact id
          · have hu : true = true → i + 1 < size := fun _ => by omega
            refine ⟨fun h => ?_, fun h => ?_⟩
            · have this := (nst hu).1 h
              revert this
              walk_at "ab"
              first | done | exact id
            · have this := look hu
              revert this
              walk_at "ab"
              first | done | exact id
    cases up with
    | false =>
      have this := key (lastN ns) s3 hlast (by simp) hK2' hP2' hN2 htb2
      revert this
      walk_at "ab"
      first | done | exact id
    | true =>
      walk_at "ab"
      refine br_d (fun h1 => ?_) fun h1 => ?_
      · rw [show (size : Int) - (i : Int) - 1 = ((size - i - 1 : Nat) : Int) by omega]
        refine ⟨p, g, sm, size - i - 1, rfl, hP2', by omega, by omega, fun s4 r hK4 hl4 hP4 hr => ?_⟩
        walk_at "ab"
        rw [show (i : Int) + 1 + (r : Int) = ((i + 1 + r : Nat) : Int) by omega]
        have this := key (i + 1 + r) s4 (by omega) (fun _ _ => by omega) (hK2'.trans hK4) hP4 (hK4.at hN2 (by simp; omega)) (hK4.at htb2 (by simp; omega))
        revert this
        walk_at "ab"
        first | done | exact id
      · have this := key (lastN ns) s3 hlast (fun _ h => absurd h (by omega)) hK2' hP2' hN2 htb2
        revert this
        walk_at "ab"
        first | done | exact id
  · rintro env s ⟨⟨a, b, c, d, e, rfl⟩, hK, hPs, tab, htb, htl, hok, hup⟩
    walk_at "ab"
    refine q s _ tab hK (Nat.le_refl _) hPs ?_ hok hup htb
    rw [htl]
    simp [rng]
end Ab

set_option Elab.async false
set_option linter.all false
set_option maxRecDepth 100000
set_option maxHeartbeats 4000000
/-! _law_renamed. -/
namespace Ab
open PySem
local macro_rules | `(tactic| walk_at "ab") => `(tactic| simp (config := { failIfUnchanged := false }) only [runDef, List.map_cons, List.map_nil, List.length_cons, List.length_nil, Nat.zero_add, Nat.reduceAdd, Nat.reduceSub, Nat.sub_self, List.replicate_zero, List.replicate_succ, List.nil_append, List.append_nil, List.cons_append, aSeq, aNext, aAsg, aPar, agNm, agTup, agSub, aUpd, aFld, aSetF, aExp, aIf, aRet, aRetN, aBrk, aCnt, aO1, aO2, aVar, aC, aTup, aLst, alNil, alCons, aCall, aDNew, atB, atYes, atAnd, atOr, atNot, aAndV, aOrV, aNotV, aIfE, aChain, aM1, bindP, wipeE,
  List.getElem?_cons_zero, List.getElem?_cons_succ, List.set_cons_zero, List.set_cons_succ, List.getElem?_nil, e_add, e_sub, e_neg, e_cmp, e_eqI, e_eqS, e_neI, e_isN, e_isNotN, e_ixT, e_lenT, e_int, e_abs, e_max2, e_min2, e_tupT, e_isiI, e_isiB, e_isiS, e_isiT, atI0, atI1, atI2, e_br_t, e_br_f, e_blx, e_intx, e_somex, e_somey, e_pair, e_two, Bool.not_true, Bool.not_false, true_and, and_true, Nat.reduceLeDiff, Nat.le_refl, decide_true, decide_false, c_0, c_1, c_2, c_3, c_4, c_5, c_6, c_7, c_8, c_9, Int.reduceEq, Int.reduceLT, Int.reduceLE, s_look_say, s_look_stop, s_look_end, s_say_look, s_say_stop, s_say_end, s_stop_look, s_stop_say, s_stop_end, s_end_look, s_end_say, s_end_stop])

/-- single steps lead on, by a measure -/
def UpP (π : Nat → Nat) (s : Nat) : Tm → Prop
  | .say _ j => π s < π j
  | .look _ ns => π s < π (lastN ns)
  | .stop => True
theorem noIdle_up {L : Nat} {tab : List Tm} (π : Nat → Nat) (h : ∀ s t, tab[s]? = some t → UpP π s t) : NoIdle L tab := by
  have one : ∀ {p q : Ph}, Nx L tab p q → π p.1 < π q.1 := fun {p q} hn => by
    unfold Nx steps at hn
    split at hn
    · rename_i wd j e
      simp at hn
      rw [← hn]
      exact h _ _ e
    · rename_i r ns e
      split at hn
      · simp at hn
        rw [← hn]
        exact h _ _ e
      · rename_i hr
        have : (Sg.fin, (lastN ns, ins r p.2)) ∈ [(Sg.no, q)] := by rw [← hn]; simp
        simp at this
    · simp at hn
  have all : ∀ {p q : Ph}, Tc (Nx L tab) p q → π p.1 < π q.1 := fun {p q} ht => by
    induction ht with
    | one h => exact one h
    | tail _ h ih => exact Nat.lt_trans ih (one h)
  intro p _ ht
  exact absurd (all ht) (Nat.lt_irrefl _)
def rn (ord : List Nat) (x : Nat) : Nat := ord.getD x 0
def ren (ord : List Nat) : Tm → Tm
  | .look r ns => .look r (ns.map (rn ord))
  | .say wd j => .say wd (rn ord j)
  | .stop => .stop
def dO : Option Tm → D
  | none => .non
  | some t => dTm t
theorem last_map (f : Nat → Nat) {ns : List Nat} (h : ns ≠ []) : lastN (ns.map f) = f (lastN ns) := by
  obtain ⟨xs, e⟩ := last_eq h
  rw [e, List.map_append, List.map_singleton, last_snoc, last_snoc]
structure IsOrd (ord : List Nat) (n : Nat) : Prop where
  len : ord.length = n
  nd : ord.Nodup
  mem : ∀ v, v ∈ ord ↔ v < n
theorem rn_at {ord : List Nat} {n x : Nat} (h : IsOrd ord n) (hx : x < n) : ord[x]? = some (rn ord x) := by
  unfold rn
  simp [List.getD, List.getElem?_eq_getElem (show x < ord.length by rw [h.len]; exact hx)]
theorem rn_lt {ord : List Nat} {n x : Nat} (h : IsOrd ord n) (hx : x < n) : rn ord x < n := (h.mem _).mp (List.mem_of_getElem? (rn_at h hx))
theorem idx_rn {ord : List Nat} {n x : Nat} (h : IsOrd ord n) (hx : x < n) : ord.idxOf (rn ord x) = x := by
  have h1 := rn_at h hx
  have hm := List.mem_of_getElem? h1
  have hl := List.idxOf_lt_length_of_mem hm
  have h2 : ord[ord.idxOf (rn ord x)]? = some (rn ord x) := by rw [List.getElem?_eq_getElem hl, List.getElem_idxOf]
  exact (List.getElem?_inj hl h.nd).mp (h2.trans h1.symm)
theorem ren_ok {rows L n : Nat} {ord : List Nat} (h : IsOrd ord n) {t : Tm} (k : okTm rows L n t) : okTm rows L n (ren ord t) := by
  cases t with
  | look r ns =>
    obtain ⟨h1, h2, h3⟩ := k
    refine ⟨h1, by simpa using h2, fun x hx => ?_⟩
    obtain ⟨y, hy, rfl⟩ := List.mem_map.mp hx
    exact rn_lt h (h3 y hy)
  | say wd j => exact ⟨k.1, rn_lt h k.2⟩
  | stop => trivial
theorem ren_up {rows L n s : Nat} {ord : List Nat} (h : IsOrd ord n) {t : Tm} (k : okTm rows L n t) (hs : s < n) (u : UpTm s t) : UpP (fun v => ord.idxOf v) (rn ord s) (ren ord t) := by
  cases t with
  | look r ns =>
    obtain ⟨h1, h2, h3⟩ := k
    have hne : ns ≠ [] := by intro z; rw [z] at h2; simp at h2
    show ord.idxOf (rn ord s) < ord.idxOf (lastN (ns.map (rn ord)))
    rw [last_map _ hne, idx_rn h hs, idx_rn h (h3 _ (last_mem hne))]
    exact u
  | say wd j =>
    show ord.idxOf (rn ord s) < ord.idxOf (rn ord j)
    rw [idx_rn h hs, idx_rn h k.2]
    exact u
  | stop => trivial
def sRenamed : ASp := fun ds st Q => ∃ (p g sm m rows L : Nat) (tab : List Tm), ds = [.ref p, .ref m] ∧ IsPot st p g sm ∧ m ≠ p ∧ m ≠ g ∧ m ≠ sm ∧ st[m]? = some (.lst (tab.map dTm)) ∧ 1 ≤ tab.length ∧ tab.length ≤ 16 ∧ L ≤ 3 ∧ (∀ t ∈ tab, okTm rows L tab.length t) ∧ (∀ s t, tab[s]? = some t → UpTm s t) ∧
  ∀ st' n (tab' : List Tm) (π : Nat → Nat), Kp [p, g] st st' → st.length ≤ n → IsPot st' p g sm → tab'.length = tab.length → (∀ t ∈ tab', okTm rows L tab.length t) → (∀ s t, tab'[s]? = some t → UpP π s t) → st'[n]? = some (.lst (tab'.map dTm)) → Q (.ref n) st'
theorem map_set' {α β : Type} (f : α → β) (xs : List α) (i : Nat) (a : α) : (xs.map f).set i (f a) = (xs.set i a).map f := (List.map_set).symm
theorem k_law_renamed (ds : List D) (st : Store) (Q : DK) (h : sRenamed ds st Q) : runDef 7 (b_law_renamed sMixed) ds st Q := by
  obtain ⟨p, g, sm, m, rows, L, tab, rfl, hP, hmp, hmg, hms, hm, hl1, hl16, hL3, hok, hup, q⟩ := h
  obtain ⟨lp, lg, ls⟩ := hP.lt
  have lm := at_lt hm
  unfold b_law_renamed aListR2
  walk_at "ab"
  refine p_lenL (at_app hm _) ?_
  refine ⟨1, _, rfl, rfl, by omega, by rw [LIM_eq]; omega, by omega, by rw [List.length_map, LIM_eq]; omega, ?_⟩
  rw [List.length_map]
  have er : rng 1 ((tab.length : Int) - 1).toNat = ((List.range (tab.length - 1)).map fun i => 1 + i).map dN := by
    unfold rng
    rw [List.map_map, show ((tab.length : Int) - 1).toNat = tab.length - 1 by omega]
    exact List.map_congr_left fun i _ => by simp [dN]
  rw [er]
  have hP1 : IsPot (st ++ [.lst [.int 0]] ++ [.lst (((List.range (tab.length - 1)).map fun i => 1 + i).map dN)]) p g sm := (hP.app _).app _
  refine ⟨p, g, sm, _, (List.range (tab.length - 1)).map fun i => 1 + i, rfl, .inl (.inr ⟨_, rfl, at_new _ _⟩), by simp; omega, hP1, fun st1 n1 F hK1 hn1 hP1' hF hF1 => ?_⟩
  have h01 : st1[st.length]? = some (.lst [.int 0]) := hK1.at (at_app (at_new _ _) _) (by simp; omega)
  refine p_addL h01 hF1 (by have := hF.length_eq; simp at this ⊢; rw [LIM_eq]; omega) ?_
  have hord : IsOrd (0 :: F) tab.length := by
    have hp : (0 :: F).Perm (List.range tab.length) := by
      rw [show tab.length = (tab.length - 1) + 1 by omega, List.range_succ_eq_map]
      refine (List.Perm.cons 0 hF).trans ?_
      rw [show (fun i => 1 + i) = Nat.succ from funext fun i => Nat.add_comm 1 i]
    refine ⟨by simpa using hp.length_eq, hp.symm.nodup List.nodup_range, fun v => by rw [hp.mem_iff, List.mem_range]⟩
  have eo : ([.int 0] ++ F.map dN : List D) = (0 :: F).map dN := rfl
  rw [eo]
  generalize 0 :: F = ord at *
  walk_at "ab"
  have hKa : Kp [p, g] st (st1 ++ [.lst (ord.map dN)]) := ((((Kp.refl _ _).app _).app _).trans hK1).app _
  have hPa := hP1'.app (.lst (ord.map dN))
  have hma := hKa.at hm (by simp; omega)
  have hoa := at_new st1 (.lst (ord.map dN))
  have hst1 : st.length ≤ st1.length := by have := hK1.1; simp at this; omega
  refine p_lenL (at_app hma _) ?_
  rw [List.length_map]
  refine .inr ⟨_, _, _, rfl, rfl, at_new _ _, by omega, by omega, by simp, ?_⟩
  have ef : (List.replicate ((tab.length : Nat) : Int).toNat [D.non]).flatten = (List.replicate tab.length (none : Option Tm)).map dO := by
    rw [Int.toNat_natCast, List.map_replicate]
    generalize tab.length = k
    induction k with
    | zero => rfl
    | succ k ih => rw [List.replicate_succ, List.flatten_cons, ih]; rfl
  rw [ef]
  walk_at "ab"
  unfold aFor sRng1
  walk_at "ab"
  have hKb := (hKa.app (.lst [.non])).app (.lst ((List.replicate tab.length (none : Option Tm)).map dO))
  have hPb := (hPa.app (.lst [.non])).app (.lst ((List.replicate tab.length (none : Option Tm)).map dO))
  have hob := at_app (at_app hoa (.lst [.non])) (.lst ((List.replicate tab.length (none : Option Tm)).map dO))
  have hfb := at_new (st1 ++ [.lst (ord.map dN)] ++ [.lst [.non]]) (.lst ((List.replicate tab.length (none : Option Tm)).map dO))
  have hmb := hKb.at hm (by simp; omega)
  have el : (st1 ++ [.lst (ord.map dN)] ++ [.lst [.non]] : Store).length = st1.length + 2 := by simp
  rw [el] at hfb
  rw [el]
  generalize st1 ++ [.lst (ord.map dN)] ++ [.lst [.non]] ++ [.lst ((List.replicate tab.length (none : Option Tm)).map dO)] = s0 at *
  refine p_lenL hmb ?_
  rw [List.length_map]
  refine ⟨_, rfl, by omega, by omega, ?_⟩
  refine ⟨fun i env s => (∃ a b c, env = [some (.ref p), some (.ref m), some (.ref st1.length), some (.ref (st1.length + 2)), a, b, c]) ∧ Kp [p, g] st s ∧ IsPot s p g sm ∧ s[st1.length]? = some (.lst (ord.map dN)) ∧ ∃ xs : List (Option Tm), s[st1.length + 2]? = some (.lst (xs.map dO)) ∧ xs.length = tab.length ∧ ∀ j t, j < i → tab[j]? = some t → xs[rn ord j]? = some (some (ren ord t)),
    ⟨⟨_, _, _, rfl⟩, hKb, hPb, hob, _, hfb, by simp, by simp⟩, fun _ _ _ _ => trivial, ?_, ?_⟩
  · rintro i y env s hy ⟨⟨a, b, c, rfl⟩, hK, hPs, ho, xs, hf, hxl, hxs⟩
    unfold rng at hy
    obtain ⟨i', hi, rfl⟩ := Option.map_eq_some_iff.mp ((List.getElem?_map ..).symm.trans hy)
    obtain ⟨hi1, hi2⟩ := List.getElem?_eq_some_iff.mp hi
    rw [List.getElem_range] at hi2
    subst hi2
    rw [List.length_range] at hi1
    have hil : i < tab.length := by omega
    have hti : tab[i]? = some tab[i] := List.getElem?_eq_getElem hil
    generalize tab[i] = t at hti
    have hokt := hok t (List.mem_of_getElem? hti)
    rw [Int.zero_add]
    walk_at "ab"
    have hms' := hK.at hm (by simp; omega)
    refine p_ixL hms' (atTab hti) ?_
    have fin : ∀ s', Kp [p, g] st s' → IsPot s' p g sm → s'[st1.length]? = some (.lst (ord.map dN)) → s'[st1.length + 2]? = some (.lst (xs.map dO)) →
        Kp [p, g] st (s'.set (st1.length + 2) (.lst ((xs.map dO).set (rn ord i) (dTm (ren ord t))))) ∧ IsPot (s'.set (st1.length + 2) (.lst ((xs.map dO).set (rn ord i) (dTm (ren ord t))))) p g sm ∧ (s'.set (st1.length + 2) (.lst ((xs.map dO).set (rn ord i) (dTm (ren ord t)))))[st1.length]? = some (.lst (ord.map dN)) ∧
        ∃ ys : List (Option Tm), (s'.set (st1.length + 2) (.lst ((xs.map dO).set (rn ord i) (dTm (ren ord t)))))[st1.length + 2]? = some (.lst (ys.map dO)) ∧ ys.length = tab.length ∧ ∀ j t, j < i + 1 → tab[j]? = some t → ys[rn ord j]? = some (some (ren ord t)) := fun s' k1 k2 k3 k4 => by
      refine ⟨k1.set _ (.inr (by omega)), k2.set (by omega) (by omega) (by omega) _, at_ne k3 (by omega) _, xs.set (rn ord i) (some (ren ord t)), ?_, by simpa using hxl, fun j u hj hu => ?_⟩
      · rw [at_self k4, show dTm (ren ord t) = dO (some (ren ord t)) from rfl, map_set']
      · by_cases e : j = i
        · subst e
          rw [hti] at hu
          cases hu
          rw [List.getElem?_set_self (by rw [hxl]; exact rn_lt hord hil)]
        · have hjl := (List.getElem?_eq_some_iff.mp hu).1
          have hne : rn ord i ≠ rn ord j := fun z => e (by rw [← idx_rn hord hjl, ← z, idx_rn hord hil])
          rw [List.getElem?_set_ne hne]
          exact hxs j u (by omega) hu
    cases t with
    | look r ns =>
      obtain ⟨h1, h2, h3⟩ := hokt
      unfold dTm
      walk_at "ab"
      refine .inl ?_
      unfold aLc sItems
      walk_at "ab"
      refine .inl ⟨_, rfl, ?_⟩
      refine lc_map (zs := ns) dN (fun x => dN (rn ord x)) trivial (by rw [h2, LIM_eq]; omega) (fun z hz Qe hq => ?_) ?_
      · walk_at "ab"
        exact p_ixL ho (atNs (rn_at hord (h3 z hz))) hq
      refine p_tupL (at_new _ _) ?_
      walk_at "ab"
      refine p_ixL (at_app ho _) (atNs (rn_at hord hil)) ?_
      refine p_setL (at_app hf _) (j := rn ord i) (ixN_nat (by simp; rw [hxl]; exact rn_lt hord hil)) ?_
      refine ⟨⟨_, _, _, rfl⟩, ?_⟩
      have := fin _ (hK.app (.lst (ns.map fun x => dN (rn ord x)))) (hPs.app _) (at_app ho _) (at_app hf _)
      have e1 : dTm (ren ord (.look r ns)) = .tup [.str "look", dN r, .tup (ns.map fun x => dN (rn ord x))] := by
        show D.tup [.str "look", dN r, .tup ((ns.map (rn ord)).map dN)] = _
        rw [List.map_map]; rfl
      rw [e1] at this
      exact this
    | say wd j =>
      unfold dTm
      walk_at "ab"
      refine p_ixL ho (atNs (rn_at hord hokt.2)) ?_
      walk_at "ab"
      refine p_ixL ho (atNs (rn_at hord hil)) ?_
      refine p_setL hf (j := rn ord i) (ixN_nat (by simp; rw [hxl]; exact rn_lt hord hil)) ?_
      exact ⟨⟨_, _, _, rfl⟩, fin s hK hPs ho hf⟩
    | stop =>
      unfold dTm
      walk_at "ab"
      refine p_ixL ho (atNs (rn_at hord hil)) ?_
      refine p_setL hf (j := rn ord i) (ixN_nat (by simp; rw [hxl]; exact rn_lt hord hil)) ?_
      exact ⟨⟨_, _, _, rfl⟩, fin s hK hPs ho hf⟩
  · rintro env s ⟨⟨a, b, c, rfl⟩, hK, hPs, ho, xs, hf, hxl, hxs⟩
    have hl : (({ xs := rng 0 ((tab.length : Nat) : Int).toNat, chk := fun _ => True } : Itm).xs).length = tab.length := by simp [rng]
    rw [hl] at hxs
    walk_at "ab"
    -- every place is taken
    have all : ∀ v, v < tab.length → ∃ i t, tab[i]? = some t ∧ v = rn ord i ∧ xs[v]? = some (some (ren ord t)) := fun v hv => by
      obtain ⟨i, hi⟩ := List.getElem?_of_mem ((hord.mem v).mpr hv)
      have hil : i < tab.length := by rw [← hord.len]; exact (List.getElem?_eq_some_iff.mp hi).1
      have e : v = rn ord i := by
        have := rn_at hord hil
        rw [hi] at this
        exact Option.some.inj this
      refine ⟨i, tab[i], List.getElem?_eq_getElem hil, e, ?_⟩
      rw [e]
      exact hxs i _ hil (List.getElem?_eq_getElem hil)
    have htab : ∀ s t, (xs.map fun o => o.getD .stop)[s]? = some t → ∃ i u, tab[i]? = some u ∧ s = rn ord i ∧ t = ren ord u := fun s t hs => by
      have hsl : s < tab.length := by
        have := (List.getElem?_eq_some_iff.mp hs).1
        rw [List.length_map, hxl] at this
        exact this
      obtain ⟨i, u, h1, h2, h3⟩ := all s hsl
      rw [List.getElem?_map, h3] at hs
      simp at hs
      exact ⟨i, u, h1, h2, hs.symm⟩
    refine q s _ (xs.map fun o => o.getD .stop) (fun v => ord.idxOf v) hK (by omega) hPs (by simpa using hxl) (fun t ht => ?_) (fun s t hs => ?_) ?_
    · obtain ⟨s', hs'⟩ := List.getElem?_of_mem ht
      obtain ⟨i, u, h1, h2, h3⟩ := htab s' t hs'
      rw [h3]
      exact ren_ok hord (hok u (List.mem_of_getElem? h1))
    · obtain ⟨i, u, h1, h2, h3⟩ := htab s t hs
      rw [h3, h2]
      exact ren_up hord (hok u (List.mem_of_getElem? h1)) (List.getElem?_eq_some_iff.mp h1).1 (hup i u h1)
    · rw [hf, List.map_map]
      congr 2
      refine List.map_congr_left fun o ho' => ?_
      obtain ⟨v, hv⟩ := List.getElem?_of_mem ho'
      have hvl : v < tab.length := by rw [← hxl]; exact (List.getElem?_eq_some_iff.mp hv).1
      obtain ⟨i, u, h1, h2, h3⟩ := all v hvl
      rw [hv] at h3
      cases h3
      rfl
end Ab

set_option Elab.async false
set_option linter.all false
set_option maxRecDepth 100000
set_option maxHeartbeats 4000000
/-! _law_spec. -/
namespace Ab
open PySem
local macro_rules | `(tactic| walk_at "ab") => `(tactic| simp (config := { failIfUnchanged := false }) only [runDef, List.map_cons, List.map_nil, List.length_cons, List.length_nil, Nat.zero_add, Nat.reduceAdd, Nat.reduceSub, Nat.sub_self, List.replicate_zero, List.replicate_succ, List.nil_append, List.append_nil, List.cons_append, aSeq, aNext, aAsg, aPar, agNm, agTup, agSub, aUpd, aFld, aSetF, aExp, aIf, aRet, aRetN, aBrk, aCnt, aO1, aO2, aVar, aC, aTup, aLst, alNil, alCons, aCall, aDNew, atB, atYes, atAnd, atOr, atNot, aAndV, aOrV, aNotV, aIfE, aChain, aM1, bindP, wipeE,
  List.getElem?_cons_zero, List.getElem?_cons_succ, List.set_cons_zero, List.set_cons_succ, List.getElem?_nil, e_add, e_sub, e_neg, e_cmp, e_eqI, e_eqS, e_neI, e_isN, e_isNotN, e_ixT, e_lenT, e_int, e_abs, e_max2, e_min2, e_tupT, e_isiI, e_isiB, e_isiS, e_isiT, atI0, atI1, atI2, e_br_t, e_br_f, e_blx, e_intx, e_somex, e_somey, e_pair, e_two, Bool.not_true, Bool.not_false, true_and, and_true, Nat.reduceLeDiff, Nat.le_refl, decide_true, decide_false, c_0, c_1, c_2, c_3, c_4, c_5, c_6, c_7, c_8, c_9, Int.reduceEq, Int.reduceLT, Int.reduceLE, s_look_say, s_look_stop, s_look_end, s_say_look, s_say_stop, s_say_end, s_stop_look, s_stop_say, s_stop_end, s_end_look, s_end_say, s_end_stop])

def sSpec : ASp := fun ds st Q => ∃ (p g sm mr ml mz : Nat), ds = [.ref p, dN mr, dN ml, dN mz] ∧ IsPot st p g sm ∧ 1 ≤ mr ∧ mr ≤ 8 ∧ 1 ≤ ml ∧ ml ≤ 2 ∧ 1 ≤ mz ∧ mz ≤ 16 ∧ mz * 2 ^ mr ≤ 640 ∧
  ∀ st' rows L tab, Kp [p, g] st st' → IsPot st' p g sm → OkTab rows L tab → rows ≤ mr → L ≤ ml → tab.length ≤ mz → NoIdle L tab → Q (dSpec rows L tab) st'
theorem size_le {a b r s : Nat} (h1 : a ≤ b) (h2 : r ≤ s) (h : b * 2 ^ s ≤ 640) : a * 2 ^ r ≤ 640 := Nat.le_trans (Nat.mul_le_mul h1 (Nat.pow_le_pow_right (by decide) h2)) h
theorem k_law_spec (ds : List D) (st : Store) (Q : DK) (h : sSpec ds st Q) : runDef 9 (b_law_spec sDraw sRenamed sDrawnTable sLawIdle sLawPhases) ds st Q := by
  obtain ⟨p, g, sm, mr, ml, mz, rfl, hP, hr1, hr8, hL1, hL2, hz1, hz16, hsz, q⟩ := h
  obtain ⟨lp, lg, ls⟩ := hP.lt
  unfold b_law_spec
  walk_at "ab"
  refine ⟨p, g, sm, mr, rfl, hP, by omega, by omega, fun s1 r hK1 hl1 hP1 hr => ?_⟩
  walk_at "ab"
  refine ⟨p, g, sm, ml, rfl, hP1, by omega, by omega, fun s2 l hK2 hl2 hP2 hl => ?_⟩
  walk_at "ab"
  refine ⟨p, g, sm, mz, rfl, hP2, by omega, by omega, fun s3 z hK3 hl3 hP3 hz => ?_⟩
  rw [show (1 : Int) + (r : Int) = ((1 + r : Nat) : Int) by omega, show (1 : Int) + (l : Int) = ((1 + l : Nat) : Int) by omega]
  walk_at "ab"
  rw [show (1 : Int) + (z : Int) = ((1 + z : Nat) : Int) by omega]
  have hK03 := (hK1.trans hK2).trans hK3
  refine ⟨p, g, sm, 1 + r, 1 + l, 1 + z, true, rfl, hP3, by omega, by omega, by omega, by omega, by omega, by omega, fun s4 n4 t4 hK4 hn4 hP4 ht4 ho4 hu4 hat4 => ?_⟩
  have hle4 := hK03.1
  refine ⟨p, g, sm, n4, 1 + r, 1 + l, t4, rfl, hP4, by omega, by omega, by omega, hat4, by omega, by omega, by omega, by rw [ht4]; exact ho4, hu4 rfl, fun s5 n5 t5 π hK5 hn5 hP5 ht5 ho5 hu5 hat5 => ?_⟩
  walk_at "ab"
  have hT5 : OkTab (1 + r) (1 + l) t5 := ⟨by omega, by omega, by omega, by omega, by omega, by omega, by rw [ht5]; exact ho5⟩
  have hK05 := (hK03.trans hK4).trans hK5
  have hle5 := hK05.1
  refine ⟨p, g, sm, 2, rfl, hP5, by omega, by omega, fun s6 d hK6 hl6 hP6 hd => ?_⟩
  have hat6 := hK6.at hat5 (by have := hK4.1; simp; omega)
  have hK06 := hK05.trans hK6
  walk_at "ab"
  refine br_d (fun h0 => ?_) fun h0 => ?_
  · refine ⟨p, g, sm, 1 + r, 1 + l, 1 + z, false, rfl, hP6, by omega, by omega, by omega, by omega, by omega, by omega, fun s7 n7 t7 hK7 hn7 hP7 ht7 ho7 hu7 hat7 => ?_⟩
    walk_at "ab"
    have hT7 : OkTab (1 + r) (1 + l) t7 := ⟨by omega, by omega, by omega, by omega, by omega, by omega, by rw [ht7]; exact ho7⟩
    refine ⟨1 + r, 1 + l, t7, _, rfl, .inr ⟨_, rfl, hat7⟩, hT7, by omega, size_le (b := mz) (s := mr) (by omega) (by omega) hsz, fun s8 n8 ks f hK8 hn8 hKe8 hdt8 => ?_⟩
    refine ⟨1 + r, 1 + l, t7, n8, ks, f, rfl, hT7, hKe8, hdt8, fun b hb => ?_⟩
    have hK08 := (hK06.trans hK7).trans (hK8.le (by simp))
    have hP8 := hP7.mono hK8
    have hat8 := hK8.at hat7 (by simp)
    have hat8' := hK8.at (hK7.at hat6 (by have := hK4.1; simp; omega)) (by simp)
    cases b with
    | false =>
      walk_at "ab"
      refine p_tupL hat8 ?_
      walk_at "ab"
      exact q s8 (1 + r) (1 + l) t7 hK08 hP8 hT7 (by omega) (by omega) (by omega) (hb rfl)
    | true =>
      walk_at "ab"
      refine p_tupL hat8' ?_
      walk_at "ab"
      exact q s8 (1 + r) (1 + l) t5 hK08 hP8 hT5 (by omega) (by omega) (by omega) (noIdle_up π hu5)
  · refine p_tupL hat6 ?_
    walk_at "ab"
    exact q s6 (1 + r) (1 + l) t5 hK06 hP6 hT5 (by omega) (by omega) (by omega) (noIdle_up π hu5)
end Ab

set_option Elab.async false
set_option linter.all false
set_option maxRecDepth 100000
set_option maxHeartbeats 4000000
/-! _law_ring_spec. -/
namespace Ab
open PySem
local macro_rules | `(tactic| walk_at "ab") => `(tactic| simp (config := { failIfUnchanged := false }) only [runDef, List.map_cons, List.map_nil, List.length_cons, List.length_nil, Nat.zero_add, Nat.reduceAdd, Nat.reduceSub, Nat.sub_self, List.replicate_zero, List.replicate_succ, List.nil_append, List.append_nil, List.cons_append, aSeq, aNext, aAsg, aPar, agNm, agTup, agSub, aUpd, aFld, aSetF, aExp, aIf, aRet, aRetN, aBrk, aCnt, aO1, aO2, aVar, aC, aTup, aLst, alNil, alCons, aCall, aDNew, atB, atYes, atAnd, atOr, atNot, aAndV, aOrV, aNotV, aIfE, aChain, aM1, bindP, wipeE,
  List.getElem?_cons_zero, List.getElem?_cons_succ, List.set_cons_zero, List.set_cons_succ, List.getElem?_nil, e_add, e_sub, e_neg, e_cmp, e_eqI, e_eqS, e_neI, e_isN, e_isNotN, e_ixT, e_lenT, e_int, e_abs, e_max2, e_min2, e_tupT, e_isiI, e_isiB, e_isiS, e_isiT, atI0, atI1, atI2, e_br_t, e_br_f, e_blx, e_intx, e_somex, e_somey, e_pair, e_two, Bool.not_true, Bool.not_false, true_and, and_true, Nat.reduceLeDiff, Nat.le_refl, decide_true, decide_false, c_0, c_1, c_2, c_3, c_4, c_5, c_6, c_7, c_8, c_9, Int.reduceEq, Int.reduceLT, Int.reduceLE, s_look_say, s_look_stop, s_look_end, s_say_look, s_say_stop, s_say_end, s_stop_look, s_stop_say, s_stop_end, s_end_look, s_end_say, s_end_stop])

theorem cut_nat {α : Type} (xs : List α) (k : Nat) : cut xs none (some (k : Int)) = xs.take k := by
  unfold cut sIx
  simp only [List.drop_zero, Nat.sub_zero]
  rw [if_neg (by omega), Int.toNat_natCast]
  rw [List.take_eq_take_iff]
  omega
theorem okTm_mono {rows L m m' : Nat} (h : m ≤ m') : ∀ {t : Tm}, okTm rows L m t → okTm rows L m' t
  | .look _ _, ⟨h1, h2, h3⟩ => ⟨h1, h2, fun n hn => Nat.lt_of_lt_of_le (h3 n hn) h⟩
  | .say _ _, ⟨h1, h2⟩ => ⟨h1, Nat.lt_of_lt_of_le h2 h⟩
  | .stop, _ => trivial
theorem up_of {s : Nat} {t : Tm} (h : UpTm s t) : UpP id s t := by
  cases t <;> exact h
def sRing : ASp := fun ds st Q => ∃ (p g sm : Nat), ds = [.ref p, dN 3, dN 6] ∧ IsPot st p g sm ∧
  ∀ st' rows tab, Kp [p, g] st st' → IsPot st' p g sm → OkTab rows 1 tab → rows ≤ 6 → tab.length ≤ 10 → NoIdle 1 tab → Q (dSpec rows 1 tab) st'
theorem k_law_ring_spec (ds : List D) (st : Store) (Q : DK) (h : sRing ds st Q) : runDef 10 (b_law_ring_spec sDraw sMixed) ds st Q := by
  obtain ⟨p, g, sm, rfl, hP, q⟩ := h
  obtain ⟨lp, lg, ls⟩ := hP.lt
  unfold b_law_ring_spec aListR1
  walk_at "ab"
  refine ⟨p, g, sm, 4, rfl, hP, by omega, by omega, fun s1 r hK1 hl1 hP1 hr => ?_⟩
  walk_at "ab"
  rw [show (3 : Int) + (r : Int) = ((3 + r : Nat) : Int) by omega]
  unfold aFor sRng1
  walk_at "ab"
  refine ⟨p, g, sm, 3, rfl, hP1.app _, by omega, by omega, fun s2 d hK2 hl2 hP2 hd => ?_⟩
  walk_at "ab"
  refine ⟨_, rfl, by omega, by omega, ?_⟩
  have ht0 := hK2.at (at_new s1 (.lst [])) (by simp; omega)
  have hK02 : Kp [p, g] st s2 := (hK1.app _).trans hK2
  refine ⟨fun i env s => (∃ a b c d e, env = [some (.ref p), some (.int 3), some (.int 6), some (dN (3 + r)), some (.ref s1.length), a, b, c, d, e]) ∧ Kp [p, g] st s ∧ IsPot s p g sm ∧ ∃ tab : List Tm, s[s1.length]? = some (.lst (tab.map dTm)) ∧ tab.length ≤ 3 * i ∧ (∀ t ∈ tab, okTm (3 + r) 1 (tab.length + 1) t) ∧ (∀ s t, tab[s]? = some t → UpTm s t),
    ⟨⟨_, _, _, _, _, rfl⟩, hK02, hP2, [], ht0, by simp, by simp, by simp⟩, fun _ _ _ _ => trivial, ?_, ?_⟩
  · rintro i y env s hy ⟨⟨a, b, c, d', e, rfl⟩, hK, hPs, tab, ht, htl, hok, hup⟩
    have hi3 : i < 3 := by
      have := (List.getElem?_eq_some_iff.mp hy).1
      simp [rng] at this
      omega
    walk_at "ab"
    unfold aSl aoNone aoSome
    walk_at "ab"
    refine ⟨by omega, by rw [LIM_eq]; omega, ?_⟩
    have er : rng 0 (((3 + r : Nat) : Int)).toNat = (List.range (3 + r)).map dN := by
      unfold rng
      rw [Int.toNat_natCast]
      exact List.map_congr_left fun i _ => by simp
    rw [er]
    refine ⟨p, g, sm, _, List.range (3 + r), rfl, .inl (.inr ⟨_, rfl, at_new _ _⟩), by simp; omega, hPs.app _, fun s3 n3 F hK3 hn3 hP3 hF hf3 => ?_⟩
    refine ⟨p, g, sm, 2, rfl, hP3, by omega, by omega, fun s4 k hK4 hl4 hP4 hk => ?_⟩
    have hle : st.length ≤ s.length := hK.1
    rw [List.length_append, List.length_singleton] at hn3
    have hf4 := hK4.at hf3 (by simp; omega)
    have hsl := at_lt ht
    have hK04 : Kp [p, g] st s4 := ((hK.app _).trans hK3).trans hK4
    have ht4 := hK4.at (hK3.at (at_app ht _) (by simp; have := hK1.1; omega)) (by simp; have := hK1.1; omega)
    walk_at "ab"
    refine .inr (.inr ⟨_, _, rfl, hf4, ?_⟩)
    rw [show (2 : Int) + (k : Int) = ((2 + k : Nat) : Int) by omega, cut_nat, ← List.map_take]
    have hFl : F.length = 3 + r := by simpa using hF.length_eq
    have hFm : ∀ x ∈ F.take (2 + k), x < 3 + r := fun x hx => List.mem_range.mp (hF.mem_iff.mp (List.mem_of_mem_take hx))
    have hll : (F.take (2 + k)).length = 2 + k := by rw [List.length_take]; omega
    generalize F.take (2 + k) = ln at *
    walk_at "ab"
    have hl5 := at_new s4 (.lst (ln.map dN))
    have ht5 := at_app ht4 (.lst (ln.map dN))
    have hK05 := hK04.app (.lst (ln.map dN))
    have hP5 := hP4.app (.lst (ln.map dN))
    have hs4 : s1.length < s4.length := at_lt ht4
    generalize s4 ++ [.lst (ln.map dN)] = s5 at *
    refine p_lenL ht5 ?_
    rw [List.length_map]
    walk_at "ab"
    refine p_lenL hl5 ?_
    rw [List.length_map]
    refine ⟨_, rfl, by omega, by omega, ?_⟩
    have hst1 : st.length ≤ s1.length := hK1.1
    refine ⟨fun j env s => (∃ d e, env = [some (.ref p), some (.int 3), some (.int 6), some (dN (3 + r)), some (.ref s1.length), some y, some (.ref s4.length), some (dN tab.length), d, e]) ∧ Kp [p, g] st s ∧ IsPot s p g sm ∧ s[s4.length]? = some (.lst (ln.map dN)) ∧ ∃ tb : List Tm, s[s1.length]? = some (.lst (tb.map dTm)) ∧ tb.length = tab.length + j ∧ (∀ t ∈ tb, okTm (3 + r) 1 (tab.length + (2 + k) + 1) t) ∧ (∀ s t, tb[s]? = some t → UpTm s t),
      ⟨⟨_, _, rfl⟩, hK05, hP5, hl5, tab, ht5, rfl, fun t h => okTm_mono (by omega) (hok t h), hup⟩, fun _ _ _ _ => trivial, ?_, ?_⟩
    · rintro j y6 env s6 hy ⟨⟨d, e, rfl⟩, hK6, hP6, hl6, tb, ht6, htl6, hok6, hup6⟩
      unfold rng at hy
      obtain ⟨j', hj, rfl⟩ := Option.map_eq_some_iff.mp ((List.getElem?_map ..).symm.trans hy)
      obtain ⟨hj1, hj2⟩ := List.getElem?_eq_some_iff.mp hj
      rw [List.getElem_range] at hj2
      subst hj2
      rw [List.length_range] at hj1
      have hjl : j < ln.length := by omega
      rw [Int.zero_add]
      walk_at "ab"
      refine p_lenL hl6 ?_
      rw [List.length_map]
      refine p_mod (by omega) ?_
      walk_at "ab"
      have em : (tab.length : Int) + ((j : Int) + 1) % (ln.length : Int) = ((tab.length + (j + 1) % ln.length : Nat) : Int) := by
        rw [Int.natCast_add, Int.natCast_emod, Int.natCast_add]; rfl
      rw [em]
      have hmod : (j + 1) % ln.length < ln.length := Nat.mod_lt _ (by omega)
      refine ⟨⟨_, _, rfl, ht6⟩, ?_⟩
      have hlj : ln[j]? = some ln[j] := List.getElem?_eq_getElem hjl
      have hrl := hFm _ (List.getElem_mem hjl)
      generalize ln[j] = rr at hlj hrl
      refine p_ixL hl6 (atNs hlj) ?_
      refine p_lenL hl6 ?_
      rw [List.length_map]
      walk_at "ab"
      rw [show (tab.length : Int) + (ln.length : Int) = ((tab.length + ln.length : Nat) : Int) by omega]
      refine p_app ht6 (by rw [List.length_map, LIM_eq]; omega) ?_
      refine ⟨⟨_, _, rfl⟩, hK6.set _ (.inr (by omega)), hP6.set (by omega) (by omega) (by have := hP1.lt; omega) _, at_ne hl6 (by omega) _, tb ++ [.look rr [tab.length + (j + 1) % ln.length, tab.length + ln.length]], ?_, by simp [htl6]; omega, fun t h => ?_, up_snoc hup6 ?_⟩
      · rw [at_self ht6, List.map_append]
        rfl
      · rcases List.mem_append.mp h with h | h
        · exact hok6 t h
        · simp at h
          rw [h]
          refine ⟨hrl, rfl, fun x hx => ?_⟩
          simp at hx
          omega
      · show tb.length < lastN [_, tab.length + ln.length]
        rw [show lastN [tab.length + (j + 1) % ln.length, tab.length + ln.length] = tab.length + ln.length from rfl]
        omega
    · rintro env s6 ⟨⟨d, e, rfl⟩, hK6, hP6, hl6, tb, ht6, htl6, hok6, hup6⟩
      have hl : (({ xs := rng 0 ((ln.length : Nat) : Int).toNat, chk := fun _ => True } : Itm).xs).length = ln.length := by simp [rng]
      rw [hl] at htl6
      exact ⟨⟨_, _, _, _, _, rfl⟩, hK6, hP6, tb, ht6, by omega, fun t h => okTm_mono (by omega) (hok6 t h), hup6⟩
  · rintro env s ⟨⟨a, b, c, d', e, rfl⟩, hK, hPs, tab, ht, htl, hok, hup⟩
    have htl9 : tab.length ≤ 9 := by
      have : (({ xs := rng 0 ((1 : Int) + (d : Int)).toNat, chk := fun _ => True } : Itm).xs).length ≤ 3 := by simp [rng]; omega
      omega
    walk_at "ab"
    refine p_addL (at_app ht _) (at_new _ _) (by simp; rw [LIM_eq]; omega) ?_
    refine p_tupL (at_new _ _) ?_
    walk_at "ab"
    have e1 : D.tup [dN (3 + r), .int 1, .tup (tab.map dTm ++ [.tup [.str "stop"]])] = dSpec (3 + r) 1 (tab ++ [.stop]) := by unfold dSpec; simp [dTm]
    have hok' : ∀ t ∈ tab ++ [Tm.stop], okTm (3 + r) 1 (tab ++ [Tm.stop]).length t := fun t h => by
      rw [List.length_append, List.length_singleton]
      rcases List.mem_append.mp h with h | h
      · exact hok t h
      · simp at h; rw [h]; trivial
    have hup' : ∀ s t, (tab ++ [Tm.stop])[s]? = some t → UpTm s t := up_snoc hup trivial
    have := q _ (3 + r) (tab ++ [.stop]) ((hK.app (.lst [.tup [.str "stop"]])).app (.lst (tab.map dTm ++ [.tup [.str "stop"]]))) ((hPs.app _).app _) ⟨by omega, by omega, by omega, by omega, by simp, by simp; omega, hok'⟩ (by omega) (by simp; omega) (noIdle_up id fun s t h => up_of (hup' s t h))
    rw [← e1] at this
    exact this
end Ab

set_option Elab.async false
set_option linter.all false
set_option maxRecDepth 100000
set_option maxHeartbeats 4000000
/-! moved, joined, beside. -/
namespace Ab
open PySem
local macro_rules | `(tactic| walk_at "ab") => `(tactic| simp (config := { failIfUnchanged := false }) only [runDef, List.map_cons, List.map_nil, List.length_cons, List.length_nil, Nat.zero_add, Nat.reduceAdd, Nat.reduceSub, Nat.sub_self, List.replicate_zero, List.replicate_succ, List.nil_append, List.append_nil, List.cons_append, aSeq, aNext, aAsg, aPar, agNm, agTup, agSub, aUpd, aFld, aSetF, aExp, aIf, aRet, aRetN, aBrk, aCnt, aO1, aO2, aVar, aC, aTup, aLst, alNil, alCons, aCall, aDNew, atB, atYes, atAnd, atOr, atNot, aAndV, aOrV, aNotV, aIfE, aChain, aM1, bindP, wipeE,
  List.getElem?_cons_zero, List.getElem?_cons_succ, List.set_cons_zero, List.set_cons_succ, List.getElem?_nil, e_add, e_sub, e_neg, e_cmp, e_eqI, e_eqS, e_neI, e_isN, e_isNotN, e_ixT, e_lenT, e_int, e_abs, e_max2, e_min2, e_tupT, e_isiI, e_isiB, e_isiS, e_isiT, atI0, atI1, atI2, e_br_t, e_br_f, e_blx, e_intx, e_somex, e_somey, e_pair, e_two, Bool.not_true, Bool.not_false, true_and, and_true, Nat.reduceLeDiff, Nat.le_refl, decide_true, decide_false, c_0, c_1, c_2, c_3, c_4, c_5, c_6, c_7, c_8, c_9, Int.reduceEq, Int.reduceLT, Int.reduceLE, s_look_say, s_look_stop, s_look_end, s_say_look, s_say_stop, s_say_end, s_stop_look, s_stop_say, s_stop_end, s_end_look, s_end_say, s_end_stop])

def kTm : Tm → NestedKey
  | .look r ns => .tup [.text "look", kN r, .tup (ns.map kN)]
  | .say wd j => .tup [.text "say", .text wd, kN j]
  | .stop => .tup [.text "stop"]
theorem dk_tm (t : Tm) : dk (kTm t) = dTm t := by
  cases t with
  | look r ns =>
    unfold kTm dTm
    simp only [dk, dks, dks_map, List.map_map]
    rfl
  | say wd j => simp [kTm, dTm, dk, dks]
  | stop => simp [kTm, dTm, dk, dks]
theorem kTm_depth (t : Tm) : (kTm t).depth ≤ 8 := by
  cases t <;> simp [kTm, NestedKey.depth, NestedKey.depthAll, depth_nums]
theorem az_128 : ∀ c ∈ ("abcdefghijklmnopqrstuvwxyz" : Str).cps.toList, c < 128 := by decide
theorem kTm_ok {rows L m : Nat} {t : Tm} (h : okTm rows L m t) : keyOk (kTm t) = true := by
  cases t with
  | look r ns =>
    simp only [kTm, keyOk, keysOk, keysOk_nums, Bool.and_true]
    decide +kernel
  | say wd j =>
    have : (wd.cps.all fun x => decide (x < 128)) = true := by
      rw [← Array.all_toList, List.all_eq_true]
      intro c hc
      exact decide_eq_true (az_128 c (h.1.1 c hc))
    simp only [kTm, keyOk, keysOk, Bool.and_true, this]
    decide +kernel
  | stop => decide +kernel
theorem kTm_stop (t : Tm) : decide (kTm t = .tup [.text "stop"]) = decide (t = .stop) := by
  cases t <;> simp [kTm]
/-- an item further on -/
def mvTm (many rows1 : Nat) : Tm → Tm
  | .look r ns => .look (rows1 + r) (ns.map fun n => n + many)
  | .say wd j => .say wd (j + many)
  | .stop => .stop
def nums (rows1 rows2 : Nat) : List Nat := (List.range rows2).map fun r => rows1 + r
def sMoved : ASp := fun ds st Q => ∃ (t : Tm) (many m rows1 rows2 L k : Nat), ds = [dTm t, dN many, .ref m] ∧ st[m]? = some (.lst ((nums rows1 rows2).map dN)) ∧ okTm rows2 L k t ∧ L ≤ 3 ∧ ∀ st', Kp [] st st' → Q (dTm (mvTm many rows1 t)) st'
theorem k_moved (ds : List D) (st : Store) (Q : DK) (h : sMoved ds st Q) : runDef 4 b_moved ds st Q := by
  obtain ⟨t, many, m, rows1, rows2, L, k, rfl, hm, hok, hL3, q⟩ := h
  unfold b_moved
  cases t with
  | look r ns =>
    obtain ⟨h1, h2, h3⟩ := hok
    unfold dTm
    walk_at "ab"
    have hr : (nums rows1 rows2)[r]? = some (rows1 + r) := by simp [nums, h1]
    refine p_ixL hm (atNs hr) ?_
    refine .inl ?_
    unfold aLc sItems
    walk_at "ab"
    refine .inl ⟨_, rfl, ?_⟩
    refine lc_map (zs := ns) dN (fun n => dN (n + many)) trivial (by rw [LIM_eq]; omega) (fun z hz Qe hq => ?_) ?_
    · walk_at "ab"
      rw [show (z : Int) + (many : Int) = ((z + many : Nat) : Int) by omega]
      exact hq
    refine p_tupL (at_new _ _) ?_
    walk_at "ab"
    have := q _ ((Kp.refl [] st).app (.lst (ns.map fun n => dN (n + many))))
    have e : dTm (mvTm many rows1 (.look r ns)) = .tup [.str "look", dN (rows1 + r), .tup (ns.map fun n => dN (n + many))] := by
      show D.tup [.str "look", dN (rows1 + r), .tup ((ns.map fun n => n + many).map dN)] = _
      rw [List.map_map]; rfl
    rw [e] at this
    exact this
  | say wd j =>
    unfold dTm
    walk_at "ab"
    have := q st (Kp.refl [] st)
    have e : dTm (mvTm many rows1 (.say wd j)) = .tup [.str "say", .str wd, .int ((j : Int) + (many : Int))] := by
      show D.tup [.str "say", .str wd, dN (j + many)] = _
      rw [show dN (j + many) = D.int ((j : Int) + (many : Int)) from congrArg D.int (by omega)]
    rw [e] at this
    exact this
  | stop =>
    unfold dTm
    walk_at "ab"
    exact q st (Kp.refl [] st)
/-- the tables one behind the other, on rows of their own -/
def later (tab1 tab2 : List Tm) (rows1 : Nat) : List Tm := tab2.map (mvTm tab1.length rows1)
def swapS (t0 t : Tm) : Tm := if t = .stop then t0 else t
def jn (tab1 tab2 : List Tm) (rows1 : Nat) : List Tm := tab1.map (swapS ((later tab1 tab2 rows1).headD .stop)) ++ later tab1 tab2 rows1
def sJoined (cs : List Nat) : ASp := fun ds st Q => ∃ (o1 C1 rows1 L : Nat) (tab1 : List Tm) (n1 : Nat) (ks1 : List Ph) (f1 : Ph → Nat) (o2 C2 rows2 : Nat) (tab2 : List Tm) (n2 : Nat) (ks2 : List Ph) (f2 : Ph → Nat) (m : Nat),
  ds = [.ref o1, .ref o2, dN (rows1 + rows2), .ref m] ∧ C1 ∈ cs ∧ C2 ∈ cs ∧ OkTab rows1 L tab1 ∧ OkTab rows2 L tab2 ∧ IsPlan st o1 C1 rows1 L tab1 n1 ks1 f1 ∧ IsPlan st o2 C2 rows2 L tab2 n2 ks2 f2 ∧
  st[m]? = some (.lst ((nums rows1 rows2).map dN)) ∧ OkTab (rows1 + rows2) L (jn tab1 tab2 rows1) ∧ NoIdle L (jn tab1 tab2 rows1) ∧
  ∀ st' o n ks f, Kp [] st st' → IsPlan st' o (cs.getD 1 0) (rows1 + rows2) L (jn tab1 tab2 rows1) n ks f → Q (.ref o) st'
theorem k_joined {cP cR : Nat} (ds : List D) (st : Store) (Q : DK) (h : sJoined [cP, cR] ds st Q) : runDef 8 (b_joined cP cR sMoved (sInit [cP, cR] false)) ds st Q := by
  obtain ⟨o1, C1, rows1, L, tab1, n1, ks1, f1, o2, C2, rows2, tab2, n2, ks2, f2, m, rfl, hC1, hC2, hT1, hT2, hp1, hp2, hm, hTj, hNj, q⟩ := h
  have l1 := hT1.t100
  have l2 := hT2.t100
  have l2' := hT2.t1
  unfold b_joined aMake
  walk_at "ab"
  refine ⟨o1, C1, _, _, rfl, hp1.at_, hC1, look_table, ?_⟩
  walk_at "ab"
  rw [List.length_map]
  refine .inl ?_
  unfold aLc sItems
  walk_at "ab"
  refine ⟨o2, C2, _, _, rfl, hp2.at_, hC2, look_table, ?_⟩
  refine .inl ⟨_, rfl, ?_⟩
  refine ⟨fun i acc s => acc = ((later tab1 tab2 rows1).take i).map dTm ∧ Kp [] st s, ⟨rfl, Kp.refl _ _⟩, by rw [List.length_map, LIM_eq]; omega, fun _ _ _ _ => trivial, ?_, ?_⟩
  · rintro i x acc s hx ⟨rfl, hK⟩
    obtain ⟨t, ht, rfl⟩ := Option.map_eq_some_iff.mp ((List.getElem?_map ..).symm.trans hx)
    walk_at "ab"
    refine ⟨t, tab1.length, m, rows1, rows2, L, tab2.length, rfl, hK.at hm (by simp), hT2.it t (List.mem_of_getElem? ht), hT1.L3, fun s2 hK2 => ⟨?_, hK.trans hK2⟩⟩
    have : (later tab1 tab2 rows1)[i]? = some (mvTm tab1.length rows1 t) := by unfold later; rw [List.getElem?_map, ht]; rfl
    rw [take_snoc this, List.map_append]
    rfl
  rintro acc s ⟨rfl, hK⟩
  have ell : (later tab1 tab2 rows1).length = tab2.length := by unfold later; simp
  rw [List.length_map, ← ell, List.take_length]
  walk_at "ab"
  have hla := at_new s (.lst ((later tab1 tab2 rows1).map dTm))
  have hKa := hK.app (.lst ((later tab1 tab2 rows1).map dTm))
  have hs1 : st.length ≤ s.length := hK.1
  generalize hsa : s ++ [.lst ((later tab1 tab2 rows1).map dTm)] = sa at *
  have hsal : sa.length = s.length + 1 := by rw [← hsa]; simp
  have hp1a := hp1.mono hKa
  refine .inl ?_
  unfold aLc sItems
  walk_at "ab"
  refine ⟨o1, C1, _, _, rfl, hp1a.at_, hC1, look_table, ?_⟩
  refine .inl ⟨_, rfl, ?_⟩
  refine lc_map (zs := tab1) dTm (fun t => dTm (swapS ((later tab1 tab2 rows1).headD .stop) t)) trivial (by rw [LIM_eq]; omega) (fun t ht Qe hq => ?_) ?_
  · walk_at "ab"
    refine p_eqK (kTm t) (.tup [.text "stop"]) (dk_tm t).symm (by simp [dk, dks]) (kTm_depth t) (by decide) (kTm_ok (hT1.it t ht)) (by decide +kernel) ?_
    rw [kTm_stop]
    walk_at "ab"
    unfold swapS at hq
    refine br_d (fun h => ?_) fun h => ?_
    · rw [if_pos h] at hq
      refine p_ixL hla ?_ hq
      cases hl : later tab1 tab2 rows1 with
      | nil => rw [hl] at ell; simp at ell; omega
      | cons a as => exact atI0
    · rw [if_neg h] at hq
      exact hq
  walk_at "ab"
  have hp1b := hp1a.mono ((Kp.refl [] sa).app (.lst (tab1.map fun t => dTm (swapS ((later tab1 tab2 rows1).headD .stop) t))))
  refine ⟨o1, C1, _, _, rfl, hp1b.at_, hC1, look_letters, ?_⟩
  refine p_addL (at_new _ _) (at_app hla _) (by simp [ell]; rw [LIM_eq]; omega) ?_
  refine p_tupL (at_new _ _) ?_
  have ej : (tab1.map fun t => dTm (swapS ((later tab1 tab2 rows1).headD .stop) t)) ++ (later tab1 tab2 rows1).map dTm = (jn tab1 tab2 rows1).map dTm := by
    unfold jn
    rw [List.map_append, List.map_map]
    rfl
  rw [ej]
  have hKc : Kp [] st (sa ++ [.lst (tab1.map fun t => dTm (swapS ((later tab1 tab2 rows1).headD .stop) t))] ++ [.lst ((jn tab1 tab2 rows1).map dTm)]) := (hKa.app _).app _
  generalize sa ++ [.lst (tab1.map fun t => dTm (swapS ((later tab1 tab2 rows1).headD .stop) t))] ++ [.lst ((jn tab1 tab2 rows1).map dTm)] = sc at *
  walk_at "ab"
  refine ⟨sc.length, cR, rows1 + rows2, L, jn tab1 tab2 rows1, rfl, by simp, at_new _ _, hTj, hNj, (fun h => nomatch h), fun _ => rfl, fun st' n ks f hK' _ hp => ⟨rfl, ?_⟩⟩
  have h1 : Kp [sc.length] sc (sc ++ [.ins cR []]) := (Kp.refl _ _).app _
  have h2 : Kp [] sc st' := (h1.trans hK').le fun k hk hl => by simp at hk; omega
  exact q st' sc.length n ks f (hKc.trans h2) hp
def sBeside (cs : List Nat) : ASp := fun ds st Q => ∃ (o1 C1 rows1 L : Nat) (tab1 : List Tm) (n1 : Nat) (ks1 : List Ph) (f1 : Ph → Nat) (o2 C2 rows2 : Nat) (tab2 : List Tm) (n2 : Nat) (ks2 : List Ph) (f2 : Ph → Nat),
  ds = [.ref o1, .ref o2] ∧ C1 ∈ cs ∧ C2 ∈ cs ∧ OkTab rows1 L tab1 ∧ OkTab rows2 L tab2 ∧ IsPlan st o1 C1 rows1 L tab1 n1 ks1 f1 ∧ IsPlan st o2 C2 rows2 L tab2 n2 ks2 f2 ∧
  OkTab (rows1 + rows2) L (jn tab1 tab2 rows1) ∧ NoIdle L (jn tab1 tab2 rows1) ∧
  ∀ st' o n ks f, Kp [] st st' → IsPlan st' o (cs.getD 1 0) (rows1 + rows2) L (jn tab1 tab2 rows1) n ks f → Q (.ref o) st'
theorem k_beside {cP cR : Nat} (ds : List D) (st : Store) (Q : DK) (h : sBeside [cP, cR] ds st Q) : runDef 3 (b_beside cP cR (sJoined [cP, cR])) ds st Q := by
  obtain ⟨o1, C1, rows1, L, tab1, n1, ks1, f1, o2, C2, rows2, tab2, n2, ks2, f2, rfl, hC1, hC2, hT1, hT2, hp1, hp2, hTj, hNj, q⟩ := h
  have l8 := hTj.r64
  unfold b_beside
  walk_at "ab"
  refine ⟨o1, C1, _, _, rfl, hp1.at_, hC1, look_letters, ?_⟩
  refine ⟨o2, C2, _, _, rfl, hp2.at_, hC2, look_letters, ?_⟩
  walk_at "ab"
  refine ⟨o1, C1, _, _, rfl, hp1.at_, hC1, look_rows, ?_⟩
  refine ⟨o2, C2, _, _, rfl, hp2.at_, hC2, look_rows, ?_⟩
  walk_at "ab"
  unfold aLc sRng1
  walk_at "ab"
  refine ⟨o2, C2, _, _, rfl, hp2.at_, hC2, look_rows, ?_⟩
  refine ⟨_, rfl, by omega, by omega, ?_⟩
  have er : rng 0 ((rows2 : Int)).toNat = (List.range rows2).map dN := by
    unfold rng
    rw [Int.toNat_natCast]
    exact List.map_congr_left fun i _ => by simp
  rw [er]
  refine lc_map (zs := List.range rows2) dN (fun r => dN (rows1 + r)) trivial (by simp; rw [LIM_eq]; omega) (fun z hz Qe hq => ?_) ?_
  · walk_at "ab"
    refine ⟨o1, C1, _, _, rfl, hp1.at_, hC1, look_rows, ?_⟩
    walk_at "ab"
    rw [show (rows1 : Int) + (z : Int) = ((rows1 + z : Nat) : Int) by omega]
    exact hq
  have en : (List.range rows2).map (fun r => dN (rows1 + r)) = (nums rows1 rows2).map dN := by unfold nums; rw [List.map_map]; rfl
  rw [en, show (rows1 : Int) + (rows2 : Int) = ((rows1 + rows2 : Nat) : Int) by omega]
  have hK : Kp [] st (st ++ [.lst ((nums rows1 rows2).map dN)]) := (Kp.refl _ _).app _
  exact ⟨o1, C1, rows1, L, tab1, n1, ks1, f1, o2, C2, rows2, tab2, n2, ks2, f2, st.length, rfl, hC1, hC2, hT1, hT2, hp1.mono hK, hp2.mono hK, at_new _ _, hTj, hNj, fun st' o n ks f hK' hp => q st' o n ks f (hK.trans hK') hp⟩
end Ab

set_option Elab.async false
set_option linter.all false
set_option maxRecDepth 100000
set_option maxHeartbeats 2000000
/-! Plans put behind one another: what is reached. -/
namespace Ab
open PySem

theorem Rc.rr {L : Nat} {tab : List Tm} {p : Ph} (h : Rc L tab p) : Rr (scP L tab) (0, []) p := by
  induction h with
  | first => exact .refl _
  | step _ hs ih => exact .tail ih (List.mem_map_of_mem hs)
theorem Rr.rc {L : Nat} {tab : List Tm} {p q : Ph} (h : Rr (scP L tab) p q) (hp : Rc L tab p) : Rc L tab q := by
  induction h with
  | refl => exact hp
  | tail _ hc ih =>
    obtain ⟨s, hs, rfl⟩ := List.mem_map.mp hc
    exact .step ih hs
/-- rows of one, then rows of the other -/
def sh (R : Nat) (E1 E2 : List Nat) : List Nat := E1 ++ E2.map fun r => R + r
def Jp (N R : Nat) (E1 : List Nat) (p : Ph) : Ph := (p.1 + N, sh R E1 p.2)
theorem sh_mem {R : Nat} {E1 E2 : List Nat} (h : ∀ e ∈ E1, e < R) {r : Nat} : R + r ∈ sh R E1 E2 ↔ r ∈ E2 := by
  unfold sh
  rw [List.mem_append]
  constructor
  · rintro (h1 | h1)
    · have := h _ h1; omega
    · obtain ⟨x, hx, e⟩ := List.mem_map.mp h1
      have : x = r := by omega
      exact this ▸ hx
  · exact fun h1 => .inr (List.mem_map_of_mem h1)
theorem ins_shift (R r : Nat) : ∀ E2 : List Nat, ins (R + r) (E2.map fun r => R + r) = (ins r E2).map fun r => R + r
  | [] => rfl
  | x :: xs => by
    rw [List.map_cons]
    unfold ins
    by_cases h : r ≤ x
    · rw [if_pos h, if_pos (by omega)]; rfl
    · rw [if_neg h, if_neg (by omega), ins_shift R r xs]; rfl
theorem ins_sh {R : Nat} {E2 : List Nat} {r : Nat} : ∀ {E1 : List Nat}, (∀ e ∈ E1, e < R) → ins (R + r) (sh R E1 E2) = sh R E1 (ins r E2)
  | [], _ => ins_shift R r E2
  | x :: xs, h => by
    have hx := h x (by simp)
    show ins (R + r) (x :: sh R xs E2) = x :: sh R xs (ins r E2)
    show (if R + r ≤ x then (R + r) :: x :: sh R xs E2 else x :: ins (R + r) (sh R xs E2)) = _
    rw [if_neg (by omega), ins_sh fun e he => h e (by simp [he])]
theorem sh_inj {R : Nat} {E1 E2 E3 : List Nat} (h : sh R E1 E2 = sh R E1 E3) : E2 = E3 := by
  unfold sh at h
  have h1 := List.append_cancel_left h
  exact List.map_inj_right (fun a b h => by omega) |>.mp h1
theorem Jp_inj {N R : Nat} {E1 : List Nat} {p q : Ph} (h : Jp N R E1 p = Jp N R E1 q) : p = q := by
  obtain ⟨a, b⟩ := p
  obtain ⟨c, d⟩ := q
  unfold Jp at h
  injection h with h1 h2
  have e1 : a = c := Nat.add_right_cancel h1
  have e2 : b = d := sh_inj h2
  rw [e1, e2]
/-- the steps of a moved item -/
theorem steps_mv {rows2 L N R m : Nat} {jt tab2 : List Tm} {E1 E2 : List Nat} {s s2 : Nat} {t : Tm} (h2 : tab2[s2]? = some t) (hj : jt[s]? = some (mvTm N R t)) (hok : okTm rows2 L m t) (h : ∀ e ∈ E1, e < R) :
    steps L jt (s, sh R E1 E2) = (steps L tab2 (s2, E2)).map fun g => (g.1, Jp N R E1 g.2) := by
  cases t with
  | stop =>
    unfold steps
    rw [h2, hj]
    rfl
  | say wd j =>
    unfold steps
    rw [h2, hj]
    rfl
  | look r ns =>
    obtain ⟨k1, k2, k3⟩ := hok
    have hne : ns ≠ [] := by intro z; rw [z] at k2; simp at k2
    have hl : lastN (ns.map fun n => n + N) = lastN ns + N := last_map (fun n => n + N) hne
    unfold steps
    rw [h2, hj]
    show (if R + r ∈ sh R E1 E2 then [(Sg.no, (lastN (ns.map fun n => n + N), sh R E1 E2))] else _) = _
    by_cases hr : r ∈ E2
    · rw [if_pos ((sh_mem h).mpr hr)]
      simp only [if_pos hr]
      rw [hl]
      rfl
    · rw [if_neg (fun z => hr ((sh_mem h).mp z))]
      simp only [if_neg hr]
      rw [hl, ins_sh h, List.map_append, List.map_map]
      congr 1
      refine List.map_congr_left fun k hk => ?_
      have hkL := List.mem_range.mp hk
      have e : (ns.map fun n => n + N).getD k 0 = ns.getD k 0 + N := by
        simp [List.getD, List.getElem?_eq_getElem (show k < ns.length by omega)]
      show (Sg.ch k, ((ns.map fun n => n + N).getD k 0, sh R E1 E2)) = (Sg.ch k, (ns.getD k 0 + N, sh R E1 E2))
      rw [e]
theorem steps_eq {L : Nat} {tab jt : List Tm} {p : Ph} (h : jt[p.1]? = tab[p.1]?) : steps L jt p = steps L tab p := by
  unfold steps
  rw [h]
/-- a moved item leads on behind -/
theorem steps_far {rows2 L N R m : Nat} {jt : List Tm} {p : Ph} {t : Tm} (hj : jt[p.1]? = some (mvTm N R t)) (hok : okTm rows2 L m t) : ∀ s ∈ steps L jt p, N ≤ s.2.1 := by
  intro s hs
  unfold steps at hs
  rw [hj] at hs
  cases t with
  | stop => cases hs
  | say wd j =>
    simp [mvTm] at hs
    rw [hs]
    simp
  | look r ns =>
    obtain ⟨k1, k2, k3⟩ := hok
    have hne : ns ≠ [] := by intro z; rw [z] at k2; simp at k2
    have hl : lastN (ns.map fun n => n + N) = lastN ns + N := last_map (fun n => n + N) hne
    simp only [mvTm] at hs
    split at hs
    · simp at hs
      rw [hs, hl]
      simp
    · rcases List.mem_append.mp hs with hs | hs
      · obtain ⟨k, hk, rfl⟩ := List.mem_map.mp hs
        have hkL := List.mem_range.mp hk
        have e : (ns.map fun n => n + N).getD k 0 = ns.getD k 0 + N := by
          simp [List.getD, List.getElem?_eq_getElem (show k < ns.length by omega)]
        show N ≤ (ns.map fun n => n + N).getD k 0
        rw [e]
        omega
      · simp at hs
        rw [hs, hl]
        simp
section
variable {rows1 rows2 L : Nat} {tab1 tab2 : List Tm}
theorem jn_stop (h2 : OkTab rows2 L tab2) {s : Nat} (h : tab1[s]? = some .stop) : ∃ t, tab2[0]? = some t ∧ (jn tab1 tab2 rows1)[s]? = some (mvTm tab1.length rows1 t) := by
  have hl := (List.getElem?_eq_some_iff.mp h).1
  have h1 := h2.t1
  refine ⟨tab2[0], List.getElem?_eq_getElem _, ?_⟩
  unfold jn
  rw [List.getElem?_append_left (by simpa using hl), List.getElem?_map, h]
  have e : (later tab1 tab2 rows1).headD .stop = mvTm tab1.length rows1 tab2[0] := by
    unfold later
    cases tab2 with
    | nil => simp at h1
    | cons a as => rfl
  show some (swapS _ Tm.stop) = _
  unfold swapS
  rw [if_pos rfl, e]
theorem jn_go {s : Nat} {t : Tm} (h : tab1[s]? = some t) (ht : t ≠ .stop) : (jn tab1 tab2 rows1)[s]? = some t := by
  have hl := (List.getElem?_eq_some_iff.mp h).1
  unfold jn
  rw [List.getElem?_append_left (by simpa using hl), List.getElem?_map, h]
  simp [swapS, ht]
theorem jn_two {s : Nat} : (jn tab1 tab2 rows1)[s + tab1.length]? = (tab2[s]?).map (mvTm tab1.length rows1) := by
  unfold jn
  rw [List.getElem?_append_right (by simp)]
  simp [later]
theorem jn_ok (h1 : OkTab rows1 L tab1) (h2 : OkTab rows2 L tab2) (hr : rows1 + rows2 ≤ 8) (hz : tab1.length + tab2.length ≤ 16) : OkTab (rows1 + rows2) L (jn tab1 tab2 rows1) := by
  have l1 : (jn tab1 tab2 rows1).length = tab1.length + tab2.length := by unfold jn later; simp
  have mv : ∀ t, okTm rows2 L tab2.length t → okTm (rows1 + rows2) L (tab1.length + tab2.length) (mvTm tab1.length rows1 t) := fun t ht => by
    cases t with
    | stop => trivial
    | say wd j => exact ⟨ht.1, by have := ht.2; omega⟩
    | look r ns =>
      obtain ⟨k1, k2, k3⟩ := ht
      refine ⟨by omega, by simpa using k2, fun x hx => ?_⟩
      obtain ⟨y, hy, rfl⟩ := List.mem_map.mp hx
      have := k3 y hy
      omega
  have up : ∀ t, okTm rows1 L tab1.length t → okTm (rows1 + rows2) L (tab1.length + tab2.length) t := fun t ht => by
    cases t with
    | stop => trivial
    | say wd j => exact ⟨ht.1, by have := ht.2; omega⟩
    | look r ns =>
      obtain ⟨k1, k2, k3⟩ := ht
      exact ⟨by omega, k2, fun x hx => by have := k3 x hx; omega⟩
  refine ⟨h1.L1, h1.L3, by have := h1.r1; omega, hr, by have := h1.t1; omega, by omega, fun t ht => ?_⟩
  rw [l1]
  unfold jn at ht
  rcases List.mem_append.mp ht with ht | ht
  · obtain ⟨u, hu, rfl⟩ := List.mem_map.mp ht
    unfold swapS
    by_cases e : u = .stop
    · rw [if_pos e]
      cases hl : later tab1 tab2 rows1 with
      | nil => trivial
      | cons a as =>
        have ha : a ∈ later tab1 tab2 rows1 := by rw [hl]; simp
        obtain ⟨v, hv, rfl⟩ := List.mem_map.mp ha
        exact mv v (h2.it v hv)
    · rw [if_neg e]
      exact up u (h1.it u hu)
  · obtain ⟨v, hv, rfl⟩ := List.mem_map.mp ht
    exact mv v (h2.it v hv)
/-- steps in the front are steps of one -/
theorem steps_front (h2 : OkTab rows2 L tab2) {p : Ph} {s : Sg × Ph} (hs : s ∈ steps L (jn tab1 tab2 rows1) p) (hl : s.2.1 < tab1.length) : s ∈ steps L tab1 p ∧ steps L (jn tab1 tab2 rows1) p = steps L tab1 p ∧ (jn tab1 tab2 rows1)[p.1]? = tab1[p.1]? ∧ p.1 < tab1.length := by
  rcases Nat.lt_or_ge p.1 tab1.length with hp | hp
  · have hg : tab1[p.1]? = some tab1[p.1] := List.getElem?_eq_getElem hp
    generalize tab1[p.1] = t at hg
    by_cases e : t = .stop
    · subst e
      obtain ⟨u, hu, hj⟩ := jn_stop (rows1 := rows1) h2 hg
      have := steps_far hj (h2.it u (List.mem_of_getElem? hu)) s hs
      omega
    · have hj := jn_go (tab2 := tab2) (rows1 := rows1) hg e
      have h3 := steps_eq (L := L) (p := p) (hj.trans hg.symm)
      exact ⟨h3 ▸ hs, h3, hj.trans hg.symm, hp⟩
  · have hj := jn_two (tab1 := tab1) (tab2 := tab2) (rows1 := rows1) (s := p.1 - tab1.length)
    rw [show p.1 - tab1.length + tab1.length = p.1 by omega] at hj
    cases hu : tab2[p.1 - tab1.length]? with
    | none =>
      rw [hu] at hj
      unfold steps at hs
      rw [hj] at hs
      cases hs
    | some u =>
      rw [hu] at hj
      have := steps_far hj (h2.it u (List.mem_of_getElem? hu)) s hs
      omega
theorem steps_back {p : Ph} {s : Sg × Ph} (hs : s ∈ steps L tab1 p) : steps L (jn tab1 tab2 rows1) p = steps L tab1 p ∧ (jn tab1 tab2 rows1)[p.1]? = tab1[p.1]? := by
  cases hg : tab1[p.1]? with
  | none =>
    unfold steps at hs
    rw [hg] at hs
    cases hs
  | some t =>
    have e : t ≠ .stop := fun e => by
      subst e
      unfold steps at hs
      rw [hg] at hs
      cases hs
    have hj := jn_go (tab2 := tab2) (rows1 := rows1) hg e
    exact ⟨steps_eq (hj.trans hg.symm), hj⟩
theorem steps_two (h2 : OkTab rows2 L tab2) {E1 : List Nat} (hE : ∀ e ∈ E1, e < rows1) (p : Ph) : steps L (jn tab1 tab2 rows1) (Jp tab1.length rows1 E1 p) = (steps L tab2 p).map fun g => (g.1, Jp tab1.length rows1 E1 g.2) := by
  have hj := jn_two (tab1 := tab1) (tab2 := tab2) (rows1 := rows1) (s := p.1)
  cases hu : tab2[p.1]? with
  | none =>
    rw [hu] at hj
    have e1 : steps L tab2 p = [] := by unfold steps; rw [hu]
    rw [e1]
    unfold steps Jp
    simp only [hj]
    rfl
  | some u =>
    rw [hu] at hj
    exact steps_mv (s := p.1 + tab1.length) hu hj (h2.it u (List.mem_of_getElem? hu)) hE
theorem steps_stop (h2 : OkTab rows2 L tab2) {s1 : Nat} {E1 : List Nat} (hE : ∀ e ∈ E1, e < rows1) (h : tab1[s1]? = some .stop) : steps L (jn tab1 tab2 rows1) (s1, E1) = (steps L tab2 (0, [])).map fun g => (g.1, Jp tab1.length rows1 E1 g.2) := by
  obtain ⟨u, hu, hj⟩ := jn_stop (rows1 := rows1) h2 h
  have := steps_mv (E1 := E1) (E2 := []) hu hj (h2.it u (List.mem_of_getElem? hu)) hE
  rw [show sh rows1 E1 [] = E1 by simp [sh]] at this
  exact this
/-- a stop that is reached -/
def StopAt (L : Nat) (tab1 : List Tm) (E1 : List Nat) : Prop := ∃ s1, Rc L tab1 (s1, E1) ∧ tab1[s1]? = some .stop
theorem StopAt.lt (h1 : OkTab rows1 L tab1) {E1 : List Nat} (h : StopAt L tab1 E1) : ∀ e ∈ E1, e < rows1 := by
  obtain ⟨s1, h2, _⟩ := h
  exact (h2.ok h1).rw
theorem rc_jn (h1 : OkTab rows1 L tab1) (h2 : OkTab rows2 L tab2) {p : Ph} (h : Rc L (jn tab1 tab2 rows1) p) : Rc L tab1 p ∨ ∃ E1, StopAt L tab1 E1 ∧ ∃ p2, Rn (scP L tab2) (0, []) p2 ∧ p = Jp tab1.length rows1 E1 p2 := by
  induction h with
  | first => exact .inl .first
  | @step p s _ hs ih =>
    rcases ih with ih | ⟨E1, hE, p2, hp2, rfl⟩
    · have hlt := (ih.ok h1).lt
      have hg : tab1[p.1]? = some tab1[p.1] := List.getElem?_eq_getElem hlt
      generalize tab1[p.1] = t at hg
      by_cases e : t = .stop
      · subst e
        have hsa : StopAt L tab1 p.2 := ⟨p.1, ih, hg⟩
        have h3 := steps_stop (rows1 := rows1) h2 (hsa.lt h1) hg
        rw [show steps L (jn tab1 tab2 rows1) p = _ from h3] at hs
        obtain ⟨g, hg1, rfl⟩ := List.mem_map.mp hs
        exact .inr ⟨p.2, hsa, g.2, ⟨g.2, List.mem_map_of_mem hg1, .refl _⟩, rfl⟩
      · have hj := jn_go (tab2 := tab2) (rows1 := rows1) hg e
        rw [steps_eq (hj.trans hg.symm)] at hs
        exact .inl (.step ih hs)
    · rw [steps_two h2 (hE.lt h1)] at hs
      obtain ⟨g, hg1, rfl⟩ := List.mem_map.mp hs
      exact .inr ⟨E1, hE, g.2, hp2.of (.one (List.mem_map_of_mem hg1)), rfl⟩
theorem rc_one {p : Ph} (h : Rc L tab1 p) : Rc L (jn tab1 tab2 rows1) p := by
  induction h with
  | first => exact .first
  | step _ hs ih => exact .step ih (by rw [(steps_back hs).1]; exact hs)
theorem rr_one {p q : Ph} (h : Rr (scP L tab1) p q) : Rr (scP L (jn tab1 tab2 rows1)) p q := by
  induction h with
  | refl => exact .refl _
  | tail _ hc ih =>
    obtain ⟨s, hs, rfl⟩ := List.mem_map.mp hc
    exact .tail ih (List.mem_map.mpr ⟨s, by rw [(steps_back hs).1]; exact hs, rfl⟩)
theorem rr_front (h2 : OkTab rows2 L tab2) {p q : Ph} (h : Rr (scP L (jn tab1 tab2 rows1)) p q) (hq : q.1 < tab1.length) : p.1 < tab1.length ∧ Rr (scP L tab1) p q := by
  induction h with
  | refl => exact ⟨hq, .refl _⟩
  | tail _ hc ih =>
    obtain ⟨s, hs, rfl⟩ := List.mem_map.mp hc
    obtain ⟨k1, _, _, k4⟩ := steps_front h2 hs hq
    obtain ⟨k5, k6⟩ := ih k4
    exact ⟨k5, .tail k6 (List.mem_map_of_mem k1)⟩
theorem rr_two (h2 : OkTab rows2 L tab2) {E1 : List Nat} (hE : ∀ e ∈ E1, e < rows1) {p q : Ph} (h : Rr (scP L tab2) p q) : Rr (scP L (jn tab1 tab2 rows1)) (Jp tab1.length rows1 E1 p) (Jp tab1.length rows1 E1 q) := by
  induction h with
  | refl => exact .refl _
  | tail _ hc ih =>
    obtain ⟨s, hs, rfl⟩ := List.mem_map.mp hc
    exact .tail ih (List.mem_map.mpr ⟨(s.1, Jp tab1.length rows1 E1 s.2), by rw [steps_two h2 hE]; exact List.mem_map.mpr ⟨s, hs, rfl⟩, rfl⟩)
theorem rr_two' (h2 : OkTab rows2 L tab2) {E1 : List Nat} (hE : ∀ e ∈ E1, e < rows1) {p q : Ph} (h : Rr (scP L (jn tab1 tab2 rows1)) (Jp tab1.length rows1 E1 p) q) : ∃ q2, q = Jp tab1.length rows1 E1 q2 ∧ Rr (scP L tab2) p q2 := by
  generalize e : Jp tab1.length rows1 E1 p = x at h
  induction h with
  | refl => subst e; exact ⟨p, rfl, .refl _⟩
  | tail _ hc ih =>
    obtain ⟨q2, rfl, h3⟩ := ih
    obtain ⟨s, hs, rfl⟩ := List.mem_map.mp hc
    rw [steps_two h2 hE] at hs
    obtain ⟨g, hg, rfl⟩ := List.mem_map.mp hs
    exact ⟨g.2, rfl, .tail h3 (List.mem_map_of_mem hg)⟩
theorem rc_two (h1 : OkTab rows1 L tab1) (h2 : OkTab rows2 L tab2) {E1 : List Nat} (hS : StopAt L tab1 E1) {p2 : Ph} (h : Rn (scP L tab2) (0, []) p2) : Rc L (jn tab1 tab2 rows1) (Jp tab1.length rows1 E1 p2) := by
  obtain ⟨r, hr, hrp⟩ := h
  have hE := hS.lt h1
  refine (rr_two h2 hE hrp).rc ?_
  obtain ⟨s1, k1, k2⟩ := hS
  obtain ⟨s, hs, rfl⟩ := List.mem_map.mp hr
  exact .step (s := (s.1, Jp tab1.length rows1 E1 s.2)) (rc_one k1) (by rw [steps_stop h2 hE k2]; exact List.mem_map.mpr ⟨s, hs, rfl⟩)
theorem eqv_two (h2 : OkTab rows2 L tab2) {E1 : List Nat} (hE : ∀ e ∈ E1, e < rows1) {p q : Ph} : Eqv (scP L (jn tab1 tab2 rows1)) (Jp tab1.length rows1 E1 p) (Jp tab1.length rows1 E1 q) ↔ Eqv (scP L tab2) p q := by
  constructor
  · rintro ⟨k1, k2⟩
    obtain ⟨x, e1, x1⟩ := rr_two' h2 hE k1
    obtain ⟨y, e2, y1⟩ := rr_two' h2 hE k2
    have := Jp_inj e1
    have := Jp_inj e2
    subst_vars
    exact ⟨x1, y1⟩
  · rintro ⟨k1, k2⟩
    exact ⟨rr_two h2 hE k1, rr_two h2 hE k2⟩
theorem row_two {E1 : List Nat} {p : Ph} {r : Nat} {ns : List Nat} (h : tab2[p.1]? = some (.look r ns)) : rowOf (jn tab1 tab2 rows1) (Jp tab1.length rows1 E1 p) = rows1 + rowOf tab2 p := by
  have hj := jn_two (tab1 := tab1) (tab2 := tab2) (rows1 := rows1) (s := p.1)
  rw [h] at hj
  unfold rowOf Jp
  simp only [hj, h]
  rfl
theorem web_jn (h1 : OkTab rows1 L tab1) (h2 : OkTab rows2 L tab2) (a b : Nat) : WebP L (jn tab1 tab2 rows1) a b ↔ WebP L tab1 a b ∨ ((∃ E1, StopAt L tab1 E1) ∧ ∃ a' b', a = rows1 + a' ∧ b = rows1 + b' ∧ WebP L tab2 a' b') := by
  constructor
  · rintro ⟨hab, p, q, hp, hq, he, ⟨s, s1, ⟨ks, s2⟩, s3, s4⟩, t, t1, ⟨kt, t2⟩, t3, t4⟩
    rcases rc_jn h1 h2 hp with hp1 | ⟨E1, hE, p2, hp2, rfl⟩
    · have hpl := (hp1.ok h1).lt
      obtain ⟨hql, hqp⟩ := rr_front h2 he.2 hpl
      obtain ⟨_, hpq⟩ := rr_front h2 he.1 hql
      obtain ⟨hsl, hsp⟩ := rr_front h2 s3.2 hpl
      obtain ⟨_, hps⟩ := rr_front h2 s3.1 hsl
      obtain ⟨htl, htq⟩ := rr_front h2 t3.2 hql
      obtain ⟨_, hqt⟩ := rr_front h2 t3.1 htl
      obtain ⟨u1, _, u3, _⟩ := steps_front h2 s1 hsl
      obtain ⟨v1, _, v3, _⟩ := steps_front h2 t1 htl
      have ra : rowOf tab1 p = a := by rw [← s4]; unfold rowOf; rw [u3]
      have rb : rowOf tab1 q = b := by rw [← t4]; unfold rowOf; rw [v3]
      exact .inl ⟨hab, p, q, hp1, hpq.rc hp1, ⟨hpq, hqp⟩, ⟨s, u1, ⟨ks, s2⟩, ⟨hps, hsp⟩, ra⟩, ⟨t, v1, ⟨kt, t2⟩, ⟨hqt, htq⟩, rb⟩⟩
    · have hEl := hE.lt h1
      obtain ⟨q2, rfl, _⟩ := rr_two' h2 hEl he.1
      have he2 := (eqv_two h2 hEl).mp he
      rw [steps_two h2 hEl] at s1 t1
      obtain ⟨g, hg, rfl⟩ := List.mem_map.mp s1
      obtain ⟨g', hg', rfl⟩ := List.mem_map.mp t1
      obtain ⟨r, ns, c1, _, _⟩ := ch_look hg s2
      obtain ⟨r', ns', c1', _, _⟩ := ch_look hg' t2
      rw [row_two c1] at s4
      rw [row_two c1'] at t4
      have z : Rc L tab2 (0, []) := .first
      refine .inr ⟨⟨E1, hE⟩, rowOf tab2 p2, rowOf tab2 q2, s4.symm, t4.symm, by omega, p2, q2, hp2.rr.rc z, (hp2.of he2.1).rr.rc z, he2, ⟨g, hg, ⟨ks, s2⟩, (eqv_two h2 hEl).mp s3, rfl⟩, ⟨g', hg', ⟨kt, t2⟩, (eqv_two h2 hEl).mp t3, rfl⟩⟩
  · rintro (⟨hab, p, q, hp, hq, he, ⟨s, s1, s2, s3, s4⟩, t, t1, t2, t3, t4⟩ | ⟨⟨E1, hE⟩, a', b', rfl, rfl, hab, p, q, hp, hq, he, ⟨s, s1, ⟨ks, s2⟩, s3, s4⟩, t, t1, ⟨kt, t2⟩, t3, t4⟩)
    · obtain ⟨u1, u2⟩ := steps_back (tab2 := tab2) (rows1 := rows1) s1
      obtain ⟨v1, v2⟩ := steps_back (tab2 := tab2) (rows1 := rows1) t1
      refine ⟨hab, p, q, rc_one hp, rc_one hq, ⟨rr_one he.1, rr_one he.2⟩, ⟨s, by rw [u1]; exact s1, s2, ⟨rr_one s3.1, rr_one s3.2⟩, ?_⟩, ⟨t, by rw [v1]; exact t1, t2, ⟨rr_one t3.1, rr_one t3.2⟩, ?_⟩⟩
      · rw [← s4]; unfold rowOf; rw [u2]
      · rw [← t4]; unfold rowOf; rw [v2]
    · have hEl := hE.lt h1
      have hpp : Rn (scP L tab2) p p := ⟨s.2, List.mem_map_of_mem s1, s3.2⟩
      have hqq : Rn (scP L tab2) q q := ⟨t.2, List.mem_map_of_mem t1, t3.2⟩
      obtain ⟨r, ns, c1, _, _⟩ := ch_look s1 s2
      obtain ⟨r', ns', c1', _, _⟩ := ch_look t1 t2
      refine ⟨by omega, Jp tab1.length rows1 E1 p, Jp tab1.length rows1 E1 q, rc_two h1 h2 hE (hp.rr.rn hpp), rc_two h1 h2 hE (hq.rr.rn hqq), (eqv_two h2 hEl).mpr he, ⟨(s.1, Jp tab1.length rows1 E1 s.2), by rw [steps_two h2 hEl]; exact List.mem_map.mpr ⟨s, s1, rfl⟩, ⟨ks, s2⟩, (eqv_two h2 hEl).mpr s3, by rw [row_two c1, s4]⟩, ⟨(t.1, Jp tab1.length rows1 E1 t.2), by rw [steps_two h2 hEl]; exact List.mem_map.mpr ⟨t, t1, rfl⟩, ⟨kt, t2⟩, (eqv_two h2 hEl).mpr t3, by rw [row_two c1', t4]⟩⟩
theorem noIdle_jn (h1 : OkTab rows1 L tab1) (h2 : OkTab rows2 L tab2) (n1 : NoIdle L tab1) (n2 : NoIdle L tab2) : NoIdle L (jn tab1 tab2 rows1) := by
  have front : ∀ {b c : Ph}, Nx L (jn tab1 tab2 rows1) b c → c.1 < tab1.length → Nx L tab1 b c ∧ b.1 < tab1.length := fun {b c} hn hc => by
    have hs : ((Sg.no, c) : Sg × Ph) ∈ steps L (jn tab1 tab2 rows1) b := by rw [show steps L _ b = _ from hn]; simp
    obtain ⟨_, k2, _, k4⟩ := steps_front h2 hs hc
    exact ⟨by unfold Nx; rw [← k2]; exact hn, k4⟩
  have fr : ∀ {a c : Ph}, Tc (Nx L (jn tab1 tab2 rows1)) a c → c.1 < tab1.length → Tc (Nx L tab1) a c := fun {a c} h => by
    induction h with
    | one h => exact fun hc => .one (front h hc).1
    | tail _ h ih => exact fun hc => .tail (ih (front h hc).2) (front h hc).1
  intro p hp ht
  rcases rc_jn h1 h2 hp with hp1 | ⟨E1, hE, p2, hp2, rfl⟩
  · exact n1 p hp1 (fr ht (hp1.ok h1).lt)
  · have hEl := hE.lt h1
    have nx2 : ∀ {b c : Ph}, Nx L (jn tab1 tab2 rows1) (Jp tab1.length rows1 E1 b) c → ∃ c2, c = Jp tab1.length rows1 E1 c2 ∧ Nx L tab2 b c2 := fun {b c} hn => by
      unfold Nx at hn
      rw [steps_two h2 hEl] at hn
      cases hst : steps L tab2 b with
      | nil => rw [hst] at hn; simp at hn
      | cons g gs =>
        rw [hst] at hn
        simp at hn
        obtain ⟨⟨e1, e2⟩, e3⟩ := hn
        refine ⟨g.2, e2.symm, ?_⟩
        unfold Nx
        rw [hst, e3]
        obtain ⟨g1, g2⟩ := g
        simp at e1
        rw [e1]
    have go : ∀ {a c : Ph}, Tc (Nx L (jn tab1 tab2 rows1)) a c → ∀ a2, a = Jp tab1.length rows1 E1 a2 → ∃ c2, c = Jp tab1.length rows1 E1 c2 ∧ Tc (Nx L tab2) a2 c2 := fun {a c} h => by
      induction h with
      | one h =>
        rintro a2 rfl
        obtain ⟨c2, k1, k2⟩ := nx2 h
        exact ⟨c2, k1, .one k2⟩
      | tail _ h ih =>
        rintro a2 rfl
        obtain ⟨b2, rfl, k2⟩ := ih a2 rfl
        obtain ⟨c2, k3, k4⟩ := nx2 h
        exact ⟨c2, k3, .tail k2 k4⟩
    obtain ⟨c2, k1, k2⟩ := go ht p2 rfl
    have := Jp_inj k1
    subst this
    exact n2 p2 (hp2.rr.rc .first) k2
end
end Ab

set_option Elab.async false
set_option linter.all false
set_option maxRecDepth 100000
set_option maxHeartbeats 2000000
/-! The fewest hands of plans beside one another. -/
namespace Ab
open PySem

theorem okAt_congr {W W' : List Pr} (h : ∀ a b, (a, b) ∈ W ↔ (a, b) ∈ W') (t : List Nat) (x : Nat) : okAt W t x = okAt W' t x := by
  unfold okAt
  congr 1
  congr 1
  funext r
  rw [decide_eq_decide.mpr (h r t.length)]
theorem deal_congr {W W' : List Pr} (h : ∀ a b, (a, b) ∈ W ↔ (a, b) ∈ W') (m : Nat) : ∀ (n : Nat) (t : List Nat), dealF W m n t = dealF W' m n t
  | 0, _ => rfl
  | n + 1, t => by
    unfold dealF
    congr 1
    funext x
    rw [okAt_congr h, deal_congr h m n]
theorem Best.congr {W W' : List Pr} {n χ : Nat} {g : List Nat} (h : ∀ a b, (a, b) ∈ W ↔ (a, b) ∈ W') (k : Best W n χ g) : Best W' n χ g :=
  ⟨k.pos, k.le, by rw [← deal_congr h]; exact k.some, fun m h1 h2 => by rw [← deal_congr h]; exact k.none m h1 h2⟩
/-- so many hands are enough -/
def Col (w : Nat → Nat → Prop) (n m : Nat) : Prop := ∃ c : Nat → Nat, (∀ i, i < n → c i < m) ∧ ∀ a b, w a b → a < b → b < n → c a ≠ c b
theorem best_col {W : List Pr} {n χ : Nat} {g : List Nat} (h : Best W n χ g) : Col (fun a b => (a, b) ∈ W) n χ := by
  obtain ⟨f1, f2, f3, _⟩ := h.facts
  have at_ : ∀ i, i < n → g[i]? = some (g.getD i 0) := fun i hi => by simp [List.getD, List.getElem?_eq_getElem (show i < g.length by omega)]
  refine ⟨fun i => g.getD i 0, fun i hi => ?_, fun a b hW hab hb e => ?_⟩
  · have := lt_hu (List.mem_of_getElem? (at_ i hi))
    show g.getD i 0 < χ
    omega
  · have := proper_spec f2 (by omega) a b hW hab hb
    rw [at_ a (by omega), at_ b hb] at this
    exact this (congrArg some e)
theorem idx_at {reps : List Nat} {x : Nat} (h : x ∈ reps) : ∃ v, v < reps.length ∧ reps[v]? = some x := by
  obtain ⟨v, hv⟩ := List.getElem?_of_mem h
  exact ⟨v, (List.getElem?_eq_some_iff.mp hv).1, hv⟩
/-- told anew, each new hand the next one -/
theorem told_anew (c : Nat → Nat) (m : Nat) : ∀ n, (∀ i, i < n → c i < m) → ∃ t ∈ growL n, t.length = n ∧ ∃ reps : List Nat, reps.length = hu t ∧ reps.Nodup ∧ (∀ x ∈ reps, x < m) ∧ ∀ i, i < n → ∃ v, t[i]? = some v ∧ reps[v]? = some (c i)
  | 0, _ => ⟨[], by simp [growL], rfl, [], rfl, .nil, by simp, fun i hi => absurd hi (by omega)⟩
  | n + 1, h => by
    obtain ⟨t, t1, t2, reps, r1, r2, r3, r4⟩ := told_anew c m n fun i hi => h i (by omega)
    have grow : ∀ v, v ≤ hu t → t ++ [v] ∈ growL (n + 1) := fun v hv => by
      show _ ∈ (growL n).flatMap ext1
      rw [List.mem_flatMap]
      exact ⟨t, t1, List.mem_map.mpr ⟨v, List.mem_range.mpr (by omega), rfl⟩⟩
    have look : ∀ (v : Nat) i, i < n + 1 → (i < n ∧ (t ++ [v])[i]? = t[i]?) ∨ (i = n ∧ (t ++ [v])[i]? = some v) := fun v i hi => by
      rcases Nat.lt_or_ge i n with h1 | h1
      · exact .inl ⟨h1, List.getElem?_append_left (by omega)⟩
      · have : i = n := by omega
        subst this
        exact .inr ⟨rfl, by rw [List.getElem?_append_right (by omega), t2]; simp⟩
    by_cases hc : c n ∈ reps
    · obtain ⟨v, hv, hvr⟩ := idx_at hc
      refine ⟨t ++ [v], grow v (by omega), by simp [t2], reps, by rw [hu_snoc]; omega, r2, r3, fun i hi => ?_⟩
      rcases look v i hi with ⟨h1, h2⟩ | ⟨h1, h2⟩
      · rw [h2]; exact r4 i h1
      · rw [h2, h1]; exact ⟨v, rfl, hvr⟩
    · refine ⟨t ++ [hu t], grow _ (Nat.le_refl _), by simp [t2], reps ++ [c n], by rw [hu_snoc]; simp; omega, ?_, fun x hx => ?_, fun i hi => ?_⟩
      · rw [List.nodup_append]
        exact ⟨r2, by simp, fun a ha b hb => by simp at hb; subst hb; exact fun e => hc (e ▸ ha)⟩
      · rcases List.mem_append.mp hx with hx | hx
        · exact r3 x hx
        · simp at hx; rw [hx]; exact h n (by omega)
      · rcases look (hu t) i hi with ⟨h1, h2⟩ | ⟨h1, h2⟩
        · rw [h2]
          obtain ⟨v, v1, v2⟩ := r4 i h1
          exact ⟨v, v1, by rw [List.getElem?_append_left (List.getElem?_eq_some_iff.mp v2).1]; exact v2⟩
        · rw [h2, h1]
          exact ⟨hu t, rfl, by rw [← r1]; simp⟩
theorem best_min {W : List Pr} {n χ m : Nat} {g : List Nat} (h : Best W n χ g) (h1 : 1 ≤ n) (hc : Col (fun a b => (a, b) ∈ W) n m) : χ ≤ m := by
  rcases Nat.lt_or_ge m χ with hm | hm
  · exfalso
    obtain ⟨c, c1, c2⟩ := hc
    have hm1 : 1 ≤ m := by
      have := c1 0 (by omega)
      omega
    have hno := h.none m hm1 hm
    rw [deal_eq W m n [] (valid_nil W m), List.find?_eq_none] at hno
    obtain ⟨t, t1, t2, reps, r1, r2, r3, r4⟩ := told_anew c m n c1
    rw [growL_eq] at t1
    refine hno t t1 ?_
    unfold valid
    rw [Bool.and_eq_true, decide_eq_true_eq]
    refine ⟨proper_of (by omega) fun a b hW hab hb e => ?_, ?_⟩
    · obtain ⟨v, v1, v2⟩ := r4 a (by omega)
      obtain ⟨u, u1, u2⟩ := r4 b (by omega)
      rw [v1, u1] at e
      cases e
      rw [v2] at u2
      exact c2 a b hW hab (by omega) (Option.some.inj u2)
    · rw [← r1]
      have := r2.length_le_of_subset (l₂ := List.range m) fun x hx => List.mem_range.mpr (r3 x hx)
      simpa using this
  · exact hm
theorem beside_fewest {rows1 rows2 L : Nat} {tab1 tab2 : List Tm} (h1 : OkTab rows1 L tab1) (h2 : OkTab rows2 L tab2) {W W1 W2 : List Pr} {χ χ1 χ2 : Nat} {g g1 g2 : List Nat}
    (w1 : IsWeb L tab1 W1) (w2 : IsWeb L tab2 W2) (w : IsWeb L (jn tab1 tab2 rows1) W) (b1 : Best W1 rows1 χ1 g1) (b2 : Best W2 rows2 χ2 g2) (b : Best W (rows1 + rows2) χ g) : χ = χ1 ∨ χ = max χ1 χ2 := by
  have m1 := h1.r1
  have m2 := h2.r1
  obtain ⟨c, c1, c2⟩ := best_col b
  obtain ⟨d, d1, d2⟩ := best_col b1
  obtain ⟨e, e1, e2⟩ := best_col b2
  have le1 : χ1 ≤ χ := best_min b1 m1 ⟨c, fun i hi => c1 i (by omega), fun x y hxy hlt hy => c2 x y ((w.mem x y).mpr ((web_jn h1 h2 x y).mpr (.inl ((w1.mem x y).mp hxy)))) hlt (by omega)⟩
  by_cases hS : ∃ E1, StopAt L tab1 E1
  · right
    have le2 : χ2 ≤ χ := best_min b2 m2 ⟨fun i => c (rows1 + i), fun i hi => c1 _ (by omega), fun x y hxy hlt hy => c2 (rows1 + x) (rows1 + y) ((w.mem _ _).mpr ((web_jn h1 h2 _ _).mpr (.inr ⟨hS, x, y, rfl, rfl, (w2.mem x y).mp hxy⟩))) (by omega) (by omega)⟩
    have le : χ ≤ max χ1 χ2 := best_min b (by omega) ⟨fun i => if i < rows1 then d i else e (i - rows1), fun i hi => by
      by_cases z : i < rows1
      · simp only [if_pos z]; have := d1 i z; omega
      · simp only [if_neg z]; have := e1 (i - rows1) (by omega); omega, fun x y hxy hlt hy => by
      rcases (web_jn h1 h2 x y).mp ((w.mem x y).mp hxy) with k | ⟨_, x', y', rfl, rfl, k⟩
      · have hy1 := (web_row h1 k).2
        simp only [if_pos hy1, if_pos (show x < rows1 by omega)]
        exact d2 x y ((w1.mem x y).mpr k) hlt hy1
      · simp only [if_neg (show ¬ rows1 + x' < rows1 by omega), if_neg (show ¬ rows1 + y' < rows1 by omega), Nat.add_sub_cancel_left]
        exact e2 x' y' ((w2.mem x' y').mpr k) (by omega) (by omega)⟩
    omega
  · left
    have le : χ ≤ χ1 := best_min b (by omega) ⟨fun i => if i < rows1 then d i else 0, fun i hi => by
      have := b1.pos
      by_cases z : i < rows1
      · simp only [if_pos z]; exact d1 i z
      · simp only [if_neg z]; omega, fun x y hxy hlt hy => by
      rcases (web_jn h1 h2 x y).mp ((w.mem x y).mp hxy) with k | ⟨k, _⟩
      · have hy1 := (web_row h1 k).2
        simp only [if_pos hy1, if_pos (show x < rows1 by omega)]
        exact d2 x y ((w1.mem x y).mpr k) hlt hy1
      · exact absurd k hS⟩
    omega
end Ab

set_option Elab.async false
set_option linter.all false
set_option maxRecDepth 100000
set_option maxHeartbeats 4000000
/-! The law. -/
namespace Ab
open PySem
local macro_rules | `(tactic| walk_at "ab") => `(tactic| simp (config := { failIfUnchanged := false }) only [runDef, List.map_cons, List.map_nil, List.length_cons, List.length_nil, Nat.zero_add, Nat.reduceAdd, Nat.reduceSub, Nat.sub_self, List.replicate_zero, List.replicate_succ, List.nil_append, List.append_nil, List.cons_append, aSeq, aNext, aAsg, aPar, agNm, agTup, agSub, aUpd, aFld, aSetF, aExp, aIf, aRet, aRetN, aBrk, aCnt, aO1, aO2, aVar, aC, aTup, aLst, alNil, alCons, aCall, aDNew, atB, atYes, atAnd, atOr, atNot, aAndV, aOrV, aNotV, aIfE, aChain, aM1, bindP, wipeE,
  List.getElem?_cons_zero, List.getElem?_cons_succ, List.set_cons_zero, List.set_cons_succ, List.getElem?_nil, e_add, e_sub, e_neg, e_cmp, e_eqI, e_eqS, e_neI, e_isN, e_isNotN, e_ixT, e_lenT, e_int, e_abs, e_max2, e_min2, e_tupT, e_isiI, e_isiB, e_isiS, e_isiT, atI0, atI1, atI2, e_br_t, e_br_f, e_blx, e_intx, e_somex, e_somey, e_pair, e_two, Bool.not_true, Bool.not_false, true_and, and_true, Nat.reduceLeDiff, Nat.le_refl, decide_true, decide_false, c_0, c_1, c_2, c_3, c_4, c_5, c_6, c_7, c_8, c_9, Int.reduceEq, Int.reduceLT, Int.reduceLE, s_look_say, s_look_stop, s_look_end, s_say_look, s_say_stop, s_say_end, s_stop_look, s_stop_say, s_stop_end, s_end_look, s_end_say, s_end_stop])

theorem IsPlan.mono2 {st st' : Store} {o C rows L : Nat} {tab : List Tm} {n : Nat} {ks : List Ph} {f : Ph → Nat} {S : List Nat} (h : IsPlan st o C rows L tab n ks f) (k : Kp S st st') (h1 : o ∉ S) (h2 : n ∉ S) (h3 : ∀ p ∈ ks, f p ∉ S) : IsPlan st' o C rows L tab n ks f :=
  ⟨k.at h.at_ h1, k.at h.dt h2, h.kp.mono k h2 h3⟩
def kGs (χ : Nat) (g : List Nat) : NestedKey := .tup [kN χ, .tup (g.map kN)]
theorem dk_gs (χ : Nat) (g : List Nat) : dk (kGs χ g) = .tup [dN χ, .tup (g.map dN)] := by
  unfold kGs
  simp only [dk, dks, dks_map, List.map_map]
  rfl
theorem kGs_depth (χ : Nat) (g : List Nat) : (kGs χ g).depth ≤ 8 := by
  simp [kGs, NestedKey.depth, NestedKey.depthAll, depth_nums]
theorem kGs_ok (χ : Nat) (g : List Nat) : keyOk (kGs χ g) = true := by simp [kGs, keyOk, keysOk, keysOk_nums]
/-- what is behind the building of the first plan's table -/
def law_rest (s_law_spec s_law_made s_law_least s_is_free s_least_dealing s_fewest_hands s_beside : ASp) : AS :=
 (aSeq (aAsg (aCall s_law_made (alCons (aVar 3) alNil)) (agNm 4))
 (aSeq (aAsg (aCall s_law_least (alCons (aVar 3) alNil)) (agNm 5))
 (aSeq (aIf (atOr (atB (aO2 pNe (aTup (alCons (aCall s_fewest_hands (alCons (aVar 4) alNil)) (alCons (aCall s_least_dealing (alCons (aVar 4) alNil)) alNil))) (aVar 5))) (atB (aO2 pIsNot (aCall s_is_free (alCons (aVar 4) (alCons (aCall s_least_dealing (alCons (aVar 4) alNil)) alNil))) (aC (.bl true)))))
 (aRet (aC (.bl false)))
 aNext)
 (aSeq (aAsg (aCall s_law_spec (alCons (aVar 1) (alCons (aC (.int 2)) (alCons (aC (.int 2)) (alCons (aC (.int 5)) alNil))))) (agNm 6))
 (aIf (atB (aO2 pEq (aO2 pIx (aVar 6) (aC (.int 1))) (aO2 pIx (aVar 3) (aC (.int 1)))))
 (aSeq (aAsg (aCall s_law_made (alCons (aVar 6) alNil)) (agNm 7))
 (aIf (atB (aO2 pNotIn (aCall s_fewest_hands (alCons (aCall s_beside (alCons (aVar 4) (alCons (aVar 7) alNil))) alNil)) (aLst (alCons (aO2 pIx (aVar 5) (aC (.int 0))) (alCons (aO2 pMax2 (aO2 pIx (aVar 5) (aC (.int 0))) (aCall s_fewest_hands (alCons (aVar 7) alNil))) alNil)))))
 (aRet (aC (.bl false)))
 aNext))
 aNext)))))
theorem web_same {L : Nat} {tab : List Tm} {W W' : List Pr} (h : IsWeb L tab W) (k : IsWeb L tab W') (a b : Nat) : (a, b) ∈ W ↔ (a, b) ∈ W' := by rw [h.mem, k.mem]
theorem k_law_rest {cP cR : Nat} (E : AEnds) (st : Store) (p g sm rows L : Nat) (tab : List Tm) (x0 : D) (tn a b c d : Option D) (hP : IsPot st p g sm) (hT : OkTab rows L tab) (hL2 : L ≤ 2) (hr6 : rows ≤ 6) (hz : tab.length ≤ 10) (hsz : tab.length * 2 ^ rows ≤ 640) (hN : NoIdle L tab)
    (q : ∀ st' a b c d, IsPot st' p g sm → E.nx [some x0, some (.ref p), tn, some (dSpec rows L tab), a, b, c, d] st') :
    law_rest sSpec (sMade cP) sLawLeast (sIsFree [cP, cR]) (sFewest [cP, cR] 1) (sFewest [cP, cR] 0) (sBeside [cP, cR]) E [some x0, some (.ref p), tn, some (dSpec rows L tab), a, b, c, d] st := by
  obtain ⟨lp, lg, ls⟩ := hP.lt
  unfold law_rest
  walk_at "ab"
  refine ⟨rows, L, tab, rfl, hT, hr6, hN, fun s1 o n ks f hK1 ho hfr hp => ?_⟩
  walk_at "ab"
  refine ⟨rows, L, tab, rfl, hT, hL2, hr6, hsz, fun s2 W χ gg hK2 hW hB => ?_⟩
  walk_at "ab"
  have hp2 := hp.mono hK2
  have hK02 := hK1.trans hK2
  refine ⟨o, cP, rows, L, tab, n, ks, f, rfl, by simp, hT, hp2, fun s3 W3 χ3 g3 hK3 hW3 hB3 => ?_⟩
  obtain ⟨e3, e3'⟩ := (hB3.congr (web_same hW3 hW)).uniq hB
  subst e3 e3'
  rw [if_pos rfl]
  have hp3 := hp2.mono hK3
  refine ⟨o, cP, rows, L, tab, n, ks, f, rfl, by simp, hT, hp3, fun s4 W4 χ4 g4 hK4 hW4 hB4 => ?_⟩
  obtain ⟨e4, e4'⟩ := (hB4.congr (web_same hW4 hW)).uniq hB
  subst e4 e4'
  rw [if_neg (by decide)]
  have hp4 := hp3.mono hK4
  walk_at "ab"
  refine p_neK (kGs χ4 g4) (kGs χ4 g4) (dk_gs _ _).symm (dk_gs _ _).symm (kGs_depth _ _) (kGs_depth _ _) (kGs_ok _ _) (kGs_ok _ _) ?_
  rw [decide_eq_true rfl]
  walk_at "ab"
  refine ⟨o, cP, rows, L, tab, n, ks, f, rfl, by simp, hT, hp4, fun s5 W5 χ5 g5 hK5 hW5 hB5 => ?_⟩
  obtain ⟨e5, e5'⟩ := (hB5.congr (web_same hW5 hW)).uniq hB
  subst e5 e5'
  rw [if_neg (by decide)]
  have hp5 := hp4.mono hK5
  refine ⟨o, cP, rows, L, tab, n, ks, f, W, χ5, g5, rfl, by simp, hT, hp5, hW, hB, fun s6 hK6 => ?_⟩
  have hp6 := hp5.mono hK6
  refine p_isNotB ?_
  rw [decide_eq_true rfl]
  walk_at "ab"
  have hK06 := ((((hK02.trans hK3).trans hK4).trans hK5).trans hK6)
  have hP6 := hP.mono hK06
  refine ⟨p, g, sm, 2, 2, 5, rfl, hP6, by omega, by omega, by omega, by omega, by omega, by omega, by omega, fun s7 r2 l2 t2 hK7 hP7 hT2 hr2 hl2 hz2 hN2 => ?_⟩
  have hfo : o ∉ [p, g] := by simp; omega
  have hfn : n ∉ [p, g] := by have := hfr.1; simp; omega
  have hff : ∀ r ∈ ks, f r ∉ [p, g] := fun r hr => by have := hfr.2 r hr; simp; omega
  have hp7 := hp6.mono2 hK7 hfo hfn hff
  unfold dSpec
  walk_at "ab"
  refine br_d (fun hl => ?_) fun hl => ?_
  · have e : l2 = L := by omega
    subst e
    refine ⟨r2, l2, t2, rfl, hT2, by omega, hN2, fun s8 o2 n2 ks2 f2 hK8 ho2 hfr2 hq => ?_⟩
    have hp8 := hp7.mono hK8
    walk_at "ab"
    refine ⟨o, cP, rows, l2, tab, n, ks, f, o2, cP, r2, t2, n2, ks2, f2, rfl, by simp, by simp, hT, hT2, hp8, hq, jn_ok hT hT2 (by omega) (by omega), noIdle_jn hT hT2 hN hN2, fun s9 o9 n9 ks9 f9 hK9 hp9 => ?_⟩
    refine ⟨o9, cR, rows + r2, l2, jn tab t2 rows, n9, ks9, f9, rfl, by simp, jn_ok hT hT2 (by omega) (by omega), hp9, fun s10 Wj χj gj hK10 hWj hBj => ?_⟩
    rw [if_pos rfl]
    have hqa := (hq.mono hK9).mono hK10
    refine ⟨o2, cP, r2, l2, t2, n2, ks2, f2, rfl, by simp, hT2, hqa, fun s11 W2 χ2 g2 hK11 hW2 hB2 => ?_⟩
    rw [if_pos rfl]
    walk_at "ab"
    have hfin := beside_fewest hT hT2 hW hW2 hWj hB hB2 hBj
    have emax : (if (χ2 : Int) > (χ5 : Int) then (χ2 : Int) else (χ5 : Int)) = ((max χ5 χ2 : Nat) : Int) := by split <;> omega
    rw [emax]
    refine p_ninL (kN χj) [kN χ5, kN (max χ5 χ2)] (by simp [dk]) (at_new _ _) (by simp [NestedKey.depth]) (by simp [NestedKey.depth]) ?_
    have hin : kN χj ∈ [kN χ5, kN (max χ5 χ2)] := by
      rcases hfin with h | h
      · rw [h]; simp
      · rw [← h]; simp
    rw [decide_eq_true hin]
    walk_at "ab"
    exact q _ _ _ _ _ ((((((hP7.mono hK8).mono hK9).mono hK10).mono hK11).app _))
  · exact q _ _ _ _ _ hP7
def sLaw : ASp := fun ds st Q => ∃ is : List Int, ds = [.fl (is.map .int)] ∧ is.length ≤ 63 ∧ ∀ st', Q (.bl true) st'
theorem law_eq (s_law_pot s_law_spec s_law_draw s_law_ring_spec s_law_made s_law_least s_is_free s_least_dealing s_fewest_hands s_beside : ASp) : b_law s_law_pot s_law_spec s_law_draw s_law_ring_spec s_law_made s_law_least s_is_free s_least_dealing s_fewest_hands s_beside =
 (aSeq (aAsg (aCall s_law_pot (alCons (aVar 0) alNil)) (agNm 1))
 (aSeq (aFor (sRng1 (alCons (aC (.int 2)) alNil)) (.nm 2)
 (aSeq (aAsg (aCall s_law_spec (alCons (aVar 1) (alCons (aC (.int 5)) (alCons (aC (.int 2)) (alCons (aC (.int 8)) alNil))))) (agNm 3))
 (aSeq (aIf (atB (aO2 pEq (aCall s_law_draw (alCons (aVar 1) (alCons (aC (.int 2)) alNil))) (aC (.int 0))))
 (aAsg (aCall s_law_ring_spec (alCons (aVar 1) (alCons (aC (.int 3)) (alCons (aC (.int 6)) alNil)))) (agNm 3))
 aNext)
 (law_rest s_law_spec s_law_made s_law_least s_is_free s_least_dealing s_fewest_hands s_beside))))
 (aRet (aC (.bl true))))) := rfl
theorem k_law {cP cR : Nat} (ds : List D) (st : Store) (Q : DK) (h : sLaw ds st Q) : runDef 8 (b_law sPot sSpec sDraw sRing (sMade cP) sLawLeast (sIsFree [cP, cR]) (sFewest [cP, cR] 1) (sFewest [cP, cR] 0) (sBeside [cP, cR])) ds st Q := by
  obtain ⟨is, rfl, hl, q⟩ := h
  rw [law_eq]
  have rest := @k_law_rest cP cR
  generalize law_rest sSpec (sMade cP) sLawLeast (sIsFree [cP, cR]) (sFewest [cP, cR] 1) (sFewest [cP, cR] 0) (sBeside [cP, cR]) = R at *
  walk_at "ab"
  refine ⟨is, rfl, hl, fun s1 p g sm hK1 hp1 hg1 hP1 => ?_⟩
  unfold aFor sRng1
  walk_at "ab"
  refine ⟨_, rfl, by omega, by omega, ?_⟩
  refine ⟨fun i env s => (∃ a b c d e h, env = [some (.fl (is.map .int)), some (.ref p), a, b, c, d, e, h]) ∧ IsPot s p g sm, ⟨⟨_, _, _, _, _, _, rfl⟩, hP1⟩, fun _ _ _ _ => trivial, ?_, ?_⟩
  · rintro i y env s hy ⟨⟨a, b, c, d, e, h, rfl⟩, hP⟩
    walk_at "ab"
    refine ⟨p, g, sm, 5, 2, 8, rfl, hP, by omega, by omega, by omega, by omega, by omega, by omega, by omega, fun s2 rows L tab hK2 hP2 hT hr hL hz hN => ?_⟩
    refine ⟨p, g, sm, 2, rfl, hP2, by omega, by omega, fun s3 dr hK3 hl3 hP3 hdr => ?_⟩
    walk_at "ab"
    refine br_d (fun h0 => ?_) fun h0 => ?_
    · refine ⟨p, g, sm, rfl, hP3, fun s4 rows4 tab4 hK4 hP4 hT4 hr4 hz4 hN4 => ?_⟩
      exact rest _ s4 p g sm rows4 1 tab4 _ _ _ _ _ _ hP4 hT4 (by omega) hr4 hz4 (size_le hz4 hr4 (by decide)) hN4 fun st' a b c d hP' => ⟨⟨_, _, _, _, _, _, rfl⟩, hP'⟩
    · exact rest _ s3 p g sm rows L tab _ _ _ _ _ _ hP3 hT hL (by omega) (by omega) (size_le hz hr (by decide)) hN fun st' a b c d hP' => ⟨⟨_, _, _, _, _, _, rfl⟩, hP'⟩
  · rintro env s ⟨⟨a, b, c, d, e, h, rfl⟩, hP⟩
    walk_at "ab"
    exact q s
end Ab

set_option Elab.async false
set_option linter.all false
set_option maxRecDepth 100000
set_option maxHeartbeats 0
namespace Ab
open PySem PySem.Spec PyProof.Rows L2
/-! ### the head: what the top leaves -/
def dTop (x : Str) (i : Nat) : He.FnD := ⟨(x, none), x, x, defArgs (topS i), defBody (topS i), defScope (topS i)⟩
def dMet (c m q : Str) (st : Stmt) : He.FnD := ⟨(c, some m), m, q, defArgs st, defBody st, defScope st⟩
def hfn0 : List He.FnD := [dTop "is_integer" 8, dTop "is_within" 9, dTop "is_string_of" 10, dTop "is_word" 11, dTop "are_nexts" 17, dTop "is_say" 18, dTop "is_item" 19, dTop "with_row" 20, dTop "steps_of" 21, dTop "all_steps" 22, dTop "idle_ring" 23, dTop "is_dealing" 27]
def hfn1 : List He.FnD := [dTop "lines_of" 29, dTop "turned" 30, dTop "finished" 31, dTop "lots_of" 32, dTop "rows_in" 33, dTop "kept_pieces" 34, dTop "pairs_among" 35, dTop "web" 36, dTop "is_free" 37, dTop "dealt_on" 39, dTop "hues" 40, dTop "fewest_hands" 41]
def hfn2 : List He.FnD := [dTop "least_dealing" 42, dTop "moved" 44, dTop "joined" 45, dTop "beside" 46, dTop "_law_pot" 48, dTop "_law_draw" 49, dTop "_law_mixed" 50, dTop "_law_drawn_table" 51, dTop "_law_steps" 52, dTop "_law_phases" 53, dTop "_law_is_idle" 54, dTop "_law_renamed" 55]
def hfn3 : List He.FnD := [dTop "_law_spec" 56, dTop "_law_made" 57, dTop "_law_reach" 58, dTop "_law_pieces" 59, dTop "_law_web" 60, dTop "_law_growths" 61, dTop "_law_least" 62, dTop "_law_ring_spec" 63, dTop "law" 64, dMet "Plan" "__init__" "Plan.__init__" (inS 24 0), dMet "Plan" "keep" "Plan.keep" (inS 24 1), dMet "RawPlan" "__init__" "RawPlan.__init__" (inS 25 0)]
def hfn4 : List He.FnD := [dMet "RawPlan" "keep" "Plan.keep" (inS 24 1)]
def hfn : List He.FnD := hfn0 ++ (hfn1 ++ (hfn2 ++ (hfn3 ++ (hfn4))))
def hfa0 : List He.Fa := [.glo "is_integer", .keep "is_integer", .glo "is_within", .keep "is_within", .glo "is_string_of", .keep "is_string_of", .glo "is_word", .keep "is_word", .glo "are_nexts", .keep "are_nexts", .glo "is_say", .keep "is_say"]
def hfa1 : List He.Fa := [.glo "is_item", .keep "is_item", .glo "with_row", .keep "with_row", .glo "steps_of", .keep "steps_of", .glo "all_steps", .keep "all_steps", .glo "idle_ring", .keep "idle_ring", .glo "is_dealing", .keep "is_dealing"]
def hfa2 : List He.Fa := [.glo "lines_of", .keep "lines_of", .glo "turned", .keep "turned", .glo "finished", .keep "finished", .glo "lots_of", .keep "lots_of", .glo "rows_in", .keep "rows_in", .glo "kept_pieces", .keep "kept_pieces"]
def hfa3 : List He.Fa := [.glo "pairs_among", .keep "pairs_among", .glo "web", .keep "web", .glo "is_free", .keep "is_free", .glo "dealt_on", .keep "dealt_on", .glo "hues", .keep "hues", .glo "fewest_hands", .keep "fewest_hands"]
def hfa4 : List He.Fa := [.glo "least_dealing", .keep "least_dealing", .glo "moved", .keep "moved", .glo "joined", .keep "joined", .glo "beside", .keep "beside", .glo "_law_pot", .keep "_law_pot", .glo "_law_draw", .keep "_law_draw"]
def hfa5 : List He.Fa := [.glo "_law_mixed", .keep "_law_mixed", .glo "_law_drawn_table", .keep "_law_drawn_table", .glo "_law_steps", .keep "_law_steps", .glo "_law_phases", .keep "_law_phases", .glo "_law_is_idle", .keep "_law_is_idle", .glo "_law_renamed", .keep "_law_renamed"]
def hfa6 : List He.Fa := [.glo "_law_spec", .keep "_law_spec", .glo "_law_made", .keep "_law_made", .glo "_law_reach", .keep "_law_reach", .glo "_law_pieces", .keep "_law_pieces", .glo "_law_web", .keep "_law_web", .glo "_law_growths", .keep "_law_growths"]
def hfa7 : List He.Fa := [.glo "_law_least", .keep "_law_least", .glo "_law_ring_spec", .keep "_law_ring_spec", .glo "law", .keep "law", .meth "Plan" "__init__", .meth "Plan" "keep", .meth "RawPlan" "__init__", .meth "RawPlan" "keep", .glo "Plan", .cls "Plan"]
def hfa8 : List He.Fa := [.mkr "Plan", .noat "Plan" "rows", .noat "Plan" "letters", .noat "Plan" "table", .noat "Plan" "kept_phases", .glo "RawPlan", .cls "RawPlan", .mkr "RawPlan", .noat "RawPlan" "rows", .noat "RawPlan" "letters", .noat "RawPlan" "table", .noat "RawPlan" "kept_phases"]
def hfa9 : List He.Fa := [.free "len", .free "range", .free "sorted", .free "list", .free "tuple", .free "isinstance", .free "int", .free "str", .free "bool", .free "abs", .free "sum", .free "max"]
def hfa10 : List He.Fa := [.free "min", .free "enumerate", .free "all", .free "any", .str "SMALL" "abcdefghijklmnopqrstuvwxyz", .str "LETTERS" "abc", .str "END" "end", .int "MOST_ROWS" 6, .int "MOST_STANDINGS" 30, .glo "FIRST_PHASE"]
def hfa : List He.Fa := hfa0 ++ (hfa1 ++ (hfa2 ++ (hfa3 ++ (hfa4 ++ (hfa5 ++ (hfa6 ++ (hfa7 ++ (hfa8 ++ (hfa9 ++ (hfa10))))))))))
def hnm0 : List Str := ["WalkError", "BadPlan", "Idle", "OtherPlan", "LETTERS", "SMALL", "is_integer", "is_within", "is_string_of", "is_word", "END", "MOST_ROWS"]
def hnm1 : List Str := ["MOST_STANDINGS", "FIRST_PHASE", "are_nexts", "is_say", "is_item", "with_row", "steps_of", "all_steps", "idle_ring", "Plan", "RawPlan", "is_dealing"]
def hnm2 : List Str := ["lines_of", "turned", "finished", "lots_of", "rows_in", "kept_pieces", "pairs_among", "web", "is_free", "dealt_on", "hues", "fewest_hands"]
def hnm3 : List Str := ["least_dealing", "moved", "joined", "beside", "_law_pot", "_law_draw", "_law_mixed", "_law_drawn_table", "_law_steps", "_law_phases", "_law_is_idle", "_law_renamed"]
def hnm4 : List Str := ["_law_spec", "_law_made", "_law_reach", "_law_pieces", "_law_web", "_law_growths", "_law_least", "_law_ring_spec"]
def hnm : List Str := hnm0 ++ (hnm1 ++ (hnm2 ++ (hnm3 ++ (hnm4))))
/-- a tuple stands at a -/
def tupA (K : PySem.W.Frag) (a : Addr) (vs : List V) : Bool := match K.lookup a with
  | some ⟨.type c, _, .seq its _, _⟩ => decide (c = "tuple") && (decide (its.size ≤ sizeLine) && He.relAll vs its.toList)
  | _ => false
theorem tupA_ok {K : PySem.W.Frag} {a : Addr} {vs : List V} (h : tupA K a vs = true) (H : Hp) : SqT K H a vs := by
  unfold tupA at h
  cases q : K.lookup a with
  | none => rw [q] at h; cases h
  | some o =>
    obtain ⟨oc, od, dt, osl⟩ := o
    rw [q] at h
    cases oc with
    | type c =>
      cases dt with
      | seq its n =>
        obtain ⟨h1, h2⟩ := He.ba (show (decide (c = "tuple") && (decide (its.size ≤ sizeLine) && He.relAll vs its.toList)) = true from h)
        obtain ⟨h3, h4⟩ := He.ba h2
        exact .inr ⟨_, its, n, q, congrArg Value.type (of_decide_eq_true h1), rfl, of_decide_eq_true h3, He.relAll_ok h4⟩
      | _ => cases h
    | _ => cases dt <;> cases h
def fpI (K : PySem.W.Frag) : Addr := match K.lookup (He.ga K "FIRST_PHASE") with
  | some ⟨_, _, .seq its _, _⟩ => (match its.toList with
    | [_, .ref b] => b
    | _ => 0)
  | _ => 0
def fpB (K : PySem.W.Frag) : Bool := tupA K (He.ga K "FIRST_PHASE") [.int 0, .ref (fpI K)] && tupA K (fpI K) []
def obF (n : Nat) (g : Addr → Option Obj) : He.Al × Bool := (He.obsE hfa hfn (He.frG g (He.asG g n)), fpB (He.frG g (He.asG g n)))
def hkF : PySem.W.Hook where
  α := He.Al × Bool
  obs := fun s => obF 4 s.heap.get?
  val := fun _ => (He.valE hfn, true)
  says := fun _ h => ∃ K : PySem.W.Frag, K.In h ∧ He.SaysE hfa hfn K ∧ fpB K = true
  of := fun _ _ e => ⟨_, He.frG_in, congrArg Prod.fst e, congrArg Prod.snd e⟩
  keeps := fun _ _ _ ⟨K, hK, c⟩ k => ⟨K, PySem.W.Frag.In.keeps hK k, c⟩
def obS (s : PySem.W.SharedT) : He.Al × Bool := obF 4 (HandSHeadRun.getT s)
theorem obS_eq (s : PySem.W.SharedT) : obS s = hkF.obs s.abs := by
  have e : HandSHeadRun.getT s = s.abs.heap.get? := funext (HandSHeadRun.getT_eq s)
  unfold obS
  rw [e] <;> rfl
section
variable {P : Program} {w : World} {K : PySem.W.Frag} {mg : Str → Option Value} {base h : Heap}
theorem fun_of (c : He.SaysE hfa hfn K) (i : Nat) {x q : Str} {at_ : Str × Option Str} {st : Stmt} (e : hfn[i]? = some ⟨at_, x, q, defArgs st, defBody st, defScope st⟩) (kp : PySem.W.keepIn K (.ref (He.fAd K at_)) = true) : ∃ fd, Fun K x q st (He.fAd K at_) fd := by
  obtain ⟨oc, od, osl, kV, doc, pm, an, cdv, ct, l, cd⟩ := c.def_ i e
  exact ⟨_, fun_mk l cd kp⟩
theorem glo_str {x z : Str} (e : ∃ t, mg x = some (.str z t)) : Glo K mg x (.str z) := by
  obtain ⟨t, e⟩ := e
  exact ⟨⟨_, .str z, e, ⟨t, rfl⟩, fun _ _ _ _ => .str z⟩⟩
theorem glo_int {x : Str} {i : Int} (e : ∃ t, mg x = some (.int i t)) : Glo K mg x (.int i) := by
  obtain ⟨t, e⟩ := e
  exact ⟨⟨_, .int i, e, ⟨t, rfl⟩, fun _ _ _ _ => .int i⟩⟩
theorem glo_fp (e : mg "FIRST_PHASE" = some (.ref (He.ga K "FIRST_PHASE"))) (c : fpB K = true) : Glo K mg "FIRST_PHASE" (.tup [.int 0, .tup []]) := by
  obtain ⟨c1, c2⟩ := He.ba c
  exact ⟨⟨_, .ref (He.ga K "FIRST_PHASE"), e, rfl, fun _ _ _ H => .tup (tupA_ok c1 H) (.cons (.int 0) (.cons (.tup (tupA_ok c2 H) .nil) .nil))⟩⟩
/-! ### dealt_on calls itself -/
theorem no_ok {x q : Str} {st : Stmt} {f : Addr} {fd : FuncData} {N ps : List Str} (F : Fun K x q st f fd) (S : FnScope N ps (defScope st)) : FnOk P w K mg base CX0 1 f fd ps (liftP ⟨P, w, K⟩ spNo) := by
  refine F.ok (k := 0) S (fun vs H Q E h => ?_) (fun cdv A outer s H vs Q E hr h => ?_)
  · obtain ⟨m, st', ds, QA, R, r, z, c⟩ := h
    exact z.elim
  · obtain ⟨m, st', ds, QA, R, r, z, c⟩ := h
    exact z.elim
theorem any_ok {f : Addr} {fd : FuncData} {ps : List Str} {k : Nat} (h : ∀ j, j ≤ 8 → FnOk P w K mg base CX0 k f fd ps (liftP ⟨P, w, K⟩ (sDealt j))) : FnOk P w K mg base CX0 k f fd ps (liftP ⟨P, w, K⟩ sDealtAny) := by
  refine ⟨fun vs H Q E z => ?_, fun A outer s H args us vs Q E hr he hb hv z => ?_⟩
  · obtain ⟨m, st', ds, QA, R, r, ⟨j, hj, y⟩, c⟩ := z
    exact (h j hj).len vs H Q E ⟨m, st', ds, QA, R, r, y, c⟩
  · obtain ⟨m, st', ds, QA, R, r, ⟨j, hj, y⟩, c⟩ := z
    exact (h j hj).run A outer s H args us vs Q E hr he hb hv ⟨m, st', ds, QA, R, r, y, c⟩
theorem dealt_ok {f : Addr} {fd : FuncData} (B : Blt mg) (F : Fun K "dealt_on" "dealt_on" t_dealt_on f fd) (hm : mg "dealt_on" = some (.ref f)) (hb : Binds K fd ["many", "pairs", "told", "most"] []) : ∀ j, FnOk P w K mg base CX0 (j + 2) f fd ["many", "pairs", "told", "most"] (liftP ⟨P, w, K⟩ (sDealt j)) := by
  have pre : ∀ j, Fnc ⟨P, w, K⟩ mg base (j + 1) "dealt_on" (sDealtPre j) := fun j => by
    induction j with
    | zero => exact ⟨f, fd, _, no_ok F sc_dealt_on, hm, F.kp, hb⟩
    | succ j ih => exact ⟨f, fd, _, fn_ab F sc_dealt_on (fun ds st' QA h => by obtain ⟨_, _, _, _, e, _⟩ := h; subst e; rfl) (d_dealt_on B ih) (k_dealt_on j), hm, F.kp, hb⟩
  exact fun j => fn_ab F sc_dealt_on (fun ds st' QA h => by obtain ⟨_, _, _, _, e, _⟩ := h; subst e; rfl) (d_dealt_on B (pre j)) (k_dealt_on j)
abbrev cPl (K : PySem.W.Frag) : Addr := He.ga K "Plan"
abbrev cRw (K : PySem.W.Frag) : Addr := He.ga K "RawPlan"
theorem all_ok (X : K.In h) (Gn : h.Ns mainGlobals mg) (c : He.SaysE hfa hfn K) (cf : fpB K = true) : ∃ fd, Fun K "law" "law" t_law (He.ga K "law") fd ∧ FnOk P w K mg base CX0 13 (He.ga K "law") fd ["_law_script"] (liftP ⟨P, w, K⟩ sLaw) := by
  have B : Blt mg := ⟨He.free_ok X Gn (c.fact 108 rfl), He.free_ok X Gn (c.fact 109 rfl), He.free_ok X Gn (c.fact 110 rfl), He.free_ok X Gn (c.fact 111 rfl), He.free_ok X Gn (c.fact 112 rfl), He.free_ok X Gn (c.fact 113 rfl), He.free_ok X Gn (c.fact 114 rfl), He.free_ok X Gn (c.fact 115 rfl), He.free_ok X Gn (c.fact 116 rfl), He.free_ok X Gn (c.fact 117 rfl), He.free_ok X Gn (c.fact 118 rfl), He.free_ok X Gn (c.fact 119 rfl), He.free_ok X Gn (c.fact 120 rfl), He.free_ok X Gn (c.fact 121 rfl), He.free_ok X Gn (c.fact 122 rfl), He.free_ok X Gn (c.fact 123 rfl)⟩
  have G_SMALL := glo_str (K := K) (He.str_ok X Gn (c.fact 124 rfl))
  have G_LETTERS := glo_str (K := K) (He.str_ok X Gn (c.fact 125 rfl))
  have G_END := glo_str (K := K) (He.str_ok X Gn (c.fact 126 rfl))
  have G_MOST_ROWS := glo_int (K := K) (He.int_ok X Gn (c.fact 127 rfl))
  have G_MOST_STANDINGS := glo_int (K := K) (He.int_ok X Gn (c.fact 128 rfl))
  have G_FIRST_PHASE := glo_fp (He.glo_ok X Gn (c.fact 129 rfl)) cf
  have hF : ∀ f : Str, f ∈ fieldNames → ∀ C ∈ [cPl K, cRw K], Cls K C ∧ NoAttr K C f := List.forall_mem_cons.mpr ⟨(List.forall_mem_cons.mpr ⟨⟨He.cls_ok (c.fact 95 rfl), He.noat_ok (c.fact 97 rfl)⟩, List.forall_mem_cons.mpr ⟨⟨He.cls_ok (c.fact 102 rfl), He.noat_ok (c.fact 104 rfl)⟩, fun _ z => nomatch z⟩⟩), List.forall_mem_cons.mpr ⟨(List.forall_mem_cons.mpr ⟨⟨He.cls_ok (c.fact 95 rfl), He.noat_ok (c.fact 98 rfl)⟩, List.forall_mem_cons.mpr ⟨⟨He.cls_ok (c.fact 102 rfl), He.noat_ok (c.fact 105 rfl)⟩, fun _ z => nomatch z⟩⟩), List.forall_mem_cons.mpr ⟨(List.forall_mem_cons.mpr ⟨⟨He.cls_ok (c.fact 95 rfl), He.noat_ok (c.fact 99 rfl)⟩, List.forall_mem_cons.mpr ⟨⟨He.cls_ok (c.fact 102 rfl), He.noat_ok (c.fact 106 rfl)⟩, fun _ z => nomatch z⟩⟩), List.forall_mem_cons.mpr ⟨(List.forall_mem_cons.mpr ⟨⟨He.cls_ok (c.fact 95 rfl), He.noat_ok (c.fact 100 rfl)⟩, List.forall_mem_cons.mpr ⟨⟨He.cls_ok (c.fact 102 rfl), He.noat_ok (c.fact 107 rfl)⟩, fun _ z => nomatch z⟩⟩), fun _ z => nomatch z⟩⟩⟩⟩
  obtain ⟨fd_is_integer, U_is_integer⟩ := fun_of (x := "is_integer") (q := "is_integer") (st := t_is_integer) (at_ := ("is_integer", none)) c 0 rfl (He.keep_ok (c.fact 1 rfl))
  have b_is_integer := U_is_integer.binds (ps := ["thing"]) fun _ _ _ _ _ _ us hl => match us, hl with | [_], _ => rfl
  have G_is_integer : Fnc ⟨P, w, K⟩ mg base 1 "is_integer" sIsInteger := Fnc.of U_is_integer (He.glo_ok X Gn (c.fact 0 rfl)) b_is_integer sc_is_integer (fun ds st' QA h => by repeat (first | (obtain ⟨e, _⟩ := h; subst e; rfl) | (obtain ⟨_, h⟩ := h))) (d_is_integer (B := B)) k_is_integer
  obtain ⟨fd_is_within, U_is_within⟩ := fun_of (x := "is_within") (q := "is_within") (st := t_is_within) (at_ := ("is_within", none)) c 1 rfl (He.keep_ok (c.fact 3 rfl))
  have b_is_within := U_is_within.binds (ps := ["thing", "least", "most"]) fun _ _ _ _ _ _ us hl => match us, hl with | [_, _, _], _ => rfl
  have G_is_within : Fnc ⟨P, w, K⟩ mg base 2 "is_within" sIsWithin := Fnc.of U_is_within (He.glo_ok X Gn (c.fact 2 rfl)) b_is_within sc_is_within (fun ds st' QA h => by repeat (first | (obtain ⟨e, _⟩ := h; subst e; rfl) | (obtain ⟨_, h⟩ := h))) (d_is_within (F_is_integer := Fnc.mono G_is_integer (by decide))) k_is_within
  obtain ⟨fd_is_string_of, U_is_string_of⟩ := fun_of (x := "is_string_of") (q := "is_string_of") (st := t_is_string_of) (at_ := ("is_string_of", none)) c 2 rfl (He.keep_ok (c.fact 5 rfl))
  have b_is_string_of := U_is_string_of.binds (ps := ["thing", "signs"]) fun _ _ _ _ _ _ us hl => match us, hl with | [_, _], _ => rfl
  have G_is_string_of : Fnc ⟨P, w, K⟩ mg base 1 "is_string_of" sIsStringOf := Fnc.of U_is_string_of (He.glo_ok X Gn (c.fact 4 rfl)) b_is_string_of sc_is_string_of (fun ds st' QA h => by repeat (first | (obtain ⟨e, _⟩ := h; subst e; rfl) | (obtain ⟨_, h⟩ := h))) (d_is_string_of (B := B)) k_is_string_of
  obtain ⟨fd_is_word, U_is_word⟩ := fun_of (x := "is_word") (q := "is_word") (st := t_is_word) (at_ := ("is_word", none)) c 3 rfl (He.keep_ok (c.fact 7 rfl))
  have b_is_word := U_is_word.binds (ps := ["thing"]) fun _ _ _ _ _ _ us hl => match us, hl with | [_], _ => rfl
  have G_is_word : Fnc ⟨P, w, K⟩ mg base 2 "is_word" sIsWord := Fnc.of U_is_word (He.glo_ok X Gn (c.fact 6 rfl)) b_is_word sc_is_word (fun ds st' QA h => by repeat (first | (obtain ⟨e, _⟩ := h; subst e; rfl) | (obtain ⟨_, h⟩ := h))) (d_is_word (B := B) (hSMALL := G_SMALL) (F_is_string_of := Fnc.mono G_is_string_of (by decide))) k_is_word
  obtain ⟨fd_are_nexts, U_are_nexts⟩ := fun_of (x := "are_nexts") (q := "are_nexts") (st := t_are_nexts) (at_ := ("are_nexts", none)) c 4 rfl (He.keep_ok (c.fact 9 rfl))
  have b_are_nexts := U_are_nexts.binds (ps := ["thing", "letters", "many"]) fun _ _ _ _ _ _ us hl => match us, hl with | [_, _, _], _ => rfl
  have G_are_nexts : Fnc ⟨P, w, K⟩ mg base 3 "are_nexts" sAreNexts := Fnc.of U_are_nexts (He.glo_ok X Gn (c.fact 8 rfl)) b_are_nexts sc_are_nexts (fun ds st' QA h => by repeat (first | (obtain ⟨e, _⟩ := h; subst e; rfl) | (obtain ⟨_, h⟩ := h))) (d_are_nexts (B := B) (F_is_within := Fnc.mono G_is_within (by decide))) k_are_nexts
  obtain ⟨fd_is_say, U_is_say⟩ := fun_of (x := "is_say") (q := "is_say") (st := t_is_say) (at_ := ("is_say", none)) c 5 rfl (He.keep_ok (c.fact 11 rfl))
  have b_is_say := U_is_say.binds (ps := ["thing", "many"]) fun _ _ _ _ _ _ us hl => match us, hl with | [_, _], _ => rfl
  have G_is_say : Fnc ⟨P, w, K⟩ mg base 3 "is_say" sIsSay := Fnc.of U_is_say (He.glo_ok X Gn (c.fact 10 rfl)) b_is_say sc_is_say (fun ds st' QA h => by repeat (first | (obtain ⟨e, _⟩ := h; subst e; rfl) | (obtain ⟨_, h⟩ := h))) (d_is_say (B := B) (F_is_within := Fnc.mono G_is_within (by decide)) (F_is_word := Fnc.mono G_is_word (by decide))) k_is_say
  obtain ⟨fd_is_item, U_is_item⟩ := fun_of (x := "is_item") (q := "is_item") (st := t_is_item) (at_ := ("is_item", none)) c 6 rfl (He.keep_ok (c.fact 13 rfl))
  have b_is_item := U_is_item.binds (ps := ["thing", "rows", "letters", "many"]) fun _ _ _ _ _ _ us hl => match us, hl with | [_, _, _, _], _ => rfl
  have G_is_item : Fnc ⟨P, w, K⟩ mg base 4 "is_item" sIsItem := Fnc.of U_is_item (He.glo_ok X Gn (c.fact 12 rfl)) b_is_item sc_is_item (fun ds st' QA h => by repeat (first | (obtain ⟨e, _⟩ := h; subst e; rfl) | (obtain ⟨_, h⟩ := h))) (d_is_item (B := B) (F_are_nexts := Fnc.mono G_are_nexts (by decide)) (F_is_within := Fnc.mono G_is_within (by decide)) (F_is_say := Fnc.mono G_is_say (by decide))) k_is_item
  obtain ⟨fd_with_row, U_with_row⟩ := fun_of (x := "with_row") (q := "with_row") (st := t_with_row) (at_ := ("with_row", none)) c 7 rfl (He.keep_ok (c.fact 15 rfl))
  have b_with_row := U_with_row.binds (ps := ["ended", "row"]) fun _ _ _ _ _ _ us hl => match us, hl with | [_, _], _ => rfl
  have G_with_row : Fnc ⟨P, w, K⟩ mg base 1 "with_row" sWithRow := Fnc.of U_with_row (He.glo_ok X Gn (c.fact 14 rfl)) b_with_row sc_with_row (fun ds st' QA h => by repeat (first | (obtain ⟨e, _⟩ := h; subst e; rfl) | (obtain ⟨_, h⟩ := h))) (d_with_row (B := B)) k_with_row
  obtain ⟨fd_steps_of, U_steps_of⟩ := fun_of (x := "steps_of") (q := "steps_of") (st := t_steps_of) (at_ := ("steps_of", none)) c 8 rfl (He.keep_ok (c.fact 17 rfl))
  have b_steps_of := U_steps_of.binds (ps := ["letters", "table", "phase"]) fun _ _ _ _ _ _ us hl => match us, hl with | [_, _, _], _ => rfl
  have G_steps_of : Fnc ⟨P, w, K⟩ mg base 2 "steps_of" sStepsOf := Fnc.of U_steps_of (He.glo_ok X Gn (c.fact 16 rfl)) b_steps_of sc_steps_of (fun ds st' QA h => by repeat (first | (obtain ⟨e, _⟩ := h; subst e; rfl) | (obtain ⟨_, h⟩ := h))) (d_steps_of (B := B) (hLETTERS := G_LETTERS) (hEND := G_END) (F_with_row := Fnc.mono G_with_row (by decide))) k_steps_of
  obtain ⟨fd_all_steps, U_all_steps⟩ := fun_of (x := "all_steps") (q := "all_steps") (st := t_all_steps) (at_ := ("all_steps", none)) c 9 rfl (He.keep_ok (c.fact 19 rfl))
  have b_all_steps := U_all_steps.binds (ps := ["letters", "table"]) fun _ _ _ _ _ _ us hl => match us, hl with | [_, _], _ => rfl
  have G_all_steps : Fnc ⟨P, w, K⟩ mg base 3 "all_steps" sAllSteps := Fnc.of U_all_steps (He.glo_ok X Gn (c.fact 18 rfl)) b_all_steps sc_all_steps (fun ds st' QA h => by repeat (first | (obtain ⟨e, _⟩ := h; subst e; rfl) | (obtain ⟨_, h⟩ := h))) (d_all_steps (B := B) (hFIRST_PHASE := G_FIRST_PHASE) (F_steps_of := Fnc.mono G_steps_of (by decide))) k_all_steps
  obtain ⟨fd_idle_ring, U_idle_ring⟩ := fun_of (x := "idle_ring") (q := "idle_ring") (st := t_idle_ring) (at_ := ("idle_ring", none)) c 10 rfl (He.keep_ok (c.fact 21 rfl))
  have b_idle_ring := U_idle_ring.binds (ps := ["kept"]) fun _ _ _ _ _ _ us hl => match us, hl with | [_], _ => rfl
  have G_idle_ring : Fnc ⟨P, w, K⟩ mg base 1 "idle_ring" sIdleRing := Fnc.of U_idle_ring (He.glo_ok X Gn (c.fact 20 rfl)) b_idle_ring sc_idle_ring (fun ds st' QA h => by repeat (first | (obtain ⟨e, _⟩ := h; subst e; rfl) | (obtain ⟨_, h⟩ := h))) (d_idle_ring (B := B)) k_idle_ring
  obtain ⟨fd_KP, U_KP⟩ := fun_of (x := "keep") (q := "Plan.keep") (st := t_Plan_keep) (at_ := ("Plan", some "keep")) c 46 rfl (He.meth_ok (c.fact 91 rfl)).kp
  have b_KP := U_KP.binds (ps := ["self", "rows", "letters", "table"]) fun _ _ _ _ _ _ us hl => match us, hl with | [_, _, _, _], _ => rfl
  have K_P : FnOk P w K mg base CX0 4 _ fd_KP ["self", "rows", "letters", "table"] (liftP ⟨P, w, K⟩ (sKeep [cPl K, cRw K])) := fn_ab U_KP sc_Plan_keep (fun ds st' QA h => by repeat (first | (obtain ⟨e, _⟩ := h; subst e; rfl) | (obtain ⟨_, h⟩ := h))) (d_Plan_keep (F_all_steps := Fnc.mono G_all_steps (by decide)) (F_idle_ring := Fnc.mono G_idle_ring (by decide)) (hF := hF)) k_keep
  obtain ⟨fd_KR, U_KR⟩ := fun_of (x := "keep") (q := "Plan.keep") (st := t_Plan_keep) (at_ := ("RawPlan", some "keep")) c 48 rfl (He.meth_ok (c.fact 93 rfl)).kp
  have b_KR := U_KR.binds (ps := ["self", "rows", "letters", "table"]) fun _ _ _ _ _ _ us hl => match us, hl with | [_, _, _, _], _ => rfl
  have K_R : FnOk P w K mg base CX0 4 _ fd_KR ["self", "rows", "letters", "table"] (liftP ⟨P, w, K⟩ (sKeep [cPl K, cRw K])) := fn_ab U_KR sc_Plan_keep (fun ds st' QA h => by repeat (first | (obtain ⟨e, _⟩ := h; subst e; rfl) | (obtain ⟨_, h⟩ := h))) (d_Plan_keep (F_all_steps := Fnc.mono G_all_steps (by decide)) (F_idle_ring := Fnc.mono G_idle_ring (by decide)) (hF := hF)) k_keep
  obtain ⟨fd_IP, U_IP⟩ := fun_of (x := "__init__") (q := "Plan.__init__") (st := t_Plan_init) (at_ := ("Plan", some "__init__")) c 45 rfl (He.meth_ok (c.fact 90 rfl)).kp
  have b_IP := U_IP.binds (ps := ["self", "rows", "letters", "table"]) fun _ _ _ _ _ _ us hl => match us, hl with | [_, _, _, _], _ => rfl
  have I_P : FnOk P w K mg base CX0 5 _ fd_IP ["self", "rows", "letters", "table"] (liftP ⟨P, w, K⟩ (sInit [cPl K, cRw K] true)) := fn_ab U_IP sc_Plan_init (fun ds st' QA h => by repeat (first | (obtain ⟨e, _⟩ := h; subst e; rfl) | (obtain ⟨_, h⟩ := h))) (d_Plan_init (B := B) (hMOST_ROWS := G_MOST_ROWS) (hLETTERS := G_LETTERS) (hMOST_STANDINGS := G_MOST_STANDINGS) (F_is_within := Fnc.mono G_is_within (by decide)) (F_is_item := Fnc.mono G_is_item (by decide)) (c_Plan := He.cls_ok (c.fact 95 rfl)) (m_keep := He.meth_ok (c.fact 91 rfl)) (F_keep := K_P.mono (by decide)) (b_keep := b_KP)) k_Plan_init
  obtain ⟨fd_IR, U_IR⟩ := fun_of (x := "__init__") (q := "RawPlan.__init__") (st := t_RawPlan_init) (at_ := ("RawPlan", some "__init__")) c 47 rfl (He.meth_ok (c.fact 92 rfl)).kp
  have b_IR := U_IR.binds (ps := ["self", "rows", "letters", "table"]) fun _ _ _ _ _ _ us hl => match us, hl with | [_, _, _, _], _ => rfl
  have I_R : FnOk P w K mg base CX0 5 _ fd_IR ["self", "rows", "letters", "table"] (liftP ⟨P, w, K⟩ (sInit [cPl K, cRw K] false)) := fn_ab U_IR sc_RawPlan_init (fun ds st' QA h => by repeat (first | (obtain ⟨e, _⟩ := h; subst e; rfl) | (obtain ⟨_, h⟩ := h))) (d_RawPlan_init (c_RawPlan := He.cls_ok (c.fact 102 rfl)) (m_keep := He.meth_ok (c.fact 93 rfl)) (F_keep := K_R.mono (by decide)) (b_keep := b_KR)) k_RawPlan_init
  obtain ⟨fd_is_dealing, U_is_dealing⟩ := fun_of (x := "is_dealing") (q := "is_dealing") (st := t_is_dealing) (at_ := ("is_dealing", none)) c 11 rfl (He.keep_ok (c.fact 23 rfl))
  have b_is_dealing := U_is_dealing.binds (ps := ["rows", "thing"]) fun _ _ _ _ _ _ us hl => match us, hl with | [_, _], _ => rfl
  have G_is_dealing : Fnc ⟨P, w, K⟩ mg base 3 "is_dealing" sIsDealing := Fnc.of U_is_dealing (He.glo_ok X Gn (c.fact 22 rfl)) b_is_dealing sc_is_dealing (fun ds st' QA h => by repeat (first | (obtain ⟨e, _⟩ := h; subst e; rfl) | (obtain ⟨_, h⟩ := h))) (d_is_dealing (B := B) (F_is_within := Fnc.mono G_is_within (by decide))) k_is_dealing
  obtain ⟨fd_lines_of, U_lines_of⟩ := fun_of (x := "lines_of") (q := "lines_of") (st := t_lines_of) (at_ := ("lines_of", none)) c 12 rfl (He.keep_ok (c.fact 25 rfl))
  have b_lines_of := U_lines_of.binds (ps := ["plan"]) fun _ _ _ _ _ _ us hl => match us, hl with | [_], _ => rfl
  have G_lines_of : Fnc ⟨P, w, K⟩ mg base 1 "lines_of" (sLinesOf [cPl K, cRw K]) := Fnc.of U_lines_of (He.glo_ok X Gn (c.fact 24 rfl)) b_lines_of sc_lines_of (fun ds st' QA h => by repeat (first | (obtain ⟨e, _⟩ := h; subst e; rfl) | (obtain ⟨_, h⟩ := h))) (d_lines_of (hF := hF)) k_lines_of
  obtain ⟨fd_turned, U_turned⟩ := fun_of (x := "turned") (q := "turned") (st := t_turned) (at_ := ("turned", none)) c 13 rfl (He.keep_ok (c.fact 27 rfl))
  have b_turned := U_turned.binds (ps := ["lines"]) fun _ _ _ _ _ _ us hl => match us, hl with | [_], _ => rfl
  have G_turned : Fnc ⟨P, w, K⟩ mg base 1 "turned" sTurned := Fnc.of U_turned (He.glo_ok X Gn (c.fact 26 rfl)) b_turned sc_turned (fun ds st' QA h => by repeat (first | (obtain ⟨e, _⟩ := h; subst e; rfl) | (obtain ⟨_, h⟩ := h))) (d_turned ) k_turned
  obtain ⟨fd_finished, U_finished⟩ := fun_of (x := "finished") (q := "finished") (st := t_finished) (at_ := ("finished", none)) c 14 rfl (He.keep_ok (c.fact 29 rfl))
  have b_finished := U_finished.binds (ps := ["lines"]) fun _ _ _ _ _ _ us hl => match us, hl with | [_], _ => rfl
  have G_finished : Fnc ⟨P, w, K⟩ mg base 1 "finished" sFinished := Fnc.of U_finished (He.glo_ok X Gn (c.fact 28 rfl)) b_finished sc_finished (fun ds st' QA h => by repeat (first | (obtain ⟨e, _⟩ := h; subst e; rfl) | (obtain ⟨_, h⟩ := h))) (d_finished (B := B)) k_finished
  obtain ⟨fd_lots_of, U_lots_of⟩ := fun_of (x := "lots_of") (q := "lots_of") (st := t_lots_of) (at_ := ("lots_of", none)) c 15 rfl (He.keep_ok (c.fact 31 rfl))
  have b_lots_of := U_lots_of.binds (ps := ["lines"]) fun _ _ _ _ _ _ us hl => match us, hl with | [_], _ => rfl
  have G_lots_of : Fnc ⟨P, w, K⟩ mg base 2 "lots_of" sLotsOf := Fnc.of U_lots_of (He.glo_ok X Gn (c.fact 30 rfl)) b_lots_of sc_lots_of (fun ds st' QA h => by repeat (first | (obtain ⟨e, _⟩ := h; subst e; rfl) | (obtain ⟨_, h⟩ := h))) (d_lots_of (B := B) (F_turned := Fnc.mono G_turned (by decide)) (F_finished := Fnc.mono G_finished (by decide))) k_lots_of
  obtain ⟨fd_rows_in, U_rows_in⟩ := fun_of (x := "rows_in") (q := "rows_in") (st := t_rows_in) (at_ := ("rows_in", none)) c 16 rfl (He.keep_ok (c.fact 33 rfl))
  have b_rows_in := U_rows_in.binds (ps := ["plan", "lot"]) fun _ _ _ _ _ _ us hl => match us, hl with | [_, _], _ => rfl
  have G_rows_in : Fnc ⟨P, w, K⟩ mg base 1 "rows_in" (sRowsIn [cPl K, cRw K]) := Fnc.of U_rows_in (He.glo_ok X Gn (c.fact 32 rfl)) b_rows_in sc_rows_in (fun ds st' QA h => by repeat (first | (obtain ⟨e, _⟩ := h; subst e; rfl) | (obtain ⟨_, h⟩ := h))) (d_rows_in (B := B) (hEND := G_END) (hF := hF)) k_rows_in
  obtain ⟨fd_kept_pieces, U_kept_pieces⟩ := fun_of (x := "kept_pieces") (q := "kept_pieces") (st := t_kept_pieces) (at_ := ("kept_pieces", none)) c 17 rfl (He.keep_ok (c.fact 35 rfl))
  have b_kept_pieces := U_kept_pieces.binds (ps := ["plan"]) fun _ _ _ _ _ _ us hl => match us, hl with | [_], _ => rfl
  have G_kept_pieces : Fnc ⟨P, w, K⟩ mg base 3 "kept_pieces" (sKeptPieces [cPl K, cRw K]) := Fnc.of U_kept_pieces (He.glo_ok X Gn (c.fact 34 rfl)) b_kept_pieces sc_kept_pieces (fun ds st' QA h => by repeat (first | (obtain ⟨e, _⟩ := h; subst e; rfl) | (obtain ⟨_, h⟩ := h))) (d_kept_pieces (B := B) (F_lines_of := Fnc.mono G_lines_of (by decide)) (F_lots_of := Fnc.mono G_lots_of (by decide)) (F_rows_in := Fnc.mono G_rows_in (by decide))) k_kept_pieces
  obtain ⟨fd_pairs_among, U_pairs_among⟩ := fun_of (x := "pairs_among") (q := "pairs_among") (st := t_pairs_among) (at_ := ("pairs_among", none)) c 18 rfl (He.keep_ok (c.fact 37 rfl))
  have b_pairs_among := U_pairs_among.binds (ps := ["rows"]) fun _ _ _ _ _ _ us hl => match us, hl with | [_], _ => rfl
  have G_pairs_among : Fnc ⟨P, w, K⟩ mg base 1 "pairs_among" sPairsAmong := Fnc.of U_pairs_among (He.glo_ok X Gn (c.fact 36 rfl)) b_pairs_among sc_pairs_among (fun ds st' QA h => by repeat (first | (obtain ⟨e, _⟩ := h; subst e; rfl) | (obtain ⟨_, h⟩ := h))) (d_pairs_among (B := B)) k_pairs_among
  obtain ⟨fd_web, U_web⟩ := fun_of (x := "web") (q := "web") (st := t_web) (at_ := ("web", none)) c 19 rfl (He.keep_ok (c.fact 39 rfl))
  have b_web := U_web.binds (ps := ["plan"]) fun _ _ _ _ _ _ us hl => match us, hl with | [_], _ => rfl
  have G_web : Fnc ⟨P, w, K⟩ mg base 4 "web" (sWeb [cPl K, cRw K]) := Fnc.of U_web (He.glo_ok X Gn (c.fact 38 rfl)) b_web sc_web (fun ds st' QA h => by repeat (first | (obtain ⟨e, _⟩ := h; subst e; rfl) | (obtain ⟨_, h⟩ := h))) (d_web (B := B) (F_kept_pieces := Fnc.mono G_kept_pieces (by decide)) (F_pairs_among := Fnc.mono G_pairs_among (by decide))) k_web
  obtain ⟨fd_is_free, U_is_free⟩ := fun_of (x := "is_free") (q := "is_free") (st := t_is_free) (at_ := ("is_free", none)) c 20 rfl (He.keep_ok (c.fact 41 rfl))
  have b_is_free := U_is_free.binds (ps := ["plan", "thing"]) fun _ _ _ _ _ _ us hl => match us, hl with | [_, _], _ => rfl
  have G_is_free : Fnc ⟨P, w, K⟩ mg base 5 "is_free" (sIsFree [cPl K, cRw K]) := Fnc.of U_is_free (He.glo_ok X Gn (c.fact 40 rfl)) b_is_free sc_is_free (fun ds st' QA h => by repeat (first | (obtain ⟨e, _⟩ := h; subst e; rfl) | (obtain ⟨_, h⟩ := h))) (d_is_free (B := B) (F_web := Fnc.mono G_web (by decide)) (F_is_dealing := Fnc.mono G_is_dealing (by decide)) (hF := hF)) k_is_free
  obtain ⟨fd_dealt_on, U_dealt_on⟩ := fun_of (x := "dealt_on") (q := "dealt_on") (st := t_dealt_on) (at_ := ("dealt_on", none)) c 21 rfl (He.keep_ok (c.fact 43 rfl))
  have b_dealt_on := U_dealt_on.binds (ps := ["many", "pairs", "told", "most"]) fun _ _ _ _ _ _ us hl => match us, hl with | [_, _, _, _], _ => rfl
  have D_all := dealt_ok (P := P) (w := w) (base := base) B U_dealt_on (He.glo_ok X Gn (c.fact 42 rfl)) b_dealt_on
  have G_dealt_on : Fnc ⟨P, w, K⟩ mg base 10 "dealt_on" sDealtAny := ⟨_, _, _, any_ok fun j hj => (D_all j).mono (by omega), He.glo_ok X Gn (c.fact 42 rfl), U_dealt_on.kp, b_dealt_on⟩
  obtain ⟨fd_hues, U_hues⟩ := fun_of (x := "hues") (q := "hues") (st := t_hues) (at_ := ("hues", none)) c 22 rfl (He.keep_ok (c.fact 45 rfl))
  have b_hues := U_hues.binds (ps := ["many", "pairs"]) fun _ _ _ _ _ _ us hl => match us, hl with | [_, _], _ => rfl
  have G_hues : Fnc ⟨P, w, K⟩ mg base 11 "hues" sHues := Fnc.of U_hues (He.glo_ok X Gn (c.fact 44 rfl)) b_hues sc_hues (fun ds st' QA h => by repeat (first | (obtain ⟨e, _⟩ := h; subst e; rfl) | (obtain ⟨_, h⟩ := h))) (d_hues (B := B) (F_dealt_on := Fnc.mono G_dealt_on (by decide))) k_hues
  obtain ⟨fd_fewest_hands, U_fewest_hands⟩ := fun_of (x := "fewest_hands") (q := "fewest_hands") (st := t_fewest_hands) (at_ := ("fewest_hands", none)) c 23 rfl (He.keep_ok (c.fact 47 rfl))
  have b_fewest_hands := U_fewest_hands.binds (ps := ["plan"]) fun _ _ _ _ _ _ us hl => match us, hl with | [_], _ => rfl
  have G_fewest_hands : Fnc ⟨P, w, K⟩ mg base 12 "fewest_hands" (sFewest [cPl K, cRw K] 0) := Fnc.of U_fewest_hands (He.glo_ok X Gn (c.fact 46 rfl)) b_fewest_hands sc_fewest_hands (fun ds st' QA h => by repeat (first | (obtain ⟨e, _⟩ := h; subst e; rfl) | (obtain ⟨_, h⟩ := h))) (d_fewest_hands (F_hues := Fnc.mono G_hues (by decide)) (F_web := Fnc.mono G_web (by decide)) (hF := hF)) k_fewest
  obtain ⟨fd_least_dealing, U_least_dealing⟩ := fun_of (x := "least_dealing") (q := "least_dealing") (st := t_least_dealing) (at_ := ("least_dealing", none)) c 24 rfl (He.keep_ok (c.fact 49 rfl))
  have b_least_dealing := U_least_dealing.binds (ps := ["plan"]) fun _ _ _ _ _ _ us hl => match us, hl with | [_], _ => rfl
  have G_least_dealing : Fnc ⟨P, w, K⟩ mg base 12 "least_dealing" (sFewest [cPl K, cRw K] 1) := Fnc.of U_least_dealing (He.glo_ok X Gn (c.fact 48 rfl)) b_least_dealing sc_least_dealing (fun ds st' QA h => by repeat (first | (obtain ⟨e, _⟩ := h; subst e; rfl) | (obtain ⟨_, h⟩ := h))) (d_least_dealing (F_hues := Fnc.mono G_hues (by decide)) (F_web := Fnc.mono G_web (by decide)) (hF := hF)) k_least
  obtain ⟨fd_moved, U_moved⟩ := fun_of (x := "moved") (q := "moved") (st := t_moved) (at_ := ("moved", none)) c 25 rfl (He.keep_ok (c.fact 51 rfl))
  have b_moved := U_moved.binds (ps := ["item", "many", "rows"]) fun _ _ _ _ _ _ us hl => match us, hl with | [_, _, _], _ => rfl
  have G_moved : Fnc ⟨P, w, K⟩ mg base 1 "moved" sMoved := Fnc.of U_moved (He.glo_ok X Gn (c.fact 50 rfl)) b_moved sc_moved (fun ds st' QA h => by repeat (first | (obtain ⟨e, _⟩ := h; subst e; rfl) | (obtain ⟨_, h⟩ := h))) (d_moved (B := B)) k_moved
  obtain ⟨fd_joined, U_joined⟩ := fun_of (x := "joined") (q := "joined") (st := t_joined) (at_ := ("joined", none)) c 26 rfl (He.keep_ok (c.fact 53 rfl))
  have b_joined := U_joined.binds (ps := ["one", "other", "rows", "numbers"]) fun _ _ _ _ _ _ us hl => match us, hl with | [_, _, _, _], _ => rfl
  have G_joined : Fnc ⟨P, w, K⟩ mg base 7 "joined" (sJoined [cPl K, cRw K]) := Fnc.of U_joined (He.glo_ok X Gn (c.fact 52 rfl)) b_joined sc_joined (fun ds st' QA h => by repeat (first | (obtain ⟨e, _⟩ := h; subst e; rfl) | (obtain ⟨_, h⟩ := h))) (d_joined (B := B) (F_moved := Fnc.mono G_moved (by decide)) (hF := hF) (M_RawPlan := He.mkr_ok (c.fact 103 rfl)) (F_RawPlan := I_R.mono (by decide)) (g_RawPlan := He.glo_ok X Gn (c.fact 101 rfl)) (b_RawPlan := b_IR)) k_joined
  obtain ⟨fd_beside, U_beside⟩ := fun_of (x := "beside") (q := "beside") (st := t_beside) (at_ := ("beside", none)) c 27 rfl (He.keep_ok (c.fact 55 rfl))
  have b_beside := U_beside.binds (ps := ["one", "other"]) fun _ _ _ _ _ _ us hl => match us, hl with | [_, _], _ => rfl
  have G_beside : Fnc ⟨P, w, K⟩ mg base 8 "beside" (sBeside [cPl K, cRw K]) := Fnc.of U_beside (He.glo_ok X Gn (c.fact 54 rfl)) b_beside sc_beside (fun ds st' QA h => by repeat (first | (obtain ⟨e, _⟩ := h; subst e; rfl) | (obtain ⟨_, h⟩ := h))) (d_beside (B := B) (F_joined := Fnc.mono G_joined (by decide)) (hF := hF)) k_beside
  obtain ⟨fd_law_pot, U_law_pot⟩ := fun_of (x := "_law_pot") (q := "_law_pot") (st := t_law_pot) (at_ := ("_law_pot", none)) c 28 rfl (He.keep_ok (c.fact 57 rfl))
  have b_law_pot := U_law_pot.binds (ps := ["_law_script"]) fun _ _ _ _ _ _ us hl => match us, hl with | [_], _ => rfl
  have G_law_pot : Fnc ⟨P, w, K⟩ mg base 1 "_law_pot" sPot := Fnc.of U_law_pot (He.glo_ok X Gn (c.fact 56 rfl)) b_law_pot sc_law_pot (fun ds st' QA h => by repeat (first | (obtain ⟨e, _⟩ := h; subst e; rfl) | (obtain ⟨_, h⟩ := h))) (d_law_pot (B := B)) k_law_pot
  obtain ⟨fd_law_draw, U_law_draw⟩ := fun_of (x := "_law_draw") (q := "_law_draw") (st := t_law_draw) (at_ := ("_law_draw", none)) c 29 rfl (He.keep_ok (c.fact 59 rfl))
  have b_law_draw := U_law_draw.binds (ps := ["_law_pot_here", "_law_many"]) fun _ _ _ _ _ _ us hl => match us, hl with | [_, _], _ => rfl
  have G_law_draw : Fnc ⟨P, w, K⟩ mg base 1 "_law_draw" sDraw := Fnc.of U_law_draw (He.glo_ok X Gn (c.fact 58 rfl)) b_law_draw sc_law_draw (fun ds st' QA h => by repeat (first | (obtain ⟨e, _⟩ := h; subst e; rfl) | (obtain ⟨_, h⟩ := h))) (d_law_draw (B := B)) k_law_draw
  obtain ⟨fd_law_mixed, U_law_mixed⟩ := fun_of (x := "_law_mixed") (q := "_law_mixed") (st := t_law_mixed) (at_ := ("_law_mixed", none)) c 30 rfl (He.keep_ok (c.fact 61 rfl))
  have b_law_mixed := U_law_mixed.binds (ps := ["_law_pot_here", "_law_items"]) fun _ _ _ _ _ _ us hl => match us, hl with | [_, _], _ => rfl
  have G_law_mixed : Fnc ⟨P, w, K⟩ mg base 2 "_law_mixed" sMixed := Fnc.of U_law_mixed (He.glo_ok X Gn (c.fact 60 rfl)) b_law_mixed sc_law_mixed (fun ds st' QA h => by repeat (first | (obtain ⟨e, _⟩ := h; subst e; rfl) | (obtain ⟨_, h⟩ := h))) (d_law_mixed (B := B) (F_law_draw := Fnc.mono G_law_draw (by decide))) k_law_mixed
  obtain ⟨fd_law_drawn_table, U_law_drawn_table⟩ := fun_of (x := "_law_drawn_table") (q := "_law_drawn_table") (st := t_law_drawn_table) (at_ := ("_law_drawn_table", none)) c 31 rfl (He.keep_ok (c.fact 63 rfl))
  have b_law_drawn_table := U_law_drawn_table.binds (ps := ["_law_pot_here", "_law_rows", "_law_letters", "_law_size", "_law_upward"]) fun _ _ _ _ _ _ us hl => match us, hl with | [_, _, _, _, _], _ => rfl
  have G_law_drawn_table : Fnc ⟨P, w, K⟩ mg base 2 "_law_drawn_table" sDrawnTable := Fnc.of U_law_drawn_table (He.glo_ok X Gn (c.fact 62 rfl)) b_law_drawn_table sc_law_drawn_table (fun ds st' QA h => by repeat (first | (obtain ⟨e, _⟩ := h; subst e; rfl) | (obtain ⟨_, h⟩ := h))) (d_law_drawn_table (B := B) (F_law_draw := Fnc.mono G_law_draw (by decide))) k_law_drawn_table
  obtain ⟨fd_law_steps, U_law_steps⟩ := fun_of (x := "_law_steps") (q := "_law_steps") (st := t_law_steps) (at_ := ("_law_steps", none)) c 32 rfl (He.keep_ok (c.fact 65 rfl))
  have b_law_steps := U_law_steps.binds (ps := ["_law_letters", "_law_table", "_law_phase"]) fun _ _ _ _ _ _ us hl => match us, hl with | [_, _, _], _ => rfl
  have G_law_steps : Fnc ⟨P, w, K⟩ mg base 1 "_law_steps" sLawSteps := Fnc.of U_law_steps (He.glo_ok X Gn (c.fact 64 rfl)) b_law_steps sc_law_steps (fun ds st' QA h => by repeat (first | (obtain ⟨e, _⟩ := h; subst e; rfl) | (obtain ⟨_, h⟩ := h))) (d_law_steps (B := B)) k_law_steps
  obtain ⟨fd_law_phases, U_law_phases⟩ := fun_of (x := "_law_phases") (q := "_law_phases") (st := t_law_phases) (at_ := ("_law_phases", none)) c 33 rfl (He.keep_ok (c.fact 67 rfl))
  have b_law_phases := U_law_phases.binds (ps := ["_law_letters", "_law_table"]) fun _ _ _ _ _ _ us hl => match us, hl with | [_, _], _ => rfl
  have G_law_phases : Fnc ⟨P, w, K⟩ mg base 2 "_law_phases" sLawPhases := Fnc.of U_law_phases (He.glo_ok X Gn (c.fact 66 rfl)) b_law_phases sc_law_phases (fun ds st' QA h => by repeat (first | (obtain ⟨e, _⟩ := h; subst e; rfl) | (obtain ⟨_, h⟩ := h))) (d_law_phases (B := B) (F_law_steps := Fnc.mono G_law_steps (by decide))) k_law_phases
  obtain ⟨fd_law_is_idle, U_law_is_idle⟩ := fun_of (x := "_law_is_idle") (q := "_law_is_idle") (st := t_law_is_idle) (at_ := ("_law_is_idle", none)) c 34 rfl (He.keep_ok (c.fact 69 rfl))
  have b_law_is_idle := U_law_is_idle.binds (ps := ["_law_known"]) fun _ _ _ _ _ _ us hl => match us, hl with | [_], _ => rfl
  have G_law_is_idle : Fnc ⟨P, w, K⟩ mg base 1 "_law_is_idle" sLawIdle := Fnc.of U_law_is_idle (He.glo_ok X Gn (c.fact 68 rfl)) b_law_is_idle sc_law_is_idle (fun ds st' QA h => by repeat (first | (obtain ⟨e, _⟩ := h; subst e; rfl) | (obtain ⟨_, h⟩ := h))) (d_law_is_idle (B := B)) k_law_is_idle
  obtain ⟨fd_law_renamed, U_law_renamed⟩ := fun_of (x := "_law_renamed") (q := "_law_renamed") (st := t_law_renamed) (at_ := ("_law_renamed", none)) c 35 rfl (He.keep_ok (c.fact 71 rfl))
  have b_law_renamed := U_law_renamed.binds (ps := ["_law_pot_here", "_law_table"]) fun _ _ _ _ _ _ us hl => match us, hl with | [_, _], _ => rfl
  have G_law_renamed : Fnc ⟨P, w, K⟩ mg base 3 "_law_renamed" sRenamed := Fnc.of U_law_renamed (He.glo_ok X Gn (c.fact 70 rfl)) b_law_renamed sc_law_renamed (fun ds st' QA h => by repeat (first | (obtain ⟨e, _⟩ := h; subst e; rfl) | (obtain ⟨_, h⟩ := h))) (d_law_renamed (B := B) (F_law_mixed := Fnc.mono G_law_mixed (by decide))) k_law_renamed
  obtain ⟨fd_law_spec, U_law_spec⟩ := fun_of (x := "_law_spec") (q := "_law_spec") (st := t_law_spec) (at_ := ("_law_spec", none)) c 36 rfl (He.keep_ok (c.fact 73 rfl))
  have b_law_spec := U_law_spec.binds (ps := ["_law_pot_here", "_law_most_rows", "_law_most_letters", "_law_most_size"]) fun _ _ _ _ _ _ us hl => match us, hl with | [_, _, _, _], _ => rfl
  have G_law_spec : Fnc ⟨P, w, K⟩ mg base 4 "_law_spec" sSpec := Fnc.of U_law_spec (He.glo_ok X Gn (c.fact 72 rfl)) b_law_spec sc_law_spec (fun ds st' QA h => by repeat (first | (obtain ⟨e, _⟩ := h; subst e; rfl) | (obtain ⟨_, h⟩ := h))) (d_law_spec (B := B) (F_law_draw := Fnc.mono G_law_draw (by decide)) (F_law_renamed := Fnc.mono G_law_renamed (by decide)) (F_law_drawn_table := Fnc.mono G_law_drawn_table (by decide)) (F_law_is_idle := Fnc.mono G_law_is_idle (by decide)) (F_law_phases := Fnc.mono G_law_phases (by decide))) k_law_spec
  obtain ⟨fd_law_made, U_law_made⟩ := fun_of (x := "_law_made") (q := "_law_made") (st := t_law_made) (at_ := ("_law_made", none)) c 37 rfl (He.keep_ok (c.fact 75 rfl))
  have b_law_made := U_law_made.binds (ps := ["_law_spec_here"]) fun _ _ _ _ _ _ us hl => match us, hl with | [_], _ => rfl
  have G_law_made : Fnc ⟨P, w, K⟩ mg base 7 "_law_made" (sMade (cPl K)) := Fnc.of U_law_made (He.glo_ok X Gn (c.fact 74 rfl)) b_law_made sc_law_made (fun ds st' QA h => by repeat (first | (obtain ⟨e, _⟩ := h; subst e; rfl) | (obtain ⟨_, h⟩ := h))) (d_law_made (M_Plan := He.mkr_ok (c.fact 96 rfl)) (F_Plan := I_P.mono (by decide)) (g_Plan := He.glo_ok X Gn (c.fact 94 rfl)) (b_Plan := b_IP)) k_law_made
  obtain ⟨fd_law_reach, U_law_reach⟩ := fun_of (x := "_law_reach") (q := "_law_reach") (st := t_law_reach) (at_ := ("_law_reach", none)) c 38 rfl (He.keep_ok (c.fact 77 rfl))
  have b_law_reach := U_law_reach.binds (ps := ["_law_known"]) fun _ _ _ _ _ _ us hl => match us, hl with | [_], _ => rfl
  have G_law_reach : Fnc ⟨P, w, K⟩ mg base 1 "_law_reach" sLawReach := Fnc.of U_law_reach (He.glo_ok X Gn (c.fact 76 rfl)) b_law_reach sc_law_reach (fun ds st' QA h => by repeat (first | (obtain ⟨e, _⟩ := h; subst e; rfl) | (obtain ⟨_, h⟩ := h))) (d_law_reach (B := B)) k_law_reach
  obtain ⟨fd_law_pieces, U_law_pieces⟩ := fun_of (x := "_law_pieces") (q := "_law_pieces") (st := t_law_pieces) (at_ := ("_law_pieces", none)) c 39 rfl (He.keep_ok (c.fact 79 rfl))
  have b_law_pieces := U_law_pieces.binds (ps := ["_law_spec_here"]) fun _ _ _ _ _ _ us hl => match us, hl with | [_], _ => rfl
  have G_law_pieces : Fnc ⟨P, w, K⟩ mg base 3 "_law_pieces" sLawPieces := Fnc.of U_law_pieces (He.glo_ok X Gn (c.fact 78 rfl)) b_law_pieces sc_law_pieces (fun ds st' QA h => by repeat (first | (obtain ⟨e, _⟩ := h; subst e; rfl) | (obtain ⟨_, h⟩ := h))) (d_law_pieces (B := B) (F_law_phases := Fnc.mono G_law_phases (by decide)) (F_law_reach := Fnc.mono G_law_reach (by decide))) k_law_pieces
  obtain ⟨fd_law_web, U_law_web⟩ := fun_of (x := "_law_web") (q := "_law_web") (st := t_law_web) (at_ := ("_law_web", none)) c 40 rfl (He.keep_ok (c.fact 81 rfl))
  have b_law_web := U_law_web.binds (ps := ["_law_spec_here"]) fun _ _ _ _ _ _ us hl => match us, hl with | [_], _ => rfl
  have G_law_web : Fnc ⟨P, w, K⟩ mg base 4 "_law_web" sLawWeb := Fnc.of U_law_web (He.glo_ok X Gn (c.fact 80 rfl)) b_law_web sc_law_web (fun ds st' QA h => by repeat (first | (obtain ⟨e, _⟩ := h; subst e; rfl) | (obtain ⟨_, h⟩ := h))) (d_law_web (B := B) (F_law_pieces := Fnc.mono G_law_pieces (by decide))) k_law_web
  obtain ⟨fd_law_growths, U_law_growths⟩ := fun_of (x := "_law_growths") (q := "_law_growths") (st := t_law_growths) (at_ := ("_law_growths", none)) c 41 rfl (He.keep_ok (c.fact 83 rfl))
  have b_law_growths := U_law_growths.binds (ps := ["_law_rows"]) fun _ _ _ _ _ _ us hl => match us, hl with | [_], _ => rfl
  have G_law_growths : Fnc ⟨P, w, K⟩ mg base 1 "_law_growths" sGrowths := Fnc.of U_law_growths (He.glo_ok X Gn (c.fact 82 rfl)) b_law_growths sc_law_growths (fun ds st' QA h => by repeat (first | (obtain ⟨e, _⟩ := h; subst e; rfl) | (obtain ⟨_, h⟩ := h))) (d_law_growths (B := B)) k_law_growths
  obtain ⟨fd_law_least, U_law_least⟩ := fun_of (x := "_law_least") (q := "_law_least") (st := t_law_least) (at_ := ("_law_least", none)) c 42 rfl (He.keep_ok (c.fact 85 rfl))
  have b_law_least := U_law_least.binds (ps := ["_law_spec_here"]) fun _ _ _ _ _ _ us hl => match us, hl with | [_], _ => rfl
  have G_law_least : Fnc ⟨P, w, K⟩ mg base 5 "_law_least" sLawLeast := Fnc.of U_law_least (He.glo_ok X Gn (c.fact 84 rfl)) b_law_least sc_law_least (fun ds st' QA h => by repeat (first | (obtain ⟨e, _⟩ := h; subst e; rfl) | (obtain ⟨_, h⟩ := h))) (d_law_least (B := B) (F_law_web := Fnc.mono G_law_web (by decide)) (F_law_growths := Fnc.mono G_law_growths (by decide))) k_law_least
  obtain ⟨fd_law_ring_spec, U_law_ring_spec⟩ := fun_of (x := "_law_ring_spec") (q := "_law_ring_spec") (st := t_law_ring_spec) (at_ := ("_law_ring_spec", none)) c 43 rfl (He.keep_ok (c.fact 87 rfl))
  have b_law_ring_spec := U_law_ring_spec.binds (ps := ["_law_pot_here", "_law_least_here", "_law_most"]) fun _ _ _ _ _ _ us hl => match us, hl with | [_, _, _], _ => rfl
  have G_law_ring_spec : Fnc ⟨P, w, K⟩ mg base 3 "_law_ring_spec" sRing := Fnc.of U_law_ring_spec (He.glo_ok X Gn (c.fact 86 rfl)) b_law_ring_spec sc_law_ring_spec (fun ds st' QA h => by repeat (first | (obtain ⟨e, _⟩ := h; subst e; rfl) | (obtain ⟨_, h⟩ := h))) (d_law_ring_spec (B := B) (F_law_draw := Fnc.mono G_law_draw (by decide)) (F_law_mixed := Fnc.mono G_law_mixed (by decide))) k_law_ring_spec
  obtain ⟨fd_law, U_law⟩ := fun_of (x := "law") (q := "law") (st := t_law) (at_ := ("law", none)) c 44 rfl (He.keep_ok (c.fact 89 rfl))
  have b_law := U_law.binds (ps := ["_law_script"]) fun _ _ _ _ _ _ us hl => match us, hl with | [_], _ => rfl
  have G_law := fn_ab (P := P) (w := w) (base := base) (sp := sLaw) (k := 12) U_law sc_law (fun ds st' QA h => by repeat (first | (obtain ⟨e, _⟩ := h; subst e; rfl) | (obtain ⟨_, h⟩ := h))) (d_law (B := B) (F_law_pot := Fnc.mono G_law_pot (by decide)) (F_law_spec := Fnc.mono G_law_spec (by decide)) (F_law_draw := Fnc.mono G_law_draw (by decide)) (F_law_ring_spec := Fnc.mono G_law_ring_spec (by decide)) (F_law_made := Fnc.mono G_law_made (by decide)) (F_law_least := Fnc.mono G_law_least (by decide)) (F_is_free := Fnc.mono G_is_free (by decide)) (F_least_dealing := Fnc.mono G_least_dealing (by decide)) (F_fewest_hands := Fnc.mono G_fewest_hands (by decide)) (F_beside := Fnc.mono G_beside (by decide))) k_law
  exact ⟨fd_law, U_law, G_law⟩
end
/-! ### the end -/
abbrev HR : PySem.W.OpenRow := PySem.W.OpenLaw.row PySem.Challenge.rw_wholewalks_k51_whole_fewest_hands
theorem head_run (w : World) : HandSHeadRun.RunEq HR (PySem.W.view HR.prog [64]) hkF obS 20000 hnm w := by
  intro os
  kernel_rfl
theorem law_out {P : Program} {w : World} {K : PySem.W.Frag} {H : Hp} {a : Addr} {ns : List Int} (hl : ns.length ≤ 63) (hO : Only H) (hS : SqL K H a (ns.map V.int)) : liftP ⟨P, w, K⟩ sLaw [.ref a] H (fun v _ => v = .bl true) fun _ _ _ => False := by
  have hz : Fz ⟨P, w, K⟩ H a (ns.map V.int) := by
    rcases hS with (h | ⟨o, h⟩) | h
    · rcases hO a with z | ⟨o, xs, z⟩
      · rw [z] at h; cases h
      · rw [z] at h; cases h
    · exact .inl ⟨o, h⟩
    · exact .inr h
  have hr : RpL ⟨P, w, K⟩ [] H (ns.map V.int) (ns.map D.int) := by
    clear hl hS hz
    induction ns with
    | nil => exact .nil
    | cons n ns ih => exact .cons (.int n) ih
  refine ⟨[], [], [.fl (ns.map D.int)], fun d _ => d = .bl true, ⟨rfl, .nil, fun n o e => by simp at e⟩, .cons (.fl hz hr) .nil, ⟨ns, rfl, hl, fun _ => rfl⟩, fun d st' v m' H' _ _ r e => ?_⟩
  subst e
  cases r
  rfl
theorem law_end {w : World} {mg : Str → Option Value} {fa : Addr} {h : Heap} (Y : hkF.says w h) (Gn : h.Ns mainGlobals mg) (hmg : mg ("law" : Str) = some (.ref fa)) :
    ∃ (K : PySem.W.Frag) (fd : FuncData) (sp : Sp), K.In h ∧ (∀ (s : Shared) (u : Value), BindsTo s fd ⟨[u], []⟩ [("_law_script", u)]) ∧
      (∀ (H : Hp) (a : Addr) (ns : List Int), ns.length ≤ 63 → Only H → SqL K H a (ns.map V.int) → sp [.ref a] H (fun v _ => v = .bl true) fun _ _ _ => False) ∧
      ∀ base : Heap, K.In base → base.Ns mainGlobals mg → FnOk HR.prog w K mg base CX0 13 fa fd ["_law_script"] sp := by
  obtain ⟨K, X, c, cf⟩ := Y
  have e := hmg.symm.trans (He.glo_ok X Gn (c.fact 88 rfl))
  cases e
  obtain ⟨fd, U, _⟩ := all_ok (P := HR.prog) (w := w) (base := h) X Gn c cf
  have b := U.binds (ps := ["_law_script"]) fun _ _ _ _ _ _ us hl => match us, hl with | [_], _ => rfl
  refine ⟨K, fd, liftP ⟨HR.prog, w, K⟩ sLaw, X, fun s v => ?_, fun H a ns hl hO hS => law_out hl hO hS, fun base _ _ => ?_⟩
  · obtain ⟨oc, od, kV, doc, pm, an, cdv, ct, osl, rfl, lk, hcd⟩ := U.ex
    exact .of_eq rfl
  · obtain ⟨fd', U', G'⟩ := all_ok (P := HR.prog) (w := w) (base := base) X Gn c cf
    have ef : fd' = fd := by
      obtain ⟨_, _, _, _, _, _, _, _, _, _, l1, _⟩ := U.ex
      obtain ⟨_, _, _, _, _, _, _, _, _, _, l2, _⟩ := U'.ex
      have z := l1.symm.trans l2
      simp only [Option.some.injEq, Obj.mk.injEq, PySem.Data.func.injEq] at z
      exact z.2.2.1.symm
    rw [← ef]
    exact G'
end Ab
open PySem PySem.W PySem.Calls PyProof.Rows
theorem PySem.Challenge.cw_wholewalks_k51_whole_fewest_hands_holds : PySem.Challenge.rw_wholewalks_k51_whole_fewest_hands.Holds := by
  w_on; o_law
  refine HandSHeadRun.head_any (r := OpenLaw.row PySem.Challenge.rw_wholewalks_k51_whole_fewest_hands) (q := view (OpenLaw.row PySem.Challenge.rw_wholewalks_k51_whole_fewest_hands).prog [64]) (H := Ab.hkF) (ob := Ab.obS) (M := 20000) (loose := Ab.hnm) (d := HandSHeadRun.topDef (OpenLaw.row PySem.Challenge.rw_wholewalks_k51_whole_fewest_hands).prog 64) (kwd := []) Ab.obS_eq
    (by kernel_rfl) (fun s => by kernel_rfl) Ab.head_run (by kernel_rfl) (by kernel_rfl) (by kernel_rfl) (by rfl) (by first | assumption | decide +kernel) (by decide +kernel) ⟨rfl, rfl, rfl, rfl, rfl, by decide +kernel⟩ ?hw ?hc
  case hw => w_witness2
  case hc =>
    refine L2.walk_ofE (l := PySem.Challenge.rw_wholewalks_k51_whole_fewest_hands) (n := 63) (k := 13) (x := "_law_script") (CX := L2.CX0) rfl (by decide) (by kernel_rfl) ⟨rfl, by decide, by decide⟩ ?F (fun _ _ _ _ z => z)
    intro w mg fa h Y G hmg0
    have hmg : mg ("law" : PySem.Str) = some (.ref fa) := by
      have e : (HandSHeadRun.topDef (OpenLaw.row PySem.Challenge.rw_wholewalks_k51_whole_fewest_hands).prog 64).name = ("law" : PySem.Str) := by kernel_rfl
      rw [← e]
      exact hmg0
    exact Ab.law_end Y G hmg

