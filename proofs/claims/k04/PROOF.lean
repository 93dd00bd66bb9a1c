import PyProof.Rows.All
import PySem.PyData
import KE.SortData
import PyProof.EqLayable
import PyProof.ReprRoads
import PyProof.P3Statements
import PyProof.Dict
import PySem.Builtin.Tuple.Common
import Wide.All
import OpenK.AllK
import Wide.FinOn
import HandS.ForMost
import HandS.Exc
import HandS.Lambda
import HandS.Walk
import HandS.Flow
import HandS.Deep
import KE.KDictKeyed
import KE.KDictDisplayH
import HandS.Iter
import HandS.Dict
import KE.KEqDict
import HandS.IsInst
import KE.KDictWalk
import HandS.TupAny
import HandS.TupMul
import HandS.Star
import HandS.Style
import HandS.Sort
import KE.KDictSum
import KE.KDictCopyH
import HandS.ExcValue
import HandS.ExcOwn
import PyProof.AutoSeq1
import PyProof.EnumMake
import PyProof.Draws
import KE.GoesMore
import HandS.CallLocal
import HandS.Zip
import HandS.TryMany
import HandS.ExcField
import HandS.Ends
import KE.KExcSuper
import KE.KExcInit
import HandS.Conv
import HandS.WordsExc
import HandS.EndTab
import HandS.Words
import HandS.Wide
import PySem.Challenge.RW_beatpoints_k04_errors_of_spaces
set_option Elab.async false
set_option linter.all false
/-! EvA: a small language, its evaluator: values as trees, lists and dicts in a heap of its own, demonic choice. -/
namespace EV
open PySem

/-- data that never changes -/
inductive A where
  | non | bl (b : Bool) | int (i : Int) | str (s : List Nat)
  | tup (xs : List A)
  | fn (i : Nat)
  deriving Inhabited
/-- values -/
inductive D where
  | a (x : A)
  | ref (n : Nat)
  | tupR (xs : List D)
  | exn0 (c : Nat)
  | exn1 (c : Nat) (v : D)
  | scr
  | opt (xs : List D)
  deriving Inhabited
/-- objects that change -/
inductive Obj where
  | lst (xs : List D)
  | dct (fz : Bool) (kvs : List (A × D))
  | dice
  deriving Inhabited

abbrev Hea := List Obj
abbrev Env := List (Option D)
abbrev D.non : D := .a .non
abbrev D.bl (b : Bool) : D := .a (.bl b)
abbrev D.int (i : Int) : D := .a (.int i)
abbrev D.str (s : List Nat) : D := .a (.str s)

/-- a raised error: its class, what it keeps -/
structure Exn where
  cls : Nat
  val : Option D
  deriving Inhabited

inductive Res (α : Type) where
  | ok (a : α) (h : Hea)
  | exc (x : Exn) (h : Hea)
  | ask (n : Nat) (k : Nat → Res α)
  | bad

def Res.bind {α β : Type} : Res α → (α → Hea → Res β) → Res β
  | .ok a h, f => f a h
  | .exc x h, _ => .exc x h
  | .ask n k, f => .ask n fun i => (k i).bind f
  | .bad, _ => .bad

/-- what holds at every end -/
def Res.all {α : Type} (P : α → Hea → Prop) (X : Exn → Hea → Prop) : Res α → Prop
  | .ok a h => P a h
  | .exc x h => X x h
  | .ask n k => ∀ i, i < n → (k i).all P X
  | .bad => False

theorem Res.all_bind {α β : Type} {P : β → Hea → Prop} {X : Exn → Hea → Prop} {f : α → Hea → Res β} :
    ∀ {r : Res α}, (r.bind f).all P X ↔ r.all (fun a h => (f a h).all P X) X
  | .ok a h => Iff.rfl
  | .exc x h => Iff.rfl
  | .ask n k => forall_congr' fun i => forall_congr' fun _ => Res.all_bind (r := k i)
  | .bad => Iff.rfl
theorem Res.all_mono {α : Type} {P P' : α → Hea → Prop} {X X' : Exn → Hea → Prop} (hP : ∀ a h, P a h → P' a h) (hX : ∀ x h, X x h → X' x h) :
    ∀ {r : Res α}, r.all P X → r.all P' X'
  | .ok a h, q => hP _ _ q
  | .exc x h, q => hX _ _ q
  | .ask n k, q => fun i hi => Res.all_mono hP hX (r := k i) (q i hi)
  | .bad, q => q

/-- the check that a computation's every end is as told -/
def Res.chk {α : Type} (p : α → Hea → Bool) : Res α → Bool
  | .ok a h => p a h
  | .exc _ _ => false
  | .ask n k => (List.range n).all fun i => (k i).chk p
  | .bad => false
theorem Res.chk_all {α : Type} {p : α → Hea → Bool} : ∀ {r : Res α}, r.chk p = true → r.all (fun a h => p a h = true) (fun _ _ => False)
  | .ok a h, q => q
  | .exc x h, q => by simp [Res.chk] at q
  | .ask n k, q => fun i hi => Res.chk_all (r := k i) (by
      have q' : ((List.range n).all fun i => (k i).chk p) = true := q
      rw [List.all_eq_true] at q'
      exact q' i (List.mem_range.mpr hi))
  | .bad, q => by simp [Res.chk] at q

/-! ### the code -/
inductive Bop where
  | add | sub | mul | fdiv | mod | pow | shl | band | bor
inductive Cop where
  | eq | ne | lt | le | gt | ge | inn | nin | isN | isNot
inductive Bi where
  | len | tuple | list | all | any | sum | sorted | abs | int | max2 | min2 | repr | lrange
  | isi (t : Nat)
inductive Me where
  | append | extend | pop | setdefault | get | update | values | index | remove | count
/-- methods of dicts; what of a dict is walked -/
inductive Dm where
  | get | setdefault | update | copy
inductive Dk where
  | keys | vals | items
inductive Tg where
  | nm (i : Nat)
  | tp (is : List Nat)
mutual
inductive IR where
  | cst (d : A)
  | var (i : Nat)
  | tup (es : List IR)
  | lst (es : List IR)
  | dic (kvs : List (IR × IR))
  | dme (m : Dm) (o : IR) (es : List IR)
  | compD (k : Dk) (elt : IR) (tg : Tg) (d : IR) (cond : List IR) (own : List Nat)
  | bin (o : Bop) (a b : IR)
  | neg (a : IR)
  | cmp (o : Cop) (a b : IR)
  | cmp2 (o p : Cop) (a b c : IR)
  | isn (a : IR)
  | isnt (a : IR)
  | and (es : List IR)
  | or (es : List IR)
  | not (a : IR)
  | ife (c a b : IR)
  | sub (a i : IR)
  | slc (a : IR) (lo hi : Option IR)
  | call (f : Nat) (es : List IR)
  | callv (i : Nat) (es : List IR)
  | bi (b : Bi) (es : List IR)
  | me (m : Me) (o : IR) (es : List IR)
  | comp (elt : IR) (tg : Tg) (it : It) (cond : List IR) (own : List Nat)
  | met (g : Nat) (body : IR)
  | xf (i k : Nat)
  | pick (d e : IR)
  | roll (d e : IR)
  | mkdice (d e : IR)
  | un
  | frc (e : IR)
  | lz (e : IR)
  | tupS (es : List (Bool × IR))
  | lstS (es : List (Bool × IR))
  | rev (a : IR)
inductive It where
  | seq (e : IR)
  | rng (e : IR)
  | rng2 (a b : IR)
  | enum (e : IR)
  | zip (a b : IR)
end
mutual
inductive SR where
  | asg (i : Nat) (e : IR)
  | asgT (is : List Nat) (e : IR)
  | par (i j : Nat) (a b : IR)
  | stS (o i e : IR)
  | aug (i : Nat) (o : Bop) (e : IR)
  | ex (e : IR)
  | ret (e : IR)
  | retN
  | ife (c : IR) (a b : List SR)
  | for_ (tg : Tg) (it : It) (body : List SR)
  | forD (k : Dk) (tg : Tg) (d : IR) (body : List SR)
  | whl (c : IR) (body : List SR)
  | rai (c : Nat) (arg : Option IR)
  | tr (e : IR) (hs : List Hd)
  | trr (e : IR) (hs : List Hd)
  | tra (hs : List Hd)
  | pas
  | brk
  | cnt
inductive Hd where
  | mk (c : Nat) (i : Option Nat) (e : IR)
end
inductive Fl where
  | nx (σ : Env)
  | rt (d : D)
  | bk (σ : Env)
  | ct (σ : Env)
  deriving Inhabited


/-! ### data -/
mutual
def A.py : A → PyData
  | .non => .none
  | .bl b => .bool b
  | .int i => .int i
  | .str s => .str ⟨s.toArray⟩
  | .tup xs => .tuple (A.pys xs)
  | .fn _ => .dict []
def A.pys : List A → List PyData
  | [] => []
  | x :: xs => A.py x :: A.pys xs
end
def optAll {α β : Type} (f : α → Option β) : List α → Option (List β)
  | [] => some []
  | x :: xs => match f x with
    | none => none
    | some y => match optAll f xs with
      | none => none
      | some ys => some (y :: ys)
/-- a value as data, its lists read off the heap -/
def pyD (h : Hea) : Nat → D → Option PyData
  | 0, _ => none
  | n + 1, d => match d with
    | .a x => some x.py
    | .ref i => match h[i]? with
      | some (.lst xs) => match optAll (pyD h n) xs with
        | some ys => some (.list ys)
        | none => none
      | _ => none
    | .tupR xs => match optAll (pyD h n) xs with
      | some ys => some (.tuple ys)
      | none => none
    | _ => none
def eqD (h : Hea) (d e : D) : Option Bool := match pyD h 8 d with
  | none => none
  | some x => match pyD h 8 e with
    | none => none
    | some y => if SeqAt.shaped x && SeqAt.shaped y then some (PyData.eqv x y) else none
/-- is it among the items -/
def inD (h : Hea) (d : D) (xs : List D) : Option Bool := match pyD h 8 d with
  | none => none
  | some x => match optAll (pyD h 8) xs with
    | none => none
    | some ys => if SeqAt.shaped x && SeqAt.shaped (.list ys) then some (ys.any fun z => PyData.eqv z x) else none

/-! sameness, for the guard of a loop's list -/
mutual
def A.same : A → A → Bool
  | .non, .non => true
  | .bl a, .bl b => a == b
  | .int i, .int j => decide (i = j)
  | .str s, .str t => decide (s = t)
  | .tup xs, .tup ys => A.sames xs ys
  | .fn i, .fn j => i == j
  | _, _ => false
def A.sames : List A → List A → Bool
  | [], [] => true
  | x :: xs, y :: ys => A.same x y && A.sames xs ys
  | _, _ => false
end
mutual
def D.same : D → D → Bool
  | .a x, .a y => A.same x y
  | .ref i, .ref j => i == j
  | .tupR xs, .tupR ys => D.sames xs ys
  | .exn0 c, .exn0 d => c == d
  | .exn1 c v, .exn1 d w => c == d && D.same v w
  | .scr, .scr => true
  | .opt xs, .opt ys => D.sames xs ys
  | _, _ => false
def D.sames : List D → List D → Bool
  | [], [] => true
  | x :: xs, y :: ys => D.same x y && D.sames xs ys
  | _, _ => false
end
mutual
theorem A.same_eq : ∀ x y : A, A.same x y = true → x = y
  | .non, y, h => by cases y <;> simp [A.same] at h <;> rfl
  | .bl a, y, h => by cases y <;> simp [A.same] at h <;> simp [h]
  | .int a, y, h => by cases y <;> simp [A.same] at h <;> simp [h]
  | .str a, y, h => by cases y <;> simp [A.same] at h <;> simp [h]
  | .tup xs, y, h => by
    cases y <;> simp [A.same] at h
    rw [A.sames_eq _ _ h]
  | .fn a, y, h => by cases y <;> simp [A.same] at h <;> simp [h]
theorem A.sames_eq : ∀ xs ys : List A, A.sames xs ys = true → xs = ys
  | [], ys, h => by cases ys <;> simp [A.sames] at h <;> rfl
  | x :: xs, ys, h => by
    cases ys <;> simp [A.sames] at h
    rw [A.same_eq _ _ h.1, A.sames_eq _ _ h.2]
end
mutual
theorem D.same_eq : ∀ x y : D, D.same x y = true → x = y
  | .a x, y, h => by
    cases y <;> simp [D.same] at h
    rw [A.same_eq _ _ h]
  | .ref m, y, h => by cases y <;> simp [D.same] at h <;> simp [h]
  | .tupR xs, y, h => by
    cases y <;> simp [D.same] at h
    rw [D.sames_eq _ _ h]
  | .exn0 m, y, h => by cases y <;> simp [D.same] at h <;> simp [h]
  | .exn1 m v, y, h => by
    cases y <;> simp [D.same] at h
    rw [h.1, D.same_eq _ _ h.2]
  | .scr, y, h => by cases y <;> simp [D.same] at h <;> rfl
  | .opt xs, y, h => by
    cases y <;> simp [D.same] at h
    rw [D.sames_eq _ _ h]
theorem D.sames_eq : ∀ xs ys : List D, D.sames xs ys = true → xs = ys
  | [], ys, h => by cases ys <;> simp [D.sames] at h <;> rfl
  | x :: xs, ys, h => by
    cases ys <;> simp [D.sames] at h
    rw [D.same_eq _ _ h.1, D.sames_eq _ _ h.2]
end
def KVs.sames : List (A × D) → List (A × D) → Bool
  | [], [] => true
  | x :: xs, y :: ys => A.same x.1 y.1 && D.same x.2 y.2 && KVs.sames xs ys
  | _, _ => false
def Obj.same : Obj → Obj → Bool
  | .lst xs, .lst ys => D.sames xs ys
  | .dct f xs, .dct g ys => f == g && KVs.sames xs ys
  | .dice, .dice => true
  | _, _ => false
theorem KVs.sames_eq : ∀ xs ys : List (A × D), KVs.sames xs ys = true → xs = ys
  | [], ys, h => by cases ys <;> simp [KVs.sames] at h <;> rfl
  | x :: xs, ys, h => by
    cases ys with
    | nil => simp [KVs.sames] at h
    | cons y ys =>
      simp only [KVs.sames, Bool.and_eq_true] at h
      obtain ⟨⟨h1, h2⟩, h3⟩ := h
      rw [KVs.sames_eq _ _ h3, show x = y from Prod.ext (A.same_eq _ _ h1) (D.same_eq _ _ h2)]
theorem Obj.same_eq {a b : Obj} (h : Obj.same a b = true) : a = b := by
  unfold Obj.same at h
  split at h
  · rw [D.sames_eq _ _ h]
  · rw [Bool.and_eq_true, beq_iff_eq] at h
    rw [h.1, KVs.sames_eq _ _ h.2]
  · rfl
  · cases h
abbrev Gd := List (Nat × Obj)
def okG (h : Hea) (g : Gd) : Bool := g.all fun p => match h[p.1]? with
  | some o => Obj.same p.2 o
  | none => false

/-! keys of dicts -/
def bz (b : Bool) : Int := if b then 1 else 0
mutual
def A.keq : A → A → Bool
  | .non, .non => true
  | .bl a, .bl b => decide (bz a = bz b)
  | .bl a, .int j => decide (bz a = j)
  | .int i, .bl b => decide (i = bz b)
  | .int i, .int j => decide (i = j)
  | .str s, .str t => decide (s = t)
  | .tup xs, .tup ys => A.keqs xs ys
  | _, _ => false
def A.keqs : List A → List A → Bool
  | [], [] => true
  | x :: xs, y :: ys => A.keq x y && A.keqs xs ys
  | _, _ => false
end
mutual
def A.noFn : A → Bool
  | .fn _ => false
  | .tup xs => A.noFns xs
  | _ => true
def A.noFns : List A → Bool
  | [] => true
  | x :: xs => x.noFn && A.noFns xs
end
mutual
def A.dep : A → Nat
  | .tup xs => A.deps xs + 1
  | _ => 0
def A.deps : List A → Nat
  | [] => 0
  | x :: xs => max x.dep (A.deps xs)
end
/-- a key that is a tuple; one that is a number or a text -/
def tupK : A → Bool
  | .tup xs => A.noFns xs && decide (A.deps xs + 1 ≤ 8)
  | _ => false
def leafK : A → Bool
  | .int _ => true
  | .str _ => true
  | _ => false
def kindT (kvs : List (A × D)) : Bool := kvs.all fun p => tupK p.1
def kindL (kvs : List (A × D)) : Bool := kvs.all fun p => leafK p.1
def kindOk (k : A) (kvs : List (A × D)) : Bool := (tupK k && kindT kvs) || (leafK k && kindL kvs)
def dget (k : A) : List (A × D) → Option D
  | [] => none
  | p :: r => if A.keq p.1 k then some p.2 else dget k r
def dset (k : A) (v : D) : List (A × D) → List (A × D)
  | [] => []
  | p :: r => (if A.keq p.1 k then (p.1, v) else p) :: dset k v r
def dput (k : A) (v : D) (kvs : List (A × D)) : List (A × D) := if (dget k kvs).isSome then dset k v kvs else kvs ++ [(k, v)]
def dputs : List (A × D) → List (A × D) → List (A × D)
  | kvs, [] => kvs
  | kvs, p :: r => dputs (dput p.1 p.2 kvs) r

def atomD : D → Option A
  | .a x => some x
  | _ => none
def mkTup (xs : List D) : D := match optAll atomD xs with
  | some ys => .a (.tup ys)
  | none => .tupR xs
def asTup : D → Option (List D)
  | .a (.tup xs) => some (xs.map .a)
  | .tupR xs => some xs
  | _ => none
def asLst (h : Hea) : D → Option (List D)
  | .ref n => match h[n]? with
    | some (.lst xs) => some xs
    | _ => none
  | _ => none
def asSeq (h : Hea) (d : D) : Option (List D) := match asTup d with
  | some xs => some xs
  | none => asLst h d
def asInt : D → Option Int
  | .a (.int i) => some i
  | _ => none
def asBl : D → Option Bool
  | .a (.bl i) => some i
  | _ => none
def asAtom : D → Option A := atomD
def asDct (h : Hea) : D → Option (Nat × Bool × List (A × D))
  | .ref n => match h[n]? with
    | some (.dct f kvs) => some (n, f, kvs)
    | _ => none
  | _ => none
def SZ : Nat := 16777216
def truth (h : Hea) : D → Option Bool
  | .a .non => some false
  | .a (.bl b) => some b
  | .a (.int i) => some (i != 0)
  | .a (.str s) => if s.length ≤ SZ then some (!s.isEmpty) else none
  | .a (.tup xs) => some (!xs.isEmpty)
  | .tupR xs => some (!xs.isEmpty)
  | .ref n => match h[n]? with
    | some (.lst xs) => some (!xs.isEmpty)
    | _ => none
  | _ => none
def newO (o : Obj) (h : Hea) : Res D := .ok (.ref h.length) (h ++ [o])
def newL (xs : List D) (h : Hea) : Res D := if xs.length ≤ SZ then newO (.lst xs) h else .bad
def I64 : Int := 18446744073709551616

def bopD : Bop → D → D → Hea → Res D
  | .add, .a (.int i), .a (.int j), h => .ok (.int (i + j)) h
  | .add, .a (.str x), .a (.str y), h => if x.length + y.length ≤ SZ then .ok (.str (x ++ y)) h else .bad
  | .add, .ref m, .ref n, h => match asLst h (.ref m) with
    | none => .bad
    | some xs => match asLst h (.ref n) with
      | none => .bad
      | some ys => if xs.length + ys.length ≤ SZ then newO (.lst (xs ++ ys)) h else .bad
  | .add, d, e, h => match asTup d with
    | none => .bad
    | some xs => match asTup e with
      | none => .bad
      | some ys => if xs.length + ys.length ≤ SZ then .ok (mkTup (xs ++ ys)) h else .bad
  | .sub, .a (.int i), .a (.int j), h => .ok (.int (i - j)) h
  | .mul, .a (.int i), .a (.int j), h => if (-I64 < i ∧ i < I64) ∨ (-I64 < j ∧ j < I64) then .ok (.int (i * j)) h else .bad
  | .mul, .ref m, .a (.int k), h => match asLst h (.ref m) with
    | none => .bad
    | some xs => if 0 ≤ k ∧ k < 1000000 ∧ xs.length * k.toNat ≤ SZ then newO (.lst (List.replicate k.toNat xs).flatten) h else .bad
  | .mul, .a (.tup xs), .a (.int k), h => if xs ≠ [] ∧ 2 ≤ k ∧ k ≤ 1000 ∧ xs.length ≤ 1000 then .ok (mkTup (List.replicate k.toNat (xs.map D.a)).flatten) h else .bad
  | .fdiv, .a (.int i), .a (.int j), h => if j ≠ 0 ∧ j.natAbs < 1073741824 then .ok (.int (i.fdiv j)) h else .bad
  | .mod, .a (.int i), .a (.int j), h => if j ≠ 0 then .ok (.int (i.fmod j)) h else .bad
  | .pow, .a (.int i), .a (.int j), h => if 0 ≤ j ∧ j ≤ 1000000 ∧ i.natAbs < 18446744073709551616 then .ok (.int (i ^ j.toNat)) h else .bad
  | _, _, _, _ => .bad

/-! hashes of keys without texts -/
mutual
def A.hz : A → Option Int
  | .non => some (reduceHash 0xFCA86420)
  | .bl b => some (hashInt (bz b))
  | .int i => some (hashInt i)
  | .str _ => none
  | .tup xs => match A.hzs xs with
    | some hs => some (reduceHash (Builtin.Tuple.tupleHashOf hs))
    | none => none
  | .fn _ => none
def A.hzs : List A → Option (List Int)
  | [] => some []
  | x :: xs => match A.hz x with
    | some i => match A.hzs xs with
      | some is => some (i :: is)
      | none => none
    | none => none
end
def notInZ (i : Int) : List Int → Bool
  | [] => true
  | j :: r => !decide (i = j) && notInZ i r
def apartZ : List Int → Bool
  | [] => true
  | i :: r => notInZ i r && apartZ r
def hashesApart (ks : List A) : Bool := match A.hzs ks with
  | some hs => apartZ hs
  | none => false
/-- two dicts: of unlike lengths, or empty -/
def eqK (xs ys : List (A × D)) : Option Bool := if xs.length = ys.length then (if xs.isEmpty then some true else none) else some false
def inK (d : D) (xs : List (A × D)) : Option Bool := match d with
  | .a k => if kindOk k xs then some (dget k xs).isSome else none
  | _ => none
def eqX (h : Hea) (d e : D) : Option Bool := match asDct h d with
  | some (_, _, xs) => match asDct h e with
    | some (_, _, ys) => eqK xs ys
    | none => none
  | none => eqD h d e
def inX (h : Hea) (d e : D) : Option Bool := match asDct h e with
  | some (_, _, xs) => inK d xs
  | none => match asSeq h e with
    | some xs => inD h d xs
    | none => none
def copD : Cop → D → D → Hea → Option Bool
  | .lt, .a (.int i), .a (.int j), _ => some (decide (i < j))
  | .le, .a (.int i), .a (.int j), _ => some (decide (i ≤ j))
  | .gt, .a (.int i), .a (.int j), _ => some (decide (j < i))
  | .ge, .a (.int i), .a (.int j), _ => some (decide (j ≤ i))
  | .eq, d, e, h => eqX h d e
  | .ne, d, e, h => (eqX h d e).map (!·)
  | .inn, d, e, h => inX h d e
  | .nin, d, e, h => (inX h d e).map (!·)
  | .isN, .a x, _, _ => some (match x with | .non => true | _ => false)
  | .isN, .opt _, _, _ => none
  | .isN, _, _, _ => some false
  | .isNot, .a x, _, _ => some (match x with | .non => false | _ => true)
  | .isNot, .opt _, _, _ => none
  | .isNot, _, _, _ => some true
  | _, _, _, _ => none
def blR (o : Option Bool) (h : Hea) : Res D := match o with
  | some b => .ok (.bl b) h
  | none => .bad

/-- the place of an index -/
def ixZ (n : Nat) (i : Int) : Option Nat := if 0 ≤ i then (if i < n then some i.toNat else none) else if -(n : Int) ≤ i then some (i + n).toNat else none
def subL (d i : D) (h : Hea) : Res D := match i with
  | .a (.int k) => match asSeq h d with
    | none => .bad
    | some xs => match ixZ xs.length k with
      | none => .bad
      | some j => match xs[j]? with
        | none => .bad
        | some x => .ok x h
  | _ => .bad
def subK (kvs : List (A × D)) (i : D) (h : Hea) : Res D := match i with
  | .a k => if kindOk k kvs then match dget k kvs with
    | some v => .ok v h
    | none => .bad else .bad
  | _ => .bad
def subD (d i : D) (h : Hea) : Res D := match asDct h d with
  | some (_, _, kvs) => subK kvs i h
  | none => subL d i h
def sIx (n d : Nat) : Option Int → Nat
  | none => d
  | some v => if v < 0 then (v + (n : Int)).toNat else min v.toNat n
def cutL (xs : List D) (lo hi : Option Int) : List D := (xs.drop (sIx xs.length 0 lo)).take (sIx xs.length xs.length hi - sIx xs.length 0 lo)
def slcD (d : D) (lo hi : Option Int) (h : Hea) : Res D := match asTup d with
  | some xs => .ok (mkTup (cutL xs lo hi)) h
  | none => match asLst h d with
    | some xs => newO (.lst (cutL xs lo hi)) h
    | none => .bad

/-- what a type's code takes in: 0 int, 1 bool, 2 tuple, 3 list, 4 dict, 5 str -/
def isiA : Nat → A → Bool
  | 0, .int _ => true
  | 0, .bl _ => true
  | 1, .bl _ => true
  | 2, .tup _ => true
  | 5, .str _ => true
  | _, _ => false
def isiD (t : Nat) (h : Hea) : D → Option Bool
  | .a (.fn _) => none
  | .a x => some (isiA t x)
  | .tupR _ => some (t == 2)
  | .ref n => match h[n]? with
    | some (.lst _) => some (t == 3)
    | some (.dct _ _) => some (t == 4)
    | _ => none
  | _ => none
mutual
/-- the order of ints and of tuples of such -/
def A.lt : A → A → Option Bool
  | .int i, .int j => some (decide (i < j))
  | .tup xs, .tup ys => A.lts xs ys
  | _, _ => none
def A.lts : List A → List A → Option Bool
  | [], [] => some false
  | [], _ :: _ => some true
  | _ :: _, [] => some false
  | x :: xs, y :: ys => if A.same x y then A.lts xs ys else A.lt x y
end
def ins1 (i : Int) : List Int → List Int
  | [] => [i]
  | j :: r => if i ≤ j then i :: j :: r else j :: ins1 i r
def isort : List Int → List Int
  | [] => []
  | i :: r => ins1 i (isort r)
/-- rows of data sorted -/
def insA (x : A) : List A → List A
  | [] => [x]
  | y :: r => if W.dataLt y.py x.py then y :: insA x r else x :: y :: r
def isortA : List A → List A
  | [] => []
  | x :: r => insA x (isortA r)
/-- one after another, or the same -/
def pwA : List A → Bool
  | [] => true
  | x :: r => (r.all fun y => W.dataLt x.py y.py || A.same x y) && pwA r
def rowA : A → Bool
  | .tup (_ :: _) => true
  | _ => false
def flatA : A → Bool
  | .int _ => true
  | .str _ => true
  | .bl _ => true
  | _ => false
def sortOk (as : List A) : Bool := (as.all fun x => as.all fun y => W.alike x.py y.py) && (as.all rowA || as.all flatA) && (as.all fun x => x.py.canLay0 && decide (x.py.depth ≤ 40)) && decide (as.length ≤ SZ) && pwA (isortA as)
def upto (lo : Int) (n : Nat) : List D := (List.range n).map fun (k : Nat) => D.int (lo + k)
def lim (n : Int) : Bool := decide (-4611686018427387904 ≤ n) && decide (n < 4611686018427387904)

def biD (calm : Bool) : Bi → List D → Hea → Res D
  | .len, [.a (.str s)], h => if s.length ≤ SZ then .ok (.int s.length) h else .bad
  | .len, [.scr], h => .ask 64 fun k => .ok (.int k) h
  | .len, [d], h => match asSeq h d with
    | some xs => .ok (.int xs.length) h
    | none => match asDct h d with
      | some (_, _, kvs) => .ok (.int kvs.length) h
      | none => .bad
  | .tuple, [d], h => match asSeq h d with
    | some xs => .ok (mkTup xs) h
    | none => .bad
  | .list, [d], h => match asSeq h d with
    | some xs => newO (.lst xs) h
    | none => .bad
  | .all, [d], h => match asLst h d with
    | some xs => match optAll asBl xs with
      | some bs => if calm then .ok (.bl (bs.all id)) h else .bad
      | none => .bad
    | none => .bad
  | .any, [d], h => match asLst h d with
    | some xs => match optAll asBl xs with
      | some bs => if calm then .ok (.bl (bs.any id)) h else .bad
      | none => .bad
    | none => .bad
  | .sum, [d], h => match asLst h d with
    | some xs => match optAll asInt xs with
      | some bs => if calm then .ok (.int bs.sum) h else .bad
      | none => .bad
    | none => .bad
  | .sorted, [d], h => match asLst h d with
    | some xs => match optAll asInt xs with
      | some ns => if ns.length < 64 then newO (.lst ((isort ns).map D.int)) h else .bad
      | none => match optAll atomD xs with
        | some as => if sortOk as then newO (.lst ((isortA as).map D.a)) h else .bad
        | none => .bad
    | none => match d with
      | .a (.tup as) => if sortOk as then newO (.lst ((isortA as).map D.a)) h else .bad
      | _ => match asDct h d with
        | some (_, _, kvs) => if calm && sortOk (kvs.map (·.1)) then newO (.lst ((isortA (kvs.map (·.1))).map D.a)) h else .bad
        | none => .bad
  | .abs, [.a (.int i)], h => .ok (.int (if i < 0 then -i else i)) h
  | .int, [.a (.int i)], h => .ok (.int i) h
  | .int, [.a (.bl b)], h => .ok (.int (if b then 1 else 0)) h
  | .max2, [.a (.int i), .a (.int j)], h => if calm then .ok (.int (if j > i then j else i)) h else .bad
  | .min2, [.a (.int i), .a (.int j)], h => if calm then .ok (.int (if j < i then j else i)) h else .bad
  | .lrange, [.a (.int n)], h => if lim n && decide (n ≤ 1000000) then newO (.lst (upto 0 n.toNat)) h else .bad
  | .isi t, [d], h => blR (isiD t h d) h
  | .repr, [d], h => match pyD h 8 d with
    | some x => if PyData.showable x && x.canLay0 && !PyData.hasDict x && decide (x.depth ≤ 60) && decide ((PyData.shown x).length ≤ SZ) then .ok (.str (PyData.shown x).cps.toList) h else .bad
    | none => .bad
  | _, _, _ => .bad

def isLst (h : Hea) : D → Bool
  | .ref n => match h[n]? with
    | some (.lst _) => true
    | _ => false
  | _ => false
def setO (h : Hea) (n : Nat) (o : Obj) : Hea := h.set n o
def meD (m : Me) (o : D) (ds : List D) (h : Hea) : Res D := match m, o, ds with
  | .append, .ref n, [d] => match h[n]? with
    | some (.lst xs) => if xs.length < SZ then .ok .non (setO h n (.lst (xs ++ [d]))) else .bad
    | _ => .bad
  | .extend, .ref n, [d] => match h[n]? with
    | some (.lst xs) => match asTup d with
      | some ys => if xs.length + ys.length ≤ SZ then .ok .non (setO h n (.lst (xs ++ ys))) else .bad
      | none => match asLst h d with
        | some ys => if xs.length + ys.length ≤ SZ then .ok .non (setO h n (.lst (xs ++ ys))) else .bad
        | none => .bad
    | _ => .bad
  | .pop, .ref n, [] => match h[n]? with
    | some (.lst xs) => match xs[xs.length - 1]? with
      | some x => .ok x (setO h n (.lst xs.dropLast))
      | none => .bad
    | _ => .bad
  | _, _, _ => .bad
/-- o[i] = v -/
def stL (o i v : D) (h : Hea) : Res D := match o, i with
  | .ref n, .a (.int k) => match h[n]? with
    | some (.lst xs) => match ixZ xs.length k with
      | some j => .ok .non (setO h n (.lst (xs.set j v)))
      | none => .bad
    | _ => .bad
  | _, _ => .bad
def stK (n : Nat) (z : Bool) (kvs : List (A × D)) (i v : D) (h : Hea) : Res D := match z, i with
  | false, .a k => if kindOk k kvs && decide (kvs.length < SZ) then .ok .non (setO h n (.dct false (dput k v kvs))) else .bad
  | _, _ => .bad
def stD (o i v : D) (h : Hea) : Res D := match asDct h o with
  | some (n, z, kvs) => stK n z kvs i v h
  | none => stL o i v h
/-- the methods of dicts -/
def dmeK (m : Dm) (n : Nat) (z : Bool) (kvs : List (A × D)) (ds : List D) (h : Hea) : Res D := match m, z, ds with
  | .get, _, [.a k] => if kindOk k kvs then .ok ((dget k kvs).getD .non) h else .bad
  | .get, _, [.a k, v] => if kindOk k kvs then .ok ((dget k kvs).getD v) h else .bad
  | .setdefault, false, [.a k, v] => if tupK k && kindT kvs && decide (kvs.length < SZ) then match dget k kvs with
      | some w => .ok w h
      | none => .ok v (setO h n (.dct false (dput k v kvs))) else .bad
  | .update, false, [e] => match asDct h e with
    | some (m, _, more) => if kindT kvs && kindT more && !(m == n) && decide (kvs.length + more.length ≤ SZ) && (!kvs.isEmpty || hashesApart (more.map (·.1))) then .ok .non (setO h n (.dct false (dputs kvs more))) else .bad
    | none => .bad
  | _, _, _ => .bad
def dmeD (m : Dm) (o : D) (ds : List D) (h : Hea) : Res D := match asDct h o with
  | some (n, z, kvs) => dmeK m n z kvs ds h
  | none => .bad
/-- what is walked of a dict -/
def dItems (k : Dk) (kvs : List (A × D)) : List D := match k with
  | .keys => kvs.map fun p => .a p.1
  | .vals => kvs.map (·.2)
  | .items => kvs.map fun p => mkTup [.a p.1, p.2]
/-- the lock of a walked dict taken off -/
def unfz {α : Type} (n : Nat) (a : α) (h : Hea) : Res α := match h[n]? with
  | some (.dct true kvs) => .ok a (h.set n (.dct false kvs))
  | _ => .bad
def seqG (h : Hea) (d : D) : Option (List D × Gd) := match asTup d with
  | some xs => some (xs, [])
  | none => match d with
    | .ref n => match h[n]? with
      | some (.lst xs) => some (xs, [(n, .lst xs)])
      | _ => none
    | _ => none
/-- a dict is walked -/
def walkD {α : Type} (k : Dk) (d : D) (h : Hea) (f : List D → Gd → Hea → Res α) : Res α := match asDct h d with
  | some (n, false, kvs) => (f (dItems k kvs) [(n, .dct true kvs)] (h.set n (.dct true kvs))).bind (unfz n)
  | some (n, true, kvs) => f (dItems k kvs) [(n, .dct true kvs)] h
  | none => match k with
    | .keys => match seqG h d with
      | some (xs, g) => f xs g h
      | none => .bad
    | _ => .bad

/-! ### a call's own heap -/
mutual
def refsD : D → List Nat
  | .ref n => [n]
  | .tupR xs => refsDs xs
  | .exn1 _ v => refsD v
  | .opt xs => refsDs xs
  | _ => []
def refsDs : List D → List Nat
  | [] => []
  | x :: xs => refsD x ++ refsDs xs
end
def refsO : Obj → List Nat
  | .lst xs => refsDs xs
  | .dct _ kvs => refsDs (kvs.map (·.2))
  | .dice => []
def hasN (n : Nat) : List Nat → Bool
  | [] => false
  | m :: r => m == n || hasN n r
def reach (h : Hea) : Nat → List Nat → List Nat → List Nat
  | 0, _, seen => seen
  | _, [], seen => seen
  | k + 1, n :: r, seen => if hasN n seen then reach h k r seen else match h[n]? with
    | some o => reach h k (refsO o ++ r) (seen ++ [n])
    | none => reach h k r (seen ++ [n])
def ixN : List Nat → Nat → Option Nat
  | [], _ => none
  | m :: r, n => if m == n then some 0 else match ixN r n with
    | some j => some (j + 1)
    | none => none
mutual
def renD (f : Nat → Option Nat) : D → Option D
  | .a x => some (.a x)
  | .ref n => match f n with
    | some m => some (.ref m)
    | none => none
  | .tupR xs => match renDs f xs with
    | some ys => some (.tupR ys)
    | none => none
  | .exn0 c => some (.exn0 c)
  | .exn1 c v => match renD f v with
    | some w => some (.exn1 c w)
    | none => none
  | .scr => some .scr
  | .opt xs => match renDs f xs with
    | some ys => some (.opt ys)
    | none => none
def renDs (f : Nat → Option Nat) : List D → Option (List D)
  | [] => some []
  | x :: xs => match renD f x with
    | some y => match renDs f xs with
      | some ys => some (y :: ys)
      | none => none
    | none => none
end
def renKs (f : Nat → Option Nat) : List (A × D) → Option (List (A × D))
  | [] => some []
  | (k, x) :: xs => match renD f x with
    | some y => match renKs f xs with
      | some ys => some ((k, y) :: ys)
      | none => none
    | none => none
def renO (f : Nat → Option Nat) : Obj → Option Obj
  | .lst xs => match renDs f xs with
    | some ys => some (.lst ys)
    | none => none
  | .dct z kvs => match renKs f kvs with
    | some ys => some (.dct z ys)
    | none => none
  | .dice => some .dice
def nodupB : List Nat → Bool
  | [] => true
  | n :: r => !hasN n r && nodupB r
/-- the objects at some places, renamed -/
def pickO (f : Nat → Option Nat) (h : Hea) : List Nat → Option Hea
  | [] => some []
  | n :: r => match h[n]? with
    | some o => match renO f o with
      | some o' => match pickO f h r with
        | some q => some (o' :: q)
        | none => none
      | none => none
    | none => none
/-- the objects of ns stored back -/
def backO (h : Hea) : List Nat → Hea → Hea
  | n :: r, o :: q => backO (h.set n o) r q
  | _, _ => h
def outF (len : Nat) (ns ks : List Nat) (j : Nat) : Option Nat := if j < ns.length then ns[j]? else match ixN ks j with
  | some i => some (len + i)
  | none => none
/-- back from a call: h the caller's heap, ns the places that were handed in, h' the call's heap -/
def outH (h : Hea) (ns : List Nat) (h' : Hea) (rs : List Nat) : Option ((Nat → Option Nat) × Hea) :=
  let m := ns.length
  let ks := (reach h' 1000 (rs ++ (h'.take m).flatMap refsO) []).filter fun j => decide (m ≤ j)
  let f := outF h.length ns ks
  match pickO f h' (List.range m) with
  | none => none
  | some old => match pickO f h' ks with
    | none => none
    | some new => if nodupB ks then some (f, backO h ns old ++ new) else none
def callL (F : List D → Hea → Res D) (ds : List D) (h : Hea) : Res D :=
  let ns := reach h 1000 (refsDs ds) []
  match nodupB ns, renDs (ixN ns) ds, pickO (ixN ns) h ns with
  | true, some ds', some hl => outR h ns (F ds' hl)
  | _, _, _ => .bad
where
  outR (h : Hea) (ns : List Nat) : Res D → Res D
    | .ok d h' => match outH h ns h' (refsD d) with
      | some (f, h2) => match renD f d with
        | some d' => .ok d' h2
        | none => .bad
      | none => .bad
    | .exc ⟨c, none⟩ h' => match outH h ns h' [] with
      | some (_, h2) => .exc ⟨c, none⟩ h2
      | none => .bad
    | .exc ⟨c, some v⟩ h' => match outH h ns h' (refsD v) with
      | some (f, h2) => match renD f v with
        | some v' => .exc ⟨c, some v'⟩ h2
        | none => .bad
      | none => .bad
    | .ask n k => .ask n fun i => outR h ns (k i)
    | .bad => .bad

def sameH : Hea → Hea → Bool
  | [], [] => true
  | a :: as, b :: bs => Obj.same a b && sameH as bs
  | _, _ => false
theorem sameH_eq : ∀ {a b : Hea}, sameH a b = true → a = b
  | [], [], _ => rfl
  | [], _ :: _, h => by cases h
  | _ :: _, [], h => by cases h
  | a :: as, b :: bs, h => by
    simp only [sameH, Bool.and_eq_true] at h
    rw [Obj.same_eq h.1, sameH_eq h.2]
/-! ### what may be one of several values -/
mutual
def alts : D → List D
  | .opt xs => altss xs
  | .a x => [.a x]
  | .ref n => [.ref n]
  | .tupR xs => [.tupR xs]
  | .exn0 c => [.exn0 c]
  | .exn1 c v => [.exn1 c v]
  | .scr => [.scr]
def altss : List D → List D
  | [] => []
  | x :: xs => alts x ++ altss xs
end
/-- a choice made -/
def frcR : Res D → Res D
  | .ok (.opt xs) h => .ask (altss xs).length fun k => match (altss xs)[k]? with
    | some x => .ok x h
    | none => .bad
  | .ok d h => .ok d h
  | .exc x h => .exc x h
  | .ask n k => .ask n fun i => frcR (k i)
  | .bad => .bad
def memD (d : D) : List D → Bool
  | [] => false
  | x :: xs => D.same x d || memD d xs
def optsOf : List (Res D) → Option (List D × Hea)
  | [] => none
  | .ok d h :: r => match r with
    | [] => some ([d], h)
    | _ :: _ => match optsOf r with
      | some (ds, h') => if sameH h h' then some (if memD d ds then ds else d :: ds, h) else none
      | none => none
  | _ :: _ => none
/-- a choice put off -/
def lzR : Res D → Res D
  | .ok d h => .ok d h
  | .exc x h => .exc x h
  | .bad => .bad
  | .ask n k => match optsOf ((List.range n).map fun i => lzR (k i)) with
    | some (ds, h) => .ok (.opt ds) h
    | none => .ask n fun i => lzR (k i)
inductive Leaf where
  | ok (d : D) (h : Hea)
  | exc (x : Exn) (h : Hea)
def Leaf.res : Leaf → Res D
  | .ok d h => .ok d h
  | .exc x h => .exc x h
def sameOD : Option D → Option D → Bool
  | none, none => true
  | some a, some b => D.same a b
  | _, _ => false
theorem sameOD_eq : ∀ {a b : Option D}, sameOD a b = true → a = b
  | none, none, _ => rfl
  | some a, some b, h => by rw [D.same_eq _ _ h]
  | none, some _, h => by cases h
  | some _, none, h => by cases h
def Leaf.same : Leaf → Leaf → Bool
  | .ok d h, .ok e g => D.same d e && sameH h g
  | .exc x h, .exc y g => x.cls == y.cls && sameOD x.val y.val && sameH h g
  | _, _ => false
theorem Leaf.same_eq : ∀ {a b : Leaf}, Leaf.same a b = true → a = b
  | .ok d h, .ok e g, q => by
    have q : (D.same d e && sameH h g) = true := q
    rw [Bool.and_eq_true] at q
    rw [D.same_eq _ _ q.1, sameH_eq q.2]
  | .exc ⟨x, v⟩ h, .exc ⟨y, w⟩ g, q => by
    have q : (x == y && sameOD v w && sameH h g) = true := q
    simp only [Bool.and_eq_true, beq_iff_eq] at q
    rw [q.1.1, sameOD_eq q.1.2, sameH_eq q.2]
  | .ok _ _, .exc _ _, q => by cases q
  | .exc _ _, .ok _ _, q => by cases q
def addLf (l : Leaf) : List Leaf → List Leaf
  | [] => [l]
  | a :: r => if Leaf.same a l then a :: r else a :: addLf l r
def addLfs : List Leaf → List Leaf → List Leaf
  | [], r => r
  | l :: ls, r => addLf l (addLfs ls r)
def leaves : Res D → Option (List Leaf)
  | .ok d h => some [.ok d h]
  | .exc x h => some [.exc x h]
  | .bad => none
  | .ask n k => (List.range n).foldr (fun i acc => match acc with
    | some a => match leaves (k i) with
      | some l => some (addLfs l a)
      | none => none
    | none => none) (some [])
def ofLs : List Leaf → Res D
  | [l] => l.res
  | ls => .ask ls.length fun k => match ls[k]? with
    | some l => l.res
    | none => .bad
/-- the same ends told once -/
def joinR : Res D → Res D
  | .ask n k => match leaves (.ask n k) with
    | some ls => ofLs ls
    | none => .bad
  | r => r
section
variable {P : D → Hea → Prop} {X : Exn → Hea → Prop}
theorem memD_mem {d : D} : ∀ {xs : List D}, memD d xs = true → d ∈ xs
  | [], h => by cases h
  | x :: xs, h => by
    have h : (D.same x d || memD d xs) = true := h
    rw [Bool.or_eq_true] at h
    rcases h with h | h
    · rw [D.same_eq _ _ h]; exact List.mem_cons_self
    · exact List.mem_cons_of_mem _ (memD_mem h)
theorem optsOf_mem : ∀ {rs : List (Res D)} {ds : List D} {h : Hea}, optsOf rs = some (ds, h) → ∀ r ∈ rs, ∃ d, d ∈ ds ∧ r = .ok d h
  | [], _, _, e => by cases e
  | .ok d h :: [], ds, h', e => by
    cases e
    intro r hr
    rw [List.mem_singleton.mp hr]
    exact ⟨d, List.mem_cons_self, rfl⟩
  | .ok d h :: r2 :: rs, ds, h', e => by
    have e : (match optsOf (r2 :: rs) with
      | some (ds, h') => if sameH h h' then some (if memD d ds then ds else d :: ds, h) else none
      | none => none) = some (ds, h') := e
    cases e1 : optsOf (r2 :: rs) with
    | none => rw [e1] at e; cases e
    | some p =>
      obtain ⟨ds1, h1⟩ := p
      rw [e1] at e
      dsimp only at e
      split at e
      · rename_i s
        have s := sameH_eq s
        subst s
        have ih := optsOf_mem e1
        cases e
        intro r hr
        rcases List.mem_cons.mp hr with rfl | hr
        · refine ⟨d, ?_, rfl⟩
          split
          · rename_i m
            exact memD_mem m
          · exact List.mem_cons_self
        · obtain ⟨d2, m, e2⟩ := ih r hr
          refine ⟨d2, ?_, e2⟩
          split
          · exact m
          · exact List.mem_cons_of_mem _ m
      · cases e
  | .exc _ _ :: _, _, _, e => by cases e
  | .ask _ _ :: _, _, _, e => by cases e
  | .bad :: _, _, _, e => by cases e
theorem lzR_all (hP : ∀ xs h, P (.opt xs) h → ∀ x ∈ xs, P x h) : ∀ {r : Res D}, (lzR r).all P X → r.all P X
  | .ok d h, q => q
  | .exc x h, q => q
  | .bad, q => q
  | .ask n k, q => by
    unfold lzR at q
    intro i hi
    refine lzR_all hP (r := k i) ?_
    split at q
    · rename_i ds h e
      obtain ⟨d, m, e2⟩ := optsOf_mem e (lzR (k i)) (List.mem_map.mpr ⟨i, List.mem_range.mpr hi, rfl⟩)
      rw [e2]
      exact hP _ _ q d m
    · exact q i hi
theorem frcR_all (hP : ∀ xs h, (∀ x ∈ altss xs, P x h) → P (.opt xs) h) : ∀ {r : Res D}, (frcR r).all P X → r.all P X
  | .ok (.opt xs) h, q => hP xs h fun x hx => by
    obtain ⟨k, hk, e⟩ := List.mem_iff_getElem.mp hx
    have z := q k hk
    dsimp only at z
    rw [List.getElem?_eq_getElem hk, e] at z
    exact z
  | .ok (.a _) _, q => q
  | .ok (.ref _) _, q => q
  | .ok (.tupR _) _, q => q
  | .ok (.exn0 _) _, q => q
  | .ok (.exn1 _ _) _, q => q
  | .ok .scr _, q => q
  | .exc x h, q => q
  | .bad, q => q
  | .ask n k, q => fun i hi => frcR_all hP (r := k i) (q i hi)
theorem addLf_mem {l : Leaf} : ∀ {r : List Leaf}, l ∈ addLf l r
  | [] => List.mem_cons_self
  | a :: r => by
    unfold addLf
    split
    · rename_i h
      rw [Leaf.same_eq h]
      exact List.mem_cons_self
    · exact List.mem_cons_of_mem _ addLf_mem
theorem addLf_sub {l m : Leaf} : ∀ {r : List Leaf}, m ∈ r → m ∈ addLf l r
  | [], h => by cases h
  | a :: r, h => by
    unfold addLf
    split
    · exact h
    · rcases List.mem_cons.mp h with rfl | h
      · exact List.mem_cons_self
      · exact List.mem_cons_of_mem _ (addLf_sub h)
theorem addLfs_sub {m : Leaf} : ∀ {ls r : List Leaf}, m ∈ r → m ∈ addLfs ls r
  | [], _, h => h
  | _ :: _, _, h => addLf_sub (addLfs_sub h)
theorem addLfs_mem {m : Leaf} : ∀ {ls r : List Leaf}, m ∈ ls → m ∈ addLfs ls r
  | [], _, h => by cases h
  | l :: ls, r, h => by
    rcases List.mem_cons.mp h with rfl | h
    · exact addLf_mem
    · exact addLf_sub (addLfs_mem h)
/-- all the ends are told -/
theorem leaves_all : ∀ {r : Res D} {ls : List Leaf}, leaves r = some ls → (∀ l ∈ ls, l.res.all P X) → r.all P X
  | .ok d h, ls, e, q => by
    cases e
    exact q (.ok d h) List.mem_cons_self
  | .exc x h, ls, e, q => by
    cases e
    exact q (.exc x h) List.mem_cons_self
  | .bad, _, e, _ => by cases e
  | .ask n k, ls, e, q => by
    have key : ∀ (is : List Nat) (ls : List Leaf), is.foldr (fun i acc => match acc with
        | some a => match leaves (k i) with
          | some l => some (addLfs l a)
          | none => none
        | none => none) (some []) = some ls → (∀ l ∈ ls, l.res.all P X) → ∀ i ∈ is, ∃ l, leaves (k i) = some l ∧ ∀ m ∈ l, m.res.all P X := by
      intro is
      induction is with
      | nil => intro _ _ _ i hi; cases hi
      | cons j is ih =>
        intro ls e q i hi
        rw [List.foldr_cons] at e
        split at e
        · rename_i a e1
          split at e
          · rename_i l e2
            cases e
            rcases List.mem_cons.mp hi with rfl | hi
            · exact ⟨l, e2, fun m hm => q m (addLfs_mem hm)⟩
            · exact ih a e1 (fun m hm => q m (addLfs_sub hm)) i hi
          · cases e
        · cases e
    intro i hi
    obtain ⟨l, e1, e2⟩ := key _ ls e q i (List.mem_range.mpr hi)
    exact leaves_all e1 e2
theorem ofLs_ask {ls : List Leaf} (q : (Res.ask ls.length fun k => match ls[k]? with
    | some l => l.res
    | none => (.bad : Res D)).all P X) {l : Leaf} (hl : l ∈ ls) : l.res.all P X := by
  obtain ⟨j, hj, e2⟩ := List.mem_iff_getElem.mp hl
  have z := q j hj
  dsimp only at z
  rw [List.getElem?_eq_getElem hj, e2] at z
  exact z
theorem ofLs_all : ∀ {ls : List Leaf}, (ofLs ls).all P X → ∀ l ∈ ls, l.res.all P X
  | [], q, _, hl => by cases hl
  | [a], q, _, hl => by
    rw [List.mem_singleton.mp hl]
    exact q
  | a :: b :: r, q, _, hl => ofLs_ask (ls := a :: b :: r) q hl
theorem joinR_all : ∀ {r : Res D}, (joinR r).all P X → r.all P X
  | .ok d h, q => q
  | .exc x h, q => q
  | .bad, q => q
  | .ask n k, q => by
    have q : (match leaves (.ask n k) with
      | some ls => ofLs ls
      | none => (.bad : Res D)).all P X := q
    cases e : leaves (.ask n k) with
    | none =>
      rw [e] at q
      exact q.elim
    | some ls =>
      rw [e] at q
      exact leaves_all e (ofLs_all q)
end
/-! ### expressions -/
structure Cfg where
  call : Nat → List D → Hea → Res D
  ok : Nat → Bool
  gdf : Nat → Bool
  met : Nat → (Hea → Res D) → Hea → Res D
  calm : Bool
abbrev RecE := Bool → IR → Env → Hea → Res D

def evEs (R : IR → Env → Hea → Res D) : List IR → Env → Hea → Res (List D)
  | [], _, h => .ok [] h
  | e :: r, σ, h => (R e σ h).bind fun d h1 => (evEs R r σ h1).bind fun ds h2 => .ok (d :: ds) h2
def evKs (R : IR → Env → Hea → Res D) : List (IR × IR) → Env → Hea → Res (List (A × D))
  | [], _, h => .ok [] h
  | (k, v) :: r, σ, h => (R k σ h).bind fun x h1 => (R v σ h1).bind fun y h2 => match x with
    | .a kk => (evKs R r σ h2).bind fun ps h3 => .ok ((kk, y) :: ps) h3
    | _ => .bad
/-- items, some of them spread -/
def evSt (R : IR → Env → Hea → Res D) : List (Bool × IR) → Env → Hea → Res (List D)
  | [], _, h => .ok [] h
  | (true, e) :: r, σ, h => (R e σ h).bind fun d h1 => match asSeq h1 d with
    | some xs => (evSt R r σ h1).bind fun ds h2 => .ok (xs ++ ds) h2
    | none => .bad
  | (false, e) :: r, σ, h => (R e σ h).bind fun d h1 => (evSt R r σ h1).bind fun ds h2 => .ok (d :: ds) h2
def evOpt (R : IR → Env → Hea → Res D) : Option IR → Env → Hea → Res (Option Int)
  | none, _, h => .ok none h
  | some e, σ, h => (R e σ h).bind fun d h1 => match asInt d with
    | some i => .ok (some i) h1
    | none => .bad
def Res.noexc {α : Type} : Res α → Res α
  | .ok a h => .ok a h
  | .exc _ _ => .bad
  | .ask n k => .ask n fun i => (k i).noexc
  | .bad => .bad
def setTg : Tg → D → Env → Option Env
  | .nm i, d, σ => some (σ.set i (some d))
  | .tp is, d, σ => match asTup d with
    | none => none
    | some xs => setAll is xs σ
where
  setAll : List Nat → List D → Env → Option Env
    | [], [], σ => some σ
    | i :: is, x :: xs, σ => setAll is xs (σ.set i (some x))
    | _, _, _ => none
def wipeE (σ : Env) : List Nat → Env
  | [] => σ
  | v :: vs => (wipeE σ vs).set v none
def enumL : Nat → List D → List D
  | _, [] => []
  | i, x :: r => mkTup [.int i, x] :: enumL (i + 1) r
def zipL : List D → List D → List D
  | x :: r, y :: q => mkTup [x, y] :: zipL r q
  | _, _ => []
/-- what is walked: the items, the lists that must stay -/
def evIt (R : IR → Env → Hea → Res D) : It → Env → Hea → Res (List D × Gd)
  | .seq e, σ, h => (R e σ h).bind fun d h1 => match seqG h1 d with
    | some q => .ok q h1
    | none => .bad
  | .rng e, σ, h => (R e σ h).bind fun d h1 => match asInt d with
    | some n => if lim n then .ok (upto 0 n.toNat, []) h1 else .bad
    | none => .bad
  | .rng2 a b, σ, h => (R a σ h).bind fun d h1 => (R b σ h1).bind fun e h2 => match asInt d, asInt e with
    | some lo, some hi => if lim lo && lim hi then .ok (upto lo (hi - lo).toNat, []) h2 else .bad
    | _, _ => .bad
  | .enum e, σ, h => (R e σ h).bind fun d h1 => match seqG h1 d with
    | some (xs, g) => .ok (enumL 0 xs, g) h1
    | none => .bad
  | .zip a b, σ, h => (R a σ h).bind fun d h1 => (R b σ h1).bind fun e h2 => match seqG h2 d, seqG h2 e with
    | some (xs, g), some (ys, g') => if g.length == g'.length then .ok (zipL xs ys, g ++ g') h2 else .bad
    | _, _ => .bad
def andT (R : IR → Env → Hea → Res D) : List IR → Env → Hea → Res D
  | [], _, _ => .bad
  | [e], σ, h => R e σ h
  | e :: r, σ, h => (R e σ h).bind fun d h1 => match asBl d with
    | some true => andT R r σ h1
    | some false => .ok (.bl false) h1
    | none => .bad
def orT (R : IR → Env → Hea → Res D) : List IR → Env → Hea → Res D
  | [], _, _ => .bad
  | [e], σ, h => R e σ h
  | e :: r, σ, h => (R e σ h).bind fun d h1 => match asBl d with
    | some false => orT R r σ h1
    | some true => .ok (.bl true) h1
    | none => .bad
/-- and, or as values -/
def andV (R : IR → Env → Hea → Res D) (stop : Bool) : List IR → Env → Hea → Res D
  | [], _, _ => .bad
  | [e], σ, h => R e σ h
  | e :: r, σ, h => (R e σ h).bind fun d h1 => match truth h1 d with
    | some b => if b == stop then .ok d h1 else andV R stop r σ h1
    | none => .bad
def compL (re : Env → Hea → Res D) (rc : Option (Env → Hea → Res D)) (tg : Tg) (σ : Env) (g : Gd) : List D → List D → Hea → Res (List D)
  | [], acc, h => .ok acc h
  | x :: r, acc, h => match setTg tg x σ with
    | none => .bad
    | some σ1 => match rc with
      | none => (re σ1 h).noexc.bind fun y h1 => if okG h1 g && decide (acc.length < SZ) then compL re rc tg σ g r (acc ++ [y]) h1 else .bad
      | some rt => (rt σ1 h).noexc.bind fun b h1 => match asBl b with
        | some true => (re σ1 h1).noexc.bind fun y h2 => if okG h2 g && decide (acc.length < SZ) then compL re rc tg σ g r (acc ++ [y]) h2 else .bad
        | some false => if okG h1 g then compL re rc tg σ g r acc h1 else .bad
        | none => .bad

/-- a step of the evaluator, for the value -/
def stepV (c : Cfg) (R : RecE) : IR → Env → Hea → Res D
  | .cst d, _, h => .ok (.a d) h
  | .var i, σ, h => match σ[i]? with
    | some (some d) => .ok d h
    | _ => .bad
  | .tup es, σ, h => (evEs (R false) es σ h).bind fun ds h1 => if ds.length ≤ SZ then .ok (mkTup ds) h1 else .bad
  | .lst es, σ, h => (evEs (R false) es σ h).bind fun ds h1 => newL ds h1
  | .dic kvs, σ, h => (evKs (R false) kvs σ h).bind fun ps h1 => if (kindT ps || kindL ps) && decide (ps.length ≤ 15) then newO (.dct false (dputs [] ps)) h1 else .bad
  | .dme m o es, σ, h => (R false o σ h).bind fun d h1 => if (asDct h1 d).isSome then (evEs (R false) es σ h1).bind fun ds h2 => dmeD m d ds h2 else .bad
  | .compD k elt tg e cond own, σ, h => if c.calm then (R false e σ h).bind fun d h1 => walkD k d h1 fun xs g h2 => (compL (R false elt) (match cond with | c :: _ => some (R true c) | [] => none) tg (wipeE σ own) g xs [] h2).bind fun ys h3 => newO (.lst ys) h3 else .bad
  | .bin o a b, σ, h => (R false a σ h).bind fun d h1 => (R false b σ h1).bind fun e h2 => bopD o d e h2
  | .neg a, σ, h => (R false a σ h).bind fun d h1 => match asInt d with
    | some i => .ok (.int (-i)) h1
    | none => .bad
  | .cmp o a b, σ, h => (R false a σ h).bind fun d h1 => (R false b σ h1).bind fun e h2 => blR (copD o d e h2) h2
  | .cmp2 o p a b e, σ, h => (R false a σ h).bind fun x h1 => (R false b σ h1).bind fun y h2 => match copD o x y h2 with
    | some true => (R false e σ h2).bind fun z h3 => blR (copD p y z h3) h3
    | some false => .ok (.bl false) h2
    | none => .bad
  | .isn a, σ, h => (R false a σ h).bind fun d h1 => blR (copD .isN d (.a .non) h1) h1
  | .isnt a, σ, h => (R false a σ h).bind fun d h1 => blR (copD .isNot d (.a .non) h1) h1
  | .and es, σ, h => andV (R false) false es σ h
  | .or es, σ, h => andV (R false) true es σ h
  | .not a, σ, h => (R false a σ h).bind fun d h1 => match truth h1 d with
    | some b => .ok (.bl (!b)) h1
    | none => .bad
  | .ife t a b, σ, h => (R true t σ h).bind fun d h1 => match asBl d with
    | some true => R false a σ h1
    | some false => R false b σ h1
    | none => .bad
  | .sub a i, σ, h => (R false a σ h).bind fun d h1 => (R false i σ h1).bind fun e h2 => subD d e h2
  | .slc a lo hi, σ, h => (R false a σ h).bind fun d h1 => (evOpt (R false) lo σ h1).bind fun l h2 => (evOpt (R false) hi σ h2).bind fun u h3 => slcD d l u h3
  | .call f es, σ, h => if c.ok f then (evEs (R false) es σ h).bind fun ds h1 => joinR (callL (c.call f) ds h1) else .bad
  | .callv i es, σ, h => match σ[i]? with
    | some (some (.a (.fn f))) => if c.ok f && !c.gdf f then (evEs (R false) es σ h).bind fun ds h1 => joinR (callL (c.call f) ds h1) else .bad
    | _ => .bad
  | .bi b es, σ, h => (evEs (R false) es σ h).bind fun ds h1 => biD c.calm b ds h1
  | .me m o es, σ, h => (R false o σ h).bind fun d h1 => if isLst h1 d then (evEs (R false) es σ h1).bind fun ds h2 => meD m d ds h2 else .bad
  | .comp elt tg it cond own, σ, h => if c.calm then (evIt (R false) it σ h).bind fun q h1 => (compL (R false elt) (match cond with | c :: _ => some (R true c) | [] => none) tg (wipeE σ own) q.2 q.1 [] h1).bind fun ys h2 => newO (.lst ys) h2 else .bad
  | .met g body, σ, h => if c.calm then joinR (c.met g (fun h1 => R false body σ h1) h) else .bad
  | .xf i k, σ, h => match σ[i]? with
    | some (some (.exn1 c v)) => if c = k then .ok v h else .bad
    | _ => .bad
  | .pick d e, σ, h => (R false d σ h).bind fun x h1 => (R false e σ h1).bind fun y h2 => match x with
    | .ref n => match h2[n]? with
      | some .dice => match asSeq h2 y with
        | some xs => if decide (0 < xs.length) && decide (xs.length ≤ 1000) then .ask xs.length fun k => match xs[k]? with
          | some z => .ok z h2
          | none => .bad else .bad
        | none => .bad
      | _ => .bad
    | _ => .bad
  | .roll d e, σ, h => (R false d σ h).bind fun x h1 => (R false e σ h1).bind fun y h2 => match x, y with
    | .ref n, .a (.int t) => match h2[n]? with
      | some .dice => if decide (0 < t) && decide (t ≤ 1000) then .ask t.toNat fun k => .ok (.int k) h2 else .bad
      | _ => .bad
    | _, _ => .bad
  | .mkdice d e, σ, h => (R false d σ h).bind fun x h1 => (R false e σ h1).bind fun y h2 => match x, y with
    | .scr, .a (.int t) => if decide (0 ≤ t) && decide (t ≤ 1000) then newO .dice h2 else .bad
    | _, _ => .bad
  | .un, _, _ => .bad
  | .tupS es, σ, h => (evSt (R false) es σ h).bind fun ds h1 => if ds.length ≤ SZ then .ok (mkTup ds) h1 else .bad
  | .lstS es, σ, h => (evSt (R false) es σ h).bind fun ds h1 => newL ds h1
  | .rev a, σ, h => (R false a σ h).bind fun d h1 => match asLst h1 d with
    | some xs => newO (.lst xs.reverse) h1
    | none => .bad
  | .frc e, σ, h => frcR (R false e σ h)
  | .lz e, σ, h => lzR (R false e σ h)
/-- .. for a value, or for a test's answer -/
def stepE (c : Cfg) (R : RecE) (t : Bool) (e : IR) (σ : Env) (h : Hea) : Res D := match t, e with
  | false, e => stepV c R e σ h
  | true, .and es => andT (R true) es σ h
  | true, .or es => orT (R true) es σ h
  | true, .not a => (R true a σ h).bind fun d h1 => match asBl d with
    | some b => .ok (.bl (!b)) h1
    | none => .bad
  | true, .ife _ _ _ => .bad
  | true, .cmp o a b => (stepV c R (.cmp o a b) σ h).bind fun d h1 => match asBl d with
    | some b => .ok (.bl b) h1
    | none => .bad
  | true, .cmp2 o p a b e => (stepV c R (.cmp2 o p a b e) σ h).bind fun d h1 => match asBl d with
    | some b => .ok (.bl b) h1
    | none => .bad
  | true, .isn a => (stepV c R (.isn a) σ h).bind fun d h1 => match asBl d with
    | some b => .ok (.bl b) h1
    | none => .bad
  | true, .isnt a => (stepV c R (.isnt a) σ h).bind fun d h1 => match asBl d with
    | some b => .ok (.bl b) h1
    | none => .bad
  | true, e => (stepV c R e σ h).bind fun d h1 => match truth h1 d with
    | some b => .ok (.bl b) h1
    | none => .bad
def ev (c : Cfg) : Nat → RecE
  | 0 => fun _ _ _ _ => .bad
  | n + 1 => stepE c (ev c n)

/-! ### statements -/
structure CfgS where
  E : RecE
  E0 : RecE
  sups : Nat → List Nat
abbrev RecS := SR → Env → Hea → Res Fl
def evSs (R : RecS) : List SR → Env → Hea → Res Fl
  | [], σ, h => .ok (.nx σ) h
  | s :: r, σ, h => (R s σ h).bind fun fl h1 => match fl with
    | .nx σ1 => evSs R r σ1 h1
    | fl => .ok fl h1
def forL (R : RecS) (tg : Tg) (body : List SR) (g : Gd) : List D → Env → Hea → Res Fl
  | [], σ, h => .ok (.nx σ) h
  | x :: r, σ, h => match setTg tg x σ with
    | none => .bad
    | some σ1 => (evSs R body σ1 h).bind fun fl h1 => match fl with
      | .nx σ2 => if okG h1 g then forL R tg body g r σ2 h1 else .bad
      | .ct σ2 => if okG h1 g then forL R tg body g r σ2 h1 else .bad
      | .bk σ2 => .ok (.nx σ2) h1
      | .rt d => .ok (.rt d) h1
mutual
/-- no error in hand within -/
def D.noX : D → Bool
  | .a _ => true
  | .ref _ => true
  | .tupR xs => D.noXs xs
  | .exn0 _ => false
  | .exn1 _ _ => false
  | .scr => true
  | .opt xs => D.noXs xs
def D.noXs : List D → Bool
  | [] => true
  | x :: xs => x.noX && D.noXs xs
end
def Obj.noX : Obj → Bool
  | .lst xs => D.noXs xs
  | .dct _ kvs => kvs.all fun p => p.2.noX
  | .dice => true
def noXH (h : Hea) : Bool := h.all Obj.noX
/-- the clauses -/
def catchH (c : CfgS) (x : Exn) (σ : Env) (h : Hea) : List Hd → Res Fl
  | [] => .exc x h
  | .mk k i e :: r => if hasN k (c.sups x.cls) then
      (match i with
        | none => (c.E0 false e σ h).noexc
        | some j => (c.E0 false e (σ.set j (some (match x.val with | some v => .exn1 x.cls v | none => .exn0 x.cls))) h).noexc).bind fun d h1 => if d.noX && noXH h1 then .ok (.rt d) h1 else .bad
    else catchH c x σ h r
def tryR (c : CfgS) (hs : List Hd) (σ : Env) : Res D → Res Fl
  | .ok _ h => .ok (.nx σ) h
  | .exc x h => catchH c x σ h hs
  | .ask n k => .ask n fun i => tryR c hs σ (k i)
  | .bad => .bad
def tryQ (c : CfgS) (hs : List Hd) (σ : Env) : Res D → Res Fl
  | .ok d h => .ok (.rt d) h
  | .exc x h => catchH c x σ h hs
  | .ask n k => .ask n fun i => tryQ c hs σ (k i)
  | .bad => .bad
def stepS (c : CfgS) (act : Hea → Res D) (R : RecS) : SR → Env → Hea → Res Fl
  | .asg i e, σ, h => (c.E false e σ h).bind fun d h1 => .ok (.nx (σ.set i (some d))) h1
  | .asgT is e, σ, h => (c.E false e σ h).bind fun d h1 => match setTg (.tp is) d σ with
    | some σ1 => .ok (.nx σ1) h1
    | none => .bad
  | .par i j a b, σ, h => (c.E false a σ h).bind fun d h1 => (c.E false b σ h1).bind fun e h2 => .ok (.nx ((σ.set i (some d)).set j (some e))) h2
  | .stS o i e, σ, h => (c.E false e σ h).bind fun v h1 => (c.E false o σ h1).bind fun x h2 => (c.E false i σ h2).bind fun y h3 => (stD x y v h3).bind fun _ h4 => .ok (.nx σ) h4
  | .aug i o e, σ, h => match σ[i]? with
    | some (some (.a (.int x))) => (c.E false e σ h).bind fun d h1 => match o, d with
      | .add, .a (.int y) => .ok (.nx (σ.set i (some (.int (x + y))))) h1
      | .sub, .a (.int y) => .ok (.nx (σ.set i (some (.int (x - y))))) h1
      | .mul, .a (.int y) => if (-I64 < x ∧ x < I64) ∨ (-I64 < y ∧ y < I64) then .ok (.nx (σ.set i (some (.int (x * y))))) h1 else .bad
      | _, _ => .bad
    | _ => .bad
  | .ex e, σ, h => (c.E false e σ h).bind fun _ h1 => .ok (.nx σ) h1
  | .ret e, σ, h => (c.E false e σ h).bind fun d h1 => .ok (.rt d) h1
  | .retN, _, h => .ok (.rt .non) h
  | .ife t a b, σ, h => (c.E true t σ h).bind fun d h1 => match asBl d with
    | some true => evSs R a σ h1
    | some false => evSs R b σ h1
    | none => .bad
  | .for_ tg it body, σ, h => (evIt (c.E false) it σ h).bind fun q h1 => forL R tg body q.2 q.1 σ h1
  | .forD k tg e body, σ, h => (c.E false e σ h).bind fun d h1 => walkD k d h1 fun xs g h2 => forL R tg body g xs σ h2
  | .whl t body, σ, h => (c.E true t σ h).bind fun d h1 => match asBl d with
    | some true => (evSs R body σ h1).bind fun fl h2 => match fl with
      | .nx σ2 => R (.whl t body) σ2 h2
      | .ct σ2 => R (.whl t body) σ2 h2
      | .bk σ2 => .ok (.nx σ2) h2
      | .rt d => .ok (.rt d) h2
    | some false => .ok (.nx σ) h1
    | none => .bad
  | .rai k none, _, h => .exc ⟨k, none⟩ h
  | .rai k (some e), σ, h => (c.E false e σ h).bind fun d h1 => .exc ⟨k, some d⟩ h1
  | .tr e hs, σ, h => tryR c hs σ (c.E false e σ h)
  | .trr e hs, σ, h => tryQ c hs σ (c.E false e σ h)
  | .tra hs, σ, h => tryR c hs σ (act h)
  | .pas, σ, h => .ok (.nx σ) h
  | .brk, σ, h => .ok (.bk σ) h
  | .cnt, σ, h => .ok (.ct σ) h
def evS (c : CfgS) (act : Hea → Res D) : Nat → RecS
  | 0 => fun _ _ _ => .bad
  | n + 1 => stepS c act (evS c act n)

/-! ### the program -/
structure FnI where
  np : Nat
  ns : Nat
  body : List SR
  st : List Bool := []
structure Pg where
  fns : Nat → Option FnI
  sups : Nat → List Nat
def finF (fl : Fl) (h : Hea) : Res D := match fl with
  | .rt d => .ok d h
  | .nx _ => .ok .non h
  | _ => .bad
/-- what is handed in at the told places is chosen first -/
def frcA : List Bool → (List D → Res D) → List D → Res D
  | b :: bs, F, d :: ds => match b, d with
    | true, .opt xs => .ask (altss xs).length fun k => match (altss xs)[k]? with
      | some x => frcA bs (fun r => F (x :: r)) ds
      | none => .bad
    | _, d => frcA bs (fun r => F (d :: r)) ds
  | _, F, ds => F ds
/-- a def's body, the calls by C, at most N deep in its text and its loops -/
def runB (P : Pg) (N : Nat) (c c0 : Cfg) (act : Hea → Res D) (f : FnI) (ds : List D) (h : Hea) : Res D :=
  if ds.length = f.np then frcA f.st (fun ds => (evSs (evS ⟨ev c N, ev c0 N, P.sups⟩ act N) f.body (ds.map some ++ List.replicate (f.ns - f.np) none) h).bind finF) ds else .bad
end EV

set_option Elab.async false
set_option linter.all false
set_option maxRecDepth 100000
set_option maxHeartbeats 1000000
/-! EvB: what the evaluator's values are in the heap, and what its answers say of the walk. -/
namespace EV
open PySem PySem.Spec PyProof.Rows L2

/-- what the relation leans on: the written part, the defs' and classes' addresses, the kept fields' names, the script, the error in hand, the tables of code objects -/
structure Glo where
  K : PySem.W.Frag
  fa : Nat → Addr
  ca : Nat → Addr
  fld : Nat → Str
  scr : Option (Addr × List Int)
  ex : Option (Addr × Option Addr)
  exc : Nat
  nc : Nat
  T : List (Addr × Str)
  gdf : Nat → Bool
  w : World

mutual
inductive RelA (G : Glo) (H : Hp) : A → V → Prop
  | non : RelA G H .non .non
  | bl (b : Bool) : RelA G H (.bl b) (.bl b)
  | int (i : Int) : RelA G H (.int i) (.int i)
  | str (s : List Nat) : RelA G H (.str s) (.str ⟨s.toArray⟩)
  | tup {p : Addr} {xs : List A} {vs : List V} : SqT G.K H p vs → RelAs G H xs vs → RelA G H (.tup xs) (.ref p)
  | fn (i : Nat) : RelA G H (.fn i) (.ref (G.fa i))
inductive RelAs (G : Glo) (H : Hp) : List A → List V → Prop
  | nil : RelAs G H [] []
  | cons {x : A} {xs : List A} {v : V} {vs : List V} : RelA G H x v → RelAs G H xs vs → RelAs G H (x :: xs) (v :: vs)
end
mutual
inductive RelD (G : Glo) (ρ : List Addr) (H : Hp) : D → V → Prop
  | a {x : A} {v : V} : RelA G H x v → RelD G ρ H (.a x) v
  | ref {n : Nat} {p : Addr} : ρ[n]? = some p → RelD G ρ H (.ref n) (.ref p)
  | tupR {p : Addr} {xs : List D} {vs : List V} : SqT G.K H p vs → RelDs G ρ H xs vs → RelD G ρ H (.tupR xs) (.ref p)
  | exn0 {c : Nat} {p : Addr} {d : Option Addr} : G.ex = some (p, d) → c = G.exc → RelD G ρ H (.exn0 c) (.ref p)
  | exn1 {c : Nat} {x : D} {p dd : Addr} {v : V} : G.ex = some (p, some dd) → c = G.exc → H dd = some (.xd [(G.fld c, v)]) → RelD G ρ H x v → RelD G ρ H (.exn1 c x) (.ref p)
  | scr {p : Addr} {ns : List Int} : G.scr = some (p, ns) → RelD G ρ H .scr (.ref p)
  | opt {xs : List D} {v : V} : RelU G ρ H xs v → RelD G ρ H (.opt xs) v
/-- it is one of them -/
inductive RelU (G : Glo) (ρ : List Addr) (H : Hp) : List D → V → Prop
  | hd {x : D} {xs : List D} {v : V} : RelD G ρ H x v → RelU G ρ H (x :: xs) v
  | tl {x : D} {xs : List D} {v : V} : RelU G ρ H xs v → RelU G ρ H (x :: xs) v
inductive RelDs (G : Glo) (ρ : List Addr) (H : Hp) : List D → List V → Prop
  | nil : RelDs G ρ H [] []
  | cons {x : D} {xs : List D} {v : V} {vs : List V} : RelD G ρ H x v → RelDs G ρ H xs vs → RelDs G ρ H (x :: xs) (v :: vs)
end
mutual
/-- a key, up to == -/
def nk : A → NestedKey
  | .non => .none
  | .bl b => .num (bz b)
  | .int i => .num i
  | .str s => .text ⟨s.toArray⟩
  | .tup xs => .tup (nks xs)
  | .fn _ => .none
def nks : List A → List NestedKey
  | [] => []
  | x :: xs => nk x :: nks xs
end
/-- an entry: its key, the key's value, its value -/
structure En where
  k : A
  kv : V
  v : V
def EnIs (w : World) (e : En) (q : DictEntry) : Prop := RelV e.kv q.key ∧ q.hash = (nk e.k).hash w ∧ RelV e.v q.val
/-- the dict at p holds these entries -/
def DctP (w : World) (p : Addr) (es : List En) (h : Heap) : Prop := ∃ (o : PySem.Obj) (xs : Array DictEntry) (ep : Nat), h.get? p = some o ∧ o.ExactDict ∧ o.data = .dict xs ep ∧ Paired (EnIs w) es xs.toList
def DctO (w : World) (p : Addr) (es : List En) : HO := .ext (DctP w p es)
/-- the numbers of a law's dice -/
def DiceOk (_ _ _ : Int) : Prop := True
inductive RelEs (G : Glo) (ρ : List Addr) (H : Hp) : List (A × D) → List En → Prop
  | nil : RelEs G ρ H [] []
  | cons {e : En} {x : D} {xs : List (A × D)} {es : List En} : RelA G H e.k e.kv → RelD G ρ H x e.v → RelEs G ρ H xs es → RelEs G ρ H ((e.k, x) :: xs) (e :: es)
def AtD (w : World) (H : Hp) (p : Addr) (z : Bool) (es : List En) : Prop := match z with
  | false => H p = some (DctO w p es)
  | true => ∃ o, H p = some (.frz o (DctO w p es))
def RelO (G : Glo) (ρ : List Addr) (H : Hp) (p : Addr) : Obj → Prop
  | .lst xs => ∃ vs, H p = some (.lst vs) ∧ RelDs G ρ H xs vs
  | .dct z kvs => ∃ es, AtD G.w H p z es ∧ RelEs G ρ H kvs es ∧ kvs.length ≤ SZ ∧ (p == sysModules) = false ∧ (kvs.map fun x => nk x.1).Nodup
  | .dice => ∃ x y z, H p = some (.lst [.int x, .int y, .int z]) ∧ DiceOk x y z
/-- the script stands -/
def ScrOk (G : Glo) (ρ : List Addr) (H : Hp) : Prop := ∀ p ns, G.scr = some (p, ns) → ns.length < 64 ∧ ((Rd H p (.lst (ns.map V.int)) ∧ p ∉ ρ) ∨ ∀ H', SqL G.K H' p (ns.map V.int))
structure RelH (G : Glo) (ρ : List Addr) (H : Hp) (h : Hea) : Prop where
  len : ρ.length = h.length
  nd : ρ.Nodup
  ob : ∀ (n : Nat) o p, h[n]? = some o → ρ[n]? = some p → RelO G ρ H p o
  tab : LamX.Tabs G.T H
  sc : ScrOk G ρ H
structure RelSt (G : Glo) (ρ : List Addr) (H : Hp) (σd : Env) (σ : L2.St) : Prop where
  len : σd.length = σ.length
  at_ : ∀ (i : Nat) d, σd[i]? = some (some d) → ∃ v, σ[i]? = some (some v) ∧ RelD G ρ H d v
def RelX (G : Glo) (ρ : List Addr) (H : Hp) (x : Exn) (c : Value) (d : Option Addr) : Prop :=
  c = .ref (G.ca x.cls) ∧ x.cls < G.nc ∧ ∀ v, x.val = some v → ∃ dd vv, d = some dd ∧ H dd = some (.xd [(G.fld x.cls, vv)]) ∧ RelD G ρ H v vv ∧ dd ∉ ρ
/-- nothing there, or a table -/
def Nw (H : Hp) (p : Addr) : Prop := ∀ o, H p = some o → ∃ ps, o = HO.tbl ps
theorem Nw.of {H : Hp} {p : Addr} (e : H p = none) : Nw H p := fun o z => by rw [e] at z; cases z
/-- is it locked -/
def Frz : HO → Prop
  | .frz _ _ => True
  | _ => False
/-- what may change, or is locked -/
def MuF : Option HO → Prop
  | some (.frz _ (.ext _)) => True
  | o => Mut o
theorem MuF.of {o : Option HO} (m : Mut o) : MuF o := by
  unfold MuF
  split
  · trivial
  · exact m
/-- all is kept, but for the heap's own objects and the tables -/
structure Ext (ρ : List Addr) (H : Hp) (ρ' : List Addr) (H' : Hp) : Prop where
  ex : ∃ e, ρ' = ρ ++ e ∧ ∀ p ∈ e, Nw H p
  kp : ∀ b o, H b = some o → (b ∉ ρ ∨ Frz o) → (∀ ps, o ≠ .tbl ps) → H' b = some o

section
variable {G : Glo} {ρ ρ' ρ'' : List Addr} {H H' H'' : Hp} {h h' : Hea}
theorem AtD.mut {w : World} {p : Addr} {z : Bool} {es : List En} (a : AtD w H p z es) : MuF (H p) ∧ ∀ ps, H p ≠ some (.tbl ps) := by
  cases z with
  | false => rw [show H p = _ from a]; exact ⟨trivial, fun _ z => by cases z⟩
  | true => obtain ⟨o, e⟩ := a; rw [e]; exact ⟨trivial, fun _ z => by cases z⟩
theorem RelO.mut {p : Addr} {o : Obj} (r : RelO G ρ H p o) : MuF (H p) ∧ ∀ ps, H p ≠ some (.tbl ps) := by
  cases o with
  | lst xs => obtain ⟨vs, e, _⟩ := r; rw [e]; exact ⟨trivial, fun _ z => by cases z⟩
  | dct z kvs => obtain ⟨es, a, _⟩ := r; exact a.mut
  | dice => obtain ⟨x, y, z, e, _⟩ := r; rw [e]; exact ⟨trivial, fun _ z => by cases z⟩
theorem RelH.mut (r : RelH G ρ H h) {p : Addr} (hp : p ∈ ρ) : MuF (H p) := by
  obtain ⟨n, hn, e⟩ := List.mem_iff_getElem.mp hp
  have hl : n < h.length := by rw [← r.len]; exact hn
  have e1 : ρ[n]? = some p := by rw [List.getElem?_eq_getElem hn, e]
  exact (r.ob n h[n] p (List.getElem?_eq_getElem hl) e1).mut.1
theorem RelH.notin (r : RelH G ρ H h) {p : Addr} {o : HO} (e : H p = some o) (m : ¬ MuF (some o)) : p ∉ ρ := fun hp => m (by have q := r.mut hp; rw [e] at q; exact q)
theorem RelH.notnone (r : RelH G ρ H h) {p : Addr} (e : H p = none) : p ∉ ρ := fun hp => by have q := r.mut hp; rw [e] at q; exact q
theorem RelH.notnw (r : RelH G ρ H h) {p : Addr} (e : Nw H p) : p ∉ ρ := fun hp => by
  have q := r.mut hp
  cases z : H p with
  | none => rw [z] at q; exact q
  | some o =>
    obtain ⟨ps, e3⟩ := e o z
    rw [z, e3] at q
    exact q
theorem Ext.refl : Ext ρ H ρ H := ⟨⟨[], by simp, by simp⟩, fun _ _ e _ _ => e⟩
theorem Ext.trans (r : RelH G ρ' H' h') (x : Ext ρ H ρ' H') (y : Ext ρ' H' ρ'' H'') : Ext ρ H ρ'' H'' := by
  obtain ⟨⟨e, rfl, he⟩, k⟩ := x
  obtain ⟨⟨e2, rfl, he2⟩, k2⟩ := y
  refine ⟨⟨e ++ e2, by simp, fun p hp => ?_⟩, fun b o hb nb nt => ?_⟩
  · rcases List.mem_append.mp hp with q | q
    · exact he p q
    · intro o z
      by_cases hm : p ∈ ρ
      · have w := r.mut (List.mem_append_left e hm)
        cases z2 : H' p with
        | none => rw [z2] at w; exact w.elim
        | some o2 =>
          obtain ⟨ps, e3⟩ := he2 p q o2 z2
          rw [z2, e3] at w
          exact w.elim
      · by_cases nt : ∃ ps, o = HO.tbl ps
        · exact nt
        · have w := k p o z (.inl hm) fun ps e => nt ⟨ps, e⟩
          exact he2 p q o w
  · have nb' : b ∉ ρ ++ e ∨ Frz o := by
      rcases nb with nb | nb
      · refine .inl fun hm => ?_
        rcases List.mem_append.mp hm with q | q
        · exact nb q
        · obtain ⟨ps, e3⟩ := he b q o hb
          exact nt ps e3
      · exact .inr nb
    exact k2 b o (k b o hb nb nt) nb' nt
/-- what is not changed stays -/
theorem Ext.at (x : Ext ρ H ρ' H') {b : Addr} {o : HO} (e : H b = some o) (n : b ∉ ρ) (nt : ∀ ps, o ≠ .tbl ps) : H' b = some o := x.kp b o e (.inl n) nt
theorem Ext.atF (x : Ext ρ H ρ' H') {b : Addr} {o : PySem.Obj} {u : HO} (e : H b = some (.frz o u)) : H' b = some (.frz o u) := x.kp b _ e (.inr trivial) fun _ z => by cases z
theorem Ext.ix (x : Ext ρ H ρ' H') {n : Nat} {p : Addr} (e : ρ[n]? = some p) : ρ'[n]? = some p := by
  obtain ⟨⟨e2, rfl, _⟩, _⟩ := x
  rw [List.getElem?_append_left (List.getElem?_eq_some_iff.mp e).1]
  exact e
theorem Ext.seqT {p : Addr} {vs : List V} (r : RelH G ρ H h) (x : Ext ρ H ρ' H') (q : SqT G.K H p vs) : SqT G.K H' p vs := by
  rcases q with (q | ⟨o, q⟩) | q
  · exact .inl (.inl (x.at q (r.notin q fun z => z) fun _ z => by cases z))
  · exact .inl (.inr ⟨o, x.at q (r.notin q fun z => z) fun _ z => by cases z⟩)
  · exact .inr q
/-- a list that is not of the heap's own -/
theorem Ext.seqL {p : Addr} {vs : List V} (x : Ext ρ H ρ' H') (n : p ∉ ρ) (q : SqL G.K H p vs) : SqL G.K H' p vs := by
  rcases q with (q | ⟨o, q⟩) | q
  · exact .inl (.inl (x.at q n fun _ z => by cases z))
  · exact .inl (.inr ⟨o, x.at q n fun _ z => by cases z⟩)
  · exact .inr q
theorem ScrOk.keep (s : ScrOk G ρ H) (x : Ext ρ H ρ' H') : ScrOk G ρ' H' := fun p ns e => by
  obtain ⟨hl, q⟩ := s p ns e
  refine ⟨hl, ?_⟩
  rcases q with ⟨q3, q4⟩ | q3
  · refine .inl ⟨?_, ?_⟩
    · rcases q3 with q3 | ⟨o, q3⟩
      · exact .inl (x.at q3 q4 fun _ z => by cases z)
      · exact .inr ⟨o, x.at q3 q4 fun _ z => by cases z⟩
    · obtain ⟨⟨e, rfl, he⟩, _⟩ := id x
      intro hm
      rcases List.mem_append.mp hm with z | z
      · exact q4 z
      · rcases q3 with q3 | ⟨o, q3⟩ <;> (obtain ⟨ps, e3⟩ := he p z _ q3; cases e3)
  · exact .inr q3
mutual
theorem RelA.keep (f : ∀ p vs, SqT G.K H p vs → SqT G.K H' p vs) : ∀ (x : A) (v : V), RelA G H x v → RelA G H' x v
  | .non, _, q => by cases q; exact .non
  | .bl b, _, q => by cases q; exact .bl b
  | .int i, _, q => by cases q; exact .int i
  | .str s, _, q => by cases q; exact .str s
  | .tup xs, _, q => by
    cases q with
    | tup q1 q2 => exact .tup (f _ _ q1) (RelAs.keep f xs _ q2)
  | .fn i, _, q => by cases q; exact .fn i
theorem RelAs.keep (f : ∀ p vs, SqT G.K H p vs → SqT G.K H' p vs) : ∀ (xs : List A) (vs : List V), RelAs G H xs vs → RelAs G H' xs vs
  | [], _, q => by cases q; exact .nil
  | x :: xs, _, q => by
    cases q with
    | cons q1 q2 => exact .cons (RelA.keep f x _ q1) (RelAs.keep f xs _ q2)
end
/-- what a value's relation leans on -/
structure Kee (G : Glo) (ρ : List Addr) (H : Hp) (ρ' : List Addr) (H' : Hp) : Prop where
  t : ∀ p vs, SqT G.K H p vs → SqT G.K H' p vs
  x : ∀ p fs, H p = some (.xd fs) → H' p = some (.xd fs)
  i : ∀ (n : Nat) p, ρ[n]? = some p → ρ'[n]? = some p
theorem Ext.kee (r : RelH G ρ H h) (x : Ext ρ H ρ' H') : Kee G ρ H ρ' H' :=
  ⟨fun p vs q => x.seqT r q, fun p fs q => x.at q (r.notin q fun z => z) (fun _ z => by cases z), fun n p q => x.ix q⟩
mutual
theorem RelD.kee (x : Kee G ρ H ρ' H') : ∀ (d : D) (v : V), RelD G ρ H d v → RelD G ρ' H' d v
  | .a y, _, q => by
    cases q with
    | a q => exact .a (RelA.keep x.t y _ q)
  | .ref n, _, q => by
    cases q with
    | ref q => exact .ref (x.i _ _ q)
  | .tupR xs, _, q => by
    cases q with
    | tupR q1 q2 => exact .tupR (x.t _ _ q1) (RelDs.kee x xs _ q2)
  | .exn0 c, _, q => by
    cases q with
    | exn0 q q2 => exact .exn0 q q2
  | .exn1 c y, _, q => by
    cases q with
    | exn1 q1 q0 q2 q3 => exact .exn1 q1 q0 (x.x _ _ q2) (RelD.kee x y _ q3)
  | .scr, _, q => by
    cases q with
    | scr q1 => exact .scr q1
  | .opt xs, _, q => by
    cases q with
    | opt q1 => exact .opt (RelU.kee x xs _ q1)
theorem RelU.kee (x : Kee G ρ H ρ' H') : ∀ (ds : List D) (v : V), RelU G ρ H ds v → RelU G ρ' H' ds v
  | [], _, q => by cases q
  | d :: ds, _, q => by
    cases q with
    | hd q1 => exact .hd (RelD.kee x d _ q1)
    | tl q2 => exact .tl (RelU.kee x ds _ q2)
theorem RelDs.kee (x : Kee G ρ H ρ' H') : ∀ (ds : List D) (vs : List V), RelDs G ρ H ds vs → RelDs G ρ' H' ds vs
  | [], _, q => by cases q; exact .nil
  | d :: ds, _, q => by
    cases q with
    | cons q1 q2 => exact .cons (RelD.kee x d _ q1) (RelDs.kee x ds _ q2)
end
theorem RelD.keep {d : D} {v : V} (q : RelD G ρ H d v) (r : RelH G ρ H h) (x : Ext ρ H ρ' H') : RelD G ρ' H' d v := RelD.kee (x.kee r) d v q
theorem RelDs.keep {d : List D} {v : List V} (q : RelDs G ρ H d v) (r : RelH G ρ H h) (x : Ext ρ H ρ' H') : RelDs G ρ' H' d v := RelDs.kee (x.kee r) d v q
theorem RelEs.kee (x : Kee G ρ H ρ' H') : ∀ {xs : List (A × D)} {vs : List En}, RelEs G ρ H xs vs → RelEs G ρ' H' xs vs
  | _, _, .nil => .nil
  | _, _, .cons p q s => .cons (RelA.keep x.t _ _ p) (RelD.kee x _ _ q) (RelEs.kee x s)
theorem AtD.same {w : World} {p : Addr} {z : Bool} {es : List En} (s : H' p = H p) (a : AtD w H p z es) : AtD w H' p z es := by
  cases z with
  | false => exact s.trans a
  | true => obtain ⟨o, e⟩ := a; exact ⟨o, s.trans e⟩
theorem RelO.kee {p : Addr} {o : Obj} (x : Kee G ρ H ρ' H') (s : H' p = H p) (q : RelO G ρ H p o) : RelO G ρ' H' p o := by
  cases o with
  | lst xs => obtain ⟨vs, e, q⟩ := q; exact ⟨vs, by rw [s]; exact e, RelDs.kee x _ _ q⟩
  | dct z kvs => obtain ⟨es, a, q, l⟩ := q; exact ⟨es, a.same s, q.kee x, l⟩
  | dice => obtain ⟨a, b, c, e, q⟩ := q; exact ⟨a, b, c, by rw [s]; exact e, q⟩
theorem RelSt.kee {σd : Env} {σ : L2.St} (q : RelSt G ρ H σd σ) (x : Kee G ρ H ρ' H') : RelSt G ρ' H' σd σ :=
  ⟨q.len, fun i d e => let ⟨v, e1, e2⟩ := q.at_ i d e; ⟨v, e1, RelD.kee x _ _ e2⟩⟩
end
section
variable {G : Glo} {ρ ρ' ρ'' : List Addr} {H H' H'' : Hp} {h h' : Hea}
theorem RelSt.keep {σd : Env} {σ : L2.St} (q : RelSt G ρ H σd σ) (r : RelH G ρ H h) (x : Ext ρ H ρ' H') : RelSt G ρ' H' σd σ :=
  ⟨q.len, fun i d e => let ⟨v, e1, e2⟩ := q.at_ i d e; ⟨v, e1, e2.keep r x⟩⟩
theorem RelSt.set {σd : Env} {σ : L2.St} (q : RelSt G ρ H σd σ) {d : D} {v : V} (r : RelD G ρ H d v) (i : Nat) : RelSt G ρ H (σd.set i (some d)) (σ.set i (some v)) := by
  refine ⟨by rw [List.length_set, List.length_set, q.len], fun j e he => ?_⟩
  by_cases hj : i = j
  · subst hj
    by_cases hl : i < σd.length
    · rw [List.getElem?_set_self hl] at he
      cases he
      exact ⟨v, List.getElem?_set_self (by rw [← q.len]; exact hl), r⟩
    · rw [List.getElem?_eq_none (by simpa using hl)] at he
      cases he
  · rw [List.getElem?_set_ne hj] at he ⊢
    exact q.at_ j e he
theorem RelSt.drop {σd : Env} {σ : L2.St} (q : RelSt G ρ H σd σ) (i : Nat) : RelSt G ρ H (σd.set i none) (σ.set i none) := by
  refine ⟨by rw [List.length_set, List.length_set, q.len], fun j e he => ?_⟩
  by_cases hj : i = j
  · subst hj
    by_cases hl : i < σd.length
    · rw [List.getElem?_set_self hl] at he
      cases he
    · rw [List.getElem?_eq_none (by simpa using hl)] at he
      cases he
  · rw [List.getElem?_set_ne hj] at he ⊢
    exact q.at_ j e he
theorem RelSt.wipe {σd : Env} {σ : L2.St} (q : RelSt G ρ H σd σ) : ∀ vs : List Nat, RelSt G ρ H (wipeE σd vs) (L2.wipe σ vs)
  | [] => q
  | v :: vs => (RelSt.wipe q vs).drop v
theorem RelDs.length : ∀ {ds : List D} {vs : List V}, RelDs G ρ H ds vs → ds.length = vs.length
  | _, _, .nil => rfl
  | _, _, .cons _ r => by simp [RelDs.length r]
theorem RelDs.get : ∀ {ds : List D} {vs : List V} {i : Nat} {d : D}, RelDs G ρ H ds vs → ds[i]? = some d → ∃ v, vs[i]? = some v ∧ RelD G ρ H d v
  | _, _, i, _, .nil, e => by simp at e
  | _, _, 0, _, .cons q _, e => by simp at e; subst e; exact ⟨_, rfl, q⟩
  | _, _, i + 1, d, .cons _ r, e => by
    obtain ⟨v, h1, h2⟩ := RelDs.get (i := i) (d := d) r (by simpa using e)
    exact ⟨v, by simpa using h1, h2⟩
theorem RelDs.append : ∀ {ds es : List D} {vs ws : List V}, RelDs G ρ H ds vs → RelDs G ρ H es ws → RelDs G ρ H (ds ++ es) (vs ++ ws)
  | _, _, _, _, .nil, s => s
  | _, _, _, _, .cons q r, s => .cons q (RelDs.append r s)
theorem RelDs.take : ∀ {ds : List D} {vs : List V} (n : Nat), RelDs G ρ H ds vs → RelDs G ρ H (ds.take n) (vs.take n)
  | _, _, 0, _ => by simp; exact .nil
  | _, _, _ + 1, .nil => .nil
  | _, _, n + 1, .cons q r => .cons q (RelDs.take n r)
theorem RelDs.drop : ∀ {ds : List D} {vs : List V} (n : Nat), RelDs G ρ H ds vs → RelDs G ρ H (ds.drop n) (vs.drop n)
  | _, _, 0, r => r
  | _, _, _ + 1, .nil => .nil
  | _, _, n + 1, .cons q r => RelDs.drop n r
theorem RelDs.set : ∀ {ds : List D} {vs : List V} {d : D} {v : V} (n : Nat), RelDs G ρ H ds vs → RelD G ρ H d v → RelDs G ρ H (ds.set n d) (vs.set n v)
  | _, _, _, _, _, .nil, _ => .nil
  | _, _, _, _, 0, .cons _ r, q => .cons q r
  | _, _, _, _, n + 1, .cons p r, q => .cons p (RelDs.set n r q)
theorem RelAs.ds : ∀ {xs : List A} {vs : List V}, RelAs G H xs vs → RelDs G ρ H (xs.map .a) vs
  | _, _, .nil => .nil
  | _, _, .cons q r => .cons (.a q) (RelAs.ds r)
theorem RelDs.atoms : ∀ {ds : List D} {vs : List V} {xs : List A}, optAll atomD ds = some xs → RelDs G ρ H ds vs → RelAs G H xs vs
  | [], _, xs, e, .nil => by simp [optAll] at e; subst e; exact .nil
  | d :: ds, _, xs, e, .cons q r => by
    unfold optAll at e
    cases e1 : atomD d with
    | none => rw [e1] at e; cases e
    | some y =>
      rw [e1] at e
      cases e2 : optAll atomD ds with
      | none => rw [e2] at e; cases e
      | some ys =>
        rw [e2] at e
        cases e
        cases d <;> simp [atomD] at e1
        subst e1
        cases q with
        | a q => exact .cons q (RelDs.atoms e2 r)
theorem mkTup_rel {ds : List D} {vs : List V} {p : Addr} (q : RelDs G ρ H ds vs) (t : SqT G.K H p vs) : RelD G ρ H (mkTup ds) (.ref p) := by
  unfold mkTup
  cases e : optAll atomD ds with
  | none => exact .tupR t q
  | some xs => exact .a (.tup t (q.atoms e))
theorem asTup_rel {d : D} {v : V} {xs : List D} (e : asTup d = some xs) (q : RelD G ρ H d v) : ∃ p vs, v = .ref p ∧ SqT G.K H p vs ∧ RelDs G ρ H xs vs := by
  cases q with
  | a q =>
    cases q with
    | tup q1 q2 =>
      simp [asTup] at e
      subst e
      exact ⟨_, _, rfl, q1, q2.ds⟩
    | _ => simp [asTup] at e
  | tupR q1 q2 =>
    simp [asTup] at e
    subst e
    exact ⟨_, _, rfl, q1, q2⟩
  | _ => simp [asTup] at e
theorem asLst_rel {d : D} {v : V} {xs : List D} (r : RelH G ρ H h) (e : asLst h d = some xs) (q : RelD G ρ H d v) : ∃ n p vs, d = .ref n ∧ v = .ref p ∧ ρ[n]? = some p ∧ h[n]? = some (.lst xs) ∧ H p = some (.lst vs) ∧ RelDs G ρ H xs vs := by
  cases q with
  | ref q =>
    rename_i n p
    unfold asLst at e
    dsimp only at e
    split at e
    · rename_i ys h1
      cases e
      obtain ⟨vs, h2, h3⟩ := r.ob n _ p h1 q
      exact ⟨n, p, vs, rfl, rfl, q, h1, h2, h3⟩
    · cases e
  | _ => simp [asLst] at e
/-- a list or a tuple -/
theorem asSeq_rel {d : D} {v : V} {xs : List D} (r : RelH G ρ H h) (e : asSeq h d = some xs) (q : RelD G ρ H d v) : ∃ p vs, v = .ref p ∧ (SqL G.K H p vs ∨ SqT G.K H p vs) ∧ RelDs G ρ H xs vs := by
  unfold asSeq at e
  split at e
  · rename_i ys h1
    cases e
    obtain ⟨p, vs, h2, h3, h4⟩ := asTup_rel h1 q
    exact ⟨p, vs, h2, .inr h3, h4⟩
  · obtain ⟨n, p, vs, _, h2, _, _, h3, h4⟩ := asLst_rel r e q
    exact ⟨p, vs, h2, .inl (SqL.of h3), h4⟩
theorem asInt_rel {d : D} {v : V} {i : Int} (e : asInt d = some i) (q : RelD G ρ H d v) : v = .int i := by
  cases q with
  | a q => cases q <;> simp [asInt] at e; subst e; rfl
  | _ => simp [asInt] at e
theorem asBl_rel {d : D} {v : V} {i : Bool} (e : asBl d = some i) (q : RelD G ρ H d v) : v = .bl i := by
  cases q with
  | a q => cases q <;> simp [asBl] at e; subst e; rfl
  | _ => simp [asBl] at e
/-- a new object -/
theorem Ext.new {p : Addr} {o : HO} (n : H p = none) : Ext ρ H (ρ ++ [p]) (upd H p o) :=
  ⟨⟨[p], rfl, fun b hb => by rw [List.mem_singleton.mp hb]; exact Nw.of n⟩, fun b u e _ _ => by rw [upd_ne (ne_of_none e n)]; exact e⟩
/-- a new object that is not told of (a tuple) -/
theorem Ext.quiet {p : Addr} {o : HO} (n : H p = none) : Ext ρ H ρ (upd H p o) :=
  ⟨⟨[], by simp, by simp⟩, fun b u e _ _ => by rw [upd_ne (ne_of_none e n)]; exact e⟩
/-- an object of the heap's own is changed -/
theorem Ext.put {p : Addr} {o u : HO} (n : p ∈ ρ) (hu : H p = some u) (nf : ¬ Frz u) : Ext ρ H ρ (upd H p o) :=
  ⟨⟨[], by simp, by simp⟩, fun b u' e hb _ => by
    rw [upd_ne (fun z => ?_)]
    · exact e
    · subst z
      rcases hb with hb | hb
      · exact hb n
      · rw [hu] at e; cases e; exact nf hb⟩
theorem RelO.keep {p : Addr} {o : Obj} (r : RelH G ρ H h) (x : Ext ρ H ρ' H') (s : H' p = H p) (q : RelO G ρ H p o) : RelO G ρ' H' p o := q.kee (x.kee r) s
theorem tabs_upd {T : List (Addr × Str)} {p : Addr} {o : HO} (t : LamX.Tabs T H) (n : ∀ ps, H p ≠ some (.tbl ps)) (nc : ∀ c q, H c = some (LamX.CodeO c q) → c ≠ p) : LamX.Tabs T (upd H p o) := fun z hz => by
  obtain ⟨ps, h1, h2, h3⟩ := t z hz
  have e1 : z.1 ≠ p := fun e => n ps (by rw [← e]; exact h1)
  refine ⟨ps, by rw [upd_ne e1]; exact h1, h2, fun pos cv hc => ?_⟩
  obtain ⟨c, e2, e3⟩ := h3 pos cv hc
  exact ⟨c, e2, by rw [upd_ne (nc c _ e3)]; exact e3⟩
theorem tabs_fresh {T : List (Addr × Str)} {p : Addr} {o : HO} (t : LamX.Tabs T H) (n : H p = none) : LamX.Tabs T (upd H p o) :=
  tabs_upd t (fun ps z => by rw [n] at z; cases z) fun c q e z => by rw [z, n] at e; cases e
theorem RelH.fresh_quiet {p : Addr} {o : HO} (r : RelH G ρ H h) (n : H p = none) : RelH G ρ (upd H p o) h :=
  ⟨r.len, r.nd, fun m u q e1 e2 => (r.ob m u q e1 e2).keep r (Ext.quiet n) (by
    refine upd_ne fun z => ?_
    have := (r.ob m u q e1 e2).mut.1
    rw [z, n] at this
    exact this), tabs_fresh r.tab n, r.sc.keep (Ext.quiet n)⟩
theorem RelH.fresh {p : Addr} {o : HO} {ob : Obj} (r : RelH G ρ H h) (n : H p = none) (q : RelO G (ρ ++ [p]) (upd H p o) p ob) : RelH G (ρ ++ [p]) (upd H p o) (h ++ [ob]) := by
  refine ⟨by simp [r.len], ?_, fun m u a e1 e2 => ?_, tabs_fresh r.tab n, r.sc.keep (Ext.new n)⟩
  · rw [List.nodup_append]
    refine ⟨r.nd, by simp, fun a ha b hb => ?_⟩
    have e : b = p := by simpa using hb
    subst e
    intro z
    subst z
    exact r.notnone n ha
  · by_cases hm : m < h.length
    · have hm' : m < ρ.length := by rw [r.len]; exact hm
      rw [List.getElem?_append_left hm] at e1
      rw [List.getElem?_append_left hm'] at e2
      refine (r.ob m u a e1 e2).keep r (Ext.new n) (upd_ne fun z => ?_)
      have := (r.ob m u a e1 e2).mut.1
      rw [z, n] at this
      exact this
    · have hm' : ¬ m < ρ.length := by rw [r.len]; exact hm
      rw [List.getElem?_append_right (by omega)] at e1 e2
      have z : m - h.length = 0 := by
        have := (List.getElem?_eq_some_iff.mp e1).1
        simp at this
        omega
      rw [z] at e1
      rw [r.len, z] at e2
      simp at e1 e2
      subst e1 e2
      exact q
/-- an object changed -/
theorem RelH.put {p : Addr} {o u0 : HO} {ob ob' : Obj} {n : Nat} (r : RelH G ρ H h) (e1 : h[n]? = some ob) (e2 : ρ[n]? = some p) (hu : H p = some u0) (nf : ¬ Frz u0) (q : RelO G ρ (upd H p o) p ob') (nt : ∀ c q, H c = some (LamX.CodeO c q) → c ≠ p) : RelH G ρ (upd H p o) (h.set n ob') := by
  have mp : p ∈ ρ := List.mem_of_getElem? e2
  refine ⟨by simp [r.len], r.nd, fun m u a f1 f2 => ?_, tabs_upd r.tab (r.ob n ob p e1 e2).mut.2 nt, r.sc.keep (Ext.put mp hu nf)⟩
  by_cases hm : n = m
  · subst hm
    rw [List.getElem?_set_self (List.getElem?_eq_some_iff.mp e1).1] at f1
    cases f1
    rw [e2] at f2
    cases f2
    exact q
  · rw [List.getElem?_set_ne hm] at f1
    refine (r.ob m u a f1 f2).keep r (Ext.put mp hu nf) (upd_ne fun z => ?_)
    subst z
    obtain ⟨h1, e1'⟩ := List.getElem?_eq_some_iff.mp e2
    obtain ⟨h2, e2'⟩ := List.getElem?_eq_some_iff.mp f2
    exact hm ((List.getElem_inj r.nd).mp (e1'.trans e2'.symm))
/-- a list that is not of the heap's own is changed -/
theorem Kee.upd {p : Addr} {vs : List V} {o : HO} (e : H p = some (.lst vs)) : Kee G ρ H ρ (upd H p o) := by
  refine ⟨fun a ws q => ?_, fun a fs q => ?_, fun _ _ q => q⟩
  · rcases q with (q | ⟨ob, q⟩) | q
    · exact .inl (.inl (by rw [upd_ne (fun z => by rw [z, e] at q; cases q)]; exact q))
    · exact .inl (.inr ⟨ob, by rw [upd_ne (fun z => by rw [z, e] at q; cases q)]; exact q⟩)
    · exact .inr q
  · rw [upd_ne (fun z => by rw [z, e] at q; cases q)]
    exact q
theorem RelH.upd_out {p : Addr} {vs : List V} {o : HO} (r : RelH G ρ H h) (e : H p = some (.lst vs)) (n : p ∉ ρ) (s : ∀ a ns, G.scr = some (a, ns) → a ≠ p ∨ ∀ H', SqL G.K H' a (ns.map V.int)) : RelH G ρ (upd H p o) h :=
  ⟨r.len, r.nd, fun m u q e1 e2 => (r.ob m u q e1 e2).kee (Kee.upd e) (upd_ne fun z => n (by rw [← z]; exact List.mem_of_getElem? e2)),
    tabs_upd r.tab (fun ps z => by rw [e] at z; cases z) (fun c q e2 z => by rw [z, e] at e2; cases e2), fun a ns q => by
      obtain ⟨hl, z⟩ := r.sc a ns q
      refine ⟨hl, ?_⟩
      rcases z with ⟨z, z2⟩ | z
      · rcases s a ns q with ne | k
        · refine .inl ⟨?_, z2⟩
          rcases z with z | ⟨ob, z⟩
          · exact .inl (by rw [upd_ne ne]; exact z)
          · exact .inr ⟨ob, by rw [upd_ne ne]; exact z⟩
        · exact .inr k
      · exact .inr z⟩
theorem ScrOk.apart {p : Addr} (s : ScrOk G ρ H) (n : H p = none) : ∀ a ns, G.scr = some (a, ns) → a ≠ p ∨ ∀ H', SqL G.K H' a (ns.map V.int) := fun a ns q => by
  obtain ⟨_, z⟩ := s a ns q
  rcases z with ⟨z, _⟩ | z
  · refine .inl fun e => ?_
    subst e
    rcases z with z | ⟨o, z⟩ <;> (rw [n] at z; cases z)
  · exact .inr z
end
end EV

set_option Elab.async false
set_option linter.all false
set_option maxRecDepth 100000
set_option maxHeartbeats 1000000
/-! EvC: an expression's answers, walked. -/
namespace EV
open PySem PySem.Spec PyProof.Rows L2
section
variable {G : Glo} {ρ ρ' ρ'' : List Addr} {H H' H'' : Hp} {h h' : Hea}
def PostE (G : Glo) (ρ : List Addr) (H : Hp) (Q : VK) : D → Hea → Prop := fun d h' => ∀ ρ' H' v, Ext ρ H ρ' H' → RelD G ρ' H' d v → RelH G ρ' H' h' → Q v H'
def PostA (G : Glo) (ρ : List Addr) (H : Hp) (Q : List V → Hp → Prop) : List D → Hea → Prop := fun ds h' => ∀ ρ' H' vs, Ext ρ H ρ' H' → RelDs G ρ' H' ds vs → RelH G ρ' H' h' → Q vs H'
def PostT (G : Glo) (ρ : List Addr) (H : Hp) (Q : Bool → Hp → Prop) : D → Hea → Prop := fun d h' => ∃ b, asBl d = some b ∧ ∀ ρ' H', Ext ρ H ρ' H' → RelH G ρ' H' h' → Q b H'
def PostX (G : Glo) (ρ : List Addr) (H : Hp) (W : XK) : Exn → Hea → Prop := fun x h' => ∀ ρ' H' c d, Ext ρ H ρ' H' → RelX G ρ' H' x c d → RelH G ρ' H' h' → W c d H'
theorem PostE.mv {Q : VK} {d : D} (r : RelH G ρ' H' h) (x : Ext ρ H ρ' H') (p : PostE G ρ H Q d h') : PostE G ρ' H' Q d h' := fun _ _ v y => p _ _ v (Ext.trans r x y)
theorem PostA.mv {Q : List V → Hp → Prop} {d : List D} (r : RelH G ρ' H' h) (x : Ext ρ H ρ' H') (p : PostA G ρ H Q d h') : PostA G ρ' H' Q d h' := fun _ _ v y => p _ _ v (Ext.trans r x y)
theorem PostT.mv {Q : Bool → Hp → Prop} {d : D} (r : RelH G ρ' H' h) (x : Ext ρ H ρ' H') (p : PostT G ρ H Q d h') : PostT G ρ' H' Q d h' :=
  let ⟨b, e, p⟩ := p; ⟨b, e, fun _ _ y => p _ _ (Ext.trans r x y)⟩
theorem PostX.mv {W : XK} {d : Exn} (r : RelH G ρ' H' h) (x : Ext ρ H ρ' H') (p : PostX G ρ H W d h') : PostX G ρ' H' W d h' := fun _ _ c d y => p _ _ c d (Ext.trans r x y)

/-- an answer as a reading -/
def tV (G : Glo) (r : Env → Hea → Res D) (W : WX) : TE := fun σ H Q => ∃ ρ σd h, RelSt G ρ H σd σ ∧ RelH G ρ H h ∧ (r σd h).all (PostE G ρ H Q) (PostX G ρ H fun c d H' => W c d σ H')
def tT (G : Glo) (r : Env → Hea → Res D) (W : WX) : TT := fun σ H Q => ∃ ρ σd h, RelSt G ρ H σd σ ∧ RelH G ρ H h ∧ (r σd h).all (PostT G ρ H Q) (PostX G ρ H fun c d H' => W c d σ H')
def tL (G : Glo) (r : Env → Hea → Res (List D)) (W : WX) : TA := fun σ H Q => ∃ ρ σd h, RelSt G ρ H σd σ ∧ RelH G ρ H h ∧ (r σd h).all (PostA G ρ H Q) (PostX G ρ H fun c d H' => W c d σ H')
/-- the expression's walk is as the answer says -/
def Snd (G : Glo) (X : Cx) (e : Expr) (r : Env → Hea → Res D) : Prop := ∀ W, Takes X W → PE X e (tV G r W)
def SndT (G : Glo) (X : Cx) (e : Expr) (r : Env → Hea → Res D) : Prop := ∀ W, Takes X W → PT X e (tT G r W)
def SndA (G : Glo) (X : Cx) (es : List Expr) (r : Env → Hea → Res (List D)) : Prop := ∀ W, Takes X W → PA X es (tL G r W)

theorem PE.imp {X : Cx} {e : Expr} {t t' : TE} (p : PE X e t) (f : ∀ σ H Q, t' σ H Q → t σ H Q) : PE X e t' := ⟨fun pins s σ H Q I h => p.run pins s σ H Q I (f σ H Q h)⟩
theorem PT.imp {X : Cx} {e : Expr} {t t' : TT} (p : PT X e t) (f : ∀ σ H Q, t' σ H Q → t σ H Q) : PT X e t' := ⟨fun pins s σ H Q I h => p.run pins s σ H Q I (f σ H Q h)⟩
theorem PW.imp {X : Cx} {e : Expr} {t t' : TT} (p : PW X e t) (f : ∀ σ H Q, t' σ H Q → t σ H Q) : PW X e t' := ⟨fun wh pins s σ H Q I h => p.run wh pins s σ H Q I (f σ H Q h)⟩
theorem PA.imp {X : Cx} {e : List Expr} {t t' : TA} (p : PA X e t) (f : ∀ σ H Q, t' σ H Q → t σ H Q) : PA X e t' := ⟨fun pos pins s σ H Q I h => p.run pos pins s σ H Q I (f σ H Q h)⟩
theorem PS.imp {X : Cx} {e : Stmt} {t t' : TS} (p : PS X e t) (f : ∀ D σ H, t' D σ H → t D σ H) : PS X e t' := ⟨fun pins s σ H Q I h => p.run pins s σ H Q I (f Q σ H h)⟩
theorem PSs.imp {X : Cx} {e : List Stmt} {t t' : TS} (p : PSs X e t) (f : ∀ D σ H, t' D σ H → t D σ H) : PSs X e t' := ⟨fun pins s σ H Q I h => p.run pins s σ H Q I (f Q σ H h)⟩

/-- a reading that runs on: the first part's answer, then what follows from its state -/
theorem tV_then {r : Env → Hea → Res D} {W : WX} {σ : L2.St} {σd : Env} {f : D → Hea → Res D} {Q : VK} {R : VK}
    (st : RelSt G ρ H σd σ) (rh : RelH G ρ H h) (q : ((r σd h).bind f).all (PostE G ρ H Q) (PostX G ρ H fun c d H' => W c d σ H'))
    (k : ∀ ρ1 H1 v d h1, Ext ρ H ρ1 H1 → RelSt G ρ1 H1 σd σ → RelD G ρ1 H1 d v → RelH G ρ1 H1 h1 → (f d h1).all (PostE G ρ1 H1 Q) (PostX G ρ1 H1 fun c d H' => W c d σ H') → R v H1) : tV G r W σ H R := by
  rw [Res.all_bind] at q
  exact ⟨ρ, σd, h, st, rh, Res.all_mono (fun d h1 q ρ1 H1 v x rd r1 => k ρ1 H1 v d h1 x (st.keep rh x) rd r1 (Res.all_mono (fun _ _ p => p.mv r1 x) (fun _ _ p => p.mv r1 x) q)) (fun _ _ p => p) q⟩
theorem tT_then {r : Env → Hea → Res D} {W : WX} {σ : L2.St} {σd : Env} {f : D → Hea → Res D} {Q : VK} {R : Bool → Hp → Prop}
    (st : RelSt G ρ H σd σ) (rh : RelH G ρ H h) (q : ((r σd h).bind f).all (PostE G ρ H Q) (PostX G ρ H fun c d H' => W c d σ H'))
    (hb : ∀ d h1, (f d h1).all (PostE G ρ H Q) (PostX G ρ H fun c d H' => W c d σ H') → ∃ b, asBl d = some b)
    (k : ∀ ρ1 H1 d h1 b, asBl d = some b → Ext ρ H ρ1 H1 → RelSt G ρ1 H1 σd σ → RelH G ρ1 H1 h1 → (f d h1).all (PostE G ρ1 H1 Q) (PostX G ρ1 H1 fun c d H' => W c d σ H') → R b H1) : tT G r W σ H R := by
  rw [Res.all_bind] at q
  exact ⟨ρ, σd, h, st, rh, Res.all_mono (fun d h1 q => by
    obtain ⟨b, e⟩ := hb d h1 q
    exact ⟨b, e, fun ρ1 H1 x r1 => k ρ1 H1 d h1 b e x (st.keep rh x) r1 (Res.all_mono (fun _ _ p => p.mv r1 x) (fun _ _ p => p.mv r1 x) q)⟩) (fun _ _ p => p) q⟩
theorem tL_then {α : Type} {r : Env → Hea → Res (List D)} {W : WX} {σ : L2.St} {σd : Env} {f : List D → Hea → Res D} {Q : VK} {R : List V → Hp → Prop}
    (st : RelSt G ρ H σd σ) (rh : RelH G ρ H h) (q : ((r σd h).bind f).all (PostE G ρ H Q) (PostX G ρ H fun c d H' => W c d σ H'))
    (k : ∀ ρ1 H1 v d h1, Ext ρ H ρ1 H1 → RelSt G ρ1 H1 σd σ → RelDs G ρ1 H1 d v → RelH G ρ1 H1 h1 → (f d h1).all (PostE G ρ1 H1 Q) (PostX G ρ1 H1 fun c d H' => W c d σ H') → R v H1) : tL G r W σ H R := by
  rw [Res.all_bind] at q
  exact ⟨ρ, σd, h, st, rh, Res.all_mono (fun d h1 q ρ1 H1 v x rd r1 => k ρ1 H1 v d h1 x (st.keep rh x) rd r1 (Res.all_mono (fun _ _ p => p.mv r1 x) (fun _ _ p => p.mv r1 x) q)) (fun _ _ p => p) q⟩
variable {X : Cx}

/-! ### values, names, displays -/
theorem snd_none {j pos} : Snd G X (.Constant .none j pos) (fun _ h => .ok (.a .non) h) := fun W tk => PE.imp pe_non fun σ H Q ⟨ρ, σd, h, st, rh, q⟩ => q ρ H _ Ext.refl (.a .non) rh
theorem snd_bool {b j pos} : Snd G X (.Constant (.bool b) j pos) (fun _ h => .ok (.a (.bl b)) h) := fun W tk => PE.imp pe_bl fun σ H Q ⟨ρ, σd, h, st, rh, q⟩ => q ρ H _ Ext.refl (.a (.bl b)) rh
theorem snd_int {i j pos} : Snd G X (.Constant (.int i) j pos) (fun _ h => .ok (.a (.int i)) h) := fun W tk => PE.imp pe_int fun σ H Q ⟨ρ, σd, h, st, rh, q⟩ => q ρ H _ Ext.refl (.a (.int i)) rh
theorem snd_str {x : Str} {s : List Nat} {j pos} (e : x.cps.toList = s) : Snd G X (.Constant (.str x) j pos) (fun _ h => .ok (.a (.str s)) h) := fun W tk => PE.imp pe_str fun σ H Q ⟨ρ, σd, h, st, rh, q⟩ => by
  refine q ρ H _ Ext.refl ?_ rh
  have : x = ⟨s.toArray⟩ := by subst e; rfl
  rw [this]
  exact .a (.str s)
theorem snd_var {i : Nat} {x : Str} {pos : Pos} (hN : X.N[i]? = some x) (hv : Vis X.env.scope x) (hd : (x == ("__debug__" : Str)) = false) (hcd : (x == ("__classdict__" : Str)) = false) :
    Snd G X (.Name x pos) (fun σ h => match σ[i]? with | some (some d) => .ok d h | _ => .bad) := fun W tk => PE.imp (pe_var hN hv hd hcd) fun σ H Q ⟨ρ, σd, h, st, rh, q⟩ => by
  dsimp only at q
  split at q
  · rename_i d e
    obtain ⟨v, e1, e2⟩ := st.at_ i d e
    exact ⟨v, e1, q ρ H v Ext.refl e2 rh⟩
  · exact q.elim
/-- a name of the module: its value always related -/
theorem snd_glob {x : Str} {d : A} {v : V} {u : Value} {pos : Pos} (hg : Gl X x) (hm : X.mg x = some u) (r : RelV v u) (hd : (x == ("__debug__" : Str)) = false) (rd : ∀ H, RelA G H d v) :
    Snd G X (.Name x pos) (fun _ h => .ok (.a d) h) := fun W tk => PE.imp (pe_glob hg hm r hd) fun σ H Q ⟨ρ, σd, h, st, rh, q⟩ => q ρ H v Ext.refl (.a (rd H)) rh

theorem snda_nil : SndA G X [] (fun _ h => .ok [] h) := fun W tk => PA.imp pa_nil fun σ H Q ⟨ρ, σd, h, st, rh, q⟩ => q ρ H [] Ext.refl .nil rh
def starB : Expr → Bool
  | .Starred .. => true
  | _ => false
theorem starEach_cons {e : Expr} {es : List Expr} {env : PySem.Env} (h : starB e = false) : starEach (e :: es) env = (false, eval e env) :: starEach es env := by
  cases e <;> first | rfl | (simp [starB] at h)
theorem snda_cons {e : Expr} {es : List Expr} {r : Env → Hea → Res D} {rs : Env → Hea → Res (List D)} (he : Snd G X e r) (hs : SndA G X es rs) (ns : starB e = false) :
    SndA G X (e :: es) (fun σ h => (r σ h).bind fun d h1 => (rs σ h1).bind fun ds h2 => .ok (d :: ds) h2) := fun W tk =>
  PA.imp (pa_cons (he W tk) (hs W tk) (starEach_cons ns)) fun σ H Q ⟨ρ, σd, h, st, rh, q⟩ => by
    rw [Res.all_bind] at q
    refine ⟨ρ, σd, h, st, rh, Res.all_mono (fun d h1 q ρ1 H1 v x rd r1 => ?_) (fun _ _ p => p) q⟩
    rw [Res.all_bind] at q
    refine ⟨ρ1, σd, h1, st.keep rh x, r1, Res.all_mono (fun ds h2 q ρ2 H2 vs x2 rds r2 => ?_) (fun _ _ p => p.mv r1 x) q⟩
    exact q ρ2 H2 (v :: vs) (Ext.trans r1 x x2) (.cons (rd.keep r1 x2) rds) r2
theorem snd_tup {es : List Expr} {rs : Env → Hea → Res (List D)} {k pos} (hs : SndA G X es rs) :
    Snd G X (.Tuple es k pos) (fun σ h => (rs σ h).bind fun ds h1 => if ds.length ≤ SZ then .ok (mkTup ds) h1 else .bad) := fun W tk =>
  PE.imp (pe_tup (hs W tk)) fun σ H Q ⟨ρ, σd, h, st, rh, q⟩ => tL_then (α := Unit) st rh q fun ρ1 H1 vs ds h1 x st1 rd r1 q => by
    split at q
    · rename_i hl
      refine ⟨by rw [← rd.length, sizeLine_eq]; exact hl, fun p hp => ?_⟩
      exact q ρ1 _ (.ref p) (Ext.quiet hp) (mkTup_rel (rd.keep r1 (Ext.quiet hp)) (SqT.of upd_same)) (r1.fresh_quiet hp)
    · exact q.elim
theorem snd_lst {es : List Expr} {rs : Env → Hea → Res (List D)} {pos} (hs : SndA G X es rs) :
    Snd G X (.List es pos) (fun σ h => (rs σ h).bind fun ds h1 => newL ds h1) := fun W tk =>
  PE.imp (pe_lst (hs W tk)) fun σ H Q ⟨ρ, σd, h, st, rh, q⟩ => tL_then (α := Unit) st rh q fun ρ1 H1 vs ds h1 x st1 rd r1 q => by
    unfold newL newO at q
    split at q
    · rename_i hl
      refine ⟨by rw [← rd.length, sizeLine_eq]; exact hl, fun p hp => ?_⟩
      refine q _ _ (.ref p) (Ext.new hp) (.ref ?_) (r1.fresh hp ⟨vs, upd_same, rd.keep r1 (Ext.new hp)⟩)
      rw [← r1.len, List.getElem?_append_right (Nat.le_refl _)]
      simp
    · exact q.elim

/-! ### operators, by their values -/
/-- what is asked of an operator's rule -/
def OpS (G : Glo) (X : Cx) (f : Value → Value → Sem Value) (g : D → D → Hea → Res D) : Prop := ∃ r : R2, OpR X f r ∧
  ∀ ρ H h d e x y Q W, RelD G ρ H d x → RelD G ρ H e y → RelH G ρ H h → (g d e h).all (PostE G ρ H Q) W → r x y H Q
theorem snd_bin {a b : Expr} {ra rb : Env → Hea → Res D} {op : Operator} {g : D → D → Hea → Res D} {pos : Pos} (ho : OpS G X (binaryOp op) g) (ha : Snd G X a ra) (hb : Snd G X b rb) :
    Snd G X (.BinOp a op b pos) (fun σ h => (ra σ h).bind fun d h1 => (rb σ h1).bind fun e h2 => g d e h2) := fun W tk => by
  obtain ⟨r, h1, h2⟩ := ho
  refine PE.imp (pe_op h1 (ha W tk) (hb W tk)) fun σ H Q ⟨ρ, σd, h, st, rh, q⟩ => ?_
  refine tV_then st rh q fun ρ1 H1 x d k1 x1 st1 rd r1 q => tV_then st1 r1 q fun ρ2 H2 y e k2 x2 st2 re r2 q => ?_
  exact h2 ρ2 H2 k2 d e x y Q _ (rd.keep r1 x2) re r2 q
/-- a comparison's reading follows from its answer -/
def Rd2 (G : Glo) (r : Env → Hea → Res D) (W : WX) (t : TE) : Prop := ∀ σ H Q, tV G r W σ H Q → t σ H Q
theorem rd_op {ra rb : Env → Hea → Res D} {W : WX} {g : D → D → Hea → Res D} {r : R2} (h2 : ∀ ρ H h d e x y Q W, RelD G ρ H d x → RelD G ρ H e y → RelH G ρ H h → (g d e h).all (PostE G ρ H Q) W → r x y H Q) :
    Rd2 G (fun σ h => (ra σ h).bind fun d h1 => (rb σ h1).bind fun e h2 => g d e h2) W (tOp r (tV G ra W) (tV G rb W)) := fun σ H Q ⟨ρ, σd, h, st, rh, q⟩ => by
  refine tV_then st rh q fun ρ1 H1 x d k1 x1 st1 rd r1 q => tV_then st1 r1 q fun ρ2 H2 y e k2 x2 st2 re r2 q => ?_
  exact h2 ρ2 H2 k2 d e x y Q _ (rd.keep r1 x2) re r2 q
/-- .. as a test -/
theorem sndt_of {e : Expr} {r : Env → Hea → Res D} (h : ∀ W, Takes X W → ∃ t, PT X e (tTest t) ∧ Rd2 G r W t) :
    SndT G X e (fun σ h => (r σ h).bind fun d h1 => match asBl d with | some b => .ok (.bl b) h1 | none => .bad) := fun W tk => by
  obtain ⟨t, p, f⟩ := h W tk
  refine PT.imp p fun σ H Q ⟨ρ, σd, h, st, rh, q⟩ => ?_
  refine f σ H _ ⟨ρ, σd, h, st, rh, ?_⟩
  rw [Res.all_bind] at q
  refine Res.all_mono (fun d h1 q ρ1 H1 v x rd r1 => ?_) (fun _ _ p => p) q
  split at q
  · rename_i b e1
    obtain ⟨b', e2, q⟩ := q
    cases e2
    cases d with
    | a y =>
      cases y <;> simp [asBl] at e1
      subst e1
      cases rd with
      | a rd => cases rd; exact ⟨_, rfl, q ρ1 H1 x r1⟩
    | _ => simp [asBl] at e1
  · exact q.elim
theorem sndt_cmp {a b : Expr} {ra rb : Env → Hea → Res D} {op : CmpOp} {g : D → D → Hea → Res D} {pos : Pos} (ho : OpS G X (compareOp op) g) (ha : Snd G X a ra) (hb : Snd G X b rb) (hm : behindInMarks op b = false) :
    SndT G X (.Compare a [op] [b] pos) (fun σ h => ((ra σ h).bind fun d h1 => (rb σ h1).bind fun e h2 => g d e h2).bind fun d h1 => match asBl d with | some b => .ok (.bl b) h1 | none => .bad) := by
  obtain ⟨r, h1, h2⟩ := ho
  exact sndt_of (r := fun σ h => (ra σ h).bind fun d h1 => (rb σ h1).bind fun e h2 => g d e h2) fun W tk => ⟨_, pt_cmpR h1 (ha W tk) (hb W tk) hm, rd_op h2⟩
theorem snd_cmp {a b : Expr} {ra rb : Env → Hea → Res D} {op : CmpOp} {g : D → D → Hea → Res D} {pos : Pos} (ho : OpS G X (compareOp op) g) (ha : Snd G X a ra) (hb : Snd G X b rb) (hm : behindInMarks op b = false) :
    Snd G X (.Compare a [op] [b] pos) (fun σ h => (ra σ h).bind fun d h1 => (rb σ h1).bind fun e h2 => g d e h2) := fun W tk => by
  obtain ⟨r, h1, h2⟩ := ho
  refine PE.imp (pe_cmpR h1 (ha W tk) (hb W tk) hm) fun σ H Q ⟨ρ, σd, h, st, rh, q⟩ => ?_
  refine tV_then st rh q fun ρ1 H1 x d k1 x1 st1 rd r1 q => tV_then st1 r1 q fun ρ2 H2 y e k2 x2 st2 re r2 q => ?_
  exact h2 ρ2 H2 k2 d e x y Q _ (rd.keep r1 x2) re r2 q
end
end EV

set_option Elab.async false
set_option linter.all false
set_option maxRecDepth 100000
set_option maxHeartbeats 1000000
/-! EvDa: dicts: their entries as the library's kinds tell them. -/
namespace EV
open PySem PySem.Spec PyProof.Rows L2
theorem str_dec (s t : List Nat) : decide ((⟨s.toArray⟩ : Str) = ⟨t.toArray⟩) = decide (s = t) := by
  by_cases e : s = t
  · subst e; simp
  · rw [decide_eq_false e, decide_eq_false]
    intro z
    injection z with z
    exact e (by simpa using congrArg Array.toList z)
mutual
theorem keq_nk : ∀ x y : A, x.noFn = true → y.noFn = true → A.keq x y = NestedKey.beq (nk x) (nk y)
  | .non, y, _, h => by cases y <;> simp_all [A.keq, nk, NestedKey.beq, A.noFn]
  | .bl b, y, _, h => by cases y <;> simp_all [A.keq, nk, NestedKey.beq, A.noFn]
  | .int i, y, _, h => by cases y <;> simp_all [A.keq, nk, NestedKey.beq, A.noFn]
  | .str s, y, _, h => by
    cases y with
    | str t => rw [A.keq, nk, nk, NestedKey.beq]; exact (str_dec s t).symm
    | _ => simp_all [A.keq, nk, NestedKey.beq, A.noFn]
  | .tup xs, y, hx, h => by
    cases y with
    | tup ys => rw [A.keq, nk, nk, NestedKey.beq]; exact keqs_nk xs ys (by simpa [A.noFn] using hx) (by simpa [A.noFn] using h)
    | _ => simp_all [A.keq, nk, NestedKey.beq, A.noFn]
  | .fn _, _, hx, _ => by simp [A.noFn] at hx
theorem keqs_nk : ∀ xs ys : List A, A.noFns xs = true → A.noFns ys = true → A.keqs xs ys = NestedKey.beqAll (nks xs) (nks ys)
  | [], ys, _, _ => by cases ys <;> simp [A.keqs, nks, NestedKey.beqAll]
  | x :: xs, [], _, _ => by simp [A.keqs, nks, NestedKey.beqAll]
  | x :: xs, y :: ys, hx, hy => by
    simp only [A.noFns, Bool.and_eq_true] at hx hy
    rw [A.keqs, nks, nks, NestedKey.beqAll, keq_nk x y hx.1 hy.1, keqs_nk xs ys hx.2 hy.2]
end
mutual
theorem nk_depth : ∀ x : A, (nk x).depth = x.dep
  | .non => rfl
  | .bl _ => rfl
  | .int _ => rfl
  | .str _ => rfl
  | .tup xs => by rw [nk, NestedKey.depth, A.dep, nks_depth xs]
  | .fn _ => rfl
theorem nks_depth : ∀ xs : List A, NestedKey.depthAll (nks xs) = A.deps xs
  | [] => rfl
  | x :: xs => by rw [nks, NestedKey.depthAll, A.deps, nk_depth x, nks_depth xs]
end
theorem tupK_noFn {k : A} (h : tupK k = true) : k.noFn = true := by
  cases k <;> simp [tupK] at h
  simpa [A.noFn] using h.1
theorem leafK_noFn {k : A} (h : leafK k = true) : k.noFn = true := by cases k <;> simp [leafK] at h <;> rfl
theorem keq_dec {x y : A} (hx : x.noFn = true) (hy : y.noFn = true) : (A.keq x y = true) ↔ nk x = nk y := by
  rw [keq_nk x y hx hy, ← NestedKey.decide_eq, decide_eq_true_iff]
def lk : A → Key
  | .int i => .inl i
  | .str s => .inr ⟨s.toArray⟩
  | _ => .inl 0
theorem lk_nk {x y : A} (hx : leafK x = true) (hy : leafK y = true) : nk x = nk y ↔ lk x = lk y := by
  cases x <;> simp [leafK] at hx <;> cases y <;> simp [leafK] at hy <;> simp [nk, lk]
section
variable {G : Glo} {ρ ρ' ρ'' : List Addr} {H H' H'' : Hp} {h h' : Hea} {X : Cx} {pins : List (Addr × PySem.Obj)} {σ : L2.St} {s : Shared}
mutual
theorem nk_is (I : Inv X pins σ H s) (hK : X.K = G.K) : ∀ (x : A) (v : V) (u : Value), x.noFn = true → RelA G H x v → RelV v u → NestedIs s.heap (nk x) u
  | .non, v, u, _, r, ru => by cases r; cases (show u = Value.none from ru); exact .none
  | .bl b, v, u, _, r, ru => by cases r; cases (show u = Value.bool b from ru); exact .bool rfl
  | .int i, v, u, _, r, ru => by cases r; obtain ⟨t, rfl⟩ := ru; exact .int _ _
  | .str x, v, u, _, r, ru => by cases r; obtain ⟨t, rfl⟩ := ru; exact .text _ _
  | .tup xs, v, u, n, r, ru => by
    cases r with
    | tup q1 q2 =>
      rename_i p vs
      cases (show u = Value.ref p from ru)
      rw [← hK] at q1
      obtain ⟨its, rv, ⟨o, ho, hc, m, hd⟩, hz⟩ := I.tuple q1
      exact .tup ho hc hd (by simpa using nks_is I hK xs vs its (by simpa [A.noFn] using n) q2 rv)
  | .fn _, _, _, n, _, _ => by simp [A.noFn] at n
theorem nks_is (I : Inv X pins σ H s) (hK : X.K = G.K) : ∀ (xs : List A) (vs : List V) (us : List Value), A.noFns xs = true → RelAs G H xs vs → Vals vs us → NestedAll s.heap (nks xs) us
  | [], vs, us, _, r, ru => by cases r; cases ru; exact .nil
  | x :: xs, vs, us, n, r, ru => by
    cases r with
    | cons r1 r2 =>
      cases ru with
      | cons u1 u2 =>
        simp only [A.noFns, Bool.and_eq_true] at n
        exact .cons (nk_is I hK x _ _ n.1 r1 u1) (nks_is I hK xs _ _ n.2 r2 u2)
end
/-- a tuple as a key -/
theorem tupK_key (I : Inv X pins σ H s) (hK : X.K = G.K) {k : A} {v : V} {u : Value} (hk : tupK k = true) (r : RelA G H k v) (ru : RelV v u) : ∃ a, v = .ref a ∧ u = .ref a ∧ (nestedKind X.prog X.w).is s.heap (nk k) a := by
  have n := nk_is I hK k v u (tupK_noFn hk) r ru
  have d := nk_depth k
  cases k <;> simp [tupK] at hk
  cases r with
  | tup q1 q2 =>
    rename_i xs p vs
    cases (show u = Value.ref p from ru)
    refine ⟨p, rfl, rfl, n, ?_⟩
    rw [d, A.dep]
    omega
theorem leafK_key {k : A} {v : V} (hk : leafK k = true) (r : RelA G H k v) : v = kV (lk k) := by
  cases k <;> simp [leafK] at hk <;> (cases r; rfl)
theorem kindT_all {kvs : List (A × D)} (h : kindT kvs = true) : ∀ x ∈ kvs, tupK x.1 = true := fun x hx => List.all_eq_true.mp h x hx
theorem kindL_all {kvs : List (A × D)} (h : kindL kvs = true) : ∀ x ∈ kvs, leafK x.1 = true := fun x hx => List.all_eq_true.mp h x hx
theorem kindT_cons {p : A × D} {kvs : List (A × D)} : kindT (p :: kvs) = true ↔ tupK p.1 = true ∧ kindT kvs = true := by unfold kindT; rw [List.all_cons, Bool.and_eq_true]
theorem kindL_cons {p : A × D} {kvs : List (A × D)} : kindL (p :: kvs) = true ↔ leafK p.1 = true ∧ kindL kvs = true := by unfold kindL; rw [List.all_cons, Bool.and_eq_true]
theorem RelEs.len {kvs : List (A × D)} {es : List En} (r : RelEs G ρ H kvs es) : kvs.length = es.length := by
  induction r with
  | nil => rfl
  | cons _ _ _ ih => simp [ih]
theorem RelEs.snoc {kvs : List (A × D)} {es : List En} {e : En} {x : D} (r : RelEs G ρ H kvs es) (p : RelA G H e.k e.kv) (q : RelD G ρ H x e.v) : RelEs G ρ H (kvs ++ [(e.k, x)]) (es ++ [e]) := by
  induction r with
  | nil => exact .cons p q .nil
  | cons a b _ ih => exact .cons a b ih
/-! ### keys that are tuples -/
abbrev TV (e : En) (x : NestedKey × Addr × Value) : Prop := x.1 = nk e.k ∧ e.kv = .ref x.2.1 ∧ RelV e.v x.2.2
theorem toT {P : Program} {w : World} {es : List En} {qs : List DictEntry} {kvs : List (A × D)} (r : RelEs G ρ H kvs es) (q : Paired (EnIs w) es qs) (k : kindT kvs = true) : ∃ xs, Paired TV es xs ∧ qs = xs.map (entryOfKey (nestedKind P w)) := by
  induction r generalizing qs with
  | nil => cases q; exact ⟨[], .nil, rfl⟩
  | @cons e x kvs es r1 r2 r3 ih =>
    cases q with
    | @cons _ c _ qs q1 q2 =>
      obtain ⟨k1, k2⟩ := kindT_cons.mp k
      obtain ⟨xs, h1, h2⟩ := ih q2 k2
      obtain ⟨a, ha⟩ : ∃ a, e.kv = .ref a := by
        obtain ⟨ek, ekv, ev⟩ := e
        dsimp only at r1 k1
        cases r1 with
        | tup z _ => exact ⟨_, rfl⟩
        | _ => simp [tupK] at k1
      obtain ⟨e1, e2, e3⟩ := q1
      rw [ha] at e1
      refine ⟨(nk e.k, a, c.val) :: xs, .cons ⟨rfl, ha, e3⟩ h1, ?_⟩
      rw [List.map_cons, ← h2]
      congr 1
      cases c
      dsimp only at e1 e2 e3 ⊢
      unfold entryOfKey
      rw [show _ = Value.ref a from e1, e2]
      rfl
theorem fromT {P : Program} {w : World} {es : List En} {xs : List (NestedKey × Addr × Value)} (q : Paired TV es xs) : Paired (EnIs w) es (xs.map (entryOfKey (nestedKind P w))) := by
  induction q with
  | nil => exact .nil
  | cons q _ ih =>
    refine .cons ⟨?_, ?_, q.2.2⟩ ih
    · rw [q.2.1]; rfl
    · show (nestedKind P w).hash _ = _; rw [q.1]; rfl
theorem keysT {kvs : List (A × D)} {es : List En} {xs : List (NestedKey × Addr × Value)} (r : RelEs G ρ H kvs es) (q : Paired TV es xs) : xs.map (·.1) = kvs.map fun x => nk x.1 := by
  induction r generalizing xs with
  | nil => cases q; rfl
  | cons _ _ _ ih =>
    cases q with
    | cons q1 q2 => rw [List.map_cons, List.map_cons, ih q2, q1.1]
theorem atKey_cons {K : Type} [DecidableEq K] (x : K × Addr × Value) (xs : List (K × Addr × Value)) (k : K) : atKey (x :: xs) k = if x.1 = k then some x.2 else atKey xs k := by
  unfold atKey
  by_cases e : x.1 = k
  · simp [e]
  · simp [e]
theorem getT {kvs : List (A × D)} {es : List En} {xs : List (NestedKey × Addr × Value)} {k : A} (r : RelEs G ρ H kvs es) (q : Paired TV es xs) (hk : k.noFn = true) (ht : kindT kvs = true) :
    (∀ d, dget k kvs = some d → ∃ p v, atKey xs (nk k) = some p ∧ RelD G ρ H d v ∧ RelV v p.2) ∧ (dget k kvs = none → atKey xs (nk k) = none) := by
  induction r generalizing xs with
  | nil => cases q; exact ⟨fun d e => by simp [dget] at e, fun _ => rfl⟩
  | @cons e x kvs es r1 r2 r3 ih =>
    cases q with
    | @cons _ y _ xs q1 q2 =>
      obtain ⟨k1, k2⟩ := kindT_cons.mp ht
      have ih := ih q2 k2
      rw [atKey_cons, q1.1]
      unfold dget
      by_cases z : A.keq e.k k = true
      · rw [if_pos z, if_pos ((keq_dec (tupK_noFn k1) hk).mp z)]
        exact ⟨fun d e2 => by cases e2; exact ⟨y.2, _, rfl, r2, q1.2.2⟩, fun e2 => by cases e2⟩
      · rw [if_neg z, if_neg (fun z2 => z ((keq_dec (tupK_noFn k1) hk).mpr z2))]
        exact ih
theorem setT {kvs : List (A × D)} {es : List En} {xs : List (NestedKey × Addr × Value)} {k : A} {d : D} {v : V} {u : Value} (r : RelEs G ρ H kvs es) (q : Paired TV es xs) (hk : k.noFn = true) (ht : kindT kvs = true) (rd : RelD G ρ H d v) (ru : RelV v u) :
    ∃ es', RelEs G ρ H (dset k d kvs) es' ∧ Paired TV es' (xs.map (putAt (nk k) u)) := by
  induction r generalizing xs with
  | nil => cases q; exact ⟨[], .nil, .nil⟩
  | @cons e x kvs es r1 r2 r3 ih =>
    cases q with
    | @cons _ y _ xs q1 q2 =>
      obtain ⟨k1, k2⟩ := kindT_cons.mp ht
      obtain ⟨es', h1, h2⟩ := ih q2 k2
      unfold dset
      rw [List.map_cons]
      by_cases z : A.keq e.k k = true
      · rw [if_pos z]
        refine ⟨⟨e.k, e.kv, v⟩ :: es', .cons (e := ⟨e.k, e.kv, v⟩) r1 rd h1, .cons ?_ h2⟩
        unfold putAt
        rw [if_pos (by rw [q1.1]; exact (keq_dec (tupK_noFn k1) hk).mp z)]
        exact ⟨q1.1, q1.2.1, ru⟩
      · rw [if_neg z]
        refine ⟨e :: es', .cons r1 r2 h1, .cons ?_ h2⟩
        unfold putAt
        rw [if_neg (by rw [q1.1]; exact fun z2 => z ((keq_dec (tupK_noFn k1) hk).mpr z2))]
        exact q1
theorem kindT_dset {k : A} {d : D} : ∀ {kvs : List (A × D)}, kindT (dset k d kvs) = kindT kvs
  | [] => rfl
  | p :: r => by
    unfold dset kindT
    rw [List.all_cons, List.all_cons]
    congr 1
    · split <;> rfl
    · exact kindT_dset (kvs := r)
theorem kindL_dset {k : A} {d : D} : ∀ {kvs : List (A × D)}, kindL (dset k d kvs) = kindL kvs
  | [] => rfl
  | p :: r => by
    unfold dset kindL
    rw [List.all_cons, List.all_cons]
    congr 1
    · split <;> rfl
    · exact kindL_dset (kvs := r)
theorem kindT_dput {k : A} {d : D} {kvs : List (A × D)} (h : tupK k = true) (ht : kindT kvs = true) : kindT (dput k d kvs) = true := by
  unfold dput
  split
  · rw [kindT_dset]; exact ht
  · unfold kindT at ht ⊢; rw [List.all_append, ht]; simp [h]
theorem kindL_dput {k : A} {d : D} {kvs : List (A × D)} (h : leafK k = true) (ht : kindL kvs = true) : kindL (dput k d kvs) = true := by
  unfold dput
  split
  · rw [kindL_dset]; exact ht
  · unfold kindL at ht ⊢; rw [List.all_append, ht]; simp [h]
theorem dset_len {k : A} {d : D} : ∀ {kvs : List (A × D)}, (dset k d kvs).length = kvs.length
  | [] => rfl
  | p :: r => by unfold dset; simp [dset_len (kvs := r)]
theorem dput_len {k : A} {d : D} {kvs : List (A × D)} : (dput k d kvs).length ≤ kvs.length + 1 := by
  unfold dput
  split
  · rw [dset_len]; omega
  · simp
theorem putT {kvs : List (A × D)} {es : List En} {xs : List (NestedKey × Addr × Value)} {k : A} {d : D} {a : Addr} {v : V} {u : Value} (r : RelEs G ρ H kvs es) (q : Paired TV es xs) (hk : k.noFn = true) (ht : kindT kvs = true) (rk : RelA G H k (.ref a)) (rd : RelD G ρ H d v) (ru : RelV v u) :
    ∃ es', RelEs G ρ H (dput k d kvs) es' ∧ Paired TV es' (storedH xs (nk k) a u) := by
  obtain ⟨g1, g2⟩ := getT (k := k) r q hk ht
  unfold dput storedH
  cases e : dget k kvs with
  | some d0 =>
    obtain ⟨p, _, h1, _⟩ := g1 d0 e
    simp only [h1, Option.isSome_some, if_true]
    exact setT r q hk ht rd ru
  | none =>
    simp only [g2 e, Option.isSome_none, Bool.false_eq_true, if_false]
    exact ⟨es ++ [⟨k, .ref a, v⟩], r.snoc (e := ⟨k, .ref a, v⟩) rk rd, Paired.snoc q ⟨rfl, rfl, ru⟩⟩
/-! ### keys that are numbers or texts -/
abbrev LV (e : En) (x : Key × Value) : Prop := leafK e.k = true ∧ x.1 = lk e.k ∧ e.kv = kV x.1 ∧ RelV e.v x.2
theorem hashL (w : World) {k : A} (h : leafK k = true) : (nk k).hash w = keyH w (lk k) := by cases k <;> simp [leafK] at h <;> rfl
theorem toL {P : Program} {w : World} {es : List En} {qs : List DictEntry} {kvs : List (A × D)} (r : RelEs G ρ H kvs es) (q : Paired (EnIs w) es qs) (k : kindL kvs = true) :
    ∃ vs, Paired LV es vs ∧ Pairs (mixKind P w) qs vs ∧ ∀ e ∈ qs, ∃ k, (mixKind P w).is k e.key = true ∧ e.hash = (mixKind P w).hash k := by
  induction r generalizing qs with
  | nil => cases q; exact ⟨[], .nil, .nil, fun e he => by cases he⟩
  | @cons e x kvs es r1 r2 r3 ih =>
    cases q with
    | @cons _ c _ qs q1 q2 =>
      obtain ⟨k1, k2⟩ := kindL_cons.mp k
      obtain ⟨vs, h1, h2, h3⟩ := ih q2 k2
      have ek := leafK_key k1 r1
      obtain ⟨e1, e2, e3⟩ := q1
      rw [ek] at e1
      have is := kV_is (P := P) (w := w) e1
      refine ⟨(lk e.k, c.val) :: vs, .cons ⟨k1, rfl, ek, e3⟩ h1, .cons is rfl h2, fun e' he => ?_⟩
      rcases List.mem_cons.mp he with rfl | he
      · exact ⟨lk e.k, is, by rw [e2, hashL w k1]; rfl⟩
      · exact h3 e' he
theorem fromL {P : Program} {w : World} {es : List En} {qs : List DictEntry} {vs : List (Key × Value)} (q : Paired LV es vs) (p : Pairs (mixKind P w) qs vs) (kk : ∀ e ∈ qs, ∃ k, (mixKind P w).is k e.key = true ∧ e.hash = (mixKind P w).hash k) : Paired (EnIs w) es qs := by
  induction q generalizing qs with
  | nil => cases p; exact .nil
  | @cons e x es vs q1 q2 ih =>
    cases p with
    | @cons c _ qs _ p1 p2 p3 =>
      refine .cons ⟨?_, ?_, ?_⟩ (ih p3 fun e he => kk e (List.mem_cons_of_mem _ he))
      · rw [q1.2.2.1]; exact relV_key p1
      · obtain ⟨k', k1, k2⟩ := kk c List.mem_cons_self
        have := (mixKind P w).inj _ _ _ k1 p1
        subst this
        rw [k2, hashL w q1.1, ← q1.2.1]
        rfl
      · rw [p2]; exact q1.2.2.2
theorem keysL {kvs : List (A × D)} {es : List En} {vs : List (Key × Value)} (r : RelEs G ρ H kvs es) (q : Paired LV es vs) : vs.map (·.1) = kvs.map fun x => lk x.1 := by
  induction r generalizing vs with
  | nil => cases q; rfl
  | cons _ _ _ ih =>
    cases q with
    | cons q1 q2 => rw [List.map_cons, List.map_cons, ih q2, q1.2.1]
theorem lk_nodup {kvs : List (A × D)} (h : kindL kvs = true) : (kvs.map fun x => nk x.1).Nodup ↔ (kvs.map fun x => lk x.1).Nodup := by
  induction kvs with
  | nil => simp
  | cons p r ih =>
    obtain ⟨k1, k2⟩ := kindL_cons.mp h
    rw [List.map_cons, List.map_cons, List.nodup_cons, List.nodup_cons, ih k2]
    have : nk p.1 ∈ r.map (fun x => nk x.1) ↔ lk p.1 ∈ r.map fun x => lk x.1 := by
      rw [List.mem_map, List.mem_map]
      constructor
      · rintro ⟨x, hx, e⟩
        exact ⟨x, hx, (lk_nk (kindL_all k2 x hx) k1).mp e⟩
      · rintro ⟨x, hx, e⟩
        exact ⟨x, hx, (lk_nk (kindL_all k2 x hx) k1).mpr e⟩
    rw [this]
theorem valueAt_cons {K : Type} [DecidableEq K] (x : K × Value) (xs : List (K × Value)) (k : K) : valueAt (x :: xs) k = if x.1 = k then some x.2 else valueAt xs k := by
  unfold valueAt
  by_cases e : x.1 = k
  · simp [e]
  · simp [e]
theorem getL {kvs : List (A × D)} {es : List En} {vs : List (Key × Value)} {k : A} (r : RelEs G ρ H kvs es) (q : Paired LV es vs) (hk : leafK k = true) :
    (∀ d, dget k kvs = some d → ∃ u v, valueAt vs (lk k) = some u ∧ RelD G ρ H d v ∧ RelV v u) ∧ (dget k kvs = none → valueAt vs (lk k) = none) := by
  induction r generalizing vs with
  | nil => cases q; exact ⟨fun d e => by simp [dget] at e, fun _ => rfl⟩
  | @cons e x kvs es r1 r2 r3 ih =>
    cases q with
    | @cons _ y _ xs q1 q2 =>
      have ih := ih q2
      have kk : (A.keq e.k k = true) ↔ lk e.k = lk k := (keq_dec (leafK_noFn q1.1) (leafK_noFn hk)).trans (lk_nk q1.1 hk)
      rw [valueAt_cons, q1.2.1]
      unfold dget
      by_cases z : A.keq e.k k = true
      · rw [if_pos z, if_pos (kk.mp z)]
        exact ⟨fun d e2 => by cases e2; exact ⟨y.2, _, rfl, r2, q1.2.2.2⟩, fun e2 => by cases e2⟩
      · rw [if_neg z, if_neg (fun z2 => z (kk.mpr z2))]
        exact ih
theorem setL {kvs : List (A × D)} {es : List En} {vs : List (Key × Value)} {k : A} {d : D} {v : V} {u : Value} (r : RelEs G ρ H kvs es) (q : Paired LV es vs) (hk : leafK k = true) (rd : RelD G ρ H d v) (ru : RelV v u) :
    ∃ es', RelEs G ρ H (dset k d kvs) es' ∧ Paired LV es' (vs.map fun kv => if kv.1 = lk k then (kv.1, u) else kv) := by
  induction r generalizing vs with
  | nil => cases q; exact ⟨[], .nil, .nil⟩
  | @cons e x kvs es r1 r2 r3 ih =>
    cases q with
    | @cons _ y _ xs q1 q2 =>
      have kk : (A.keq e.k k = true) ↔ lk e.k = lk k := (keq_dec (leafK_noFn q1.1) (leafK_noFn hk)).trans (lk_nk q1.1 hk)
      obtain ⟨es', h1, h2⟩ := ih q2
      unfold dset
      rw [List.map_cons]
      by_cases z : A.keq e.k k = true
      · rw [if_pos z]
        refine ⟨⟨e.k, e.kv, v⟩ :: es', .cons (e := ⟨e.k, e.kv, v⟩) r1 rd h1, .cons ?_ h2⟩
        rw [if_pos (by rw [q1.2.1]; exact kk.mp z)]
        exact ⟨q1.1, q1.2.1, q1.2.2.1, ru⟩
      · rw [if_neg z]
        refine ⟨e :: es', .cons r1 r2 h1, .cons ?_ h2⟩
        rw [if_neg (by rw [q1.2.1]; exact fun z2 => z (kk.mpr z2))]
        exact q1
theorem any_valueAt {K : Type} [DecidableEq K] (k : K) : ∀ vs : List (K × Value), (vs.any fun kv => decide (kv.1 = k)) = (valueAt vs k).isSome
  | [] => rfl
  | x :: xs => by
    rw [List.any_cons, any_valueAt k xs, valueAt_cons]
    by_cases e : x.1 = k
    · simp [e]
    · simp [e]
theorem putL {kvs : List (A × D)} {es : List En} {vs : List (Key × Value)} {k : A} {d : D} {y v : V} {u : Value} (r : RelEs G ρ H kvs es) (q : Paired LV es vs) (hk : leafK k = true) (rk : RelA G H k y) (rd : RelD G ρ H d v) (ru : RelV v u) :
    ∃ es', RelEs G ρ H (dput k d kvs) es' ∧ Paired LV es' (stored vs (lk k) u) := by
  obtain ⟨g1, g2⟩ := getL (k := k) r q hk
  unfold dput stored
  rw [any_valueAt]
  cases e : dget k kvs with
  | some d0 =>
    obtain ⟨p, _, h1, _⟩ := g1 d0 e
    simp only [h1, Option.isSome_some, if_true]
    exact setL r q hk rd ru
  | none =>
    simp only [g2 e, Option.isSome_none, Bool.false_eq_true, if_false]
    refine ⟨es ++ [⟨k, y, v⟩], r.snoc (e := ⟨k, y, v⟩) rk rd, Paired.snoc q ⟨hk, rfl, leafK_key hk rk, ru⟩⟩
/-! ### where the dict stands -/
theorem atD_p (I : Inv X pins σ H s) (hw : X.w = G.w) {p : Addr} {z : Bool} {es : List En} (a : AtD G.w H p z es) : DctP X.w p es s.heap := by
  rw [hw]
  cases z with
  | false => exact (I.hok p _ a).1
  | true => obtain ⟨o, e⟩ := a; exact (I.hok p _ e).2.1
theorem viewT (I : Inv X pins σ H s) (hK : X.K = G.K) (hw : X.w = G.w) {p : Addr} {z : Bool} {es : List En} {kvs : List (A × D)} (a : AtD G.w H p z es) (r : RelEs G ρ H kvs es) (nd : (kvs.map fun x => nk x.1).Nodup) (ht : kindT kvs = true) :
    ∃ xs, Paired TV es xs ∧ s.heap.DictOfH (nestedKind X.prog X.w) p xs := by
  obtain ⟨o, qs, ep, h1, h2, h3, h4⟩ := atD_p I hw a
  obtain ⟨xs, h5, h6⟩ := toT (P := X.prog) r h4 ht
  refine ⟨xs, h5, o, qs, ep, h1, h2, h3, h6, ?_, by rw [keysT r h5]; exact nd⟩
  clear h6 h4 a nd
  induction r generalizing xs with
  | nil => cases h5; exact fun x hx => by cases hx
  | @cons e x kvs es r1 r2 r3 ih =>
    cases h5 with
    | @cons _ y _ xs q1 q2 =>
      obtain ⟨k1, k2⟩ := kindT_cons.mp ht
      intro x hx
      rcases List.mem_cons.mp hx with rfl | hx
      · obtain ⟨a, e1, e2, e3⟩ := tupK_key I hK (u := .ref x.2.1) k1 r1 (by rw [q1.2.1]; rfl)
        cases e2
        rw [q1.1]
        exact e3
      · exact ih k2 _ q2 x hx
theorem viewL (I : Inv X pins σ H s) (hw : X.w = G.w) {p : Addr} {z : Bool} {es : List En} {kvs : List (A × D)} (a : AtD G.w H p z es) (r : RelEs G ρ H kvs es) (nd : (kvs.map fun x => nk x.1).Nodup) (ht : kindL kvs = true) :
    ∃ vs, Paired LV es vs ∧ s.heap.DictOf (mixKind X.prog X.w) p vs := by
  obtain ⟨o, qs, ep, h1, h2, h3, h4⟩ := atD_p I hw a
  obtain ⟨vs, h5, h6, h7⟩ := toL (P := X.prog) r h4 ht
  exact ⟨vs, h5, o, qs, ep, h1, h2, h3, fun e he => h7 e (by simpa using he), h6, by rw [keysL r h5]; exact (lk_nodup ht).mp nd⟩
theorem dctP_T {w : World} {P : Program} {p : Addr} {es : List En} {xs : List (NestedKey × Addr × Value)} {hh : Heap} (q : Paired TV es xs) (d : hh.DictOfH (nestedKind P w) p xs) : DctP w p es hh := by
  obtain ⟨o, qs, ep, h1, h2, h3, h4, _⟩ := d
  exact ⟨o, qs, ep, h1, h2, h3, by rw [h4]; exact fromT q⟩
theorem dctP_L {w : World} {P : Program} {p : Addr} {es : List En} {xs : List (Key × Value)} {hh : Heap} (q : Paired LV es xs) (d : hh.DictOf (mixKind P w) p xs) : DctP w p es hh := by
  obtain ⟨o, qs, ep, h1, h2, h3, h4, h5, _⟩ := d
  exact ⟨o, qs, ep, h1, h2, h3, fromL q h5 fun e he => h4 e (by simpa using he)⟩
theorem dctO_ok {w : World} {P : Program} {p : Addr} {es : List En} {H : Hp} {hh : Heap} (d : DctP w p es hh) : ObjOk P w H hh p (DctO w p es) := by
  obtain ⟨o, qs, ep, h1, r⟩ := id d
  exact ⟨d, ⟨o, h1⟩, fun h1 h2 ⟨o, qs, ep, e, r⟩ k => ⟨o, qs, ep, k o e, r⟩⟩
theorem dct_ty {w : World} {p : Addr} {es : List En} {hh : Heap} (d : DctP w p es hh) : ∃ o, hh.get? p = some o ∧ o.cls = .type "dict" ∧ o.dict = none := by
  obtain ⟨o, qs, ep, h1, h2, _⟩ := d
  exact ⟨o, h1, h2.1, h2.2.1⟩
end
end EV

set_option Elab.async false
set_option linter.all false
set_option maxRecDepth 100000
set_option maxHeartbeats 1000000
/-! EvDb: the operations of dicts, walked. -/
namespace EV
open PySem PySem.Spec PyProof.Rows L2
section
variable {prog : Program} {w : World} {A : Around} {E : Value → Shared → Prop} {s : Shared} {a b : Addr} {es es' : Array DictEntry} {ep ep' : Nat}
/-- two dicts of unlike lengths, or empty ones -/
theorem samePairs0 {nm : String} {Q : Bool → Shared → Prop} (ha : (a == sysModules) = false) (hb : (b == sysModules) = false) (da : s.heap.DictRaw a es ep) (db : s.heap.DictRaw b es' ep') (h0 : es.size = es'.size → es.size = 0) (h : Q (es.size == es'.size) s) :
    wpAny (model prog w) A (Builtin.Dict.samePairs nm a b) Q E s := by
  obtain ⟨oa, hoa, _, hda⟩ := da
  obtain ⟨ob, hob, _, hdb⟩ := db
  unfold Builtin.Dict.samePairs Builtin.Dict.showsAll
  rw [if_neg (show ¬ (a == sysModules) = true by rw [ha]; exact Bool.false_ne_true), if_neg (show ¬ (b == sysModules) = true by rw [hb]; exact Bool.false_ne_true)]
  refine wpAny_bind (wpAny_pure (wpAny_bind (wpAny_pure ?_)))
  refine wpAny_bind (wpAny_dictEntries hoa hda ?_)
  dsimp only
  refine wpAny_bind (wpAny_dictEntries hob hdb ?_)
  by_cases hsz : es.size = es'.size
  case neg =>
    rw [if_pos (by simpa using hsz)]
    have hbf : (es.size == es'.size) = false := by simpa using hsz
    rw [hbf] at h
    exact wpAny_bind (wpAny_rule (wpAny_pure h))
  case pos =>
    have z := h0 hsz
    have h' : Q true s := by simpa [hsz] using h
    rw [if_neg (by rw [hsz]; simp)]
    refine wpAny_bind (wpAny_dictEpoch hoa hda ?_)
    refine wpAny_bind ?_
    rw [Std.Legacy.Range.forIn_eq_forIn_range']
    simp only [Std.Legacy.Range.size, Nat.sub_zero, Nat.add_sub_cancel, Nat.div_one]
    rw [z]
    exact wpAny_pure (wpAny_pure h')
theorem eq0 {Q : Value → Shared → Prop} (ha : (a == sysModules) = false) (hb : (b == sysModules) = false) (da : s.heap.DictRaw a es ep) (db : s.heap.DictRaw b es' ep') (hu : A.units < cLine) (h0 : es.size = es'.size → es.size = 0) (h : Q (.bool (es.size == es'.size)) s) :
    wpAny (model prog w) A (compareOp .Eq (.ref a) (.ref b)) Q E s := by
  refine wpAny_richCompare_same_room (op := .Eq) da.typeIs db.typeIs PySem.F.slot_dict_eq (wpAny_call_entry PySem.F.slot_dict_eq da.typeIs PySem.F.entry_dict_eq ?_ (PySem.F.args_dict_eq_2 _ _)) hu
  show wpAny _ _ (Builtin.Dict.dictSlotArgs "__eq__" ⟨[.ref a, .ref b], []⟩ >>= _) _ _ s
  refine wpAny_bind ?_
  unfold Builtin.Dict.dictSlotArgs
  refine wpAny_bind (wpAny_notOrdered_dict da.typeIs ?_)
  show wpAny _ _ (pure (Value.ref a, Value.ref b)) _ _ s
  refine wpAny_pure ?_
  refine wpAny_bind (wpAny_isInstance (T := "dict") db.typeIs PySem.F.sub_dict_dict ?_)
  simp only [Bool.not_true, Bool.false_eq_true, if_false]
  refine wpAny_bind (wpAny_pure (wpAny_bind (wpAny_pure ?_)))
  refine wpAny_bind (samePairs0 ha hb da db h0 ?_)
  refine wpAny_pure ⟨_, rfl, ?_, ?_⟩
  · exact fun x => nomatch x
  · simpa using h
theorem ne0 {Q : Value → Shared → Prop} (ha : (a == sysModules) = false) (hb : (b == sysModules) = false) (da : s.heap.DictRaw a es ep) (db : s.heap.DictRaw b es' ep') (hu : A.units < cLine) (h0 : es.size = es'.size → es.size = 0) (h : Q (.bool (!(es.size == es'.size))) s) :
    wpAny (model prog w) A (compareOp .NotEq (.ref a) (.ref b)) Q E s := by
  refine wpAny_richCompare_same_room (op := .NotEq) da.typeIs db.typeIs PySem.F.slot_dict_ne (wpAny_call_entry PySem.F.slot_dict_ne da.typeIs PySem.F.entry_dict_ne ?_ (PySem.F.args_dict_ne_2 _ _)) hu
  show wpAny _ _ (Builtin.Dict.dictSlotArgs "__ne__" ⟨[.ref a, .ref b], []⟩ >>= _) _ _ s
  refine wpAny_bind ?_
  unfold Builtin.Dict.dictSlotArgs
  refine wpAny_bind (wpAny_notOrdered_dict da.typeIs ?_)
  show wpAny _ _ (pure (Value.ref a, Value.ref b)) _ _ s
  refine wpAny_pure ?_
  refine wpAny_bind (wpAny_isInstance (T := "dict") db.typeIs PySem.F.sub_dict_dict ?_)
  simp only [Bool.not_true, Bool.false_eq_true, if_false]
  refine wpAny_bind (wpAny_pure (wpAny_bind (wpAny_pure ?_)))
  refine wpAny_bind (samePairs0 ha hb da db h0 ?_)
  refine wpAny_pure ⟨_, rfl, ?_, ?_⟩
  · exact fun x => nomatch x
  · simpa using h
end
section
variable {G : Glo} {ρ ρ' ρ'' : List Addr} {H H' H'' : Hp} {h h' : Hea} {X : Cx} {pins : List (Addr × PySem.Obj)} {σ : L2.St} {s : Shared}
/-- a dict of the heap's own -/
structure IsDct (G : Glo) (ρ : List Addr) (H : Hp) (h : Hea) (d : D) (x : V) (n : Nat) (z : Bool) (kvs : List (A × D)) (p : Addr) (es : List En) : Prop where
  d : d = .ref n
  x : x = .ref p
  r : ρ[n]? = some p
  o : h[n]? = some (.dct z kvs)
  a : AtD G.w H p z es
  e : RelEs G ρ H kvs es
  l : kvs.length ≤ SZ
  m : (p == sysModules) = false
  nd : (kvs.map fun x => nk x.1).Nodup
theorem asDct_rel {d : D} {x : V} {n : Nat} {z : Bool} {kvs : List (A × D)} (r : RelH G ρ H h) (e : asDct h d = some (n, z, kvs)) (rd : RelD G ρ H d x) : ∃ p es, IsDct G ρ H h d x n z kvs p es := by
  cases rd with
  | ref q =>
    rename_i m p
    unfold asDct at e
    dsimp only at e
    split at e
    · rename_i f ks h1
      cases e
      obtain ⟨es, a, b, c, d, f⟩ := r.ob _ _ p h1 q
      exact ⟨p, es, rfl, rfl, q, h1, a, b, c, d, f⟩
    · cases e
  | _ => simp [asDct] at e
theorem IsDct.raw {d : D} {x : V} {n : Nat} {z : Bool} {kvs : List (A × D)} {p : Addr} {es : List En} (i : IsDct G ρ H h d x n z kvs p es) (I : Inv X pins σ H s) (hw : X.w = G.w) : ∃ qs ep, s.heap.DictRaw p qs ep ∧ qs.size = kvs.length := by
  obtain ⟨o, qs, ep, h1, h2, h3, h4⟩ := atD_p I hw i.a
  refine ⟨qs, ep, ⟨o, h1, h2, h3⟩, ?_⟩
  have := Paired.length h4
  rw [i.e.len, this, Array.length_toList]
theorem room9 {A : Around} (hu : A.units + 10 < cLine) : A.in1.units + 8 < cLine := by
  show A.units + 1 + 8 < cLine
  omega
theorem sz63 {n : Nat} (h : n ≤ SZ) : ((n : Nat) : Int) < 2 ^ 63 := by
  unfold SZ at h
  omega
theorem szS {n : Nat} (h : n ≤ SZ) : n ≤ sizeLine := by rw [← szlE]; exact h
where szlE : (SZ : Nat) = sizeLine := by rw [sizeLine_eq]; rfl
/-- where the key leads -/
inductive KV2 (P : Program) (w : World) (G : Glo) (ρ : List Addr) (H : Hp) (hh : Heap) (p : Addr) (kvs : List (A × D)) (es : List En) (k : A) (u : Value) : Prop
  | t {xs : List (NestedKey × Addr × Value)} {a : Addr} : tupK k = true → kindT kvs = true → Paired TV es xs → hh.DictOfH (nestedKind P w) p xs → u = .ref a → (nestedKind P w).is hh (nk k) a → KV2 P w G ρ H hh p kvs es k u
  | l {vs : List (Key × Value)} : leafK k = true → kindL kvs = true → Paired LV es vs → hh.DictOf (mixKind P w) p vs → RelV (kV (lk k)) u → KV2 P w G ρ H hh p kvs es k u
theorem IsDct.view {d : D} {x : V} {n : Nat} {z : Bool} {kvs : List (A × D)} {p : Addr} {es : List En} {k : A} {y : V} {u : Value} (i : IsDct G ρ H h d x n z kvs p es) (I : Inv X pins σ H s) (hK : X.K = G.K) (hw : X.w = G.w) (ko : kindOk k kvs = true) (rk : RelA G H k y) (ry : RelV y u) :
    KV2 X.prog X.w G ρ H s.heap p kvs es k u := by
  unfold kindOk at ko
  rw [Bool.or_eq_true, Bool.and_eq_true, Bool.and_eq_true] at ko
  rcases ko with ⟨k1, k2⟩ | ⟨k1, k2⟩
  · obtain ⟨xs, q1, q2⟩ := viewT I hK hw i.a i.e i.nd k2
    obtain ⟨a, rfl, rfl, key⟩ := tupK_key I hK k1 rk ry
    exact .t k1 k2 q1 q2 rfl key
  · obtain ⟨vs, q1, q2⟩ := viewL I hw i.a i.e i.nd k2
    exact .l k1 k2 q1 q2 (by rw [← leafK_key k1 rk]; exact ry)
variable {A : Around} {E : Value → Shared → Prop} {d : D} {x y : V} {u : Value} {n : Nat} {z : Bool} {kvs : List (EV.A × D)} {p : Addr} {es : List En} {k : EV.A}
theorem dx_item {Q : Value → Shared → Prop} {v0 : D} (hu : A.units + 10 < cLine) (i : IsDct G ρ H h d x n z kvs p es) (I : Inv X pins σ H s) (hK : X.K = G.K) (hw : X.w = G.w) (ko : kindOk k kvs = true) (rk : RelA G H k y) (ry : RelV y u) (e : dget k kvs = some v0)
    (q : ∀ v w' s', Inv X pins σ H s' → RelD G ρ H v0 v → RelV v w' → Q w' s') : wpAny (model X.prog X.w) A (getItem (.ref p) u) Q E s := by
  cases i.view I hK hw ko rk ry with
  | t k1 k2 q1 q2 e1 key =>
    subst e1
    obtain ⟨pp, v, h1, h2, h3⟩ := (getT (k := k) i.e q1 (tupK_noFn k1) k2).1 v0 e
    exact wpAny_getItem_heap (room9 hu) key q2 h1 (q v _ _ (I.tok _) h2 h3)
  | l k1 k2 q1 q2 r =>
    obtain ⟨pp, v, h1, h2, h3⟩ := (getL (k := k) i.e q1 k1).1 v0 e
    exact wpAny_getItem_of (kV_is r) q2.mapOf h1 (q v _ _ (I.tok _) h2 h3)
theorem dx_in {Q : Value → Shared → Prop} (hu : A.units + 10 < cLine) (i : IsDct G ρ H h d x n z kvs p es) (I : Inv X pins σ H s) (hK : X.K = G.K) (hw : X.w = G.w) (ko : kindOk k kvs = true) (rk : RelA G H k y) (ry : RelV y u)
    (q : ∀ s', Inv X pins σ H s' → Q (.bool (dget k kvs).isSome) s') : wpAny (model X.prog X.w) A (compareOp .In u (.ref p)) Q E s := by
  cases i.view I hK hw ko rk ry with
  | t k1 k2 q1 q2 e1 key =>
    subst e1
    have g := getT (k := k) i.e q1 (tupK_noFn k1) k2
    refine wpAny_in_heap (room9 hu) key i.m q2 ?_
    cases e : dget k kvs with
    | none => rw [g.2 e]; rw [e] at q; exact q _ (I.tok _)
    | some v0 => obtain ⟨pp, v, h1, _⟩ := g.1 v0 e; rw [h1]; rw [e] at q; exact q _ (I.tok _)
  | l k1 k2 q1 q2 r =>
    have g := getL (k := k) i.e q1 k1
    refine wpAny_in_of (kV_is r) i.m q2.mapOf ?_
    cases e : dget k kvs with
    | none => rw [g.2 e]; rw [e] at q; exact q _ (I.tok _)
    | some v0 => obtain ⟨pp, v, h1, _⟩ := g.1 v0 e; rw [h1]; rw [e] at q; exact q _ (I.tok _)
theorem dx_notIn {Q : Value → Shared → Prop} (hu : A.units + 10 < cLine) (i : IsDct G ρ H h d x n z kvs p es) (I : Inv X pins σ H s) (hK : X.K = G.K) (hw : X.w = G.w) (ko : kindOk k kvs = true) (rk : RelA G H k y) (ry : RelV y u)
    (q : ∀ s', Inv X pins σ H s' → Q (.bool (!(dget k kvs).isSome)) s') : wpAny (model X.prog X.w) A (compareOp .NotIn u (.ref p)) Q E s := by
  cases i.view I hK hw ko rk ry with
  | t k1 k2 q1 q2 e1 key =>
    subst e1
    have g := getT (k := k) i.e q1 (tupK_noFn k1) k2
    refine wpAny_notIn_heap (room9 hu) key i.m q2 ?_
    cases e : dget k kvs with
    | none => rw [g.2 e]; rw [e] at q; exact q _ (I.tok _)
    | some v0 => obtain ⟨pp, v, h1, _⟩ := g.1 v0 e; rw [h1]; rw [e] at q; exact q _ (I.tok _)
  | l k1 k2 q1 q2 r =>
    have g := getL (k := k) i.e q1 k1
    refine wpAny_notIn_of (kV_is r) i.m q2.mapOf ?_
    cases e : dget k kvs with
    | none => rw [g.2 e]; rw [e] at q; exact q _ (I.tok _)
    | some v0 => obtain ⟨pp, v, h1, _⟩ := g.1 v0 e; rw [h1]; rw [e] at q; exact q _ (I.tok _)
theorem dx_get1 {Q : Value → Shared → Prop} (hu : A.units + 10 < cLine) (i : IsDct G ρ H h d x n z kvs p es) (I : Inv X pins σ H s) (hK : X.K = G.K) (hw : X.w = G.w) (ko : kindOk k kvs = true) (rk : RelA G H k y) (ry : RelV y u)
    (q : ∀ v w' s', Inv X pins σ H s' → RelD G ρ H ((dget k kvs).getD .non) v → RelV v w' → Q w' s') : wpAny (model X.prog X.w) A (call (.builtin "dict.get") [.ref p, u]) Q E s := by
  cases i.view I hK hw ko rk ry with
  | t k1 k2 q1 q2 e1 key =>
    subst e1
    have g := getT (k := k) i.e q1 (tupK_noFn k1) k2
    refine call_meetsIn PySem.F.slot_dict_get q2.typeIs PySem.F.entry_dict_get (PySem.F.args_dict_get_2 _ _) (meetsH_dict_get (nestedKind X.prog X.w) p _ i.m) ⟨room9 hu, nk k, _, key, q2, ?_⟩
    cases e : dget k kvs with
    | none => rw [g.2 e]; rw [e] at q; exact q .non _ _ (I.tok _) (.a .non) rfl
    | some v0 => obtain ⟨pp, v, h1, h2, h3⟩ := g.1 v0 e; rw [h1]; rw [e] at q; exact q v _ _ (I.tok _) h2 h3
  | l k1 k2 q1 q2 r =>
    have g := getL (k := k) i.e q1 k1
    refine call_meetsIn PySem.F.slot_dict_get q2.typeIs PySem.F.entry_dict_get (PySem.F.args_dict_get_2 _ _) (meets_dict_get (mixKind X.prog X.w) p (kV_is r) i.m) ⟨_, q2.mapOf, ?_⟩
    cases e : dget k kvs with
    | none => rw [g.2 e]; rw [e] at q; exact q .non _ _ (I.tok _) (.a .non) rfl
    | some v0 => obtain ⟨pp, v, h1, h2, h3⟩ := g.1 v0 e; rw [h1]; rw [e] at q; exact q v _ _ (I.tok _) h2 h3
theorem dx_get2 {Q : Value → Shared → Prop} {f : D} {fv : V} {fu : Value} (hu : A.units + 10 < cLine) (i : IsDct G ρ H h d x n z kvs p es) (I : Inv X pins σ H s) (hK : X.K = G.K) (hw : X.w = G.w) (ko : kindOk k kvs = true) (rk : RelA G H k y) (ry : RelV y u) (rf : RelD G ρ H f fv) (rfu : RelV fv fu)
    (q : ∀ v w' s', Inv X pins σ H s' → RelD G ρ H ((dget k kvs).getD f) v → RelV v w' → Q w' s') : wpAny (model X.prog X.w) A (call (.builtin "dict.get") [.ref p, u, fu]) Q E s := by
  cases i.view I hK hw ko rk ry with
  | t k1 k2 q1 q2 e1 key =>
    subst e1
    have g := getT (k := k) i.e q1 (tupK_noFn k1) k2
    refine call_meetsIn PySem.F.slot_dict_get q2.typeIs PySem.F.entry_dict_get (PySem.F.args_dict_get_3 _ _ _) (meetsH_dict_get_default (nestedKind X.prog X.w) p _ i.m fu) ⟨room9 hu, nk k, _, key, q2, ?_⟩
    cases e : dget k kvs with
    | none => rw [g.2 e]; rw [e] at q; exact q _ _ _ (I.tok _) rf rfu
    | some v0 => obtain ⟨pp, v, h1, h2, h3⟩ := g.1 v0 e; rw [h1]; rw [e] at q; exact q v _ _ (I.tok _) h2 h3
  | l k1 k2 q1 q2 r =>
    have g := getL (k := k) i.e q1 k1
    refine call_meetsIn PySem.F.slot_dict_get q2.typeIs PySem.F.entry_dict_get (PySem.F.args_dict_get_3 _ _ _) (meets_dict_get_default (mixKind X.prog X.w) p (kV_is r) i.m fu) ⟨_, q2.mapOf, ?_⟩
    cases e : dget k kvs with
    | none => rw [g.2 e]; rw [e] at q; exact q _ _ _ (I.tok _) rf rfu
    | some v0 => obtain ⟨pp, v, h1, h2, h3⟩ := g.1 v0 e; rw [h1]; rw [e] at q; exact q v _ _ (I.tok _) h2 h3
/-- the dict's entries are changed -/
theorem IsDct.put (i : IsDct G ρ H h d x n false kvs p es) (I : Inv X pins σ H s) (r : RelH G ρ H h) {kvs' : List (EV.A × D)} {es' : List En} (e' : RelEs G ρ H kvs' es') (l' : kvs'.length ≤ SZ) (nd' : (kvs'.map fun x => nk x.1).Nodup) :
    Ext ρ H ρ (upd H p (DctO G.w p es')) ∧ RelH G ρ (upd H p (DctO G.w p es')) (h.set n (.dct false kvs')) := by
  have mp : p ∈ ρ := List.mem_of_getElem? i.r
  have hp : H p = some (DctO G.w p es) := i.a
  have nf : ¬ Frz (DctO G.w p es) := fun z => z
  have x := Ext.put (o := DctO G.w p es') mp hp nf
  refine ⟨x, r.put i.o i.r hp nf ⟨es', upd_same, e'.kee (x.kee r), l', i.m, nd'⟩ fun c q hc z => ?_⟩
  subst z
  obtain ⟨⟨oc, vs, t, h1, h2, _⟩, _⟩ := I.hok c _ hc
  obtain ⟨⟨o, qs, ep, h3, _, h4, _⟩, _⟩ := I.hok c _ hp
  rw [h1] at h3
  cases h3
  rw [h2] at h4
  cases h4
theorem IsDct.putInv (i : IsDct G ρ H h d x n false kvs p es) (I : Inv X pins σ H s) (hw : X.w = G.w) {es' : List En} {hh : Heap} {tk : Nat} (hs : Heap.SameBut p s.heap hh) (dp : DctP X.w p es' hh) : Inv X pins σ (upd H p (DctO G.w p es')) { s with heap := hh, toks := tk } := by
  have hp : H p = some (DctO G.w p es) := i.a
  obtain ⟨o, qs, ep, h1, _⟩ := id dp
  rw [← hw]
  exact d_write I (by rw [hp]; exact True.intro) hs ⟨o, h1⟩ (dctO_ok dp)
theorem dx_set {Q : Unit → Shared → Prop} {f : D} {fv : V} {fu : Value} (hu : A.units + 10 < cLine) (i : IsDct G ρ H h d x n false kvs p es) (I : Inv X pins σ H s) (r : RelH G ρ H h) (hK : X.K = G.K) (hw : X.w = G.w) (ko : kindOk k kvs = true) (hl : kvs.length < SZ) (rk : RelA G H k y) (ry : RelV y u) (rf : RelD G ρ H f fv) (rfu : RelV fv fu)
    (q : ∀ H' s', Inv X pins σ H' s' → Ext ρ H ρ H' → RelH G ρ H' (h.set n (.dct false (dput k f kvs))) → Q () s') : wpAny (model X.prog X.w) A (setItem (.ref p) u fu) Q E s := by
  have l' : (dput k f kvs).length ≤ SZ := Nat.le_trans dput_len hl
  cases i.view I hK hw ko rk ry with
  | t k1 k2 q1 q2 e1 key =>
    subst e1
    obtain ⟨es', e', t'⟩ := putT (k := k) i.e q1 (tupK_noFn k1) k2 (by cases (show _ = _ from tupR k1 rk ry); exact rk) rf rfu
    refine wpAny_setItem_heap (hsz := by rw [← Paired.length q1, ← i.e.len]; exact szS i.l) (room9 hu) key q2 fun h' dd hs => ?_
    obtain ⟨x, r'⟩ := i.put I r e' l' (by rw [← keysT e' t']; obtain ⟨_, _, _, _, _, _, _, _, nd⟩ := dd; exact nd)
    exact q _ _ (i.putInv I hw hs (dctP_T t' dd)) x r'
  | l k1 k2 q1 q2 rr =>
    obtain ⟨es', e', t'⟩ := putL (k := k) i.e q1 k1 rk rf rfu
    refine wpAny_setItem_pairs (hsz := by rw [← Paired.length q1, ← i.e.len]; exact szS i.l) (kV_is rr) q2 fun h' dd hs => ?_
    obtain ⟨x, r'⟩ := i.put I r e' l' ((lk_nodup (kindL_dput k1 k2)).mpr (by rw [← keysL e' t']; obtain ⟨_, _, _, _, _, _, _, _, nd⟩ := dd; exact nd))
    exact q _ _ (i.putInv I hw hs (dctP_L t' dd)) x r'
where
  tupR {k : EV.A} {y : V} {a : Addr} (k1 : tupK k = true) (rk : RelA G H k y) (ry : RelV y (.ref a)) : y = .ref a := by
    cases rk with
    | tup z _ => cases (show Value.ref a = Value.ref _ from ry); rfl
    | _ => simp [tupK] at k1
theorem dx_setdef {Q : Value → Shared → Prop} {f : D} {fv : V} {fu : Value} (hu : A.units + 10 < cLine) (i : IsDct G ρ H h d x n false kvs p es) (I : Inv X pins σ H s) (r : RelH G ρ H h) (hK : X.K = G.K) (hw : X.w = G.w) (k1 : tupK k = true) (k2 : kindT kvs = true) (hl : kvs.length < SZ) (rk : RelA G H k y) (ry : RelV y u) (rf : RelD G ρ H f fv) (rfu : RelV fv fu)
    (qo : ∀ v0 v w' s', dget k kvs = some v0 → Inv X pins σ H s' → RelD G ρ H v0 v → RelV v w' → Q w' s')
    (qn : dget k kvs = none → ∀ H' s', Inv X pins σ H' s' → Ext ρ H ρ H' → RelH G ρ H' (h.set n (.dct false (dput k f kvs))) → Q fu s') : wpAny (model X.prog X.w) A (call (.builtin "dict.setdefault") [.ref p, u, fu]) Q E s := by
  have l' : (dput k f kvs).length ≤ SZ := Nat.le_trans dput_len hl
  obtain ⟨xs, q1, q2⟩ := viewT I hK hw i.a i.e i.nd k2
  obtain ⟨a, rfl, rfl, key⟩ := tupK_key I hK k1 rk ry
  have g := getT (k := k) i.e q1 (tupK_noFn k1) k2
  obtain ⟨es', e', t'⟩ := putT (k := k) i.e q1 (tupK_noFn k1) k2 rk rf rfu
  refine call_setdefault_heap (hsz := by rw [← Paired.length q1, ← i.e.len]; exact szS i.l) (room9 hu) key i.m q2 (fun pp hp => ?_) fun hn h' dd hs => ?_
  · cases e : dget k kvs with
    | none => rw [g.2 e] at hp; cases hp
    | some v0 =>
      obtain ⟨pp', v, h1, h2, h3⟩ := g.1 v0 e
      rw [h1] at hp
      cases hp
      exact qo v0 v _ _ e (I.tok _) h2 h3
  · cases e : dget k kvs with
    | some v0 => obtain ⟨pp', v, h1, h2, h3⟩ := g.1 v0 e; rw [h1] at hn; cases hn
    | none =>
      obtain ⟨x, r'⟩ := i.put I r e' l' (by rw [← keysT e' t']; obtain ⟨_, _, _, _, _, _, _, _, nd⟩ := dd; exact nd)
      exact qn e _ _ (i.putInv I hw hs (dctP_T t' dd)) x r'
/-! ### update -/
mutual
theorem hz_hash (w : World) : ∀ (x : EV.A) (i : Int), EV.A.hz x = some i → (nk x).hash w = i
  | .non, i, e => by simp only [EV.A.hz, Option.some.injEq] at e; subst e; rfl
  | .bl b, i, e => by simp only [EV.A.hz, Option.some.injEq] at e; subst e; rfl
  | .int j, i, e => by simp only [EV.A.hz, Option.some.injEq] at e; subst e; rfl
  | .str _, i, e => by simp [EV.A.hz] at e
  | .tup xs, i, e => by
    simp only [EV.A.hz] at e
    split at e
    · rename_i hs e1
      cases e
      rw [nk, NestedKey.hash, hzs_hash w xs hs e1]
    · cases e
  | .fn _, i, e => by simp [EV.A.hz] at e
theorem hzs_hash (w : World) : ∀ (xs : List EV.A) (is : List Int), EV.A.hzs xs = some is → NestedKey.hashes w (nks xs) = is
  | [], is, e => by simp only [EV.A.hzs, Option.some.injEq] at e; subst e; rfl
  | x :: xs, is, e => by
    simp only [EV.A.hzs] at e
    split at e
    · rename_i i e1
      split at e
      · rename_i js e2
        cases e
        rw [nks, NestedKey.hashes, hz_hash w x i e1, hzs_hash w xs js e2]
      · cases e
    · cases e
end
theorem notInZ_ok {i : Int} : ∀ {l : List Int}, notInZ i l = true → i ∉ l
  | [], _ => by simp
  | j :: r, e => by
    simp only [notInZ, Bool.and_eq_true, Bool.not_eq_true', decide_eq_false_iff_not] at e
    simp only [List.mem_cons, not_or]
    exact ⟨e.1, notInZ_ok e.2⟩
theorem apartZ_ok : ∀ {l : List Int}, apartZ l = true → l.Nodup
  | [], _ => List.nodup_nil
  | i :: r, e => by
    simp only [apartZ, Bool.and_eq_true] at e
    exact List.nodup_cons.mpr ⟨notInZ_ok e.1, apartZ_ok e.2⟩
theorem hashesApart_ok (w : World) {ks : List EV.A} (e : hashesApart ks = true) : (ks.map fun k => (nk k).hash w).Nodup := by
  unfold hashesApart at e
  split at e
  · rename_i hs e1
    have : (ks.map fun k => (nk k).hash w) = hs := by
      rw [← hzs_hash w ks hs e1]
      clear e e1
      induction ks with
      | nil => rfl
      | cons a r ih => rw [List.map_cons, nks, NestedKey.hashes, ih]
    rw [this]
    exact apartZ_ok e
  · cases e
theorem putsT : ∀ {more : List (EV.A × D)} {ms : List En} {ys : List (NestedKey × Addr × Value)} {kvs : List (EV.A × D)} {es : List En} {xs : List (NestedKey × Addr × Value)}, RelEs G ρ H more ms → Paired TV ms ys → kindT more = true → RelEs G ρ H kvs es → Paired TV es xs → kindT kvs = true →
    ∃ es', RelEs G ρ H (dputs kvs more) es' ∧ Paired TV es' (storedAllH xs ys) := by
  intro more ms ys kvs es xs r
  induction r generalizing ys kvs es xs with
  | nil => intro q _ r2 q2 _; cases q; exact ⟨es, r2, q2⟩
  | @cons e x more ms r1 r2 r3 ih =>
    intro q k r4 q4 k4
    cases q with
    | @cons _ y _ ys q1 q2 =>
      obtain ⟨k1, k2⟩ := kindT_cons.mp k
      obtain ⟨es1, h1, h2⟩ := putT (k := e.k) r4 q4 (tupK_noFn k1) k4 (a := y.2.1) (by rw [← q1.2.1]; exact r1) r2 q1.2.2
      obtain ⟨es2, h3, h4⟩ := ih q2 k2 h1 h2 (kindT_dput k1 k4)
      refine ⟨es2, h3, ?_⟩
      have e1 : storedAllH xs (y :: ys) = storedAllH (storedH xs (nk e.k) y.2.1 y.2.2) ys := by
        show storedAllH (storedH xs y.1 y.2.1 y.2.2) ys = _
        rw [q1.1]
      rw [e1]
      exact h4
theorem dputs_len : ∀ {more kvs : List (EV.A × D)}, (dputs kvs more).length ≤ kvs.length + more.length
  | [], kvs => by unfold dputs; simp
  | p :: r, kvs => by
    unfold dputs
    have h1 := dputs_len (more := r) (kvs := dput p.1 p.2 kvs)
    have h2 := dput_len (k := p.1) (d := p.2) (kvs := kvs)
    simp only [List.length_cons]
    omega
theorem dx_upd {Q : Value → Shared → Prop} {d2 : D} {x2 : V} {n2 : Nat} {z2 : Bool} {more : List (EV.A × D)} {p2 : Addr} {ms : List En} (hu : A.units + 10 < cLine) (i : IsDct G ρ H h d x n false kvs p es) (j : IsDct G ρ H h d2 x2 n2 z2 more p2 ms) (I : Inv X pins σ H s) (r : RelH G ρ H h) (hK : X.K = G.K) (hw : X.w = G.w) (k1 : kindT kvs = true) (k2 : kindT more = true) (hn : n2 ≠ n) (hl : kvs.length + more.length ≤ SZ)
    (ha : kvs.isEmpty = false ∨ hashesApart (more.map (·.1)) = true)
    (q : ∀ H' s', Inv X pins σ H' s' → Ext ρ H ρ H' → RelH G ρ H' (h.set n (.dct false (dputs kvs more))) → Q .none s') : wpAny (model X.prog X.w) A (call (.builtin "dict.update") [.ref p, .ref p2]) Q E s := by
  obtain ⟨xs, q1, q2⟩ := viewT I hK hw i.a i.e i.nd k1
  obtain ⟨ys, q3, q4⟩ := viewT I hK hw j.a j.e j.nd k2
  obtain ⟨es', e', t'⟩ := putsT j.e q3 k2 i.e q1 k1
  have l' : (dputs kvs more).length ≤ SZ := Nat.le_trans dputs_len hl
  have hne : p ≠ p2 := fun e => by
    subst e
    exact hn (ixR r.nd j.r i.r)
  refine call_update_dictH (room9 hu) hne j.m q2 q4 ?_ (by rw [← Paired.length q1, ← Paired.length q3, ← i.e.len, ← j.e.len]; exact szS hl) fun h' dd _ hs => ?_
  · rcases ha with ha | ha
    · refine .inl fun e => ?_
      have l1 := i.e.len
      have l2 := Paired.length q1
      rw [e] at l2
      rw [l2] at l1
      cases kvs with
      | nil => cases ha
      | cons a b => cases l1
    · refine .inr ⟨keyed_apart nestedKind_stays q4, ?_⟩
      · have e1 : (ys.map fun x => (nestedKind X.prog X.w).hash x.1) = (more.map (·.1)).map fun k => (nk k).hash X.w := by
          have e2 := keysT j.e q3
          have e3 := congrArg (List.map fun (k : NestedKey) => k.hash X.w) e2
          rw [List.map_map, List.map_map] at e3
          rw [List.map_map]
          exact e3
        rw [e1]
        exact hashesApart_ok X.w ha
  · obtain ⟨x, r'⟩ := i.put I r e' l' (by rw [← keysT e' t']; obtain ⟨_, _, _, _, _, _, _, _, nd⟩ := dd; exact nd)
    exact q _ _ (i.putInv (tk := s.toks) I hw hs (dctP_T t' dd)) x r'
where
  ixR {l : List Addr} (nd : l.Nodup) {i j : Nat} {p : Addr} (a : l[i]? = some p) (b : l[j]? = some p) : i = j := by
    obtain ⟨h1, e1⟩ := List.getElem?_eq_some_iff.mp a
    obtain ⟨h2, e2⟩ := List.getElem?_eq_some_iff.mp b
    exact (List.getElem_inj nd).mp (e1.trans e2.symm)
end
end EV

set_option Elab.async false
set_option linter.all false
set_option maxRecDepth 100000
set_option maxHeartbeats 1000000
/-! EvDc: dicts: rules by values. -/
namespace EV
open PySem PySem.Spec PyProof.Rows L2
section
variable {G : Glo} {ρ ρ' ρ'' : List Addr} {H H' H'' : Hp} {h h' : Hea} {X : Cx}
theorem PostE.blD {Q : VK} {b : Bool} (r : RelH G ρ H h) (p : PostE G ρ H Q (.bl b) h) : Q (.bl b) H := p ρ H _ Ext.refl (.a (.bl b)) r
/-- d == e -/
def rEqK (G : Glo) (neg : Bool) : R2 := fun x y H Q => ∃ ρ h d e n z xs p es n2 z2 ys p2 es2 b, IsDct G ρ H h d x n z xs p es ∧ IsDct G ρ H h e y n2 z2 ys p2 es2 ∧ eqK xs ys = some b ∧ Q (.bl (if neg then !b else b)) H
theorem eqK_sz {xs ys : List (A × D)} {b : Bool} {m n : Nat} (e : eqK xs ys = some b) (h1 : m = xs.length) (h2 : n = ys.length) : (m = n → m = 0) ∧ (m == n) = b := by
  subst h1 h2
  unfold eqK at e
  split at e
  · rename_i l
    split at e
    · rename_i z
      cases e
      have : xs = [] := by simpa using z
      subst this
      exact ⟨fun _ => rfl, by simpa using l⟩
    · cases e
  · rename_i l
    cases e
    exact ⟨fun z => (l z).elim, by simpa using l⟩
theorem op_eqK (hw : X.w = G.w) (hu : X.A.units < cLine) : OpR X (compareOp .Eq) (rEqK G false) := by
  intro pins s σ H x y v u Q I rx ry q
  obtain ⟨ρ, h, d, e, n, z, xs, p, es, n2, z2, ys, p2, es2, b, i, j, eb, q⟩ := q
  cases i.x; cases j.x; cases rx; cases ry
  obtain ⟨q1, e1, r1, l1⟩ := i.raw I hw
  obtain ⟨q2, e2, r2, l2⟩ := j.raw I hw
  obtain ⟨h0, h1⟩ := eqK_sz eb l1 l2
  exact eq0 i.m j.m r1 r2 hu h0 ⟨.bl b, H, I, by rw [h1]; rfl, q⟩
theorem op_neK (hw : X.w = G.w) (hu : X.A.units < cLine) : OpR X (compareOp .NotEq) (rEqK G true) := by
  intro pins s σ H x y v u Q I rx ry q
  obtain ⟨ρ, h, d, e, n, z, xs, p, es, n2, z2, ys, p2, es2, b, i, j, eb, q⟩ := q
  cases i.x; cases j.x; cases rx; cases ry
  obtain ⟨q1, e1, r1, l1⟩ := i.raw I hw
  obtain ⟨q2, e2, r2, l2⟩ := j.raw I hw
  obtain ⟨h0, h1⟩ := eqK_sz eb l1 l2
  exact ne0 i.m j.m r1 r2 hu h0 ⟨.bl (!b), H, I, by rw [h1]; rfl, q⟩
/-- k in d -/
def rInK (G : Glo) (neg : Bool) : R2 := fun y x H Q => ∃ ρ h d n z kvs p es k, IsDct G ρ H h d x n z kvs p es ∧ RelA G H k y ∧ kindOk k kvs = true ∧ Q (.bl (if neg then !(dget k kvs).isSome else (dget k kvs).isSome)) H
theorem op_inK (hK : X.K = G.K) (hw : X.w = G.w) (hu : X.A.units + 10 < cLine) : OpR X (compareOp .In) (rInK G false) := by
  intro pins s σ H x y v u Q I rx ry q
  obtain ⟨ρ, h, d, n, z, kvs, p, es, k, i, rk, ko, q⟩ := q
  cases i.x; cases ry
  exact dx_in hu i I hK hw ko rk rx fun s' I' => ⟨.bl _, H, I', rfl, q⟩
theorem op_notInK (hK : X.K = G.K) (hw : X.w = G.w) (hu : X.A.units + 10 < cLine) : OpR X (compareOp .NotIn) (rInK G true) := by
  intro pins s σ H x y v u Q I rx ry q
  obtain ⟨ρ, h, d, n, z, kvs, p, es, k, i, rk, ko, q⟩ := q
  cases i.x; cases ry
  exact dx_notIn hu i I hK hw ko rk rx fun s' I' => ⟨.bl _, H, I', rfl, q⟩
/-- d[k] -/
def rIxK (G : Glo) : R2 := fun x y H Q => ∃ ρ h d n z kvs p es k v0, IsDct G ρ H h d x n z kvs p es ∧ RelA G H k y ∧ kindOk k kvs = true ∧ dget k kvs = some v0 ∧ ∀ v, RelD G ρ H v0 v → Q v H
theorem ix_dctK (hK : X.K = G.K) (hw : X.w = G.w) (hu : X.A.units + 10 < cLine) : IxR X (rIxK G) := by
  intro value slice pins s σ H x y v u Q I rx ry q hs
  obtain ⟨ρ, h, d, n, z, kvs, p, es, k, v0, i, rk, ko, e, q⟩ := q
  cases i.x; cases rx
  obtain ⟨o, h1, h2, _⟩ := dct_ty (atD_p I hw i.a)
  exact tail_any (T := "dict") ⟨o, h1, h2⟩ PySem.F.slot_dict_getitem.lookup (dx_item hu i I hK hw ko rk ry e fun v w' s' I' rv rw' => ⟨v, H, I', rw', q v rv⟩) hs
/-- len(d) -/
def rLenK (G : Glo) : List V → Hp → VK → Prop := fun xs H Q => ∃ ρ h d x n z kvs p es, xs = [x] ∧ IsDct G ρ H h d x n z kvs p es ∧ Q (.int kvs.length) H
theorem call_lenK (hw : X.w = G.w) : CallR X (.builtin "len") (rLenK G) := by
  intro pins s σ H xs us Q I r q
  obtain ⟨ρ, h, d, x, n, z, kvs, p, es, rfl, i, q⟩ := q
  obtain ⟨u, rfl, rx⟩ := vals1 r
  cases i.x; cases rx
  obtain ⟨qs, ep, raw, l⟩ := i.raw I hw
  have hz := sz63 i.l
  refine PyProof.Rows.call_len_slot (n := kvs.length) raw.typeIs PySem.F.slot_dict_len (fun Q' hq => call_len_raw i.m raw (by rw [l]; exact hq)) (by omega) (by omega) ?_
  exact ⟨.int kvs.length, H, I.tok _, ⟨_, rfl⟩, q⟩
/-- isinstance(d, T) -/
def rIsiKd (G : Glo) (K : PySem.W.Frag) : List V → Hp → VK → Prop := fun xs H Q => ∃ ρ h d x n z kvs p es c u b, xs = [x, c] ∧ IsDct G ρ H h d x n z kvs p es ∧ ClsV c u ∧ PySem.W.kitOne K (.type "dict") u = some b ∧ Q (.bl b) H
theorem call_isiKd (hw : X.w = G.w) : CallR X (.builtin "isinstance") (rIsiKd G X.K) := by
  intro pins s σ H xs us Q I r q
  obtain ⟨ρ, h, d, x, n, z, kvs, p, es, c, u, b, rfl, i, k, e, q⟩ := q
  obtain ⟨u1, u2, rfl, r1, r2⟩ := vals2 r
  cases k.eq r2
  cases i.x; cases r1
  obtain ⟨o, h1, h2, _⟩ := dct_ty (atD_p I hw i.a)
  exact PySem.W.kia_one PySem.W.kitx_dict I.kIn ⟨o, h1, h2⟩ e (fun z => nomatch z) fun tk => ⟨.bl b, H, I.tok tk, rfl, q⟩
/-- o[k] = v -/
def rSetK (G : Glo) : V → V → V → Hp → (Hp → Prop) → Prop := fun x y v H Q => ∃ ρ h d n kvs p es k f, IsDct G ρ H h d x n false kvs p es ∧ RelH G ρ H h ∧ RelA G H k y ∧ RelD G ρ H f v ∧ kindOk k kvs = true ∧ kvs.length < SZ ∧ ∀ H', Ext ρ H ρ H' → RelH G ρ H' (h.set n (.dct false (dput k f kvs))) → Q H'
theorem set_dctK (hK : X.K = G.K) (hw : X.w = G.w) (hu : X.A.units + 10 < cLine) : PSet X (rSetK G) := by
  intro pins s σ H o i v ov iv u Q I ro ri rv q
  obtain ⟨ρ, h, d, n, kvs, p, es, k, f, j, r, rk, rf, ko, hl, q⟩ := q
  cases j.x; cases ro
  exact dx_set hu j I r hK hw ko hl rk ri rf rv fun H' s' I' x r' => ⟨H', I', q H' x r'⟩
/-! ### methods -/
/-- the answer of a method, by values -/
def rMeK (G : Glo) (m : Dm) : V → List V → Hp → VK → Prop := fun x vs H Q => ∃ ρ h d ds n z kvs p es W, IsDct G ρ H h d x n z kvs p es ∧ RelDs G ρ H ds vs ∧ RelH G ρ H h ∧ (dmeK m n z kvs ds h).all (PostE G ρ H Q) W
theorem RelDs.one' {d : D} {vs : List V} (q : RelDs G ρ H [d] vs) : ∃ v, vs = [v] ∧ RelD G ρ H d v := by
  cases q with
  | cons q r => cases r; exact ⟨_, rfl, q⟩
theorem RelDs.two' {d e : D} {vs : List V} (q : RelDs G ρ H [d, e] vs) : ∃ v w, vs = [v, w] ∧ RelD G ρ H d v ∧ RelD G ρ H e w := by
  cases q with
  | cons q r =>
    cases r with
    | cons q2 r => cases r; exact ⟨_, _, rfl, q, q2⟩
theorem mt_getK (hK : X.K = G.K) (hw : X.w = G.w) (hu : X.A.units + 10 < cLine) : MtR X "dict.get" (rMeK G .get) := by
  intro pins s σ H x xs v us Q I rx rs q
  obtain ⟨ρ, h, d, ds, n, z, kvs, p, es, W, i, rds, rh, q⟩ := q
  cases i.x; cases rx
  unfold dmeK at q
  split at q <;> first
    | (rename_i hh _ _; cases hh; done)
    | (rename_i hh _; cases hh; done)
    | (rename_i hh; cases hh; done)
    | exact q.elim
    | skip
  · split at q
    · rename_i ko
      obtain ⟨y, rfl, ry⟩ := rds.one'
      obtain ⟨u, rfl, ru⟩ := vals1 rs
      cases ry with
      | a rk => exact dx_get1 hu i I hK hw ko rk ru fun v w' s' I' rv rw' => ⟨v, H, I', rw', q ρ H v Ext.refl rv rh⟩
    · exact q.elim
  · split at q
    · rename_i ko
      obtain ⟨y, f, rfl, ry, rf⟩ := rds.two'
      obtain ⟨u, u2, rfl, ru, ru2⟩ := vals2 rs
      cases ry with
      | a rk => exact dx_get2 hu i I hK hw ko rk ru rf ru2 fun v w' s' I' rv rw' => ⟨v, H, I', rw', q ρ H v Ext.refl rv rh⟩
    · exact q.elim
theorem mt_setdefK (hK : X.K = G.K) (hw : X.w = G.w) (hu : X.A.units + 10 < cLine) : MtR X "dict.setdefault" (rMeK G .setdefault) := by
  intro pins s σ H x xs v us Q I rx rs q
  obtain ⟨ρ, h, d, ds, n, z, kvs, p, es, W, i, rds, rh, q⟩ := q
  cases i.x; cases rx
  unfold dmeK at q
  split at q <;> first
    | (rename_i hh _ _; cases hh; done)
    | (rename_i hh _; cases hh; done)
    | (rename_i hh; cases hh; done)
    | exact q.elim
    | skip
  split at q
  · rename_i k f ko
    simp only [Bool.and_eq_true, decide_eq_true_eq] at ko
    obtain ⟨y, fv, rfl, ry, rf⟩ := rds.two'
    obtain ⟨u, u2, rfl, ru, ru2⟩ := vals2 rs
    cases ry with
    | a rk =>
      refine dx_setdef hu i I rh hK hw ko.1.1 ko.1.2 ko.2 rk ru rf ru2 (fun v0 v w' s' e I' rv rw' => ?_) fun e H' s' I' x r' => ?_
      · rw [e] at q
        exact ⟨v, H, I', rw', q ρ H v Ext.refl rv rh⟩
      · rw [e] at q
        exact ⟨fv, H', I', ru2, q ρ H' fv x (rf.keep rh x) r'⟩
  · exact q.elim
theorem mt_updK (hK : X.K = G.K) (hw : X.w = G.w) (hu : X.A.units + 10 < cLine) : MtR X "dict.update" (rMeK G .update) := by
  intro pins s σ H x xs v us Q I rx rs q
  obtain ⟨ρ, h, d, ds, n, z, kvs, p, es, W, i, rds, rh, q⟩ := q
  cases i.x; cases rx
  unfold dmeK at q
  split at q <;> first
    | (rename_i hh _ _; cases hh; done)
    | (rename_i hh _; cases hh; done)
    | (rename_i hh; cases hh; done)
    | exact q.elim
    | skip
  split at q
  · rename_i m z2 more e1
    split at q
    · rename_i ko
      simp only [Bool.and_eq_true, decide_eq_true_eq, Bool.not_eq_true', Bool.or_eq_true, beq_eq_false_iff_ne] at ko
      obtain ⟨y, rfl, ry⟩ := rds.one'
      obtain ⟨u, rfl, ru⟩ := vals1 rs
      obtain ⟨p2, es2, j⟩ := asDct_rel rh e1 ry
      cases j.x; cases ru
      refine dx_upd hu i j I rh hK hw ko.1.1.1.1 ko.1.1.1.2 ko.1.1.2 ko.1.2 ko.2 fun H' s' I' x r' => ?_
      exact ⟨.non, H', I', rfl, q ρ H' .non x (.a .non) r'⟩
    · exact q.elim
  · exact q.elim
/-- a method of a dict, called -/
def tDM (r : V → List V → Hp → VK → Prop) (X : Cx) (to : TE) (t : TA) : TE := fun σ H Q => to σ H fun x H1 => (∃ p z es, x = .ref p ∧ AtD X.w H1 p z es) ∧ t σ H1 fun xs H2 => r x xs H2 Q
theorem pe_dm {o e : Expr} {es : List Expr} {to : TE} {t : TA} {name : Str} {apos cpos : Pos} {id : String} {r : V → List V → Hp → VK → Prop} (slot : Slot "dict" name id) (hty : typeOf (.builtin id) = pure (.type "method_descriptor")) (hm : MtR X id r) (ho : PE X o to) (ha : PA X (e :: es) t)
    (hbase : attributeBase o name X.env (eval o X.env) = eval o X.env)
    (hfew : ((backTo cpos (starEach (e :: es) X.env)).all (fun x => !x.1) && (backToKw cpos (keywordEach [] X.env)).all (fun x => x.1.isSome)
      && decide ((e :: es).length + ([] : List Keyword).length + (if ([] : List Keyword).isEmpty then 0 else 1) < 30)) = true)
    (hline : (apos.endLine == cpos.line) = true) (hs : starEach (e :: es) X.env = (false, eval e X.env) :: starEach es X.env) (hplain : (backTo cpos (starEach es X.env)).any (·.1) = false) :
    PE X (.Call (.Attribute o name apos) (e :: es) [] cpos) (tDM r X to t) := by
  refine ⟨fun pins s σ H Q I h => ?_⟩
  refine wpAny_Call_method_late hbase hfew hline rfl (thn (ho.run pins s σ H _ I h) fun v s1 ⟨x, H1, I1, r1, ⟨p, z, en, ex, a⟩, q1⟩ => ?_)
  subst ex
  cases r1
  obtain ⟨ob, h1, h2, h3⟩ := dct_ty (atD_p' I1 a)
  refine ⟨"dict", id, PySem.F.plainAttrs_dict, slot, hty, ⟨ob, h1, h2⟩, fun b e => (by cases e; exact ⟨ob, h1, h3⟩), ?_⟩
  have hA := ha.run cpos pins s1 σ H1 _ I1 q1
  rw [hs] at hA ⊢
  refine Calls.callWith_builtin (by show (false || (backTo cpos (starEach es X.env)).any (·.1)) = false; rw [hplain] <;> rfl) (Calls.evalArgs_plain ?_)
  exact thn hA fun us s2 ⟨vs, H2, I2, r2, q2⟩ => hm pins s2 σ H2 (.ref p) vs (.ref p) us Q I2 rfl r2 q2
where
  atD_p' {X : Cx} {pins : List (Addr × PySem.Obj)} {σ : L2.St} {H : Hp} {s : Shared} (I : Inv X pins σ H s) {p : Addr} {z : Bool} {es : List En} (a : AtD X.w H p z es) : DctP X.w p es s.heap := by
    cases z with
    | false => exact (I.hok p _ a).1
    | true => obtain ⟨o, e⟩ := a; exact (I.hok p _ e).2.1
theorem isDct_of {d : D} {x : V} (r : RelH G ρ H h) (e : (asDct h d).isSome = true) (rd : RelD G ρ H d x) : ∃ n z kvs p es, asDct h d = some (n, z, kvs) ∧ IsDct G ρ H h d x n z kvs p es := by
  cases e1 : asDct h d with
  | none => rw [e1] at e; cases e
  | some q => obtain ⟨n, z, kvs⟩ := q; obtain ⟨p, es, i⟩ := asDct_rel r e1 rd; exact ⟨n, z, kvs, p, es, rfl, i⟩
theorem snd_dm {o : Expr} {es : List Expr} {e : Expr} {ro : Env → Hea → Res D} {rs : Env → Hea → Res (List D)} {name : Str} {id : String} {m : Dm} {apos cpos : Pos} (hw : X.w = G.w)
    (slot : Slot "dict" name id) (hty : typeOf (.builtin id) = pure (.type "method_descriptor")) (hm : MtR X id (rMeK G m))
    (ho : Snd G X o ro) (hs : SndA G X (e :: es) rs) (hbase : attributeBase o name X.env (eval o X.env) = eval o X.env)
    (hfew : ((backTo cpos (starEach (e :: es) X.env)).all (fun x => !x.1) && (backToKw cpos (keywordEach [] X.env)).all (fun x => x.1.isSome)
      && decide ((e :: es).length + ([] : List Keyword).length + (if ([] : List Keyword).isEmpty then 0 else 1) < 30)) = true)
    (hline : (apos.endLine == cpos.line) = true) (hst : starEach (e :: es) X.env = (false, eval e X.env) :: starEach es X.env) (hplain : (backTo cpos (starEach es X.env)).any (·.1) = false) :
    Snd G X (.Call (.Attribute o name apos) (e :: es) [] cpos) (fun σ h => (ro σ h).bind fun d h1 => if (asDct h1 d).isSome then (rs σ h1).bind fun ds h2 => dmeD m d ds h2 else .bad) := fun W tk => by
  refine PE.imp (pe_dm slot hty hm (ho W tk) (hs W tk) hbase hfew hline hst hplain) fun σ H Q ⟨ρ, σd, h, st, rh, q⟩ => ?_
  refine tV_then st rh q fun ρ1 H1 x d k1 x1 st1 rd r1 q => ?_
  split at q
  · rename_i hl
    obtain ⟨n, z, kvs, p, es0, e1, i⟩ := isDct_of r1 hl rd
    refine ⟨⟨p, z, es0, i.x, by rw [hw]; exact i.a⟩, ?_⟩
    refine tL_then (α := Unit) st1 r1 q fun ρ2 H2 vs ds k2 x2 st2 rds r2 q => ?_
    unfold dmeD at q
    split at q
    · rename_i n2 z2 kvs2 e2
      obtain ⟨p2, es2, i2⟩ := asDct_rel r2 e2 (rd.keep r1 x2)
      exact ⟨ρ2, k2, d, ds, n2, z2, kvs2, p2, es2, _, i2, rds, r2, q⟩
    · exact q.elim
  · exact q.elim
/-! ### displays -/
theorem dct_new {p : Addr} {es : List En} {kvs : List (A × D)} (r : RelH G ρ H h) (n : H p = none) (e : RelEs G ρ H kvs es) (l : kvs.length ≤ SZ) (m : (p == sysModules) = false) (nd : (kvs.map fun x => nk x.1).Nodup) :
    Ext ρ H (ρ ++ [p]) (upd H p (DctO G.w p es)) ∧ RelH G (ρ ++ [p]) (upd H p (DctO G.w p es)) (h ++ [.dct false kvs]) ∧ RelD G (ρ ++ [p]) (upd H p (DctO G.w p es)) (.ref h.length) (.ref p) := by
  have x : Ext ρ H (ρ ++ [p]) (upd H p (DctO G.w p es)) := Ext.new n
  refine ⟨x, r.fresh n ⟨es, upd_same, e.kee (x.kee r), l, m, nd⟩, .ref ?_⟩
  rw [← r.len, List.getElem?_append_right (Nat.le_refl _)]
  simp
theorem dct_laid {pins : List (Addr × PySem.Obj)} {σ : L2.St} {s : Shared} {hh : Heap} {tk : Nat} (I : Inv X pins σ H s) {es : List En} (k : ∀ b u, s.heap.get? b = some u → hh.get? b = some u) (d : DctP X.w s.heap.objs.size es hh) :
    Inv X pins σ (upd H s.heap.objs.size (DctO X.w s.heap.objs.size es)) { s with heap := hh, toks := tk } := I.laid (a := s.heap.objs.size) k (Nat.le_refl _) (dctO_ok d)
theorem sys_new {pins : List (Addr × PySem.Obj)} {σ : L2.St} {s : Shared} (I : Inv X pins σ H s) : (s.heap.objs.size == sysModules) = false := beq_eq_false_iff_ne.mpr (Ne.symm (Nat.ne_of_lt I.big))
theorem dctP_empty {w : World} {hh : Heap} : DctP w hh.objs.size [] (hh.push { cls := .type "dict", data := .dict #[] }) := ⟨_, #[], 0, Heap.get?_push_size _ rfl, ⟨rfl, rfl, rfl⟩, rfl, .nil⟩
theorem snd_dict0 {pos : Pos} (hw : X.w = G.w) : Snd G X (.Dict [] [] pos) (fun σ h => (Res.ok [] h : Res (List (A × D))).bind fun ps h1 => if (kindT ps || kindL ps) && decide (ps.length ≤ 15) then newO (.dct false (dputs [] ps)) h1 else .bad) := fun W tk =>
  ⟨fun pins s σ H Q I ⟨ρ, σd, h, st, rh, q⟩ => by
    have n := I.hok.fresh (Nat.le_refl s.heap.objs.size)
    obtain ⟨x, r, rd⟩ := dct_new (es := []) (kvs := []) rh n .nil (by simp) (sys_new I) (by simp)
    have I1 := dct_laid (tk := s.toks) I (es := []) (fun _ _ q => Heap.get?_push_of_some _ q) dctP_empty
    rw [hw] at I1
    exact wpAny_Dict_empty ⟨.ref s.heap.objs.size, _, I1, rfl, q _ _ _ x rd r⟩⟩
end
end EV

set_option Elab.async false
set_option linter.all false
set_option maxRecDepth 100000
set_option maxHeartbeats 1000000
/-! EvDd: dict displays. -/
namespace EV
open PySem PySem.Spec PyProof.Rows L2
section
variable {G : Glo} {ρ ρ' ρ'' ρ1 : List Addr} {H H' H'' H1 : Hp} {h h' h1 : Hea} {X : Cx}
inductive RelKv (G : Glo) (ρ : List Addr) (H : Hp) : List (A × D) → List (V × V) → Prop
  | nil : RelKv G ρ H [] []
  | cons {k : A} {d : D} {x y : V} {ps : List (A × D)} {vs : List (V × V)} : RelA G H k x → RelD G ρ H d y → RelKv G ρ H ps vs → RelKv G ρ H ((k, d) :: ps) ((x, y) :: vs)
theorem RelKv.kee (x : Kee G ρ H ρ' H') : ∀ {ps : List (A × D)} {vs : List (V × V)}, RelKv G ρ H ps vs → RelKv G ρ' H' ps vs
  | _, _, .nil => .nil
  | _, _, .cons p q s => .cons (RelA.keep x.t _ _ p) (RelD.kee x _ _ q) (RelKv.kee x s)
def PostK (G : Glo) (ρ : List Addr) (H : Hp) (Q : List (V × V) → Hp → Prop) : List (A × D) → Hea → Prop := fun ps h' => ∀ ρ' H' vs, Ext ρ H ρ' H' → RelKv G ρ' H' ps vs → RelH G ρ' H' h' → Q vs H'
theorem PostK.mv {Q : List (V × V) → Hp → Prop} {d : List (A × D)} (r : RelH G ρ' H' h) (x : Ext ρ H ρ' H') (p : PostK G ρ H Q d h') : PostK G ρ' H' Q d h' := fun _ _ v y => p _ _ v (Ext.trans r x y)
/-- the pairs of a display -/
def SndK (G : Glo) (X : Cx) (pos : Pos) (keys : List (Option Expr)) (values : List Expr) (r : Env → Hea → Res (List (A × D))) : Prop := ∀ W, Takes X W → ∃ trs, PPs X pos keys values trs ∧
  ∀ ρ σd σ h H (Q : List (V × V) → Hp → Prop), RelSt G ρ H σd σ → RelH G ρ H h → (r σd h).all (PostK G ρ H Q) (PostX G ρ H fun c d H' => W c d σ H') → tPairs trs σ H Q
theorem sndk_nil {pos : Pos} : SndK G X pos [] [] (fun _ h => .ok [] h) := fun W tk => ⟨[], pps_nil, fun ρ σd σ h H Q st rh q => q ρ H [] Ext.refl .nil rh⟩
theorem sndk_cons {pos : Pos} {k v : Expr} {ks : List (Option Expr)} {vs : List Expr} {rk rv : Env → Hea → Res D} {rs : Env → Hea → Res (List (A × D))} (hk : Snd G X k rk) (hv : Snd G X v rv) (hs : SndK G X pos ks vs rs) :
    SndK G X pos (some k :: ks) (v :: vs) (fun σ h => (rk σ h).bind fun x h1 => (rv σ h1).bind fun y h2 => match x with
      | .a kk => (rs σ h2).bind fun ps h3 => .ok ((kk, y) :: ps) h3
      | _ => .bad) := fun W tk => by
  obtain ⟨trs, h1, h2⟩ := hs W tk
  refine ⟨_, pps_cons (hk W tk) (hv W tk) h1, fun ρ σd σ h H Q st rh q => ?_⟩
  refine tV_thenG st rh q fun ρ1 H1 x d k1 x1 st1 rd r1 q => ?_
  refine tV_thenG st1 r1 q fun ρ2 H2 y e k2 x2 st2 re r2 q => ?_
  split at q
  · rename_i kk
    have rd2 := rd.keep r1 x2
    cases rd2 with
    | a rk2 =>
      rw [Res.all_bind] at q
      refine h2 ρ2 σd σ k2 H2 _ st2 r2 (Res.all_mono (fun ps h3 q ρ3 H3 ws x3 rp r3 => ?_) (fun _ _ p => p) q)
      exact q ρ3 H3 ((x, y) :: ws) x3 (.cons (RelA.keep (x3.kee r2).t _ _ rk2) (re.keep r2 x3) rp) r3
  · exact q.elim
where
  tV_thenG {r : Env → Hea → Res D} {W : WX} {σ : L2.St} {σd : Env} {f : D → Hea → Res (List (A × D))} {Q : List (V × V) → Hp → Prop} {R : VK} {ρ : List Addr} {H : Hp} {h : Hea}
    (st : RelSt G ρ H σd σ) (rh : RelH G ρ H h) (q : ((r σd h).bind f).all (PostK G ρ H Q) (PostX G ρ H fun c d H' => W c d σ H'))
    (k : ∀ ρ1 H1 v d h1, Ext ρ H ρ1 H1 → RelSt G ρ1 H1 σd σ → RelD G ρ1 H1 d v → RelH G ρ1 H1 h1 → (f d h1).all (PostK G ρ1 H1 Q) (PostX G ρ1 H1 fun c d H' => W c d σ H') → R v H1) : tV G r W σ H R := by
    rw [Res.all_bind] at q
    exact ⟨ρ, σd, h, st, rh, Res.all_mono (fun d h1 q ρ1 H1 v x rd r1 => k ρ1 H1 v d h1 x (st.keep rh x) rd r1 (Res.all_mono (fun _ _ p => p.mv r1 x) (fun _ _ p => p.mv r1 x) q)) (fun _ _ p => p) q⟩
theorem kv_en : ∀ {ps : List (A × D)} {vs : List (V × V)}, RelKv G ρ H ps vs → ∃ ms, RelEs G ρ H ps ms ∧ vs = ms.map fun e => (e.kv, e.v)
  | _, _, .nil => ⟨[], .nil, rfl⟩
  | _, _, .cons (k := k) (x := x) (y := y) p q s => by
    obtain ⟨ms, h1, h2⟩ := kv_en s
    exact ⟨⟨k, x, y⟩ :: ms, .cons (e := ⟨k, x, y⟩) p q h1, by rw [h2]; rfl⟩
theorem carT {pins : List (Addr × PySem.Obj)} {σ : L2.St} {s : Shared} (I : Inv X pins σ H s) (hK : X.K = G.K) : ∀ {ps : List (A × D)} {ms : List En} {ws : List (Value × Value)}, RelEs G ρ H ps ms → kindT ps = true → VV (ms.map fun e => (e.kv, e.v)) ws → ∃ ys, Paired TV ms ys ∧ CarriesH (nestedKind X.prog X.w) s.heap ws ys
  | _, _, _, .nil, _, q => by cases q; exact ⟨[], .nil, trivial⟩
  | _, _, _, .cons (e := e) r1 r2 r3, k, q => by
    rw [List.map_cons] at q
    cases q with
    | @cons _ w _ ws q1 q2 =>
      obtain ⟨k1, k2⟩ := kindT_cons.mp k
      obtain ⟨ys, h1, h2⟩ := carT I hK r3 k2 q2
      obtain ⟨a, e1, e2, key⟩ := tupK_key I hK k1 r1 q1.1
      refine ⟨(nk e.k, a, w.2) :: ys, .cons ⟨rfl, e1, q1.2⟩ h1, ?_⟩
      obtain ⟨w1, w2⟩ := w
      exact ⟨e2, rfl, key, h2⟩
theorem carL {P : Program} {w : World} : ∀ {ps : List (A × D)} {ms : List En} {ws : List (Value × Value)}, RelEs G ρ H ps ms → kindL ps = true → VV (ms.map fun e => (e.kv, e.v)) ws → ∃ rs, Paired LV ms rs ∧ Carries (mixKind P w) ws rs
  | _, _, _, .nil, _, q => by cases q; exact ⟨[], .nil, trivial⟩
  | _, _, _, .cons (e := e) r1 r2 r3, k, q => by
    rw [List.map_cons] at q
    cases q with
    | @cons _ w0 _ ws q1 q2 =>
      obtain ⟨k1, k2⟩ := kindL_cons.mp k
      obtain ⟨rs, h1, h2⟩ := carL (P := P) (w := w) r3 k2 q2
      have ek := leafK_key k1 r1
      obtain ⟨w1, w2⟩ := w0
      have q3 : RelV e.kv w1 := q1.1
      rw [ek] at q3
      exact ⟨(lk e.k, w2) :: rs, .cons ⟨k1, rfl, ek, q1.2⟩ h1, kV_is q3, rfl, h2⟩
theorem putsL : ∀ {more : List (A × D)} {ms : List En} {rs : List (Key × Value)} {kvs : List (A × D)} {es : List En} {vs : List (Key × Value)}, RelEs G ρ H more ms → Paired LV ms rs → RelEs G ρ H kvs es → Paired LV es vs →
    ∃ es', RelEs G ρ H (dputs kvs more) es' ∧ Paired LV es' (merged vs rs) := by
  intro more ms rs kvs es vs r
  induction r generalizing rs kvs es vs with
  | nil => intro q r2 q2; cases q; exact ⟨es, r2, q2⟩
  | @cons e x more ms r1 r2 r3 ih =>
    intro q r4 q4
    cases q with
    | @cons _ y _ rs q1 q2 =>
      obtain ⟨es1, h1, h2⟩ := putL (k := e.k) r4 q4 q1.1 r1 r2 q1.2.2.2
      obtain ⟨es2, h3, h4⟩ := ih q2 h1 h2
      refine ⟨es2, h3, ?_⟩
      have e1 : merged vs (y :: rs) = merged (stored vs (lk e.k) y.2) rs := by
        show merged (stored vs y.1 y.2) rs = _
        rw [q1.2.1]
      rw [e1]
      exact h4
/-- a dict that stood aside becomes one of the heap's own -/
theorem dct_join {p : Addr} {es : List En} {kvs : List (A × D)} {u : HO} (r0 : RelH G ρ H h) (n0 : H p = none) (x : Ext ρ (upd H p u) ρ1 H1) (r1 : RelH G ρ1 H1 h1) (a1 : H1 p = some (DctO G.w p [])) (hu : ∃ φ, u = .ext φ) (nc : ∀ c q, H1 c = some (LamX.CodeO c q) → c ≠ p) (e : RelEs G ρ1 H1 kvs es) (l : kvs.length ≤ SZ) (m : (p == sysModules) = false) (nd : (kvs.map fun x => nk x.1).Nodup) :
    Ext ρ H (ρ1 ++ [p]) (upd H1 p (DctO G.w p es)) ∧ RelH G (ρ1 ++ [p]) (upd H1 p (DctO G.w p es)) (h1 ++ [.dct false kvs]) ∧ RelD G (ρ1 ++ [p]) (upd H1 p (DctO G.w p es)) (.ref h1.length) (.ref p) := by
  obtain ⟨φ, rfl⟩ := hu
  have out : p ∉ ρ1 := by
    obtain ⟨⟨e2, rfl, he⟩, _⟩ := x
    intro hm
    rcases List.mem_append.mp hm with z | z
    · exact r0.notnone n0 z
    · obtain ⟨ps, e3⟩ := he p z _ upd_same; cases e3
  have k : Kee G ρ1 H1 (ρ1 ++ [p]) (upd H1 p (DctO G.w p es)) := by
    refine ⟨fun a ws q => ?_, fun a fs q => ?_, fun n a q => by rw [List.getElem?_append_left (List.getElem?_eq_some_iff.mp q).1]; exact q⟩
    · rcases q with (q | ⟨ob, q⟩) | q
      · exact .inl (.inl (by rw [upd_ne (fun z => by rw [z, a1] at q; cases q)]; exact q))
      · exact .inl (.inr ⟨ob, by rw [upd_ne (fun z => by rw [z, a1] at q; cases q)]; exact q⟩)
      · exact .inr q
    · rw [upd_ne (fun z => by rw [z, a1] at q; cases q)]
      exact q
  have X1 : Ext ρ H (ρ1 ++ [p]) (upd H1 p (DctO G.w p es)) := by
    refine ⟨?_, fun b o hb nb nt => ?_⟩
    · obtain ⟨e2, he, hn⟩ := x.ex
      refine ⟨e2 ++ [p], by rw [he, List.append_assoc], fun b hb => ?_⟩
      rcases List.mem_append.mp hb with z | z
      · intro o ho
        refine hn b z o ?_
        rw [upd_ne (ne_of_none ho n0)]
        exact ho
      · have : b = p := by simpa using z
        rw [this]; exact Nw.of n0
    · have ne : b ≠ p := ne_of_none hb n0
      rw [upd_ne ne]
      exact x.kp b o (by rw [upd_ne ne]; exact hb) nb nt
  refine ⟨X1, ⟨by simp [r1.len], ?_, fun mm u a e1 e2 => ?_, tabs_upd r1.tab (fun ps z => by rw [a1] at z; cases z) nc, r0.sc.keep X1⟩, .ref ?_⟩
  · rw [List.nodup_append]
    refine ⟨r1.nd, by simp, fun a ha b hb => ?_⟩
    have e : b = p := by simpa using hb
    subst e
    intro z
    subst z
    exact out ha
  · by_cases hm : mm < h1.length
    · have hm' : mm < ρ1.length := by rw [r1.len]; exact hm
      rw [List.getElem?_append_left hm] at e1
      rw [List.getElem?_append_left hm'] at e2
      exact (r1.ob mm u a e1 e2).kee k (upd_ne fun z => out (by rw [← z]; exact List.mem_of_getElem? e2))
    · have hm' : ¬ mm < ρ1.length := by rw [r1.len]; exact hm
      rw [List.getElem?_append_right (by omega)] at e1 e2
      have z : mm - h1.length = 0 := by
        have := (List.getElem?_eq_some_iff.mp e1).1
        simp at this
        omega
      rw [z] at e1
      rw [r1.len, z] at e2
      simp at e1 e2
      subst e1 e2
      exact ⟨es, upd_same, e.kee k, l, m, nd⟩
  · rw [← r1.len, List.getElem?_append_right (Nat.le_refl _)]
    simp
theorem dctP_nilT {P : Program} {w : World} {p : Addr} {hh : Heap} (d : DctP w p [] hh) : hh.DictOfH (nestedKind P w) p [] := by
  obtain ⟨o, qs, ep, h1, h2, h3, h4⟩ := d
  refine ⟨o, qs, ep, h1, h2, h3, ?_, (fun x hx => by cases hx), List.nodup_nil⟩
  generalize e : qs.toList = l at h4
  cases h4
  rfl
theorem dctP_nilL {P : Program} {w : World} {p : Addr} {hh : Heap} (d : DctP w p [] hh) : hh.DictOf (mixKind P w) p [] := by
  obtain ⟨o, qs, ep, h1, h2, h3, h4⟩ := d
  generalize e : qs.toList = l at h4
  cases h4
  refine ⟨o, qs, ep, h1, h2, h3, (fun x hx => ?_), by rw [e]; exact .nil, List.nodup_nil⟩
  have : x ∈ qs.toList := by simpa using hx
  rw [e] at this
  cases this
theorem kindL_dputs : ∀ {more kvs : List (A × D)}, kindL more = true → kindL kvs = true → kindL (dputs kvs more) = true
  | [], _, _, h => h
  | p :: r, kvs, h, h2 => by
    obtain ⟨h1, h3⟩ := kindL_cons.mp h
    show kindL (dputs (dput p.1 p.2 kvs) r) = true
    exact kindL_dputs h3 (kindL_dput h1 h2)
theorem snd_dict {pos : Pos} {keys : List (Option Expr)} {values : List Expr} {rs : Env → Hea → Res (List (A × D))} (hK : X.K = G.K) (hw : X.w = G.w) (hu : X.A.units + 8 < cLine) (hs : SndK G X pos keys values rs) (hall : keys.all (·.isSome) = true) (hl : keys.length = values.length) (h0 : keys ≠ []) (h15 : keys.length ≤ 15) :
    Snd G X (.Dict keys values pos) (fun σ h => (rs σ h).bind fun ps h1 => if (kindT ps || kindL ps) && decide (ps.length ≤ 15) then newO (.dct false (dputs [] ps)) h1 else .bad) := fun W tk => by
  obtain ⟨trs, pp, hs⟩ := hs W tk
  refine ⟨fun pins s σ H Q I ⟨ρ, σd, h, st, rh, q⟩ => ?_⟩
  have n := I.hok.fresh (Nat.le_refl s.heap.objs.size)
  have I1 := dct_laid (tk := s.toks) I (es := []) (fun _ _ q => Heap.get?_push_of_some _ q) dctP_empty
  have r1 : RelH G ρ (upd H s.heap.objs.size (DctO X.w s.heap.objs.size [])) h := rh.fresh_quiet n
  have x1 : Ext ρ H ρ (upd H s.heap.objs.size (DctO X.w s.heap.objs.size [])) := Ext.quiet n
  have st1 := st.keep rh x1
  rw [Res.all_bind] at q
  have main := hs ρ σd σ h _ (fun vs H2 => ∃ ρ2 h2 ps, Ext ρ (upd H s.heap.objs.size (DctO X.w s.heap.objs.size [])) ρ2 H2 ∧ RelKv G ρ2 H2 ps vs ∧ RelH G ρ2 H2 h2 ∧
      ((kindT ps || kindL ps) && decide (ps.length ≤ 15)) = true ∧ PostE G ρ H Q (.ref h2.length) (h2 ++ [.dct false (dputs [] ps)])) st1 r1
    (Res.all_mono (fun ps h2 q ρ2 H2 vs x2 rp r2 => by
      split at q
      · rename_i ok
        exact ⟨ρ2, h2, ps, x2, rp, r2, ok, q⟩
      · exact q.elim) (fun _ _ p => p.mv r1 x1) q)
  have run := pp.run pins _ σ _ _ I1 main
  have hn := pairTrees_length keys values X.env pos hall hl
  have hne : pairTrees keys values X.env pos ≠ [] := fun he => h0 (List.length_eq_zero_iff.mp (by rw [← hn, he]; rfl))
  rw [arm_eval_Dict, zip_pairTrees keys values X.env pos hall hl, dictDisplay_pairs _ hne (by omega)]
  refine wpAny_bind (wpAny_standAt (wpAny_bind ?_))
  show wpAny _ _ (subDict _) (fun d s' => wpAny (model X.prog X.w) X.A (pure (Value.ref d)) (EP X pins σ Q) X.xe s') _ s
  unfold subDict
  refine wpAny_bind (wpAny_alloc ?_)
  refine wpAny_bind (wpAny_holding ?_)
  rw [if_pos (by omega)]
  refine wpAny_bind (wpAny_mono (wpAny_evalPairs_len run) (fun ws s1 h1 => ?_) fun _ _ e => e)
  obtain ⟨hvl, vs, H2, I2, rel, ρ2, h2, ps, x2, rp, r2, ok, pq⟩ := h1
  rw [Bool.and_eq_true, Bool.or_eq_true, decide_eq_true_eq] at ok
  have nr : s.heap.objs.size ∉ ρ := rh.notnone n
  have a2 : H2 s.heap.objs.size = some (DctO G.w s.heap.objs.size []) := by
    rw [← hw]
    exact x2.at upd_same nr (fun _ z => by cases z)
  obtain ⟨ms, re, ev⟩ := kv_en rp
  subst ev
  have ncode : ∀ c q, H2 c = some (LamX.CodeO c q) → c ≠ s.heap.objs.size := fun c q hc z => by
    subst z
    obtain ⟨⟨oc, vs, t, h1, h2, _⟩, _⟩ := I2.hok _ _ hc
    obtain ⟨⟨o, qs, ep, h3, _, h4, _⟩, _⟩ := I2.hok _ _ a2
    rw [h1] at h3
    cases h3
    rw [h2] at h4
    cases h4
  have base : DctP X.w s.heap.objs.size [] s1.heap := by
    have := (I2.hok _ _ a2).1
    rw [hw]
    exact this
  have hsz : ps.length ≤ sizeLine := by rw [sizeLine_eq]; omega
  have plen := dputs_len (more := ps) (kvs := [])
  have lz : (dputs [] ps).length ≤ SZ := by unfold SZ; simp at plen; omega
  refine wpAny_holding ?_
  rcases ok.1 with kt | kl
  · obtain ⟨ys, t1, t2⟩ := carT I2 hK re kt rel
    obtain ⟨es', e', t'⟩ := putsT re t1 kt (.nil : RelEs G ρ2 H2 [] []) .nil rfl
    refine wpAny_bind (wpAny_storeAllH (knd := nestedKind X.prog X.w) hu ws ys [] s1 _ t2 (dctP_nilT base) (by rw [List.length_nil, ← Paired.length t1, ← re.len]; omega) fun h' tk' dd hs' => wpAny_pure (wpAny_pure ?_))
    obtain ⟨x3, r3, rd⟩ := dct_join (u := DctO X.w s.heap.objs.size []) rh n x2 r2 a2 ⟨_, rfl⟩ ncode e' lz (sys_new I) (by rw [← keysT e' t']; obtain ⟨_, _, _, _, _, _, _, _, nd⟩ := dd; exact nd)
    have dp := dctP_T t' dd
    refine wpAny_pure ⟨.ref s.heap.objs.size, _, ?_, rfl, pq _ _ _ x3 rd r3⟩
    obtain ⟨o, qs, ep, g1, _⟩ := id dp
    rw [← hw]
    exact d_write I2 (by rw [a2]; exact True.intro) hs' ⟨o, g1⟩ (dctO_ok dp)
  · obtain ⟨rs', t1, t2⟩ := carL (P := X.prog) (w := X.w) re kl rel
    obtain ⟨es', e', t'⟩ := putsL re t1 (.nil : RelEs G ρ2 H2 [] []) .nil
    refine wpAny_bind (wpAny_storeAll (knd := mixKind X.prog X.w) ws rs' [] s1 _ t2 (dctP_nilL base) (by rw [List.length_nil, ← Paired.length t1, ← re.len]; omega) fun h' dd hs' => wpAny_pure (wpAny_pure ?_))
    obtain ⟨x3, r3, rd⟩ := dct_join (u := DctO X.w s.heap.objs.size []) rh n x2 r2 a2 ⟨_, rfl⟩ ncode e' lz (sys_new I) (by rw [lk_nodup (kindL_dputs kl rfl), ← keysL e' t']; obtain ⟨_, _, _, _, _, _, _, _, nd⟩ := dd; exact nd)
    have dp := dctP_L t' dd
    refine wpAny_pure ⟨.ref s.heap.objs.size, _, ?_, rfl, pq _ _ _ x3 rd r3⟩
    obtain ⟨o, qs, ep, g1, _⟩ := id dp
    rw [← hw]
    exact d_write I2 (by rw [a2]; exact True.intro) hs' ⟨o, g1⟩ (dctO_ok dp)
end
end EV

set_option Elab.async false
set_option linter.all false
set_option maxRecDepth 100000
set_option maxHeartbeats 1000000
/-! EvDe: dicts that are walked. -/
namespace EV
open PySem PySem.Spec PyProof.Rows L2
/-- a turn's thing -/
def yldE (k : Dk) (es : List En) (i : Nat) (H : Hp) (x : V) (H' : Hp) : Prop := match k with
  | .keys => H' = H ∧ ∃ e, es[i]? = some e ∧ x = e.kv
  | .vals => H' = H ∧ ∃ e, es[i]? = some e ∧ x = e.v
  | .items => ∃ T e, es[i]? = some e ∧ x = .ref T ∧ H T = none ∧ H' = upd H T (.tup [e.kv, e.v])
/-- the entries of the locked dict -/
def ItE (k : Dk) (w : World) (d : Addr) (o : PySem.Obj) (es : List En) : L2.It :=
  ⟨fun i H => H d = some (.frz o (DctO w d es)) ∧ i < es.length, fun i H x H' => yldE k es i H x H', fun i H => H d = some (.frz o (DctO w d es)) ∧ es.length ≤ i⟩
section
variable {X : Cx} {pins : List (Addr × PySem.Obj)} {σ : L2.St} {H : Hp} {s : Shared} {d : Addr} {o : PySem.Obj} {es : List En}
theorem frzE (I : Inv X pins σ H s) (h : H d = some (.frz o (DctO X.w d es))) : s.heap.get? d = some o ∧ o.ExactDict ∧ ∃ qs ep, o.data = .dict qs ep ∧ qs.size = es.length ∧ ∀ (i : Nat) e, es[i]? = some e → ∃ q, qs[i]? = some q ∧ EnIs X.w e q := by
  obtain ⟨hd, ⟨o', qs, ep, h1, h2, h3, h4⟩, _⟩ := I.hok d _ h
  rw [hd] at h1
  cases h1
  refine ⟨hd, h2, qs, ep, h3, by rw [Paired.length h4, Array.length_toList], fun i e he => ?_⟩
  obtain ⟨q, hq, hh⟩ := paired_get h4 he
  exact ⟨q, by simpa using hq, hh⟩
end
section
variable {P : Program} {w : World} {K : PySem.W.Frag} {tg : Expr} {d : Addr} {o : PySem.Obj} {qs : Array DictEntry} {ep : Nat} {es : List En}
theorem turnE_keys (it : Addr) (hod : o.data = .dict qs ep) : Turn P w K tg (ItE .keys w d o es) [it] it (fun i h => h.IsKeyIter it d i es.length ep) where
  mem := by simp
  obj := fun i h st b hb => by
    have e : b = it := by simpa using hb
    subst e
    obtain ⟨oi, e, c, dd⟩ := st
    exact ⟨oi, e, fun v z => by rw [dd] at z; cases z⟩
  keep := fun i h h' st k => st.at fun oi e => k it (by simp) oi e
  item := by
    intro X hP hw hK hc i pins s σ H E I hf st hg
    subst hP hw hK
    obtain ⟨hd, hi⟩ := hg
    obtain ⟨f0, f1, f2, f3, f4, f5⟩ := hf it (by simp)
    obtain ⟨hgd, hx, qs', ep', hdt, hsz, ent⟩ := frzE I hd
    obtain ⟨rfl, rfl⟩ := dict_ep hod hdt
    obtain ⟨e, he⟩ : ∃ p, es[i]? = some p := ⟨es[i], List.getElem?_eq_getElem hi⟩
    obtain ⟨en, hen, r1, r2, r3⟩ := ent i e he
    refine next_key_item st hgd hdt hsz hen fun h' st' sb => ?_
    have I1 : Inv X pins σ H { s with heap := h' } := I.turned (t' := s.toks) (fun b ob hb e => (sb.2 b hb).trans e) f0 f1 f3 f4 f5
    obtain ⟨oi, e', c, dd⟩ := id st'
    exact ⟨en.key, rfl, go_of (s := { s with heap := h' }) e' c dd (by decide) ⟨e.kv, H, I1, r1, ⟨rfl, e, he, rfl⟩, st', fun b hb => (hf b hb).1⟩⟩
  done := by
    intro X hP hw hK hc i pins s σ H E I hf st hg
    subst hP hw hK
    obtain ⟨hd, hi⟩ := hg
    obtain ⟨f0, f1, f2, f3, f4, f5⟩ := hf it (by simp)
    obtain ⟨hgd, hx, qs', ep', hdt, hsz, ent⟩ := frzE I hd
    obtain ⟨rfl, rfl⟩ := dict_ep hod hdt
    exact next_key_end (I.ok.hd hc) st hgd hdt hsz hi fun h' eb => ⟨rfl, I.turned (t' := s.toks) (fun b ob hb e => eb b ob hb e) f0 f1 f3 f4 f5⟩
  self := fun A i s Q E st h => wpAny_pyIter_keyiter st h
theorem turnE_vals (it : Addr) (hod : o.data = .dict qs ep) : Turn P w K tg (ItE .vals w d o es) [it] it (fun i h => h.IsValIter it d i es.length ep) where
  mem := by simp
  obj := fun i h st b hb => by
    have e : b = it := by simpa using hb
    subst e
    obtain ⟨oi, e, c, dd⟩ := st
    exact ⟨oi, e, fun v z => by rw [dd] at z; cases z⟩
  keep := fun i h h' st k => st.at fun oi e => k it (by simp) oi e
  item := by
    intro X hP hw hK hc i pins s σ H E I hf st hg
    subst hP hw hK
    obtain ⟨hd, hi⟩ := hg
    obtain ⟨f0, f1, f2, f3, f4, f5⟩ := hf it (by simp)
    obtain ⟨hgd, hx, qs', ep', hdt, hsz, ent⟩ := frzE I hd
    obtain ⟨rfl, rfl⟩ := dict_ep hod hdt
    obtain ⟨e, he⟩ : ∃ p, es[i]? = some p := ⟨es[i], List.getElem?_eq_getElem hi⟩
    obtain ⟨en, hen, r1, r2, r3⟩ := ent i e he
    rw [← hsz] at st
    have hlt : i < qs'.size := by rw [hsz]; exact hi
    refine wpAny_pyNext_values_item_raw st ⟨o, hgd, hx, hdt⟩ hlt fun h' st' sb => ?_
    have I1 : Inv X pins σ H { s with heap := h' } := I.turned (t' := s.toks) (fun b ob hb e => (sb.2 b hb).trans e) f0 f1 f3 f4 f5
    have ev : qs'[i] = en := by rw [Array.getElem?_eq_getElem hlt] at hen; exact Option.some.inj hen
    rw [ev]
    obtain ⟨oi, e', c, dd⟩ := id st'
    refine ⟨en.val, rfl, go_of (s := { s with heap := h' }) e' c dd (by decide) ⟨e.v, H, I1, r3, ⟨rfl, e, he, rfl⟩, ?_, fun b hb => (hf b hb).1⟩⟩
    show h'.IsValIter it d (i + 1) es.length _
    rw [← hsz]
    exact st'
  done := by
    intro X hP hw hK hc i pins s σ H E I hf st hg
    subst hP hw hK
    obtain ⟨hd, hi⟩ := hg
    obtain ⟨f0, f1, f2, f3, f4, f5⟩ := hf it (by simp)
    obtain ⟨hgd, hx, qs', ep', hdt, hsz, ent⟩ := frzE I hd
    obtain ⟨rfl, rfl⟩ := dict_ep hod hdt
    rw [← hsz] at st
    exact wpAny_pyNext_values_end_raw (I.ok.hd hc) st ⟨o, hgd, hx, hdt⟩ (by rw [hsz]; exact hi) fun h' eb => ⟨rfl, I.turned (t' := s.toks) (fun b ob hb e => eb b ob hb e) f0 f1 f3 f4 f5⟩
  self := fun A i s Q E st h => wpAny_pyIter_valiter st h
theorem turnE_items {elts : List Expr} {kk : Nat} {tpos : Pos} (it : Addr) (hod : o.data = .dict qs ep) :
    Turn P w K (.Tuple elts kk tpos) (ItE .items w d o es) [it] it (fun i h => ∃ ok ov, IsItemIter h it d i es.length ep ok ov) where
  mem := by simp
  obj := fun i h st b hb => by
    have e : b = it := by simpa using hb
    subst e
    obtain ⟨ok, ov, e⟩ := st
    exact ⟨_, e, fun v z => nomatch z⟩
  keep := fun i h h' st k => let ⟨ok, ov, e⟩ := st; ⟨ok, ov, k it (by simp) _ e⟩
  item := by
    intro X hP hw hK hc i pins s σ H E I hf st hg
    subst hP hw hK
    obtain ⟨hd, hi⟩ := hg
    obtain ⟨hgd, hx, qs', ep', hdt, hsz, ent⟩ := frzE I hd
    obtain ⟨rfl, rfl⟩ := dict_ep hod hdt
    obtain ⟨e, he⟩ : ∃ p, es[i]? = some p := ⟨es[i], List.getElem?_eq_getElem hi⟩
    obtain ⟨en, hen, r1, r2, r3⟩ := ent i e he
    obtain ⟨ok, ov, hit⟩ := st
    rw [← hsz] at hit
    have hlt : it < s.heap.objs.size := Heap.lt_size hit
    have hlt2 : i < qs'.size := by rw [hsz]; exact hi
    have ev : qs'[i] = en := by rw [Array.getElem?_eq_getElem hlt2] at hen; exact Option.some.inj hen
    refine wpAny_pyNext_items_item_raw hit ⟨o, hgd, hx, hdt⟩ hlt2 fun h' ho hT hz hk => ?_
    rw [ev] at ho hT
    refine ⟨_, rfl, wpAny_letOwnedTupleGo_items (s := { s with heap := h' }) ho fun h'' he' sb => ?_⟩
    have hT2 : h''.get? s.heap.objs.size = some { cls := .type "tuple", data := .seq #[en.key, en.val] } := (sb.2 _ (Nat.ne_of_gt hlt)).trans hT
    have new : ObjOk X.prog X.w (upd H s.heap.objs.size (.tup [e.kv, e.v])) h'' s.heap.objs.size (.tup [e.kv, e.v]) :=
      ⟨by show 2 ≤ sizeLine; decide, [en.key, en.val], .cons r1 (.cons r3 .nil), ⟨_, hT2, rfl, _, rfl⟩⟩
    have I1 : Inv X pins σ (upd H s.heap.objs.size (.tup [e.kv, e.v])) { s with heap := h'' } :=
      I.turnedNew (t' := s.toks) (ch := [it]) (fun b ob hb e => (sb.2 b (by simpa using hb)).trans (hk b ob (by simpa using hb) e)) hf (Nat.le_refl _) new
    refine ⟨.ref s.heap.objs.size, _, I1, rfl, ⟨_, e, he, rfl, I.hok.fresh (Nat.le_refl _), rfl⟩, ⟨en.key, en.val, ?_⟩, fun b hb => ?_⟩
    · rw [← hsz]; exact he'
    · have e : b = it := by simpa using hb
      rw [e, upd_ne (Nat.ne_of_lt hlt)]
      exact (hf it (by simp)).1
  done := by
    intro X hP hw hK hc i pins s σ H E I hf st hg
    subst hP hw hK
    obtain ⟨hd, hi⟩ := hg
    obtain ⟨f0, f1, f2, f3, f4, f5⟩ := hf it (by simp)
    obtain ⟨hgd, hx, qs', ep', hdt, hsz, ent⟩ := frzE I hd
    obtain ⟨rfl, rfl⟩ := dict_ep hod hdt
    obtain ⟨ok, ov, hit⟩ := st
    rw [← hsz] at hit
    exact wpAny_pyNext_items_end_raw (I.ok.hd hc) hit ⟨o, hgd, hx, hdt⟩ (by rw [hsz]; exact hi) fun h' eb => ⟨rfl, I.turned (t' := s.toks) (fun b ob hb e => eb b ob hb e) f0 f1 f3 f4 f5⟩
  self := fun A i s Q E st h => let ⟨_, _, e⟩ := st; PySem.W.kcp_self e h
end
/-- may the lock at d be taken off -/
def Opn (X : Cx) (d : Addr) : Prop := ∀ o u, X.H_0 d ≠ some (.frz o u)
/-- the dict is locked where it is not -/
def iDk (k : Dk) (X : Cx) (td : TE) : TI := fun σ H R => td σ H fun x H1 => ∃ d es, x = .ref d ∧ (d == sysModules) = false ∧
  ((H1 d = some (DctO X.w d es) ∧ ∀ od, Opn X d → (∀ c q, H1 c = some (LamX.CodeO c q) → c ≠ d) → R (ItE k X.w d od es) (upd H1 d (.frz od (DctO X.w d es)))) ∨ ∃ od, H1 d = some (.frz od (DctO X.w d es)) ∧ R (ItE k X.w d od es) H1)
section
variable {X : Cx} {tg e : Expr} {td : TE} {apos cpos : Pos} {k : Dk}
theorem lockE {pins : List (Addr × PySem.Obj)} {σ : L2.St} {H1 : Hp} {s : Shared} {d : Addr} {es : List En} {R : L2.It → Hp → Prop} (I : Inv X pins σ H1 s)
    (q : (H1 d = some (DctO X.w d es) ∧ ∀ od, Opn X d → (∀ c q, H1 c = some (LamX.CodeO c q) → c ≠ d) → R (ItE k X.w d od es) (upd H1 d (.frz od (DctO X.w d es)))) ∨ ∃ od, H1 d = some (.frz od (DctO X.w d es)) ∧ R (ItE k X.w d od es) H1) :
    ∃ od H2, Inv X pins σ H2 s ∧ H2 d = some (.frz od (DctO X.w d es)) ∧ R (ItE k X.w d od es) H2 := by
  rcases q with ⟨hd, q⟩ | ⟨od, hd, q⟩
  · obtain ⟨od, I2⟩ := I.lock hd trivial
    refine ⟨od, _, I2, upd_same, q od (I.nofrz hd trivial) fun c q hc z => ?_⟩
    subst z
    obtain ⟨⟨oc, vs, t, h1, h2, _⟩, _⟩ := I.hok _ _ hc
    obtain ⟨⟨o, qs, ep, h3, _, h4, _⟩, _⟩ := I.hok _ _ hd
    rw [h1] at h3
    cases h3
    rw [h2] at h4
    cases h4
  · exact ⟨od, H1, I, hd, q⟩
theorem piE_keys (he : PE X e td) : PI X tg e (iDk .keys X td) := by
  refine ⟨fun pins s σ H R I h => ?_⟩
  refine thn (he.run pins s σ H _ I h) fun u s1 ⟨x, H1, I1, rx, d, es, ex, hs, q⟩ => ?_
  subst ex
  cases rx
  obtain ⟨od, H2, I2, hd, q⟩ := lockE I1 q
  obtain ⟨hgd, hx, qs, ep, hdt, hsz, ent⟩ := frzE I2 hd
  refine iter_keys hs hgd hx hdt (pi_one (tk := s1.toks) I2 _ (turnE_keys _ hdt) ⟨_, Heap.get?_push_size _ rfl, rfl, ?_⟩ q)
  rw [hsz] <;> rfl
theorem piE_vals (he : PE X e td) (hbase : attributeBase e "values" X.env (eval e X.env) = eval e X.env) (hline : (apos.endLine == cpos.line) = true) : PI X tg (.Call (.Attribute e "values" apos) [] [] cpos) (iDk .vals X td) := by
  refine ⟨fun pins s σ H R I h => ?_⟩
  refine wpAny_Call_method (T := "dict") (id := "dict.values") hbase rfl hline PySem.F.plainAttrs_dict PySem.F.slot_dict_values PySem.F.type_dict_values (thn (he.run pins s σ H _ I h) fun u s1 ⟨x, H1, I1, rx, d, es, ex, hs, q⟩ => ?_)
  subst ex
  cases rx
  obtain ⟨od, H2, I2, hd, q⟩ := lockE I1 q
  obtain ⟨hgd, hx, qs, ep, hdt, hsz, ent⟩ := frzE I2 hd
  have raw : s1.heap.DictRaw d qs ep := ⟨od, hgd, hx, hdt⟩
  refine ⟨raw.typeIs, fun b e => (by cases e; exact ⟨od, hgd, hx.2.1⟩), ?_⟩
  have I3 : Inv X pins σ H2 { s1 with heap := s1.heap.push { cls := .type "dict_values", data := .fields #[.ref d] } } := I2.kept (t' := s1.toks) fun b ob q => Heap.get?_push_of_some _ q
  have fin : wpAny (model X.prog X.w) X.A (pyIter (.ref s1.heap.objs.size)) (PIE X pins σ tg R) X.xe { s1 with heap := s1.heap.push { cls := .type "dict_values", data := .fields #[.ref d] } } := by
    refine wpAny_pyIter_values_raw (d := d) ⟨_, Heap.get?_push_size _ rfl, rfl, rfl⟩ (raw.push _) (pi_one (tk := s1.toks) I3 _ (turnE_vals _ hdt) ⟨_, Heap.get?_push_size _ rfl, rfl, ?_⟩ q)
    rw [hsz] <;> rfl
  show wpAny _ _ (callWith cpos (.builtin "dict.values") [.ref d] [] []) _ X.xe s1
  exact method_meetsIn PySem.F.slot_dict_values PySem.F.entry_dict_values rfl (PySem.evalArgs_none ⟨rfl, raw.typeIs, PySem.F.args_dict_values_1 _, _, meets_dict_values_raw d hs, ⟨qs, ep, raw⟩, fin⟩)
theorem piE_items {elts : List Expr} {kk : Nat} {tpos : Pos} (he : PE X e td) (hbase : attributeBase e "items" X.env (eval e X.env) = eval e X.env) (hline : (apos.endLine == cpos.line) = true) :
    PI X (.Tuple elts kk tpos) (.Call (.Attribute e "items" apos) [] [] cpos) (iDk .items X td) := by
  refine ⟨fun pins s σ H R I h => ?_⟩
  refine wpAny_Call_method (T := "dict") (id := "dict.items") hbase rfl hline PySem.F.plainAttrs_dict PySem.F.slot_dict_items PySem.F.type_dict_items (thn (he.run pins s σ H _ I h) fun u s1 ⟨x, H1, I1, rx, d, es, ex, hs, q⟩ => ?_)
  subst ex
  cases rx
  obtain ⟨od, H2, I2, hd, q⟩ := lockE I1 q
  obtain ⟨hgd, hx, qs, ep, hdt, hsz, ent⟩ := frzE I2 hd
  have raw : s1.heap.DictRaw d qs ep := ⟨od, hgd, hx, hdt⟩
  refine ⟨raw.typeIs, fun b e => (by cases e; exact ⟨od, hgd, hx.2.1⟩), ?_⟩
  have I3 : Inv X pins σ H2 { s1 with heap := s1.heap.push { cls := .type "dict_items", data := .fields #[.ref d] } } := I2.kept (t' := s1.toks) fun b ob q => Heap.get?_push_of_some _ q
  have fin : wpAny (model X.prog X.w) X.A (pyIter (.ref s1.heap.objs.size)) (PIE X pins σ (.Tuple elts kk tpos) R) X.xe { s1 with heap := s1.heap.push { cls := .type "dict_items", data := .fields #[.ref d] } } := by
    refine wpAny_pyIter_items_raw (d := d) ⟨_, Heap.get?_push_size _ rfl, rfl, rfl⟩ (raw.push _) (pi_one (tk := s1.toks) I3 _ (turnE_items _ hdt) ⟨.none, .none, ?_⟩ q)
    rw [← hsz]
    exact Heap.get?_push_size _ rfl
  show wpAny _ _ (callWith cpos (.builtin "dict.items") [.ref d] [] []) _ X.xe s1
  exact method_meetsIn PySem.F.slot_dict_items PySem.F.entry_dict_items rfl (PySem.evalArgs_none ⟨rfl, raw.typeIs, PySem.F.args_dict_items_1 _, _, meets_dict_items_raw d hs, ⟨qs, ep, raw⟩, fin⟩)
/-! ### locks are taken off at the end -/
/-- as it stands, or a lock taken off -/
def Unl (X : Cx) (H : Hp) (Q : Hp → Prop) : Prop := Q H ∨ ∃ d od u, H d = some (.frz od u) ∧ Opn X d ∧ Q (upd H d u)
theorem ps_unl {st : Stmt} {t : TS} (h : PS X st t) : PS X st (fun D σ H => t ⟨fun σ' H' => Unl X H' (D.nx σ'), fun v H' => Unl X H' (D.rt v), fun σ' H' => Unl X H' (D.bk σ'), fun σ' H' => Unl X H' (D.ct σ')⟩ σ H) := by
  have un : ∀ {pins : List (Addr × PySem.Obj)} {σ : L2.St} {H' : Hp} {s : Shared} {Q : Hp → Prop}, Inv X pins σ H' s → Unl X H' Q → ∃ H2, Inv X pins σ H2 s ∧ Q H2 := fun I q => by
    rcases q with q | ⟨d, od, u, e, n, q⟩
    · exact ⟨_, I, q⟩
    · exact ⟨_, I.unlock e n, q⟩
  refine ⟨fun pins s σ H D I hw => ?_⟩
  refine thn (h.run pins s σ _ _ I hw) fun f s1 q => ?_
  cases f with
  | next => obtain ⟨σ', H', I2, q⟩ := q; obtain ⟨H3, I3, q⟩ := un I2 q; exact ⟨σ', H3, I3, q⟩
  | brk => obtain ⟨σ', H', I2, q⟩ := q; obtain ⟨H3, I3, q⟩ := un I2 q; exact ⟨σ', H3, I3, q⟩
  | cont => obtain ⟨σ', H', I2, q⟩ := q; obtain ⟨H3, I3, q⟩ := un I2 q; exact ⟨σ', H3, I3, q⟩
  | ret v => obtain ⟨x, σ', H', I2, r, q⟩ := q; obtain ⟨H3, I3, q⟩ := un I2 q; exact ⟨x, σ', H3, I3, r, q⟩
theorem pe_unl {e : Expr} {t : TE} (h : PE X e t) : PE X e (fun σ H Q => t σ H fun v H' => Unl X H' (Q v)) := by
  refine ⟨fun pins s σ H Q I hw => ?_⟩
  refine thn (h.run pins s σ _ _ I hw) fun v s1 ⟨x, H1, I2, r, q⟩ => ?_
  rcases q with q | ⟨d, od, u, e, n, q⟩
  · exact ⟨x, H1, I2, r, q⟩
  · exact ⟨x, _, I2.unlock e n, r, q⟩
end
end EV

set_option Elab.async false
set_option linter.all false
set_option maxRecDepth 100000
set_option maxHeartbeats 1000000
/-! EvD: the operators, by their values. -/
namespace EV
open PySem PySem.Spec PyProof.Rows L2
section
variable {G : Glo} {ρ ρ' ρ'' : List Addr} {H H' H'' : Hp} {h h' : Hea}
/-! ### data -/
theorem DpAll.of_length {K : PySem.W.Frag} : ∀ {vs : List V} {ds : List PyData}, DpAll K H vs ds → vs.length = ds.length
  | _, _, .nil => rfl
  | _, _, .cons _ r => by simp [DpAll.of_length r]
mutual
theorem RelA.dp : ∀ (x : A) (v : V), RelA G H x v → x.py.canLay0 = true → Dp G.K H v x.py
  | .non, _, q, _ => by cases q; exact .non
  | .bl b, _, q, _ => by cases q; exact .bl b
  | .int i, _, q, _ => by cases q; exact .int i
  | .str s, _, q, _ => by cases q; exact .str _
  | .tup xs, _, q, c => by
    cases q with
    | tup q1 q2 => exact .tup q1 (RelAs.dp xs _ q2 (by simpa [A.py, PyData.canLay0] using c))
  | .fn i, _, q, c => by simp [A.py, PyData.canLay0] at c
theorem RelAs.dp : ∀ (xs : List A) (vs : List V), RelAs G H xs vs → PyData.canLayAll0 (A.pys xs) = true → DpAll G.K H vs (A.pys xs)
  | [], _, q, _ => by cases q; exact .nil
  | x :: xs, _, q, c => by
    cases q with
    | cons q1 q2 =>
      simp only [A.pys, PyData.canLayAll0, Bool.and_eq_true] at c
      exact .cons (RelA.dp x _ q1 c.1) (RelAs.dp xs _ q2 c.2)
end
theorem optAll_cons {α β : Type} {f : α → Option β} {x : α} {xs : List α} {ys : List β} (e : optAll f (x :: xs) = some ys) : ∃ y r, ys = y :: r ∧ f x = some y ∧ optAll f xs = some r := by
  unfold optAll at e
  split at e
  · cases e
  · rename_i y e1
    split at e
    · cases e
    · rename_i r e2
      cases e
      exact ⟨y, r, rfl, e1, e2⟩
theorem dpAll_of (r : RelH G ρ H h) {f : D → Option PyData} (hf : ∀ d v x, f d = some x → RelD G ρ H d v → x.canLay0 = true → Dp G.K H v x) :
    ∀ {ds : List D} {vs : List V} {xs : List PyData}, optAll f ds = some xs → RelDs G ρ H ds vs → PyData.canLayAll0 xs = true → DpAll G.K H vs xs
  | [], _, xs, e, .nil, _ => by simp [optAll] at e; subst e; exact .nil
  | d :: ds, _, xs, e, .cons q s, c => by
    obtain ⟨y, t, rfl, e1, e2⟩ := optAll_cons e
    simp only [PyData.canLayAll0, Bool.and_eq_true] at c
    exact .cons (hf d _ y e1 q c.1) (dpAll_of r hf e2 s c.2)
theorem pyD_dp (r : RelH G ρ H h) : ∀ (n : Nat) (d : D) (v : V) (x : PyData), pyD h n d = some x → RelD G ρ H d v → x.canLay0 = true → Dp G.K H v x
  | 0, _, _, _, e, _, _ => by simp [pyD] at e
  | n + 1, d, v, x, e, q, c => by
    cases q with
    | a q =>
      simp only [pyD, Option.some.injEq] at e
      subst e
      exact RelA.dp _ _ q c
    | ref q =>
      rename_i m p
      simp only [pyD] at e
      split at e
      · rename_i xs h1
        split at e
        · rename_i ys h2
          cases e
          obtain ⟨vs, h3, h4⟩ := r.ob m _ p h1 q
          exact .lst (SqL.of h3) (dpAll_of r (pyD_dp r n) h2 h4 (by simpa [PyData.canLay0] using c))
        · cases e
      · cases e
    | tupR q1 q2 =>
      simp only [pyD] at e
      split at e
      · rename_i ys h2
        cases e
        exact .tup q1 (dpAll_of r (pyD_dp r n) h2 q2 (by simpa [PyData.canLay0] using c))
      · cases e
    | _ => simp [pyD] at e
theorem shaped_lay {d : PyData} (s : SeqAt.shaped d = true) : d.canLay0 = true := SeqAt.canLay_of_shaped s
theorem eqD_dp (r : RelH G ρ H h) {d e : D} {x y : V} {b : Bool} (q : eqD h d e = some b) (rd : RelD G ρ H d x) (re : RelD G ρ H e y) :
    ∃ a c, Dp G.K H x a ∧ Dp G.K H y c ∧ SeqAt.shaped a = true ∧ SeqAt.shaped c = true ∧ PyData.eqv a c = b := by
  unfold eqD at q
  split at q
  · cases q
  · rename_i a e1
    split at q
    · cases q
    · rename_i c e2
      split at q
      · rename_i s
        rw [Bool.and_eq_true] at s
        cases q
        exact ⟨a, c, pyD_dp r 8 d x a e1 rd (shaped_lay s.1), pyD_dp r 8 e y c e2 re (shaped_lay s.2), s.1, s.2, rfl⟩
      · cases q
variable {X : Cx}
theorem blR_all {o : Option Bool} {P : D → Hea → Prop} {W : Exn → Hea → Prop} (q : (blR o h).all P W) : ∃ b, o = some b ∧ P (.bl b) h := by
  unfold blR at q
  split at q
  · exact ⟨_, rfl, q⟩
  · exact q.elim
theorem PostE.bl {Q : VK} {b : Bool} (r : RelH G ρ H h) (p : PostE G ρ H Q (.bl b) h) : Q (.bl b) H := p ρ H _ Ext.refl (.a (.bl b)) r
theorem PostE.int {Q : VK} {b : Int} (r : RelH G ρ H h) (p : PostE G ρ H Q (.int b) h) : Q (.int b) H := p ρ H _ Ext.refl (.a (.int b)) r
theorem eqX_cases {d e : D} {b : Bool} (q : eqX h d e = some b) : (∃ n z xs n2 z2 ys, asDct h d = some (n, z, xs) ∧ asDct h e = some (n2, z2, ys) ∧ eqK xs ys = some b) ∨ eqD h d e = some b := by
  unfold eqX at q
  split at q
  · rename_i n z xs e1
    split at q
    · rename_i n2 z2 ys e2
      exact .inl ⟨n, z, xs, n2, z2, ys, e1, e2, q⟩
    · cases q
  · exact .inr q
theorem ops_eq (hK : X.K = G.K) (hw : X.w = G.w) (hu : X.A.units + 64 < cLine) : OpS G X (compareOp .Eq) (fun d e h => blR (copD .eq d e h) h) := ⟨_, (op_eqD hu).or (op_eqK hw (by omega)), fun ρ H h d e x y Q W rd re r q => by
  obtain ⟨b, e1, p⟩ := blR_all q
  rw [show copD .eq d e h = eqX h d e by cases d <;> rfl] at e1
  rcases eqX_cases e1 with ⟨n, z, xs, n2, z2, ys, h1, h2, h3⟩ | e1
  · obtain ⟨p1, es1, i⟩ := asDct_rel r h1 rd
    obtain ⟨p2, es2, j⟩ := asDct_rel r h2 re
    exact .inr ⟨ρ, h, d, e, n, z, xs, p1, es1, n2, z2, ys, p2, es2, b, i, j, h3, p.bl r⟩
  · obtain ⟨a, c, h1, h2, h3, h4, h5⟩ := eqD_dp r e1 rd re
    rw [hK]
    exact .inl ⟨a, c, h1, h2, h3, h4, by rw [h5]; exact p.bl r⟩⟩
theorem ops_ne (hK : X.K = G.K) (hw : X.w = G.w) (hu : X.A.units + 64 < cLine) : OpS G X (compareOp .NotEq) (fun d e h => blR (copD .ne d e h) h) := ⟨_, (op_neD hu).or (op_neK hw (by omega)), fun ρ H h d e x y Q W rd re r q => by
  obtain ⟨b, e1, p⟩ := blR_all q
  rw [show copD .ne d e h = (eqX h d e).map (!·) by cases d <;> rfl, Option.map_eq_some_iff] at e1
  obtain ⟨b', e1, e2⟩ := e1
  subst e2
  rcases eqX_cases e1 with ⟨n, z, xs, n2, z2, ys, h1, h2, h3⟩ | e1
  · obtain ⟨p1, es1, i⟩ := asDct_rel r h1 rd
    obtain ⟨p2, es2, j⟩ := asDct_rel r h2 re
    exact .inr ⟨ρ, h, d, e, n, z, xs, p1, es1, n2, z2, ys, p2, es2, b', i, j, h3, p.bl r⟩
  · obtain ⟨a, c, h1, h2, h3, h4, h5⟩ := eqD_dp r e1 rd re
    rw [hK]
    exact .inl ⟨a, c, h1, h2, h3, h4, by rw [h5]; exact p.bl r⟩⟩
/-- x in a tuple, x not in a tuple -/
def rInT (K : PySem.W.Frag) (neg : Bool) : R2 := fun x y H Q => ∃ d ds, Dp K H x d ∧ Dp K H y (.tuple ds) ∧ SeqAt.shaped d = true ∧ SeqAt.shaped (.list ds) = true ∧ Q (.bl (if neg then !ds.any (fun z => PyData.eqv z d) else ds.any fun z => PyData.eqv z d)) H
theorem op_inT (hu : X.A.units + 65 < cLine) : OpR X (compareOp .In) (rInT X.K false) := by
  intro pins s σ H x y v u Q I rx ry h
  obtain ⟨d, ds, hd, he, sd, se, q⟩ := h
  obtain ⟨as, r1⟩ := Dp.reads I d x v hd rx
  obtain ⟨bs, r2⟩ := Dp.reads I (.tuple ds) y u he ry
  exact SeqAt.in_tuple_reads r2 r1 (by simpa [PyData.canLay0] using SeqAt.canLay_of_shaped se) (SeqAt.canLay_of_shaped sd) (room_in_shaped sd hu) ⟨.bl _, H, I, rfl, q⟩
theorem op_notInT (hu : X.A.units + 65 < cLine) : OpR X (compareOp .NotIn) (rInT X.K true) := by
  intro pins s σ H x y v u Q I rx ry h
  obtain ⟨d, ds, hd, he, sd, se, q⟩ := h
  obtain ⟨as, r1⟩ := Dp.reads I d x v hd rx
  obtain ⟨bs, r2⟩ := Dp.reads I (.tuple ds) y u he ry
  exact SeqAt.notIn_tuple_reads r2 r1 (by simpa [PyData.canLay0] using SeqAt.canLay_of_shaped se) (SeqAt.canLay_of_shaped sd) (room_in_shaped sd hu) ⟨.bl _, H, I, rfl, q⟩
theorem inD_dp (r : RelH G ρ H h) {d : D} {xs : List D} {x : V} {vs : List V} {b : Bool} (q : inD h d xs = some b) (rd : RelD G ρ H d x) (re : RelDs G ρ H xs vs) :
    ∃ a cs, Dp G.K H x a ∧ DpAll G.K H vs cs ∧ SeqAt.shaped a = true ∧ SeqAt.shaped (.list cs) = true ∧ (cs.any fun z => PyData.eqv z a) = b := by
  unfold inD at q
  split at q
  · cases q
  · rename_i a e1
    split at q
    · cases q
    · rename_i c e2
      split at q
      · rename_i s
        rw [Bool.and_eq_true] at s
        cases q
        exact ⟨a, c, pyD_dp r 8 d x a e1 rd (shaped_lay s.1), dpAll_of r (pyD_dp r 8) e2 re (by simpa [PyData.canLay0] using shaped_lay s.2), s.1, s.2, rfl⟩
      · cases q
theorem inX_cases {d e : D} {b : Bool} (q : inX h d e = some b) : (∃ n z xs k, asDct h e = some (n, z, xs) ∧ d = .a k ∧ kindOk k xs = true ∧ b = (dget k xs).isSome) ∨ ∃ xs, asSeq h e = some xs ∧ inD h d xs = some b := by
  unfold inX at q
  split at q
  · rename_i n z xs e1
    unfold inK at q
    split at q
    · rename_i k
      split at q
      · rename_i ko
        cases q
        exact .inl ⟨n, z, xs, k, e1, rfl, ko, rfl⟩
      · cases q
    · cases q
  · split at q
    · rename_i xs e2
      exact .inr ⟨xs, e2, q⟩
    · cases q
theorem ops_in (hK : X.K = G.K) (hw : X.w = G.w) (hu : X.A.units + 65 < cLine) : OpS G X (compareOp .In) (fun d e h => blR (copD .inn d e h) h) := ⟨_, ((op_inD hu).or (op_inT hu)).or (op_inK hK hw (by omega)), fun ρ H h d e x y Q W rd re r q => by
  obtain ⟨b, e1, p⟩ := blR_all q
  rw [show copD .inn d e h = inX h d e by cases d <;> rfl] at e1
  rcases inX_cases e1 with ⟨n, z, xs, k, h1, rfl, ko, rfl⟩ | ⟨xs, e2, e1⟩
  · obtain ⟨p1, es1, i⟩ := asDct_rel r h1 re
    cases rd with
    | a rk => exact .inr ⟨ρ, h, e, n, z, xs, p1, es1, k, i, rk, ko, p.bl r⟩
  · obtain ⟨pa, vs, rfl, s, rds⟩ := asSeq_rel r e2 re
    obtain ⟨a, cs, h1, h2, h3, h4, h5⟩ := inD_dp r e1 rd rds
    rw [hK]
    rcases s with s | s
    · exact .inl (.inl ⟨a, cs, h1, .lst s h2, h3, h4, by rw [h5]; exact p.bl r⟩)
    · exact .inl (.inr ⟨a, cs, h1, .tup s h2, h3, h4, by rw [h5]; exact p.bl r⟩)⟩
theorem ops_nin (hK : X.K = G.K) (hw : X.w = G.w) (hu : X.A.units + 65 < cLine) : OpS G X (compareOp .NotIn) (fun d e h => blR (copD .nin d e h) h) := ⟨_, ((op_notInD hu).or (op_notInT hu)).or (op_notInK hK hw (by omega)), fun ρ H h d e x y Q W rd re r q => by
  obtain ⟨b, e1, p⟩ := blR_all q
  rw [show copD .nin d e h = (inX h d e).map (!·) by cases d <;> rfl, Option.map_eq_some_iff] at e1
  obtain ⟨b', e1, e3⟩ := e1
  subst e3
  rcases inX_cases e1 with ⟨n, z, xs, k, h1, rfl, ko, rfl⟩ | ⟨xs, e2, e1⟩
  · obtain ⟨p1, es1, i⟩ := asDct_rel r h1 re
    cases rd with
    | a rk => exact .inr ⟨ρ, h, e, n, z, xs, p1, es1, k, i, rk, ko, p.bl r⟩
  · obtain ⟨pa, vs, rfl, s, rds⟩ := asSeq_rel r e2 re
    obtain ⟨a, cs, h1, h2, h3, h4, h5⟩ := inD_dp r e1 rd rds
    rw [hK]
    rcases s with s | s
    · exact .inl (.inl ⟨a, cs, h1, .lst s h2, h3, h4, by rw [h5]; exact p.bl r⟩)
    · exact .inl (.inr ⟨a, cs, h1, .tup s h2, h3, h4, by simp only [if_true]; rw [h5]; exact p.bl r⟩)⟩
/-- two ints -/
theorem ops_ints {f : Value → Value → Sem Value} {gi : Int → Int → Bool} {c : Cop} (ho : OpR X f (rI0 fun i j => .bl (gi i j)))
    (hc : ∀ d e h b, copD c d e h = some b → ∃ i j, d = .a (.int i) ∧ e = .a (.int j) ∧ b = gi i j) : OpS G X f (fun d e h => blR (copD c d e h) h) := ⟨_, ho, fun ρ H h d e x y Q W rd re r q => by
  obtain ⟨b, e1, p⟩ := blR_all q
  obtain ⟨i, j, rfl, rfl, rfl⟩ := hc _ _ _ _ e1
  cases rd with
  | a rd =>
    cases rd
    cases re with
    | a re =>
      cases re
      exact ⟨i, j, rfl, rfl, p.bl r⟩⟩
theorem cop_int {c : Cop} {g : Int → Int → Bool} (hc : c = .lt ∧ g = (fun i j => decide (i < j)) ∨ c = .le ∧ g = (fun i j => decide (i ≤ j)) ∨ c = .gt ∧ g = (fun i j => decide (j < i)) ∨ c = .ge ∧ g = fun i j => decide (j ≤ i)) (d e : D) (h : Hea) (b : Bool)
    (q : copD c d e h = some b) : ∃ i j, d = .a (.int i) ∧ e = .a (.int j) ∧ b = g i j := by
  rcases hc with ⟨rfl, rfl⟩ | ⟨rfl, rfl⟩ | ⟨rfl, rfl⟩ | ⟨rfl, rfl⟩ <;>
  · unfold copD at q
    split at q <;> first
      | (cases q; exact ⟨_, _, rfl, rfl, rfl⟩)
      | (cases q; done)
      | (exfalso; simp_all; done)
theorem ops_lt : OpS G X (compareOp .Lt) (fun d e h => blR (copD .lt d e h) h) := ops_ints op_lt (cop_int (.inl ⟨rfl, rfl⟩))
theorem ops_le : OpS G X (compareOp .LtE) (fun d e h => blR (copD .le d e h) h) := ops_ints op_le (cop_int (.inr (.inl ⟨rfl, rfl⟩)))
theorem ops_gt : OpS G X (compareOp .Gt) (fun d e h => blR (copD .gt d e h) h) := ops_ints op_gt (cop_int (.inr (.inr (.inl ⟨rfl, rfl⟩))))
theorem ops_ge : OpS G X (compareOp .GtE) (fun d e h => blR (copD .ge d e h) h) := ops_ints op_ge (cop_int (.inr (.inr (.inr ⟨rfl, rfl⟩))))

theorem PostE.newL {Q : VK} {xs : List D} {vs : List V} (r : RelH G ρ H h) (p : PostE G ρ H Q (.ref h.length) (h ++ [.lst xs])) (q : RelDs G ρ H xs vs) : ∀ a, H a = none → Q (.ref a) (upd H a (.lst vs)) := fun a n => by
  refine p _ _ _ (Ext.new n) (.ref ?_) (r.fresh n ⟨vs, upd_same, q.keep r (Ext.new n)⟩)
  rw [← r.len, List.getElem?_append_right (Nat.le_refl _)]
  simp
theorem PostE.newT {Q : VK} {xs : List D} {vs : List V} (r : RelH G ρ H h) (p : PostE G ρ H Q (mkTup xs) h) (q : RelDs G ρ H xs vs) : ∀ a, H a = none → Q (.ref a) (upd H a (.tup vs)) := fun a n =>
  p _ _ _ (Ext.quiet n) (mkTup_rel (q.keep r (Ext.quiet n)) (SqT.of upd_same)) (r.fresh_quiet n)
theorem PostE.oldT {Q : VK} {xs : List D} {vs : List V} {a : Addr} (r : RelH G ρ H h) (p : PostE G ρ H Q (mkTup xs) h) (q : RelDs G ρ H xs vs) (s : SqT G.K H a vs) : Q (.ref a) H :=
  p _ _ _ Ext.refl (mkTup_rel q s) r
theorem RelD.int_inv {x : V} {i : Int} (q : RelD G ρ H (.a (.int i)) x) : x = .int i := by cases q with | a q => cases q; rfl
theorem RelD.bl_inv {x : V} {i : Bool} (q : RelD G ρ H (.a (.bl i)) x) : x = .bl i := by cases q with | a q => cases q; rfl
theorem RelD.str_inv {x : V} {i : List Nat} (q : RelD G ρ H (.a (.str i)) x) : x = .str ⟨i.toArray⟩ := by cases q with | a q => cases q; rfl
theorem str_len (s : List Nat) : (Str.length ⟨s.toArray⟩) = s.length := by simp [Str.length]
theorem str_app (s t : List Nat) : ((⟨s.toArray⟩ : Str) ++ (⟨t.toArray⟩ : Str)) = ⟨(s ++ t).toArray⟩ := by
  show Str.append _ _ = _
  simp [Str.append]
theorem szl : (SZ : Nat) = sizeLine := by rw [sizeLine_eq]; rfl
theorem ops_add (hK : X.K = G.K) : OpS G X (binaryOp .Add) (bopD .add) := ⟨_, op_add.or (op_add_str.or (op_cat.or op_catA)), fun ρ H h d e x y Q W rd re r q => by
  unfold bopD at q
  split at q
  · -- ints
    cases rd.int_inv; cases re.int_inv
    exact .inl ⟨_, _, rfl, rfl, PostE.int r q⟩
  · rename_i s t _ _
    split at q
    · rename_i hl
      cases RelD.str_inv rd; cases RelD.str_inv re
      refine .inr (.inl ⟨_, _, rfl, rfl, by rw [str_len, str_len, ← szl]; exact hl, ?_⟩)
      rw [str_app]
      exact q ρ H _ Ext.refl (.a (.str _)) r
    · exact q.elim
  · rename_i m n _ _
    split at q
    · exact q.elim
    · rename_i xs e1
      split at q
      · exact q.elim
      · rename_i ys e2
        split at q
        · rename_i hl
          obtain ⟨n1, p1, vs, _, rfl, _, _, h1, q1⟩ := asLst_rel r e1 rd
          obtain ⟨n2, p2, ws, _, rfl, _, _, h2, q2⟩ := asLst_rel r e2 re
          exact .inr (.inr (.inl ⟨p1, p2, vs, ws, rfl, rfl, h1, h2, by rw [← q1.length, ← q2.length, ← szl]; exact hl, PostE.newL r q (q1.append q2)⟩))
        · exact q.elim
  all_goals first
    | (split at q
       · exact q.elim
       · rename_i xs e1
         split at q
         · exact q.elim
         · rename_i ys e2
           split at q
           · rename_i hl
             obtain ⟨p1, vs, rfl, h1, q1⟩ := asTup_rel e1 rd
             obtain ⟨p2, ws, rfl, h2, q2⟩ := asTup_rel e2 re
             rw [hK]
             refine .inr (.inr (.inr ⟨p1, p2, vs, ws, rfl, rfl, h1, h2, by rw [← q1.length, ← q2.length, ← szl]; exact hl, fun z => ?_, fun _ z => ?_, fun _ _ => PostE.newT r q (q1.append q2)⟩))
             · subst z
               cases q1
               exact PostE.oldT r q q2 h2
             · subst z
               cases q2
               rw [List.append_nil] at q
               exact PostE.oldT r q q1 h1
           · exact q.elim)
    | exact q.elim
    | (rename_i hh _; cases hh; done)
    | (simp_all; done)⟩
theorem ops_sub : OpS G X (binaryOp .Sub) (bopD .sub) := ⟨_, op_sub, fun ρ H h d e x y Q W rd re r q => by
  unfold bopD at q
  split at q <;> first
    | (rename_i hh; cases hh; done)
    | (rename_i hh _; cases hh; done)
    | (cases rd.int_inv; cases re.int_inv; exact ⟨_, _, rfl, rfl, PostE.int r q⟩)
    | exact q.elim
    | (simp_all; done)⟩
end
end EV

set_option Elab.async false
set_option linter.all false
set_option maxRecDepth 100000
set_option maxHeartbeats 1000000
/-! EvE: the other expressions: subscripts, slices, tests, and, or, not, calls of built-ins, methods. -/
namespace EV
open PySem PySem.Spec PyProof.Rows L2
section
variable {G : Glo} {ρ ρ' ρ'' : List Addr} {H H' H'' : Hp} {h h' : Hea} {X : Cx}
theorem repD {xs : List D} {vs : List V} (q : RelDs G ρ H xs vs) : ∀ k : Nat, RelDs G ρ H (List.replicate k xs).flatten (List.replicate k vs).flatten
  | 0 => .nil
  | k + 1 => by
    rw [List.replicate_succ, List.replicate_succ, List.flatten_cons, List.flatten_cons]
    exact q.append (repD q k)
theorem ops_mul (hK : X.K = G.K) : OpS G X (binaryOp .Mult) (bopD .mul) := ⟨_, (op_mul.or op_rep).or op_repT, fun ρ H h d e x y Q W rd re r q => by
  unfold bopD at q
  split at q <;> first
    | (rename_i hh; cases hh; done)
    | (rename_i hh _; cases hh; done)
    | (split at q
       · rename_i hc
         cases rd.int_inv; cases re.int_inv
         exact .inl (.inl ⟨_, _, rfl, rfl, by unfold CMul; simpa [I64] using hc, PostE.int r q⟩)
       · exact q.elim)
    | (split at q
       · rename_i hc
         cases rd with
         | a rd =>
           cases rd with
           | tup s rs =>
             cases re.int_inv
             have rds : RelDs G ρ H _ _ := rs.ds (ρ := ρ)
             have hl := rds.length
             rw [List.length_map] at hl
             refine .inr ⟨_, _, _, rfl, rfl, by rw [hK]; exact s, fun z => hc.1 ?_, hc.2.1, hc.2.2.1, by rw [← hl]; exact hc.2.2.2, PostE.newT r q (repD rds _)⟩
             rw [z] at hl
             exact List.length_eq_zero_iff.mp hl
       · exact q.elim)
    | (split at q
       · exact q.elim
       · rename_i xs e1
         split at q
         · rename_i hc
           obtain ⟨n, p, vs, _, rfl, _, _, h1, q1⟩ := asLst_rel r e1 rd
           cases re.int_inv
           refine .inl (.inr ⟨p, _, vs, rfl, rfl, h1, by omega, by omega, by rw [← q1.length, ← szl]; exact hc.2.2, PostE.newL r q (repD q1 _)⟩)
         · exact q.elim)
    | exact q.elim
    | (simp_all; done)⟩
theorem ops_fdiv : OpS G X (binaryOp .FloorDiv) (bopD .fdiv) := ⟨_, op_fdivN, fun ρ H h d e x y Q W rd re r q => by
  unfold bopD at q
  split at q <;> first
    | (rename_i hh; cases hh; done)
    | (rename_i hh _; cases hh; done)
    | (split at q
       · rename_i hc
         cases rd.int_inv; cases re.int_inv
         exact ⟨_, _, rfl, rfl, hc, PostE.int r q⟩
       · exact q.elim)
    | exact q.elim
    | (simp_all; done)⟩
theorem ops_mod : OpS G X (binaryOp .Mod) (bopD .mod) := ⟨_, op_modN, fun ρ H h d e x y Q W rd re r q => by
  unfold bopD at q
  split at q <;> first
    | (rename_i hh; cases hh; done)
    | (rename_i hh _; cases hh; done)
    | (split at q
       · rename_i hc
         cases rd.int_inv; cases re.int_inv
         exact ⟨_, _, rfl, rfl, hc, PostE.int r q⟩
       · exact q.elim)
    | exact q.elim
    | (simp_all; done)⟩
theorem ops_pow : OpS G X (binaryOp .Pow) (bopD .pow) := ⟨_, op_pow, fun ρ H h d e x y Q W rd re r q => by
  unfold bopD at q
  split at q <;> first
    | (rename_i hh; cases hh; done)
    | (rename_i hh _; cases hh; done)
    | (split at q
       · rename_i hc
         cases rd.int_inv; cases re.int_inv
         exact ⟨_, _, rfl, rfl, by unfold CPow; simpa using hc, PostE.int r q⟩
       · exact q.elim)
    | exact q.elim
    | (simp_all; done)⟩
/-! ### is None -/
theorem isN_rel {d : D} {x : V} {b : Bool} (e : copD .isN d y h = some b) (rd : RelD G ρ H d x) : decide (x = .non) = b := by
  cases rd with
  | a rd => cases rd <;> simp [copD] at e <;> subst e <;> simp
  | opt _ => simp [copD] at e
  | _ => simp [copD] at e; subst e; simp
theorem isNot_rel {d : D} {x : V} {b : Bool} (e : copD .isNot d y h = some b) (rd : RelD G ρ H d x) : (!decide (x = .non)) = b := by
  cases rd with
  | a rd => cases rd <;> simp [copD] at e <;> subst e <;> simp
  | opt _ => simp [copD] at e
  | _ => simp [copD] at e; subst e; simp
theorem snd_neg {a : Expr} {ra : Env → Hea → Res D} {pos} (ha : Snd G X a ra) :
    Snd G X (.UnaryOp .USub a pos) (fun σ h => (ra σ h).bind fun d h1 => match asInt d with | some i => .ok (.int (-i)) h1 | none => .bad) := fun W tk =>
  PE.imp (pe_un un_neg (ha W tk)) fun σ H Q ⟨ρ, σd, h, st, rh, q⟩ => tV_then st rh q fun ρ1 H1 x d k1 x1 st1 rd r1 q => by
    split at q
    · rename_i i e
      cases asInt_rel e rd
      exact ⟨i, rfl, PostE.int r1 q⟩
    · exact q.elim
/-- a < b < c -/
theorem rd_chain {ra rb rc : Env → Hea → Res D} {g g' : D → D → Hea → Option Bool} {r r' : R2} {W : WX}
    (h2 : ∀ ρ H h d e x y Q W, RelD G ρ H d x → RelD G ρ H e y → RelH G ρ H h → (blR (g d e h) h).all (PostE G ρ H Q) W → r x y H Q)
    (h2' : ∀ ρ H h d e x y Q W, RelD G ρ H d x → RelD G ρ H e y → RelH G ρ H h → (blR (g' d e h) h).all (PostE G ρ H Q) W → r' x y H Q) :
    Rd2 G (fun σ h => (ra σ h).bind fun x h1 => (rb σ h1).bind fun y h2 => match g x y h2 with
      | some true => (rc σ h2).bind fun z h3 => blR (g' y z h3) h3
      | some false => .ok (.bl false) h2
      | none => .bad) W (tChain r r' (tV G ra W) (tV G rb W) (tV G rc W)) := fun σ H Q ⟨ρ, σd, h, st, rh, q⟩ => by
  refine tV_then st rh q fun ρ1 H1 x d k1 x1 st1 rd r1 q => tV_then st1 r1 q fun ρ2 H2 y e k2 x2 st2 re r2 q => ?_
  refine h2 ρ2 H2 k2 d e x y _ (fun _ _ => False) (rd.keep r1 x2) re r2 ?_
  split at q
  · rename_i e1
    show (blR (g d e k2) k2).all _ _
    rw [e1]
    show PostE G ρ2 H2 _ (.bl true) k2
    intro ρ3 H3 v x3 rv r3
    cases RelD.bl_inv rv
    refine ⟨true, rfl, ?_⟩
    rw [if_pos rfl]
    have q' := Res.all_mono (fun _ _ p => PostE.mv r3 x3 p) (fun _ _ p => PostX.mv r3 x3 p) q
    have q3 : ((rc σd k2).bind fun z h3 => blR (g' e z h3) h3).all (PostE G ρ3 H3 Q) (PostX G ρ3 H3 fun c d H' => W c d σ H') := q'
    have k23 : k2 = k2 := rfl
    refine tV_then (st2.keep r2 x3) r3 q3 fun ρ4 H4 z f k4 x4 st4 rf r4 q => ?_
    exact h2' ρ4 H4 k4 e f y z Q _ ((re.keep r2 x3).keep r3 x4) rf r4 q
  · rename_i e1
    show (blR (g d e k2) k2).all _ _
    rw [e1]
    show PostE G ρ2 H2 _ (.bl false) k2
    intro ρ3 H3 v x3 rv r3
    cases RelD.bl_inv rv
    refine ⟨false, rfl, ?_⟩
    rw [if_neg Bool.false_ne_true]
    exact q ρ3 H3 _ x3 (.a (.bl false)) r3
  · exact q.elim

theorem snd_chain {a b c : Expr} {ra rb rc : Env → Hea → Res D} {op op' : CmpOp} {g g' : D → D → Hea → Option Bool} {pos : Pos} (ho : OpS G X (compareOp op) fun d e h => blR (g d e h) h) (ho' : OpS G X (compareOp op') fun d e h => blR (g' d e h) h)
    (ha : Snd G X a ra) (hb : Snd G X b rb) (hc : Snd G X c rc) (hm : lastMarks [op, op'] [b, c] = false) :
    Snd G X (.Compare a [op, op'] [b, c] pos) (fun σ h => (ra σ h).bind fun x h1 => (rb σ h1).bind fun y h2 => match g x y h2 with
      | some true => (rc σ h2).bind fun z h3 => blR (g' y z h3) h3
      | some false => .ok (.bl false) h2
      | none => .bad) := fun W tk => by
  obtain ⟨r, h1, h2⟩ := ho
  obtain ⟨r', h1', h2'⟩ := ho'
  exact PE.imp (pe_chain h1 h1' (ha W tk) (hb W tk) (hc W tk) hm) (rd_chain h2 h2')
theorem sndt_chain {a b c : Expr} {ra rb rc : Env → Hea → Res D} {op op' : CmpOp} {g g' : D → D → Hea → Option Bool} {pos : Pos} (ho : OpS G X (compareOp op) fun d e h => blR (g d e h) h) (ho' : OpS G X (compareOp op') fun d e h => blR (g' d e h) h)
    (ha : Snd G X a ra) (hb : Snd G X b rb) (hc : Snd G X c rc) (hm : lastMarks [op, op'] [b, c] = false) :
    SndT G X (.Compare a [op, op'] [b, c] pos) (fun σ h => ((ra σ h).bind fun x h1 => (rb σ h1).bind fun y h2 => match g x y h2 with
      | some true => (rc σ h2).bind fun z h3 => blR (g' y z h3) h3
      | some false => .ok (.bl false) h2
      | none => .bad).bind fun d h1 => match asBl d with | some b => .ok (.bl b) h1 | none => .bad) := by
  obtain ⟨r, h1, h2⟩ := ho
  obtain ⟨r', h1', h2'⟩ := ho'
  exact sndt_of (r := fun σ h => (ra σ h).bind fun x h1 => (rb σ h1).bind fun y h2 => match g x y h2 with
      | some true => (rc σ h2).bind fun z h3 => blR (g' y z h3) h3
      | some false => .ok (.bl false) h2
      | none => .bad) fun W tk => ⟨_, pt_chain h1 h1' (ha W tk) (hb W tk) (hc W tk) hm, rd_chain h2 h2'⟩
theorem rd_isN {ra : Env → Hea → Res D} {W : WX} : Rd2 G (fun σ h => (ra σ h).bind fun d h1 => (Res.ok (.a .non) h1 : Res D).bind fun e h2 => blR (copD .isN d e h2) h2) W (tIsN (tV G ra W)) := fun σ H Q ⟨ρ, σd, h, st, rh, q⟩ => tV_then st rh q fun ρ1 H1 x d k1 x1 st1 rd r1 q => by
    obtain ⟨b, e1, p⟩ := blR_all q
    rw [isN_rel e1 rd]
    exact p.bl r1
theorem rd_isNot {ra : Env → Hea → Res D} {W : WX} : Rd2 G (fun σ h => (ra σ h).bind fun d h1 => (Res.ok (.a .non) h1 : Res D).bind fun e h2 => blR (copD .isNot d e h2) h2) W (tNotN (tV G ra W)) := fun σ H Q ⟨ρ, σd, h, st, rh, q⟩ => tV_then st rh q fun ρ1 H1 x d k1 x1 st1 rd r1 q => by
    obtain ⟨b, e1, p⟩ := blR_all q
    rw [isNot_rel e1 rd]
    exact p.bl r1
theorem snd_isN {a : Expr} {ra : Env → Hea → Res D} {j p pos} (ha : Snd G X a ra) :
    Snd G X (.Compare a [.Is] [.Constant .none j p] pos) (fun σ h => (ra σ h).bind fun d h1 => (Res.ok (.a .non) h1 : Res D).bind fun e h2 => blR (copD .isN d e h2) h2) := fun W tk =>
  PE.imp (pe_cmp (pc_isN (ha W tk)) (by rfl)) rd_isN
theorem snd_isNot {a : Expr} {ra : Env → Hea → Res D} {j p pos} (ha : Snd G X a ra) :
    Snd G X (.Compare a [.IsNot] [.Constant .none j p] pos) (fun σ h => (ra σ h).bind fun d h1 => (Res.ok (.a .non) h1 : Res D).bind fun e h2 => blR (copD .isNot d e h2) h2) := fun W tk =>
  PE.imp (pe_cmp (pc_notN (ha W tk)) (by rfl)) rd_isNot
theorem sndt_isN {a : Expr} {ra : Env → Hea → Res D} {j p pos} (ha : Snd G X a ra) :
    SndT G X (.Compare a [.Is] [.Constant .none j p] pos) (fun σ h => ((ra σ h).bind fun d h1 => (Res.ok (.a .non) h1 : Res D).bind fun e h2 => blR (copD .isN d e h2) h2).bind fun d h1 => match asBl d with | some b => .ok (.bl b) h1 | none => .bad) :=
  sndt_of (r := fun σ h => (ra σ h).bind fun d h1 => (Res.ok (.a .non) h1 : Res D).bind fun e h2 => blR (copD .isN d e h2) h2) fun W tk => ⟨_, pt_cmp (pc_isN (ha W tk)) (by rfl), rd_isN⟩
theorem sndt_isNot {a : Expr} {ra : Env → Hea → Res D} {j p pos} (ha : Snd G X a ra) :
    SndT G X (.Compare a [.IsNot] [.Constant .none j p] pos) (fun σ h => ((ra σ h).bind fun d h1 => (Res.ok (.a .non) h1 : Res D).bind fun e h2 => blR (copD .isNot d e h2) h2).bind fun d h1 => match asBl d with | some b => .ok (.bl b) h1 | none => .bad) :=
  sndt_of (r := fun σ h => (ra σ h).bind fun d h1 => (Res.ok (.a .non) h1 : Res D).bind fun e h2 => blR (copD .isNot d e h2) h2) fun W tk => ⟨_, pt_cmp (pc_notN (ha W tk)) (by rfl), rd_isNot⟩
/-! ### subscripts and slices -/
def sliceB : Expr → Bool
  | .Slice .. => true
  | _ => false
theorem plainIx {b : Expr} (n : sliceB b = false) : PlainIx b := by
  intro o i
  cases b <;> first | rfl | (simp [sliceB] at n)
theorem ixZ_eq (n : Nat) (i : Int) : ixZ n i = L2.ixN n i := rfl
theorem snd_sub {a b : Expr} {ra rb : Env → Hea → Res D} {pos} (hK : X.K = G.K) (hw : X.w = G.w) (hu : X.A.units + 10 < cLine) (ha : Snd G X a ra) (hb : Snd G X b rb) (n : sliceB b = false) :
    Snd G X (.Subscript a b pos) (fun σ h => (ra σ h).bind fun d h1 => (rb σ h1).bind fun e h2 => subD d e h2) := fun W tk =>
  PE.imp (pe_ix ((ix_list.or ix_tup).or (ix_dctK hK hw hu)) (ha W tk) (hb W tk) (plainIx n)) fun σ H Q ⟨ρ, σd, h, st, rh, q⟩ =>
    tV_then st rh q fun ρ1 H1 x d k1 x1 st1 rd r1 q => tV_then st1 r1 q fun ρ2 H2 y e k2 x2 st2 re r2 q => by
      unfold subD at q
      split at q
      · rename_i n z kvs e0
        obtain ⟨p, es, i⟩ := asDct_rel r2 e0 (rd.keep r1 x2)
        unfold subK at q
        split at q
        · split at q
          · rename_i ko
            split at q
            · rename_i v0 e3
              cases re with
              | a rk => exact .inr ⟨ρ2, k2, d, n, z, kvs, p, es, _, v0, i, rk, ko, e3, fun v rv => q ρ2 H2 v Ext.refl rv r2⟩
            · exact q.elim
          · exact q.elim
        · exact q.elim
      · unfold subL at q
        split at q
        · rename_i k
          split at q
          · exact q.elim
          · rename_i xs e1
            split at q
            · exact q.elim
            · rename_i j e2
              split at q
              · exact q.elim
              · rename_i z e3
                obtain ⟨p, vs, rfl, s, rds⟩ := asSeq_rel r2 e1 (rd.keep r1 x2)
                cases re.int_inv
                obtain ⟨v, e4, rv⟩ := rds.get e3
                have e5 : atI vs k = some v := by
                  unfold atI
                  rw [← rds.length, ← ixZ_eq, e2]
                  exact e4
                rw [hK]
                rcases s with s | s
                · exact .inl (.inl ⟨p, vs, k, v, rfl, rfl, s, e5, q ρ2 H2 v Ext.refl rv r2⟩)
                · exact .inl (.inr ⟨p, vs, k, v, rfl, rfl, s, e5, q ρ2 H2 v Ext.refl rv r2⟩)
        · exact q.elim
/-- an optional part of a slice -/
def SndO (G : Glo) (X : Cx) (e : Option Expr) (r : Env → Hea → Res (Option Int)) : Prop := ∀ W, Takes X W → ∃ t : TO, PO X e t ∧ ∀ ρ σd σ h H (R : Option Int → Hp → Prop) (P : Option Int → Hea → Prop),
  RelSt G ρ H σd σ → RelH G ρ H h → (r σd h).all P (PostX G ρ H fun c d H' => W c d σ H') → (∀ ρ1 H1 o h1, Ext ρ H ρ1 H1 → RelH G ρ1 H1 h1 → P o h1 → R o H1) → t σ H R
theorem sndo_none : SndO G X none (fun _ h => .ok none h) := fun W tk => ⟨_, po_none, fun ρ σd σ h H R P st rh q k => k ρ H none h Ext.refl rh q⟩
theorem sndo_some {e : Expr} {r : Env → Hea → Res D} (he : Snd G X e r) : SndO G X (some e) (fun σ h => (r σ h).bind fun d h1 => match asInt d with | some i => .ok (some i) h1 | none => .bad) := fun W tk =>
  ⟨_, po_some (he W tk), fun ρ σd σ h H R P st rh q k => by
    rw [Res.all_bind] at q
    refine ⟨ρ, σd, h, st, rh, Res.all_mono (fun d h1 q ρ1 H1 v x rd r1 => ?_) (fun _ _ p => p) q⟩
    split at q
    · rename_i i e1
      exact ⟨i, asInt_rel e1 rd, k ρ1 H1 (some i) h1 x r1 q⟩
    · exact q.elim⟩
theorem sIx_eq (n d : Nat) (o : Option Int) : sIx n d o = HT.sIx n d o := by
  cases o with
  | none => rfl
  | some v =>
    rfl
theorem cut_rel {xs : List D} {vs : List V} {lo hi : Option Int} (q : RelDs G ρ H xs vs) : RelDs G ρ H (cutL xs lo hi) (cutV vs lo hi) := by
  unfold cutL cutV
  rw [q.length, sIx_eq, sIx_eq]
  exact (q.drop _).take _
theorem snd_slc {a : Expr} {lo hi : Option Expr} {ra : Env → Hea → Res D} {rl rh' : Env → Hea → Res (Option Int)} {p2 pos} (hK : X.K = G.K) (ha : Snd G X a ra) (hl : SndO G X lo rl) (hh : SndO G X hi rh') :
    Snd G X (.Subscript a (.Slice lo hi none p2) pos) (fun σ h => (ra σ h).bind fun d h1 => (rl σ h1).bind fun l h2 => (rh' σ h2).bind fun u h3 => slcD d l u h3) := fun W tk => by
  obtain ⟨tl, pl, hl⟩ := hl W tk
  obtain ⟨th, ph, hh⟩ := hh W tk
  refine PE.imp (pe_slice (sl_list.or sl_tupA) (ha W tk) pl ph) fun σ H Q ⟨ρ, σd, h, st, rh, q⟩ => ?_
  refine tV_then st rh q fun ρ1 H1 x d k1 x1 st1 rd r1 q => ?_
  rw [Res.all_bind] at q
  refine hl ρ1 σd σ k1 H1 _ _ st1 r1 q fun ρ2 H2 l k2 x2 r2 q => ?_
  rw [Res.all_bind] at q
  have q := Res.all_mono (fun _ _ p => p) (fun _ _ p => PostX.mv r2 x2 p) q
  refine hh ρ2 σd σ k2 H2 _ _ (st1.keep r1 x2) r2 q fun ρ3 H3 u k3 x3 r3 q => ?_
  have q : (slcD d l u k3).all (PostE G ρ3 H3 Q) (fun _ _ => True) := Res.all_mono (fun _ _ p => PostE.mv r3 (Ext.trans r2 x2 x3) p) (fun _ _ _ => trivial) q
  have rd := (rd.keep r1 x2).keep r2 x3
  unfold slcD at q
  split at q
  · rename_i xs e1
    obtain ⟨p, vs, rfl, s, rds⟩ := asTup_rel e1 rd
    rw [hK]
    refine .inr ⟨p, vs, rfl, s, fun w => ?_, fun _ => PostE.newT r3 q (cut_rel rds)⟩
    refine PostE.oldT r3 q (cut_rel rds) ?_
    have e2 : cutV vs l u = vs := by
      unfold cutV
      rw [w.1, w.2, List.drop_zero, Nat.sub_zero, List.take_length]
    rw [e2]
    exact s
  · split at q
    · rename_i xs e1
      obtain ⟨n, p, vs, _, rfl, _, _, s, rds⟩ := asLst_rel r3 e1 rd
      exact .inl ⟨p, vs, rfl, SqL.of s, PostE.newL r3 q (cut_rel rds)⟩
    · exact q.elim
/-! ### truth -/
theorem truth_rel {d : D} {x : V} {b : Bool} (r : RelH G ρ H h) (e : truth h d = some b) (rd : RelD G ρ H d x) : TruV G.K x H b := by
  cases rd with
  | a rd =>
    cases rd with
    | non => cases e; rfl
    | bl b => cases e; rfl
    | int i => cases e; rfl
    | str s =>
      unfold truth at e
      dsimp only at e
      split at e
      · rename_i hl
        cases e
        refine ⟨by rw [str_len, ← szl]; exact hl, ?_⟩
        rw [str_len]
        cases s <;> simp
        omega
      · cases e
    | tup q1 q2 =>
      cases e
      refine .inr (.inl ⟨_, q1, ?_⟩)
      cases q2 <;> simp
    | fn i => cases e
  | tupR q1 q2 =>
    cases e
    refine .inr (.inl ⟨_, q1, ?_⟩)
    cases q2 <;> simp
  | ref q =>
    rename_i n p
    unfold truth at e
    dsimp only at e
    split at e
    · rename_i xs h1
      cases e
      obtain ⟨vs, h2, h3⟩ := r.ob n _ p h1 q
      refine .inl ⟨vs, SqL.of h2, ?_⟩
      cases h3 <;> simp
    · cases e
  | _ => cases e
end
end EV

set_option Elab.async false
set_option linter.all false
set_option maxRecDepth 100000
set_option maxHeartbeats 1000000
/-! EvF: and, or, not, tests, conditional expressions, calls of built-ins. -/
namespace EV
open PySem PySem.Spec PyProof.Rows L2
section
variable {G : Glo} {ρ ρ' ρ'' : List Addr} {H H' H'' : Hp} {h h' : Hea} {X : Cx}
theorem snd_not {a : Expr} {ra : Env → Hea → Res D} {pos} (hK : X.K = G.K) (ha : Snd G X a ra) :
    Snd G X (.UnaryOp .Not a pos) (fun σ h => (ra σ h).bind fun d h1 => match truth h1 d with | some b => .ok (.bl (!b)) h1 | none => .bad) := fun W tk =>
  PE.imp (pe_notT (ha W tk)) fun σ H Q ⟨ρ, σd, h, st, rh, q⟩ => tV_then st rh q fun ρ1 H1 x d k1 x1 st1 rd r1 q => by
    split at q
    · rename_i b e
      rw [hK]
      exact ⟨b, truth_rel r1 e rd, PostE.bl r1 q⟩
    · exact q.elim
theorem snd_one {a : Expr} {op} {ra : Env → Hea → Res D} {pos} (ha : Snd G X a ra) : Snd G X (.BoolOp op [a] pos) ra := fun W tk => pe_one (ha W tk)
theorem snd_and {a b : Expr} {rest : List Expr} {ra rr : Env → Hea → Res D} {pos} (hK : X.K = G.K) (ha : Snd G X a ra) (hr : Snd G X (.BoolOp .And (b :: rest) pos) rr) :
    Snd G X (.BoolOp .And (a :: b :: rest) pos) (fun σ h => (ra σ h).bind fun d h1 => match truth h1 d with | some b => if b == false then .ok d h1 else rr σ h1 | none => .bad) := fun W tk =>
  PE.imp (pe_andT (ha W tk) (hr W tk)) fun σ H Q ⟨ρ, σd, h, st, rh, q⟩ => tV_then st rh q fun ρ1 H1 x d k1 x1 st1 rd r1 q => by
    split at q
    · rename_i b e
      rw [hK]
      refine ⟨b, truth_rel r1 e rd, ?_⟩
      cases b with
      | true => exact ⟨ρ1, σd, k1, st1, r1, q⟩
      | false => exact q ρ1 H1 x Ext.refl rd r1
    · exact q.elim
theorem snd_or {a b : Expr} {rest : List Expr} {ra rr : Env → Hea → Res D} {pos} (hK : X.K = G.K) (ha : Snd G X a ra) (hr : Snd G X (.BoolOp .Or (b :: rest) pos) rr) :
    Snd G X (.BoolOp .Or (a :: b :: rest) pos) (fun σ h => (ra σ h).bind fun d h1 => match truth h1 d with | some b => if b == true then .ok d h1 else rr σ h1 | none => .bad) := fun W tk =>
  PE.imp (pe_orT (ha W tk) (hr W tk)) fun σ H Q ⟨ρ, σd, h, st, rh, q⟩ => tV_then st rh q fun ρ1 H1 x d k1 x1 st1 rd r1 q => by
    split at q
    · rename_i b e
      rw [hK]
      refine ⟨b, truth_rel r1 e rd, ?_⟩
      cases b with
      | false => exact ⟨ρ1, σd, k1, st1, r1, q⟩
      | true => exact q ρ1 H1 x Ext.refl rd r1
    · exact q.elim
/-! ### tests -/
def plainT : Expr → Bool
  | .UnaryOp .Not _ _ => false
  | .BoolOp .. => false
  | .IfExp .. => false
  | .Compare .. => false
  | _ => true
theorem isTrue_of {e : Expr} {env : PySem.Env} (n : plainT e = true) (whole : Sem Value) : isTrue e env whole = (do let v ← whole; standAt e.pos; holding [v] (truthy v)) := by
  cases e <;> first
    | rfl
    | (simp [plainT] at n; done)
    | (rename_i op _ _; cases op <;> first | rfl | (simp [plainT] at n; done))
theorem sndt_val {e : Expr} {r : Env → Hea → Res D} (hK : X.K = G.K) (he : Snd G X e r) (n : plainT e = true) :
    SndT G X e (fun σ h => (r σ h).bind fun d h1 => match truth h1 d with | some b => .ok (.bl b) h1 | none => .bad) := fun W tk =>
  PT.imp (pt_truth (he W tk) (isTrue_of n)) fun σ H Q ⟨ρ, σd, h, st, rh, q⟩ => by
    rw [Res.all_bind] at q
    refine ⟨ρ, σd, h, st, rh, Res.all_mono (fun d h1 q ρ1 H1 v x rd r1 => ?_) (fun _ _ p => p) q⟩
    split at q
    · rename_i b e1
      obtain ⟨b', e2, q⟩ := q
      cases e2
      rw [hK]
      exact ⟨b, truth_rel r1 e1 rd, q ρ1 H1 x r1⟩
    · exact q.elim
theorem sndt_not {a : Expr} {ra : Env → Hea → Res D} {pos} (ha : SndT G X a ra) :
    SndT G X (.UnaryOp .Not a pos) (fun σ h => (ra σ h).bind fun d h1 => match asBl d with | some b => .ok (.bl (!b)) h1 | none => .bad) := fun W tk =>
  PT.imp (pt_not (ha W tk)) fun σ H Q ⟨ρ, σd, h, st, rh, q⟩ => by
    rw [Res.all_bind] at q
    refine ⟨ρ, σd, h, st, rh, Res.all_mono (fun d h1 q => ?_) (fun _ _ p => p) q⟩
    split at q
    · rename_i b e1
      obtain ⟨b', e2, q⟩ := q
      cases e2
      exact ⟨b, e1, fun ρ1 H1 x r1 => q ρ1 H1 x r1⟩
    · exact q.elim
/-- and, or as tests -/
def SndW (G : Glo) (X : Cx) (e : Expr) (r : Env → Hea → Res D) : Prop := ∀ W, Takes X W → PW X e (tT G r W)
theorem sndt_w {e : Expr} {r : Env → Hea → Res D} (h : SndW G X e r) : SndT G X e r := fun W tk => (h W tk).pt
theorem sndw_and1 {a : Expr} {ra : Env → Hea → Res D} {pos} (ha : SndT G X a ra) : SndW G X (.BoolOp .And [a] pos) ra := fun W tk => pw_and1 (ha W tk)
theorem sndw_or1 {a : Expr} {ra : Env → Hea → Res D} {pos} (ha : SndT G X a ra) : SndW G X (.BoolOp .Or [a] pos) ra := fun W tk => pw_or1 (ha W tk)
theorem sndw_and {a b : Expr} {rest : List Expr} {ra rr : Env → Hea → Res D} {pos} (ha : SndT G X a ra) (hr : SndW G X (.BoolOp .And (b :: rest) pos) rr) :
    SndW G X (.BoolOp .And (a :: b :: rest) pos) (fun σ h => (ra σ h).bind fun d h1 => match asBl d with | some true => rr σ h1 | some false => .ok (.bl false) h1 | none => .bad) := fun W tk =>
  PW.imp (pw_and (ha W tk) (hr W tk)) fun σ H Q ⟨ρ, σd, h, st, rh, q⟩ => by
    rw [Res.all_bind] at q
    refine ⟨ρ, σd, h, st, rh, Res.all_mono (fun d h1 q => ?_) (fun _ _ p => p) q⟩
    split at q
    · rename_i e1
      refine ⟨true, e1, fun ρ1 H1 x r1 => ?_⟩
      show tT G rr W σ H1 Q
      exact ⟨ρ1, σd, h1, st.keep rh x, r1, Res.all_mono (fun _ _ p => PostT.mv r1 x p) (fun _ _ p => PostX.mv r1 x p) q⟩
    · rename_i e1
      refine ⟨false, e1, fun ρ1 H1 x r1 => ?_⟩
      obtain ⟨b', e2, q⟩ := q
      cases e2
      exact q ρ1 H1 x r1
    · exact q.elim
theorem sndw_or {a b : Expr} {rest : List Expr} {ra rr : Env → Hea → Res D} {pos} (ha : SndT G X a ra) (hr : SndW G X (.BoolOp .Or (b :: rest) pos) rr) :
    SndW G X (.BoolOp .Or (a :: b :: rest) pos) (fun σ h => (ra σ h).bind fun d h1 => match asBl d with | some false => rr σ h1 | some true => .ok (.bl true) h1 | none => .bad) := fun W tk =>
  PW.imp (pw_or (ha W tk) (hr W tk)) fun σ H Q ⟨ρ, σd, h, st, rh, q⟩ => by
    rw [Res.all_bind] at q
    refine ⟨ρ, σd, h, st, rh, Res.all_mono (fun d h1 q => ?_) (fun _ _ p => p) q⟩
    split at q
    · rename_i e1
      refine ⟨false, e1, fun ρ1 H1 x r1 => ?_⟩
      show tT G rr W σ H1 Q
      exact ⟨ρ1, σd, h1, st.keep rh x, r1, Res.all_mono (fun _ _ p => PostT.mv r1 x p) (fun _ _ p => PostX.mv r1 x p) q⟩
    · rename_i e1
      refine ⟨true, e1, fun ρ1 H1 x r1 => ?_⟩
      obtain ⟨b', e2, q⟩ := q
      cases e2
      exact q ρ1 H1 x r1
    · exact q.elim
theorem snd_ife {c a b : Expr} {rc ra rb : Env → Hea → Res D} {pos} (hc : SndT G X c rc) (ha : Snd G X a ra) (hb : Snd G X b rb) :
    Snd G X (.IfExp c a b pos) (fun σ h => (rc σ h).bind fun d h1 => match asBl d with | some true => ra σ h1 | some false => rb σ h1 | none => .bad) := fun W tk =>
  PE.imp (pe_ifExp (hc W tk) (ha W tk) (hb W tk)) fun σ H Q ⟨ρ, σd, h, st, rh, q⟩ => by
    rw [Res.all_bind] at q
    refine ⟨ρ, σd, h, st, rh, Res.all_mono (fun d h1 q => ?_) (fun _ _ p => p) q⟩
    split at q
    · rename_i e1
      refine ⟨true, e1, fun ρ1 H1 x r1 => ?_⟩
      exact ⟨ρ1, σd, h1, st.keep rh x, r1, Res.all_mono (fun _ _ p => PostE.mv r1 x p) (fun _ _ p => PostX.mv r1 x p) q⟩
    · rename_i e1
      refine ⟨false, e1, fun ρ1 H1 x r1 => ?_⟩
      exact ⟨ρ1, σd, h1, st.keep rh x, r1, Res.all_mono (fun _ _ p => PostE.mv r1 x p) (fun _ _ p => PostX.mv r1 x p) q⟩
    · exact q.elim
/-! ### built-in functions -/
/-- what is asked of a built-in's rule -/
def CallS (G : Glo) (X : Cx) (f : Value) (g : List D → Hea → Res D) : Prop := ∃ r, CallR X f r ∧
  ∀ ρ H h ds vs Q W, RelDs G ρ H ds vs → RelH G ρ H h → (g ds h).all (PostE G ρ H Q) W → r vs H Q
theorem CallS.or {f : Value} {g : List D → Hea → Res D} {r r' : List V → Hp → VK → Prop} (h : CallR X f r) (h' : CallR X f r')
    (k : ∀ ρ H h ds vs Q W, RelDs G ρ H ds vs → RelH G ρ H h → (g ds h).all (PostE G ρ H Q) W → r vs H Q ∨ r' vs H Q) : CallS G X f g := ⟨_, h.or h', k⟩
theorem noStar {es : List Expr} {env : PySem.Env} {pos : Pos} (n : es.all (fun e => !starB e) = true) : (backTo pos (starEach es env)).any (·.1) = false := by
  induction es with
  | nil => rfl
  | cons e es ih =>
    rw [List.all_cons, Bool.and_eq_true] at n
    have n1 : starB e = false := by simpa using n.1
    rw [starEach_cons n1]
    have := ih n.2
    unfold backTo at this ⊢
    rw [List.map_cons, List.any_cons, this]
    rfl
theorem snd_callB {x : Str} {id : String} {e : Expr} {es : List Expr} {rs : Env → Hea → Res (List D)} {g : List D → Hea → Res D} {p pos : Pos} (hc : CallS G X (.builtin id) g) (hg : Gl X x) (hm : X.mg x = none) (hv : bootBuiltins x = some (.builtin id))
    (ha : SndA G X (e :: es) rs) (n : (e :: es).all (fun e => !starB e) = true) (hn : x ≠ "__name__") (hdb : (x == ("__debug__" : Str)) = false) :
    Snd G X (.Call (.Name x p) (e :: es) [] pos) (fun σ h => (rs σ h).bind fun ds h1 => g ds h1) := fun W tk => by
  obtain ⟨r, h1, h2⟩ := hc
  rw [List.all_cons, Bool.and_eq_true] at n
  refine PE.imp (pe_callB h1 hg hm hv (ha W tk) hn hdb (starEach_cons (by simpa using n.1)) (noStar n.2)) fun σ H Q ⟨ρ, σd, h, st, rh, q⟩ => ?_
  exact tL_then (α := Unit) st rh q fun ρ1 H1 vs ds k1 x1 st1 rd r1 q => h2 ρ1 H1 k1 ds vs Q _ rd r1 q
theorem snd_callTy {x : Str} {T : String} {e : Expr} {es : List Expr} {rs : Env → Hea → Res (List D)} {g : List D → Hea → Res D} {p pos : Pos} (hc : CallS G X (.type T) g) (hg : Gl X x) (hm : X.mg x = none) (hv : bootBuiltins x = some (.type T))
    (ha : SndA G X (e :: es) rs) (n : (e :: es).all (fun e => !starB e) = true) (hn : x ≠ "__name__") (hdb : (x == ("__debug__" : Str)) = false) :
    Snd G X (.Call (.Name x p) (e :: es) [] pos) (fun σ h => (rs σ h).bind fun ds h1 => g ds h1) := fun W tk => by
  obtain ⟨r, h1, h2⟩ := hc
  rw [List.all_cons, Bool.and_eq_true] at n
  refine PE.imp (pe_callTy h1 hg hm hv (ha W tk) hn hdb (starEach_cons (by simpa using n.1)) (noStar n.2)) fun σ H Q ⟨ρ, σd, h, st, rh, q⟩ => ?_
  exact tL_then (α := Unit) st rh q fun ρ1 H1 vs ds k1 x1 st1 rd r1 q => h2 ρ1 H1 k1 ds vs Q _ rd r1 q
theorem RelDs.one {d : D} {vs : List V} (q : RelDs G ρ H [d] vs) : ∃ v, vs = [v] ∧ RelD G ρ H d v := by
  cases q with
  | cons q r => cases r; exact ⟨_, rfl, q⟩
theorem RelDs.two {d e : D} {vs : List V} (q : RelDs G ρ H [d, e] vs) : ∃ v w, vs = [v, w] ∧ RelD G ρ H d v ∧ RelD G ρ H e w := by
  cases q with
  | cons q r =>
    cases r with
    | cons q2 r => cases r; exact ⟨_, _, rfl, q, q2⟩
end
end EV

set_option Elab.async false
set_option linter.all false
set_option maxRecDepth 100000
set_option maxHeartbeats 2000000
/-! EvFa: spread items; a list the other way round. -/
namespace EV
open PySem PySem.Spec PyProof.Rows L2
section
variable {G : Glo} {ρ ρ' ρ'' : List Addr} {H H' H'' : Hp} {h h' : Hea} {X : Cx}
def tSpr (K : PySem.W.Frag) (te : TE) (t : TA) : TA := fun σ H Q => te σ H fun x H1 => ∃ p xs, x = .ref p ∧ (SqT K H1 p xs ∨ SqL K H1 p xs) ∧ t σ H1 fun ys H2 => Q (xs ++ ys) H2
theorem pa_spr {e : Expr} {es : List Expr} {te : TE} {t : TA} {p : Pos} (ha : PE X e te) (hr : PA X es t) : PA X (.Starred e p :: es) (tSpr X.K te t) := by
  refine ⟨fun pos pins s σ H Q I h => ?_⟩
  show wpAny _ _ (spliced ((true, (do let v ← eval e X.env; standAt pos; pure v)) :: backTo pos (starEach es X.env))) _ _ s
  refine PySem.W.ks_spliced (thn (ha.run pins s σ H _ I h) fun u s1 ⟨x, H1, I1, r1, q1⟩ => ?_)
  obtain ⟨a, xs, rfl, hs, q⟩ := q1
  cases r1
  refine StX.star_any I1 hs fun us s2 I2 rv => thn (hr.run pos pins s2 σ H1 _ I2 q) fun ws s3 ⟨ys, H2, I3, r3, q3⟩ => ?_
  exact ⟨xs ++ ys, H2, I3, app rv r3, q3⟩
where
  app : ∀ {xs ys : List V} {us ws : List Value}, Vals xs us → Vals ys ws → Vals (xs ++ ys) (us ++ ws)
    | _, _, _, _, .nil, s => s
    | _, _, _, _, .cons a r, s => .cons a (app r s)
theorem snda_spr {e : Expr} {es : List Expr} {p : Pos} {r : Env → Hea → Res D} {rs : Env → Hea → Res (List D)} (hK : X.K = G.K) (he : Snd G X e r) (hs : SndA G X es rs) :
    SndA G X (.Starred e p :: es) (fun σ h => (r σ h).bind fun d h1 => match asSeq h1 d with
      | some xs => (rs σ h1).bind fun ds h2 => .ok (xs ++ ds) h2
      | none => .bad) := fun W tk =>
  PA.imp (pa_spr (he W tk) (hs W tk)) fun σ H Q ⟨ρ, σd, h, st, rh, q⟩ => by
    rw [Res.all_bind] at q
    refine ⟨ρ, σd, h, st, rh, Res.all_mono (fun d h1 q ρ1 H1 v x rd r1 => ?_) (fun _ _ p => p) q⟩
    split at q
    · rename_i xs e1
      obtain ⟨pa, vs, rfl, s, rds⟩ := asSeq_rel r1 e1 rd
      rw [Res.all_bind] at q
      refine ⟨pa, vs, rfl, by rw [hK]; exact s.symm, ρ1, σd, h1, st.keep rh x, r1, Res.all_mono (fun ds h2 q ρ2 H2 ws x2 rw' r2 => ?_) (fun _ _ p => p.mv r1 x) q⟩
      exact q ρ2 H2 (vs ++ ws) (Ext.trans r1 x x2) ((rds.keep r1 x2).append rw') r2
    · exact q.elim
theorem snd_rev {e : Expr} {r : Env → Hea → Res D} {k : Nat} {p1 p2 p3 pos : Pos} (hK : X.K = G.K) (he : Snd G X e r) :
    Snd G X (.Subscript e (.Slice none none (some (.UnaryOp .USub (.Constant (.int 1) k p1) p2)) p3) pos) (fun σ h => (r σ h).bind fun d h1 => match asLst h1 d with
      | some xs => newO (.lst xs.reverse) h1
      | none => .bad) := fun W tk =>
  PE.imp (pe_revL (he W tk)) fun σ H Q ⟨ρ, σd, h, st, rh, q⟩ => tV_then st rh q fun ρ1 H1 x d k1 x1 st1 rd r1 q => by
    split at q
    · rename_i xs e1
      obtain ⟨n, p, vs, _, rfl, _, _, h1, q1⟩ := asLst_rel r1 e1 rd
      refine ⟨p, vs, rfl, SqL.of h1, PostE.newL r1 q (revD q1)⟩
    · exact q.elim
where
  revD {ρ : List Addr} {H : Hp} : ∀ {ds : List D} {vs : List V}, RelDs G ρ H ds vs → RelDs G ρ H ds.reverse vs.reverse
    | _, _, .nil => .nil
    | _, _, .cons a r => by
      rw [List.reverse_cons, List.reverse_cons]
      exact (revD r).append (.cons a .nil)
end
end EV

set_option Elab.async false
set_option linter.all false
set_option maxRecDepth 100000
set_option maxHeartbeats 1000000
/-! EvG: the built-in functions and methods, by values. -/
namespace EV
open PySem PySem.Spec PyProof.Rows L2
section
variable {X : Cx}
theorem call_reprD (hg : X.A.guards = some []) (hu : X.A.units + 70 < cLine) : CallR X (.builtin "repr") (fun xs H Q => ∃ v d, xs = [v] ∧ Dp X.K H v d ∧ PyData.showable d = true ∧ PyData.hasDict d = false ∧ d.depth ≤ 60 ∧ (PyData.shown d).length ≤ sizeLine ∧ Q (.str (PyData.shown d)) H) := by
  intro pins s σ H xs us Q I r h
  obtain ⟨v, d, rfl, hd, h1, h2, h3, h4, q⟩ := h
  obtain ⟨u, rfl, ru⟩ := vals1 r
  obtain ⟨as, rr⟩ := Dp.reads I d v u hd ru
  have go : ∀ {a : Addr}, u = .ref a → wpAny (model X.prog X.w) X.A (call (.builtin "repr") [u]) (EP X pins σ Q) X.xe s := fun {a} e => by
    subst e
    exact repr_of_reads' rr h1 (fun z => by rw [h2] at z; cases z) hg (by omega) (fun _ _ e => e) (fun h' u tk k => ⟨.str _, H, I.kept (t' := tk) k, ⟨u, rfl⟩, q⟩) h4
  cases rr with
  | none => exact P.repr_of_none ⟨.str _, H, I.tok _, ⟨_, rfl⟩, q⟩
  | bool b => exact P.repr_of_bool ⟨.str _, H, I.tok _, ⟨_, rfl⟩, q⟩
  | int i t => exact P.repr_of_int (by simpa [PyData.showable] using h1) ⟨.str _, H, I.tok _, ⟨_, rfl⟩, q⟩
  | str x t => exact P.repr_of_str ⟨.str _, H, I.tok _, ⟨_, rfl⟩, q⟩ (by simpa only [PyData.shown] using h4)
  | list => exact go rfl
  | tuple => exact go rfl
  | dict => exact go rfl
end
section
variable {G : Glo} {ρ ρ' ρ'' : List Addr} {H H' H'' : Hp} {h h' : Hea} {X : Cx}
theorem calls_len (hK : X.K = G.K) (hw : X.w = G.w) : CallS G X (.builtin "len") (biD cm .len) := .or (call_len_seq.or (call_lenK hw)) call_len_str fun ρ H h ds vs Q W rd r q => by
  unfold biD at q
  split at q <;> first
    | (rename_i hh; cases hh; done)
    | (rename_i hh _; cases hh; done)
    | exact q.elim
    | skip
  · split at q
    · rename_i hl
      obtain ⟨v, rfl, rv⟩ := rd.one
      cases rv.str_inv
      refine .inr ⟨_, rfl, by rw [str_len, ← szl]; exact hl, ?_⟩
      rw [str_len]
      exact PostE.int r q
    · exact q.elim
  · obtain ⟨v, rfl, rv⟩ := rd.one
    cases rv with
    | @scr p ns h1 =>
      obtain ⟨h2, h3⟩ := r.sc p ns h1
      refine .inl (.inl ⟨p, ns.map V.int, rfl, .inl ?_, ?_⟩)
      · rw [hK]
        rcases h3 with h3 | h3
        · exact .inl h3.1
        · exact h3 H
      · rw [List.length_map]
        exact PostE.int r (q ns.length h2)
  · split at q
    · rename_i xs e1
      obtain ⟨v, rfl, rv⟩ := rd.one
      obtain ⟨p, vs, rfl, s, rds⟩ := asSeq_rel r e1 rv
      rw [hK]
      refine .inl (.inl ⟨p, vs, rfl, s, ?_⟩)
      rw [← rds.length]
      exact PostE.int r q
    · split at q
      · rename_i n z kvs e2
        obtain ⟨v, rfl, rv⟩ := rd.one
        obtain ⟨p, es, i⟩ := asDct_rel r e2 rv
        exact .inl (.inr ⟨ρ, _, _, v, n, z, kvs, p, es, rfl, i, PostE.int r q⟩)
      · exact q.elim
theorem calls_tuple (hK : X.K = G.K) : CallS G X (.type "tuple") (biD cm .tuple) := ⟨_, call_tuple_of, fun ρ H h ds vs Q W rd r q => by
  unfold biD at q
  split at q <;> first
    | (rename_i hh; cases hh; done)
    | (rename_i hh _; cases hh; done)
    | exact q.elim
    | skip
  split at q
  · rename_i xs e1
    obtain ⟨v, rfl, rv⟩ := rd.one
    obtain ⟨p, vs, rfl, s, rds⟩ := asSeq_rel r e1 rv
    rw [hK]
    rcases s with s | s
    · exact ⟨p, vs, rfl, .inl ⟨s, PostE.newT r q rds⟩⟩
    · exact ⟨p, vs, rfl, .inr ⟨s, PostE.oldT r q rds s⟩⟩
  · exact q.elim⟩
theorem calls_list (hK : X.K = G.K) : CallS G X (.type "list") (biD cm .list) := ⟨_, call_list_of, fun ρ H h ds vs Q W rd r q => by
  unfold biD at q
  split at q <;> first
    | (rename_i hh; cases hh; done)
    | (rename_i hh _; cases hh; done)
    | exact q.elim
    | skip
  split at q
  · rename_i xs e1
    obtain ⟨v, rfl, rv⟩ := rd.one
    obtain ⟨p, vs, rfl, s, rds⟩ := asSeq_rel r e1 rv
    rw [hK]
    exact ⟨p, vs, rfl, s, PostE.newL r q rds⟩
  · exact q.elim⟩
theorem bls_rel : ∀ {ds : List D} {vs : List V} {bs : List Bool}, optAll asBl ds = some bs → RelDs G ρ H ds vs → vs = bs.map V.bl
  | [], _, bs, e, .nil => by simp [optAll] at e; subst e; rfl
  | d :: ds, _, bs, e, .cons q s => by
    obtain ⟨b, t, rfl, e1, e2⟩ := optAll_cons e
    rw [asBl_rel e1 q, bls_rel e2 s]
    rfl
theorem ints_rel : ∀ {ds : List D} {vs : List V} {bs : List Int}, optAll asInt ds = some bs → RelDs G ρ H ds vs → vs = bs.map V.int
  | [], _, bs, e, .nil => by simp [optAll] at e; subst e; rfl
  | d :: ds, _, bs, e, .cons q s => by
    obtain ⟨b, t, rfl, e1, e2⟩ := optAll_cons e
    rw [asInt_rel e1 q, ints_rel e2 s]
    rfl
theorem calls_all (hK : X.K = G.K) (hc : X.calm = true) : CallS G X (.builtin "all") (biD cm .all) := ⟨_, cr_all hc, fun ρ H h ds vs Q W rd r q => by
  unfold biD at q
  split at q <;> first
    | (rename_i hh; cases hh; done)
    | (rename_i hh _; cases hh; done)
    | exact q.elim
    | skip
  split at q
  · rename_i xs e1
    split at q
    · rename_i bs e2
      split at q
      · obtain ⟨v, rfl, rv⟩ := rd.one
        obtain ⟨n, p, vs, _, rfl, _, _, s, rds⟩ := asLst_rel r e1 rv
        rw [bls_rel e2 rds] at s
        exact ⟨p, bs, rfl, SqL.of s, PostE.bl r q⟩
      · exact q.elim
    · exact q.elim
  · exact q.elim⟩
theorem calls_any (hK : X.K = G.K) (hc : X.calm = true) : CallS G X (.builtin "any") (biD cm .any) := ⟨_, cr_any hc, fun ρ H h ds vs Q W rd r q => by
  unfold biD at q
  split at q <;> first
    | (rename_i hh; cases hh; done)
    | (rename_i hh _; cases hh; done)
    | exact q.elim
    | skip
  split at q
  · rename_i xs e1
    split at q
    · rename_i bs e2
      split at q
      · obtain ⟨v, rfl, rv⟩ := rd.one
        obtain ⟨n, p, vs, _, rfl, _, _, s, rds⟩ := asLst_rel r e1 rv
        rw [bls_rel e2 rds] at s
        exact ⟨p, bs, rfl, SqL.of s, PostE.bl r q⟩
      · exact q.elim
    · exact q.elim
  · exact q.elim⟩
theorem calls_sum (hK : X.K = G.K) (hc : X.calm = true) : CallS G X (.builtin "sum") (biD cm .sum) := ⟨_, cr_sum hc, fun ρ H h ds vs Q W rd r q => by
  unfold biD at q
  split at q <;> first
    | (rename_i hh; cases hh; done)
    | (rename_i hh _; cases hh; done)
    | exact q.elim
    | skip
  split at q
  · rename_i xs e1
    split at q
    · rename_i bs e2
      split at q
      · obtain ⟨v, rfl, rv⟩ := rd.one
        obtain ⟨n, p, vs, _, rfl, _, _, s, rds⟩ := asLst_rel r e1 rv
        rw [ints_rel e2 rds] at s
        exact ⟨p, bs, rfl, SqL.of s, PostE.int r q⟩
      · exact q.elim
    · exact q.elim
  · exact q.elim⟩
theorem ins1_perm (i : Int) : ∀ l, (ins1 i l).Perm (i :: l)
  | [] => .refl _
  | j :: r => by
    unfold ins1
    split
    · exact .refl _
    · exact ((ins1_perm i r).cons j).trans (List.Perm.swap i j r)
theorem isort_perm : ∀ l, (isort l).Perm l
  | [] => .refl _
  | i :: r => (ins1_perm i _).trans ((isort_perm r).cons i)
theorem ins1_up (i : Int) : ∀ l, l.Pairwise (· ≤ ·) → (ins1 i l).Pairwise (· ≤ ·)
  | [], _ => List.pairwise_singleton _ _
  | j :: r, h => by
    rw [List.pairwise_cons] at h
    unfold ins1
    split
    · rename_i hle
      refine List.pairwise_cons.mpr ⟨fun a ha => ?_, List.pairwise_cons.mpr h⟩
      rcases List.mem_cons.mp ha with rfl | ha
      · exact hle
      · exact Int.le_trans hle (h.1 a ha)
    · rename_i hle
      refine List.pairwise_cons.mpr ⟨fun a ha => ?_, ins1_up i r h.2⟩
      rcases List.mem_cons.mp ((ins1_perm i r).mem_iff.mp ha) with rfl | ha
      · omega
      · exact h.1 a ha
theorem isort_up : ∀ l, (isort l).Pairwise (· ≤ ·)
  | [] => List.Pairwise.nil
  | i :: r => ins1_up i _ (isort_up r)
theorem sorted_one {l l' : List Int} (p : l'.Perm l) (s : l'.Pairwise (· ≤ ·)) : l' = isort l :=
  List.Perm.eq_of_pairwise (fun a b _ _ h1 h2 => Int.le_antisymm h1 h2) s (isort_up l) (p.trans (isort_perm l).symm)
theorem RelDs.ints (ns : List Int) : RelDs G ρ H (ns.map D.int) (ns.map V.int) := by
  induction ns with
  | nil => exact .nil
  | cons n ns ih => exact .cons (.a (.int n)) ih
theorem insA_perm (x : A) : ∀ l, (insA x l).Perm (x :: l)
  | [] => .refl _
  | y :: r => by
    unfold insA
    split
    · exact ((insA_perm x r).cons y).trans (List.Perm.swap x y r)
    · exact .refl _
theorem isortA_perm : ∀ l, (isortA l).Perm l
  | [] => .refl _
  | x :: r => (insA_perm x _).trans ((isortA_perm r).cons x)
theorem pwA_ok : ∀ {l : List A}, pwA l = true → l.Pairwise fun x y => PySem.W.dataLt x.py y.py = true ∨ x = y
  | [], _ => .nil
  | x :: r, h => by
    simp only [pwA, Bool.and_eq_true] at h
    refine List.pairwise_cons.mpr ⟨fun y hy => ?_, pwA_ok h.2⟩
    have := List.all_eq_true.mp h.1 y hy
    rw [Bool.or_eq_true] at this
    exact this.imp id (A.same_eq x y)
theorem lt_asym {x y : PyData} (h : PySem.W.dataLt x y = true) : PySem.W.dataLt y x = false := by
  cases e : PySem.W.dataLt y x with
  | false => rfl
  | true =>
    have t := lex_trans (O := itemOrd) _ _ _ h e
    have i : PySem.W.dataLt x x = false := lex_irrefl _
    exact (Bool.false_ne_true (i.symm.trans t)).elim
theorem pw_all {l : List A} (h : l.Pairwise fun x y => PySem.W.dataLt x.py y.py = true ∨ x = y) : ∀ x ∈ l, ∀ y ∈ l, x = y ∨ PySem.W.dataLt x.py y.py = true ∨ PySem.W.dataLt y.py x.py = true := by
  induction h with
  | nil => intro x hx; cases hx
  | @cons a l h1 _ ih =>
    intro x hx y hy
    rcases List.mem_cons.mp hx with ex | hx <;> rcases List.mem_cons.mp hy with ey | hy
    · exact .inl (ex.trans ey.symm)
    · rw [ex]
      rcases h1 y hy with z | z
      · exact .inr (.inl z)
      · exact .inl z
    · rw [ey]
      rcases h1 x hx with z | z
      · exact .inr (.inr z)
      · exact .inl z.symm
    · exact ih x hx y hy
theorem sortA_eq {as : List A} (h : pwA (isortA as) = true) : as.mergeSort (PySem.W.dataLe false A.py) = isortA as := by
  have pw := pwA_ok h
  have p2 : (as.mergeSort (PySem.W.dataLe false A.py)).Perm as := List.mergeSort_perm _ _
  have tot := PySem.W.sortLe_total (listOrd itemOrd) false fun b : A => PySem.W.keyToks b.py
  have s2 : (as.mergeSort (PySem.W.dataLe false A.py)).Pairwise fun a b => PySem.W.dataLe false A.py a b = true := List.pairwise_mergeSort (fun a b c h1 h2 => tot.trans a b c h1 h2) (fun a b => by rw [Bool.or_eq_true]; exact tot.total a b) as
  have s1 : (isortA as).Pairwise fun a b => PySem.W.dataLe false A.py a b = true := pw.imp fun {a b} z => by
    show (!PySem.W.dataLt b.py a.py) = true
    rcases z with z | z
    · rw [lt_asym z]; rfl
    · subst z
      have i : PySem.W.dataLt a.py a.py = false := lex_irrefl _
      rw [i]; rfl
  refine List.Perm.eq_of_pairwise (fun a b ha hb h1 h2 => ?_) s2 s1 (p2.trans (isortA_perm as).symm)
  have ha' : a ∈ isortA as := ((p2.trans (isortA_perm as).symm).mem_iff).mp ha
  rcases pw_all pw a ha' b hb with z | z | z
  · exact z
  · have h2 : (!PySem.W.dataLt a.py b.py) = true := h2
    rw [z] at h2
    cases h2
  · have h1 : (!PySem.W.dataLt b.py a.py) = true := h1
    rw [z] at h1
    cases h1
theorem eachA : ∀ {as : List A} {ws : List V} {its : List Value}, RelAs G H as ws → Vals ws its → PySem.W.EachIs (fun v b => ∃ x, RelV x v ∧ RelA G H b x) its as
  | [], _, _, .nil, rv => by cases rv; exact .nil
  | _ :: _, _, _, .cons h1 h2, rv => by cases rv with | cons r1 r2 => exact .cons ⟨_, r1, h1⟩ (eachA h2 r2)
theorem readA {pins : List (Addr × PySem.Obj)} {σ : L2.St} {s : Shared} (I : Inv X pins σ H s) (hK : X.K = G.K) : ∀ {as : List A} {ws : List V} {its : List Value}, RelAs G H as ws → Vals ws its → (∀ x ∈ as, x.py.canLay0 = true ∧ x.py.depth ≤ 40) → PySem.W.EachIs (fun v b => ∃ xs, Reads s.heap v (A.py b) xs) its as
  | [], _, _, .nil, rv, _ => by cases rv; exact .nil
  | x :: _, _, _, .cons h1 h2, rv, lay => by
    cases rv with
    | cons r1 r2 => exact .cons (Dp.reads I _ _ _ (by rw [hK]; exact RelA.dp x _ h1 (lay x List.mem_cons_self).1) r1) (readA I hK h2 r2 fun y hy => lay y (List.mem_cons_of_mem _ hy))
/-- a list of data sorted -/
def rSortA (G : Glo) : List V → Hp → VK → Prop := fun vs H Q => ∃ a as ws, vs = [.ref a] ∧ SqL G.K H a ws ∧ RelAs G H as ws ∧ sortOk as = true ∧ ∀ p ws', H p = none → RelAs G H (isortA as) ws' → Q (.ref p) (upd H p (.lst ws'))
theorem cr_sortA (hK : X.K = G.K) (hu : X.A.units + 64 < cLine) : CallR X (.builtin "sorted") (rSortA G) := by
  intro pins s σ H vs us Q I r q
  obtain ⟨a, as, ws, rfl, sq, ra, ok, q⟩ := q
  obtain ⟨u, rfl, rx⟩ := vals1 r
  cases rx
  simp only [sortOk, Bool.and_eq_true, decide_eq_true_eq, Bool.or_eq_true] at ok
  obtain ⟨⟨⟨⟨k1, k2⟩, k3⟩, k4⟩, k5⟩ := ok
  rw [← hK] at sq
  obtain ⟨its, rv, hl, hz⟩ := I.list sq
  have lay : ∀ x ∈ as, x.py.canLay0 = true ∧ x.py.depth ≤ 40 := fun x hx => by
    have := List.all_eq_true.mp k3 x hx
    rw [Bool.and_eq_true, decide_eq_true_eq] at this
    exact this
  have each : PySem.W.EachIs (fun v b => ∃ x, RelV x v ∧ RelA G H b x) its as := eachA ra rv
  have reads : PySem.W.EachIs (fun v b => ∃ xs, Reads s.heap v (A.py b) xs) its as := readA I hK ra rv lay
  have al : PySem.W.AllAlike (as.map A.py) := fun d hd d' hd' => by
    obtain ⟨x, hx, rfl⟩ := List.mem_map.mp hd
    obtain ⟨y, hy, rfl⟩ := List.mem_map.mp hd'
    exact List.all_eq_true.mp (List.all_eq_true.mp k1 x hx) y hy
  have so : PySem.W.Sortable (as.map A.py) := by
    rcases k2 with k2 | k2
    · refine .inl fun d hd => ?_
      obtain ⟨x, hx, rfl⟩ := List.mem_map.mp hd
      have := List.all_eq_true.mp k2 x hx
      cases x <;> simp [rowA] at this
      rename_i l
      cases l with
      | nil => simp at this
      | cons y r => exact ⟨y.py, A.pys r, rfl⟩
    · refine .inr fun d hd => ?_
      obtain ⟨x, hx, rfl⟩ := List.mem_map.mp hd
      have := List.all_eq_true.mp k2 x hx
      cases x <;> simp [flatA] at this <;> exact ⟨(fun z => nomatch z), fun xs z => nomatch z⟩
  refine PySem.W.sorted_data (enc := A.py) hl.isList each reads al so (szS k4) (fun b hb => by have := (lay b hb).2; omega) fun out ho eo => ?_
  rw [sortA_eq k5] at eo
  obtain ⟨ws', rw', ra'⟩ : ∃ ws', Vals ws' out ∧ RelAs G H (isortA as) ws' := by
    clear ho q
    generalize isortA as = bs at eo
    induction eo with
    | nil => exact ⟨[], .nil, .nil⟩
    | cons h1 _ ih => obtain ⟨x, h3, h4⟩ := h1; obtain ⟨ws', h5, h6⟩ := ih; exact ⟨x :: ws', .cons h3 h5, .cons h4 h6⟩
  obtain ⟨e, he⟩ := sortedAll_at s.heap its (List.toArray out)
  have lz : ws'.length ≤ sizeLine := by rw [rw'.length, ho]; exact szS k4
  refine ⟨.ref (s.heap.objs.size + 1), upd H (s.heap.objs.size + 1) (.lst ws'), I.laid (t' := s.toks) (fun _ _ q => sortedAll_old q) (Nat.le_succ _) ⟨lz, out, e, rw', he⟩, rfl, q _ ws' (I.hok.fresh (Nat.le_succ _)) ra'⟩
theorem RelAs.len : ∀ {as : List A} {vs : List V}, RelAs G H as vs → as.length = vs.length
  | _, _, .nil => rfl
  | _, _, .cons _ r => by rw [List.length_cons, List.length_cons, RelAs.len r]
/-- what rows that may be sorted are -/
theorem sort_facts {as : List A} (ok : sortOk as = true) : PySem.W.AllAlike (as.map A.py) ∧ PySem.W.Sortable (as.map A.py) ∧ (∀ x ∈ as, x.py.canLay0 = true ∧ x.py.depth ≤ 40) ∧ pwA (isortA as) = true := by
  simp only [sortOk, Bool.and_eq_true, decide_eq_true_eq, Bool.or_eq_true] at ok
  obtain ⟨⟨⟨⟨k1, k2⟩, k3⟩, k4⟩, k5⟩ := ok
  refine ⟨fun d hd d' hd' => ?_, ?_, fun x hx => ?_, k5⟩
  · obtain ⟨x, hx, rfl⟩ := List.mem_map.mp hd
    obtain ⟨y, hy, rfl⟩ := List.mem_map.mp hd'
    exact List.all_eq_true.mp (List.all_eq_true.mp k1 x hx) y hy
  · rcases k2 with k2 | k2
    · refine .inl fun d hd => ?_
      obtain ⟨x, hx, rfl⟩ := List.mem_map.mp hd
      have := List.all_eq_true.mp k2 x hx
      cases x <;> simp [rowA] at this
      rename_i l
      cases l with
      | nil => simp at this
      | cons y r => exact ⟨y.py, A.pys r, rfl⟩
    · refine .inr fun d hd => ?_
      obtain ⟨x, hx, rfl⟩ := List.mem_map.mp hd
      have := List.all_eq_true.mp k2 x hx
      cases x <;> simp [flatA] at this <;> exact ⟨(fun z => nomatch z), fun xs z => nomatch z⟩
  · have := List.all_eq_true.mp k3 x hx
    rw [Bool.and_eq_true, decide_eq_true_eq] at this
    exact this
/-! ### the keys of a dict sorted -/
theorem keysV {w : World} : ∀ {es : List En} {qs : List DictEntry}, Paired (EnIs w) es qs → Vals (es.map (·.kv)) (qs.map (·.key))
  | _, _, .nil => .nil
  | _, _, .cons a r => .cons a.1 (keysV r)
theorem RelEs.keys : ∀ {kvs : List (A × D)} {es : List En}, RelEs G ρ H kvs es → RelAs G H (kvs.map (·.1)) (es.map (·.kv))
  | _, _, .nil => .nil
  | _, _, .cons a _ r => .cons a (RelEs.keys r)
theorem items_eq {qs : Array DictEntry} {acc : Array Value} (h : ItemsOf (fun i v => ∃ hi : i < qs.size, v = qs[i].key) acc qs.size) : acc.toList = qs.toList.map (·.key) := by
  obtain ⟨h1, h2⟩ := h
  apply List.ext_getElem?
  intro j
  by_cases hj : j < qs.size
  · have ha : j < acc.size := by omega
    obtain ⟨_, e⟩ := h2 j acc[j] (Array.getElem?_eq_getElem ha)
    rw [List.getElem?_map, Array.getElem?_toList, Array.getElem?_toList, Array.getElem?_eq_getElem ha, Array.getElem?_eq_getElem hj, e]
    rfl
  · rw [List.getElem?_eq_none (by rw [Array.length_toList]; omega), List.getElem?_eq_none (by rw [List.length_map, Array.length_toList]; omega)]
/-- what is collected, sorted -/
theorem sort_via {pins : List (Addr × PySem.Obj)} {s : Shared} {σ : L2.St} {Q : VK} {x : Value} {as : List A} {ws : List V} {vs : List Value} (I : Inv X pins σ H s) (hK : X.K = G.K) (hu : X.A.units + 64 < cLine) (rv : Vals ws vs) (ra : RelAs G H as ws) (la : as.length ≤ SZ) (ok : sortOk as = true)
    (col : ∀ (Q' : List Value → Shared → Prop) (E' : Value → Shared → Prop), (∀ h' tk, (∀ b o, s.heap.get? b = some o → h'.get? b = some o) → Q' vs { s with heap := h', toks := tk }) → wpAny (model X.prog X.w) X.A.in1 (collect x) Q' E' s)
    (q : ∀ p ws', H p = none → RelAs G H (isortA as) ws' → Q (.ref p) (upd H p (.lst ws'))) : wpAny (model X.prog X.w) X.A (call (.builtin "sorted") [x]) (EP X pins σ Q) X.xe s := by
  have hl : vs.length = as.length := by rw [← rv.length]; exact (RelAs.len ra).symm
  obtain ⟨al, so, lay, srt⟩ := sort_facts ok
  have each : PySem.W.EachIs (fun v b => ∃ x, RelV x v ∧ RelA G H b x) vs as := eachA ra rv
  have reads : PySem.W.EachIs (fun v b => ∃ xs, Reads s.heap v (A.py b) xs) vs as := readA I hK ra rv lay
  refine Calls.call_function_entry (s := s) kind_sorted plain_sorted entry_sorted (args_sorted1 _) (show wpAny _ _ (Builtin.«sorted» ⟨[x], []⟩) _ _ s from ?_)
  unfold Builtin.«sorted»
  refine wpAny_bind (m := checkCount "sorted" 1 1 1) (wpAny_pure (wpAny_bind (col _ _ fun h' tk hk => ?_)))
  refine wpAny_bind (wpAny_newList ?_ (by rw [hl]; exact szS la))
  generalize hD : h'.objs.size = D
  have ho : (h'.push (seqObj "list" vs.toArray 0)).get? D = some (seqObj "list" vs.toArray 0) := by rw [← hD]; exact Heap.get?_push_size _ rfl
  have old : ∀ b x, s.heap.get? b = some x → b ≠ D ∧ b < (h'.push (seqObj "list" vs.toArray 0)).objs.size ∧ (h'.push (seqObj "list" vs.toArray 0)).get? b = some x := fun b x e => by
    have e1 := hk b x e
    have l1 := Heap.lt_size e1
    rw [hD] at l1
    exact ⟨Nat.ne_of_lt l1, by rw [Heap.size_push, hD]; exact Nat.lt_succ_of_lt l1, Heap.get?_push_of_some _ e1⟩
  have er : PySem.W.EachIs (fun v b => ∃ xs, Reads (PySem.W.sortingHeap (h'.push (seqObj "list" vs.toArray 0)) D vs) v (A.py b) xs) vs as := reads.mono fun _ _ ⟨xs, r⟩ => ⟨xs, PyProof.Rows.Reads.keeps (fun b x e => by
    obtain ⟨n1, n2, n3⟩ := old b x e
    exact PySem.W.sortingHeap_old n1 n3) r⟩
  have hu2 : ∀ b, b ∈ as → X.A.in1.in1.units + (A.py b).depth < cLine := fun b hb => by
    have := (lay b hb).2
    show X.A.units + 1 + 1 + _ < cLine
    omega
  have st := PySem.W.SortsAt.data (A := X.A.in1.in1) (prog := X.prog) (w := X.w) (s := { s with heap := PySem.W.sortingHeap (h'.push (seqObj "list" vs.toArray 0)) D vs, toks := tk }) (PySem.W.each_map A.py er) al so (PySem.W.bound_map hu2)
  refine wpAny_bind (wpAny_holding (wpAny_call_entry slot_list_sort ⟨_, ho, rfl⟩ entry_list_sort (PySem.W.list_sort_vals (s := { s with heap := h'.push (seqObj "list" vs.toArray 0), toks := tk }) ho st (by rw [hl]; exact szS la) ?_)))
  have eo := PySem.W.sortVals_data (rev := false) each er al
  rw [sortA_eq srt] at eo
  generalize hout : PySem.W.sortVals _ false vs vs = out at eo
  obtain ⟨ws', rw', ra'⟩ : ∃ ws', Vals ws' out ∧ RelAs G H (isortA as) ws' := by
    clear hout
    generalize isortA as = bs at eo
    induction eo with
    | nil => exact ⟨[], .nil, .nil⟩
    | cons h1 _ ih => obtain ⟨x, h3, h4⟩ := h1; obtain ⟨ws', h5, h6⟩ := ih; exact ⟨x :: ws', .cons h3 h5, .cons h4 h6⟩
  obtain ⟨e, he⟩ := sortedHeap_at (vs := vs) (out := out.toArray) ho
  have lz : ws'.length ≤ sizeLine := by rw [← RelAs.len ra', (isortA_perm as).length_eq]; exact szS la
  have nD : s.heap.get? D = none := by
    cases e0 : s.heap.get? D with
    | none => rfl
    | some x => exact absurd rfl (old D x e0).1
  have new := I.laidN (a := D) (o := .lst ws') (t' := tk) (h' := sortedHeap (h'.push (seqObj "list" vs.toArray 0)) D vs out.toArray) (fun b x e => by
    obtain ⟨n1, n2, n3⟩ := old b x e
    rw [sortedHeap_old n1 n2]
    exact n3) nD (I.hok.gone nD) ⟨lz, out, e, rw', he⟩
  exact ⟨_, rfl, wpAny_pure ⟨_, rfl, .ref D, upd H D (.lst ws'), new, rfl, q D ws' (I.hok.gone nD) ra'⟩⟩
def rSortD (G : Glo) : List V → Hp → VK → Prop := fun vs H Q => ∃ a z as es, vs = [.ref a] ∧ AtD G.w H a z es ∧ (a == sysModules) = false ∧ RelAs G H as (es.map (·.kv)) ∧ as.length ≤ SZ ∧ sortOk as = true ∧ ∀ p ws', H p = none → RelAs G H (isortA as) ws' → Q (.ref p) (upd H p (.lst ws'))
theorem cr_sortD (hK : X.K = G.K) (hw : X.w = G.w) (hc : X.calm = true) (hu : X.A.units + 64 < cLine) : CallR X (.builtin "sorted") (rSortD G) := by
  intro pins s σ H vs us Q I r q
  obtain ⟨a, z, as, es, rfl, at_, lo, ra, la, ok, q⟩ := q
  obtain ⟨u, rfl, rx⟩ := vals1 r
  cases rx
  obtain ⟨o, qs, ep, g1, g2, g3, pr⟩ := atD_p I hw at_
  have rv := keysV pr
  have lq : qs.size = as.length := by
    have e1 := rv.length
    have e2 := RelAs.len ra
    simp only [List.length_map, Array.length_toList] at e1 e2
    omega
  refine sort_via I hK hu rv ra la ok (fun Q' E' k => PySem.W.kdu_collect (PySem.KdlSrc.rawDict (prog := X.prog) (w := X.w) (es := qs) (ep := ep) lo) (I.ok.hd hc) ⟨o, g1, g2, g3⟩ (by rw [lq]; exact szS la) fun h' tk acc hk hacc => ?_) q
  rw [items_eq hacc]
  exact k h' tk hk
def rSortT (G : Glo) : List V → Hp → VK → Prop := fun vs H Q => ∃ a as ws, vs = [.ref a] ∧ SqT G.K H a ws ∧ RelAs G H as ws ∧ as.length ≤ SZ ∧ sortOk as = true ∧ ∀ p ws', H p = none → RelAs G H (isortA as) ws' → Q (.ref p) (upd H p (.lst ws'))
theorem cr_sortT (hK : X.K = G.K) (hu : X.A.units + 64 < cLine) : CallR X (.builtin "sorted") (rSortT G) := by
  intro pins s σ H vs us Q I r q
  obtain ⟨a, as, ws, rfl, st, ra, la, ok, q⟩ := q
  obtain ⟨u, rfl, rx⟩ := vals1 r
  cases rx
  rw [← hK] at st
  obtain ⟨its, rv, ⟨o, ho, hc, n, hd⟩, hz⟩ := I.tuple st
  refine sort_via I hK hu rv ra la ok (fun Q' E' k => wpAny_collect_seq a (.inr rfl) ho hc hd (fun h' hk => ?_) (by rw [List.size_toArray, ← rv.length, ← RelAs.len ra]; exact szS la)) q
  rw [List.toList_toArray]
  exact k h' s.toks hk
theorem calls_sorted (hK : X.K = G.K) (hw : X.w = G.w) (hc : X.calm = true) (hu : X.A.units + 64 < cLine) : CallS G X (.builtin "sorted") (biD cm .sorted) := .or ((cr_sorted.or (cr_sortA hK hu)).or (cr_sortT hK hu)) (cr_sortD hK hw hc hu) fun ρ H h ds vs Q W rd r q => by
  unfold biD at q
  split at q <;> first
    | (rename_i hh; cases hh; done)
    | (rename_i hh _; cases hh; done)
    | exact q.elim
    | skip
  split at q
  · rename_i xs e1
    obtain ⟨v, rfl, rv⟩ := rd.one
    obtain ⟨n, p, vs, _, rfl, _, _, s, rds⟩ := asLst_rel r e1 rv
    split at q
    · rename_i ns e2
      split at q
      · rename_i hl
        rw [ints_rel e2 rds] at s
        refine .inl (.inl (.inl ⟨p, ns, rfl, SqL.of s, hl, fun ns' a p1 p2 hn => ?_⟩))
        rw [sorted_one p1 p2]
        exact PostE.newL r q (RelDs.ints _) a hn
      · exact q.elim
    · split at q
      · rename_i as e2
        split at q
        · rename_i ok
          exact .inl (.inl (.inr ⟨p, as, vs, rfl, SqL.of s, rds.atoms e2, ok, fun p' ws' hn ra => PostE.newL r q ra.ds p' hn⟩))
        · exact q.elim
      · exact q.elim
  · split at q
    · rename_i as _
      split at q
      · rename_i ok
        obtain ⟨v, rfl, rv⟩ := rd.one
        cases rv with
        | a rv =>
          cases rv with
          | tup s rs =>
            have la : as.length ≤ SZ := by
              simp only [sortOk, Bool.and_eq_true, decide_eq_true_eq] at ok
              exact ok.1.2
            exact .inl (.inr ⟨_, as, _, rfl, s, rs, la, ok, fun p' ws' hn ra => PostE.newL r q ra.ds p' hn⟩)
      · exact q.elim
    · split at q
      · rename_i n z kvs e1
        obtain ⟨v, rfl, rv⟩ := rd.one
        obtain ⟨p, es, i⟩ := asDct_rel r e1 rv
        split at q
        · rename_i ok
          rw [Bool.and_eq_true] at ok
          exact .inr ⟨p, z, kvs.map (·.1), es, by rw [i.x], i.a, i.m, i.e.keys, by rw [List.length_map]; exact i.l, ok.2, fun p' ws' hn ra => PostE.newL r q ra.ds p' hn⟩
        · exact q.elim
      · exact q.elim
theorem calls_abs : CallS G X (.builtin "abs") (biD cm .abs) := ⟨_, call_abs, fun ρ H h ds vs Q W rd r q => by
  unfold biD at q
  split at q <;> first
    | (rename_i hh; cases hh; done)
    | (rename_i hh _; cases hh; done)
    | exact q.elim
    | (obtain ⟨v, rfl, rv⟩ := rd.one
       cases rv.int_inv
       exact ⟨_, rfl, PostE.int r q⟩)⟩
theorem calls_int : CallS G X (.type "int") (biD cm .int) := ⟨_, call_int1, fun ρ H h ds vs Q W rd r q => by
  unfold biD at q
  split at q <;> first
    | (rename_i hh; cases hh; done)
    | (rename_i hh _; cases hh; done)
    | exact q.elim
    | (obtain ⟨v, rfl, rv⟩ := rd.one
       cases rv.int_inv
       exact .inl ⟨_, rfl, PostE.int r q⟩)
    | (obtain ⟨v, rfl, rv⟩ := rd.one
       cases rv.bl_inv
       exact .inr ⟨_, rfl, PostE.int r q⟩)⟩
theorem calls_max2 (hc : X.calm = true) : CallS G X (.builtin "max") (biD cm .max2) := ⟨_, call_max2 hc, fun ρ H h ds vs Q W rd r q => by
  unfold biD at q
  split at q <;> first
    | (rename_i hh; cases hh; done)
    | (rename_i hh _; cases hh; done)
    | exact q.elim
    | (split at q
       · obtain ⟨v, w, rfl, rv, rw'⟩ := rd.two
         cases rv.int_inv; cases rw'.int_inv
         exact ⟨_, _, rfl, PostE.int r q⟩
       · exact q.elim)⟩
theorem calls_min2 (hc : X.calm = true) : CallS G X (.builtin "min") (biD cm .min2) := ⟨_, call_min2 hc, fun ρ H h ds vs Q W rd r q => by
  unfold biD at q
  split at q <;> first
    | (rename_i hh; cases hh; done)
    | (rename_i hh _; cases hh; done)
    | exact q.elim
    | (split at q
       · obtain ⟨v, w, rfl, rv, rw'⟩ := rd.two
         cases rv.int_inv; cases rw'.int_inv
         exact ⟨_, _, rfl, PostE.int r q⟩
       · exact q.elim)⟩
theorem calls_repr (hK : X.K = G.K) (hg : X.A.guards = some []) (hu : X.A.units + 70 < cLine) : CallS G X (.builtin "repr") (biD cm .repr) := ⟨_, call_reprD hg hu, fun ρ H h ds vs Q W rd r q => by
  unfold biD at q
  split at q <;> first
    | (rename_i hh; cases hh; done)
    | (rename_i hh _; cases hh; done)
    | exact q.elim
    | skip
  split at q
  · rename_i x e1
    split at q
    · rename_i hh
      simp only [Bool.and_eq_true, decide_eq_true_eq, Bool.not_eq_true'] at hh
      obtain ⟨⟨⟨⟨h1, h2⟩, h3⟩, h4⟩, h5⟩ := hh
      obtain ⟨v, rfl, rv⟩ := rd.one
      rw [hK]
      refine ⟨v, x, rfl, pyD_dp r 8 _ v x e1 rv h2, h1, h3, h4, by rw [sizeLine_eq]; exact h5, ?_⟩
      exact q ρ H _ Ext.refl (.a (.str _)) r
    · exact q.elim
  · exact q.elim⟩
end
end EV

set_option Elab.async false
set_option linter.all false
set_option maxRecDepth 100000
set_option maxHeartbeats 1000000
/-! EvH: isinstance, methods. -/
namespace EV
open PySem PySem.Spec PyProof.Rows L2
section
variable {G : Glo} {ρ ρ' ρ'' : List Addr} {H H' H'' : Hp} {h h' : Hea} {X : Cx}
def tyName : Nat → String
  | 0 => "int"
  | 1 => "bool"
  | 2 => "tuple"
  | 3 => "list"
  | 4 => "dict"
  | _ => "str"
theorem kit_all : (["NoneType", "bool", "int", "str", "tuple", "list", "dict"].all fun a => [0, 1, 2, 3, 4, 5].all fun t => decide (kitB a (tyName t) = some (a == tyName t || (a == "bool" && t == 0)))) = true := by decide +kernel
theorem kit_at {a : String} {t : Nat} (ha : a ∈ ["NoneType", "bool", "int", "str", "tuple", "list", "dict"]) (ht : t < 6) (K : PySem.W.Frag) : PySem.W.kitOne K (.type a) (.type (tyName t)) = some (a == tyName t || (a == "bool" && t == 0)) := by
  have q := List.all_eq_true.mp kit_all a ha
  have q2 := List.all_eq_true.mp q t (by
    have : t = 0 ∨ t = 1 ∨ t = 2 ∨ t = 3 ∨ t = 4 ∨ t = 5 := by omega
    simp only [List.mem_cons, List.mem_nil_iff, or_false]
    exact this)
  exact kit_ty (of_decide_eq_true q2)
theorem sqT_ty {K : PySem.W.Frag} {p : Addr} {vs : List V} (q : SqT K H p vs) : TyX K H (.ref p) (.type "tuple") := by
  rcases q with (q | ⟨o, q⟩) | ⟨o, its, n, q, c, _⟩
  · exact .base (.tup q)
  · exact .fTuple q
  · exact .kTuple q c
theorem isi_rel {d : D} {x : V} {t : Nat} {b : Bool} (ht : t < 6) (r : RelH G ρ H h) (e : isiD t h d = some b) (hn : asDct h d = none) (rd : RelD G ρ H d x) : ∃ ty, TyX G.K H x ty ∧ PySem.W.kitOne G.K ty (.type (tyName t)) = some b := by
  have six : t = 0 ∨ t = 1 ∨ t = 2 ∨ t = 3 ∨ t = 4 ∨ t = 5 := by omega
  cases rd with
  | a rd =>
    cases rd with
    | non =>
      refine ⟨_, .base .non, (kit_at (by decide) ht G.K).trans ?_⟩
      rw [← e]
      rcases six with rfl | rfl | rfl | rfl | rfl | rfl <;> rfl
    | bl b' =>
      refine ⟨_, .base (.bl b'), (kit_at (by decide) ht G.K).trans ?_⟩
      rw [← e]
      rcases six with rfl | rfl | rfl | rfl | rfl | rfl <;> rfl
    | int i =>
      refine ⟨_, .base (.int i), (kit_at (by decide) ht G.K).trans ?_⟩
      rw [← e]
      rcases six with rfl | rfl | rfl | rfl | rfl | rfl <;> rfl
    | str s =>
      refine ⟨_, .base (.str _), (kit_at (by decide) ht G.K).trans ?_⟩
      rw [← e]
      rcases six with rfl | rfl | rfl | rfl | rfl | rfl <;> rfl
    | tup q1 q2 =>
      refine ⟨_, sqT_ty q1, (kit_at (by decide) ht G.K).trans ?_⟩
      rw [← e]
      rcases six with rfl | rfl | rfl | rfl | rfl | rfl <;> rfl
    | fn i => cases e
  | tupR q1 q2 =>
    refine ⟨_, sqT_ty q1, (kit_at (by decide) ht G.K).trans ?_⟩
    rw [← e]
    rcases six with rfl | rfl | rfl | rfl | rfl | rfl <;> rfl
  | ref q =>
    rename_i n p
    unfold isiD at e
    dsimp only at e
    split at e
    · rename_i xs h1
      obtain ⟨vs, h2, h3⟩ := r.ob n _ p h1 q
      refine ⟨_, .base (.lst h2), (kit_at (by decide) ht G.K).trans ?_⟩
      rw [← e]
      rcases six with rfl | rfl | rfl | rfl | rfl | rfl <;> rfl
    · rename_i f xs h1
      unfold asDct at hn
      dsimp only at hn
      rw [h1] at hn
      cases hn
    · cases e
  | _ => cases e
theorem isi_dct {d : D} {t n : Nat} {z : Bool} {kvs : List (A × D)} {b : Bool} (ht : t < 6) (e : isiD t h d = some b) (hd : asDct h d = some (n, z, kvs)) (K : PySem.W.Frag) : PySem.W.kitOne K (.type "dict") (.type (tyName t)) = some b := by
  have six : t = 0 ∨ t = 1 ∨ t = 2 ∨ t = 3 ∨ t = 4 ∨ t = 5 := by omega
  refine (kit_at (a := "dict") (by decide) ht K).trans ?_
  unfold asDct at hd
  split at hd
  · rename_i m
    split at hd
    · rename_i f ks h1
      unfold isiD at e
      dsimp only at e
      rw [h1] at e
      rw [← e]
      rcases six with rfl | rfl | rfl | rfl | rfl | rfl <;> rfl
    · cases hd
  · cases hd
theorem snd_isi {e : Expr} {r : Env → Hea → Res D} {T : Str} {t : Nat} {p p2 pos : Pos} (hK : X.K = G.K) (hw : X.w = G.w) (ht : t < 6) (he : Snd G X e r) (ns : starB e = false) (hg : Gl X "isinstance") (hm : X.mg "isinstance" = none)
    (hgT : Gl X T) (hmT : X.mg T = none) (hvT : bootBuiltins T = some (.type (tyName t))) (hnT : T ≠ "__name__") (hdT : (T == ("__debug__" : Str)) = false) :
    Snd G X (.Call (.Name "isinstance" p) [e, .Name T p2] [] pos) (fun σ h => (r σ h).bind fun d h1 => blR (isiD t h1 d) h1) := fun W tk => by
  have pT : PE X (.Name T p2) (tC (.ty (tyName t))) := pe_bltn hgT hmT hvT rfl hnT hdT
  refine PE.imp (pe_callB (call_isi.or (call_isiKd hw)) hg hm (by decide +kernel) (pa_cons (he W tk) (pa_cons pT pa_nil) (starEach_cons ns)) (by decide) (by decide) (starEach_cons ns) (by rfl)) fun σ H Q ⟨ρ, σd, h, st, rh, q⟩ => ?_
  refine tV_then st rh q fun ρ1 H1 x d k1 x1 st1 rd r1 q => ?_
  obtain ⟨b, e1, q⟩ := blR_all q
  cases e0 : asDct k1 d with
  | none =>
    obtain ⟨ty, h1, h2⟩ := isi_rel ht r1 e1 e0 rd
    rw [hK]
    exact .inl ⟨x, .ty (tyName t), ty, _, b, rfl, .ty _, h1, h2, PostE.bl r1 q⟩
  | some v =>
    obtain ⟨n, z, kvs⟩ := v
    obtain ⟨p, es, i⟩ := asDct_rel r1 e0 rd
    exact .inr ⟨ρ1, k1, d, x, n, z, kvs, p, es, .ty (tyName t), _, b, rfl, i, .ty _, isi_dct ht e1 e0 X.K, PostE.bl r1 q⟩
/-! ### methods of lists -/
theorem lst_notcode {p : Addr} {vs : List V} (q : H p = some (.lst vs)) : ∀ c z, H c = some (LamX.CodeO c z) → c ≠ p := fun c z e w => by
  subst w
  rw [q] at e
  cases e
/-- a list of the heap's own changed -/
theorem PostE.putL {Q : VK} {d : D} {v : V} {n : Nat} {p : Addr} {xs ys : List D} {ws : List V} (r : RelH G ρ H h) (e1 : h[n]? = some (.lst xs)) (e2 : ρ[n]? = some p) (q : RelDs G ρ H ys ws) (rv : RelD G ρ H d v)
    (k : PostE G ρ H Q d (setO h n (.lst ys))) : Q v (upd H p (.lst ws)) := by
  have mp : p ∈ ρ := List.mem_of_getElem? e2
  obtain ⟨vs, hp, _⟩ := r.ob n _ p e1 e2
  have x : Ext ρ H ρ (upd H p (.lst ws)) := Ext.put mp hp fun z => z
  exact k ρ _ v x (rv.keep r x) (r.put e1 e2 hp (fun z => z) ⟨ws, upd_same, q.keep r x⟩ (lst_notcode hp))
theorem isLst_ty {d : D} {x : V} (r : RelH G ρ H h) (e : isLst h d = true) (rd : RelD G ρ H d x) : tyV G.K "list" x H := by
  cases rd with
  | ref q =>
    rename_i n p
    unfold isLst at e
    dsimp only at e
    split at e
    · rename_i xs h1
      obtain ⟨vs, h2, _⟩ := r.ob n _ p h1 q
      exact .inl ⟨rfl, vs, SqL.of h2⟩
    · cases e
  | _ => cases e
theorem snd_lm {o : Expr} {es : List Expr} {e : Expr} {ro : Env → Hea → Res D} {rs : Env → Hea → Res (List D)} {name : Str} {id : String} {g : D → List D → Hea → Res D} {apos cpos : Pos} {rr : V → List V → Hp → VK → Prop} (hK : X.K = G.K)
    (slot : Slot "list" name id) (hty : typeOf (.builtin id) = pure (.type "method_descriptor")) (hm : MtR X id rr)
    (hr : ∀ ρ H h d ds x vs Q W, RelD G ρ H d x → RelDs G ρ H ds vs → RelH G ρ H h → (g d ds h).all (PostE G ρ H Q) W → rr x vs H Q)
    (ho : Snd G X o ro) (hs : SndA G X (e :: es) rs) (n : (e :: es).all (fun e => !starB e) = true)
    (hbase : attributeBase o name X.env (eval o X.env) = eval o X.env)
    (hfew : ((backTo cpos (starEach (e :: es) X.env)).all (fun x => !x.1) && (backToKw cpos (keywordEach [] X.env)).all (fun x => x.1.isSome)
      && decide ((e :: es).length + ([] : List Keyword).length + (if ([] : List Keyword).isEmpty then 0 else 1) < 30)) = true)
    (hline : (apos.endLine == cpos.line) = true) :
    Snd G X (.Call (.Attribute o name apos) (e :: es) [] cpos) (fun σ h => (ro σ h).bind fun d h1 => if isLst h1 d then (rs σ h1).bind fun ds h2 => g d ds h2 else .bad) := fun W tk => by
  rw [List.all_cons, Bool.and_eq_true] at n
  refine PE.imp (pe_bm PySem.F.plainAttrs_list slot hty hm (ho W tk) (hs W tk) hbase hfew hline (starEach_cons (by simpa using n.1)) (noStar n.2)) fun σ H Q ⟨ρ, σd, h, st, rh, q⟩ => ?_
  refine tV_then st rh q fun ρ1 H1 x d k1 x1 st1 rd r1 q => ?_
  split at q
  · rename_i hl
    rw [hK]
    refine ⟨isLst_ty r1 hl rd, ?_⟩
    exact tL_then (α := Unit) st1 r1 q fun ρ2 H2 vs ds k2 x2 st2 rds r2 q => hr ρ2 H2 k2 d ds x vs Q _ (rd.keep r1 x2) rds r2 q
  · exact q.elim
theorem snd_lm0 {o : Expr} {ro : Env → Hea → Res D} {name : Str} {id : String} {g : D → List D → Hea → Res D} {apos cpos : Pos} {rr : V → List V → Hp → VK → Prop} (hK : X.K = G.K)
    (slot : Slot "list" name id) (hty : typeOf (.builtin id) = pure (.type "method_descriptor")) (hm : MtR X id rr)
    (hr : ∀ ρ H h d ds x vs Q W, RelD G ρ H d x → RelDs G ρ H ds vs → RelH G ρ H h → (g d ds h).all (PostE G ρ H Q) W → rr x vs H Q)
    (ho : Snd G X o ro) (hbase : attributeBase o name X.env (eval o X.env) = eval o X.env) (hline : (apos.endLine == cpos.line) = true) :
    Snd G X (.Call (.Attribute o name apos) [] [] cpos) (fun σ h => (ro σ h).bind fun d h1 => if isLst h1 d then (Res.ok [] h1 : Res (List D)).bind fun ds h2 => g d ds h2 else .bad) := fun W tk => by
  refine PE.imp (pe_bm0 PySem.F.plainAttrs_list slot hty hm (ho W tk) hbase hline) fun σ H Q ⟨ρ, σd, h, st, rh, q⟩ => ?_
  refine tV_then st rh q fun ρ1 H1 x d k1 x1 st1 rd r1 q => ?_
  split at q
  · rename_i hl
    rw [hK]
    exact ⟨isLst_ty r1 hl rd, hr ρ1 H1 k1 d [] x [] Q _ rd .nil r1 q⟩
  · exact q.elim
theorem rel_append (ρ : List Addr) (H : Hp) (h : Hea) (d : D) (ds : List D) (x : V) (vs : List V) (Q : VK) (W : Exn → Hea → Prop) (rd : RelD G ρ H d x) (rds : RelDs G ρ H ds vs) (r : RelH G ρ H h) (q : (meD .append d ds h).all (PostE G ρ H Q) W) : rAppend x vs H Q := by
  unfold meD at q
  split at q <;> first
    | (rename_i hh _ _; cases hh; done)
    | (rename_i hh; cases hh; done)
    | exact q.elim
    | skip
  split at q
  · rename_i xs e1
    split at q
    · rename_i hl
      obtain ⟨y, rfl, ry⟩ := rds.one
      cases rd with
      | ref q2 =>
        obtain ⟨ws, h2, h3⟩ := r.ob _ _ _ e1 q2
        refine ⟨_, ws, y, rfl, rfl, h2, by rw [← h3.length, ← szl]; exact hl, ?_⟩
        exact PostE.putL r e1 q2 (h3.append (.cons ry .nil)) (.a .non) q
    · exact q.elim
  · exact q.elim
/-- xs.extend(t), t a tuple -/
theorem ext_tup (l : Addr) (xs : Array Value) (n : Nat) (b : Addr) (dd : Option Addr) (ys : Array Value) (m : Nat) (sl : Array (Option Value)) (h0 : ¬(!xs.isEmpty && Builtin.List.listTooLong (xs.size + ys.size)) = true) (h1 : xs.size ≤ sizeLine) (h2 : xs.size + ys.size ≤ sizeLine + 1) :
    Meets (Builtin.«list.extend» ⟨[.ref l, .ref b], []⟩) (fun _ R s => s.heap.get? l = some { cls := .type "list", data := .seq xs n } ∧ s.heap.get? b = some ⟨.type "tuple", dd, .seq ys m, sl⟩ ∧ R (.ok (.ret Value.none)) { s with heap := s.heap.update l (Obj.mapSeq fun x => x ++ ys) }) :=
  .of_wp fun prog w A R s h => by
    obtain ⟨hp, g, d, tk, os⟩ := s
    obtain ⟨hl, hb, h⟩ := h
    have g1 := PySem.AutoSeq1.sub_list_tuple
    have g2 := PySem.AutoSeq1.sub_tuple_tuple
    have g3 := PySem.AutoSeq1.sub_tuple_list
    have g4 := PySem.AutoSeq1.sub_list_list
    have g5 : (xs ++ ys).size ≤ sizeLine + 1 := by rw [Array.size_append]; exact h2
    wp_walk using (wpAny_updateSeq hl rfl (hz := h1) (_hz' := g5)), PySem.AutoSeq1.wpAny_loadPart' hl, PySem.AutoSeq1.wpAny_loadPart' hb
    exact ⟨_, rfl, h⟩
def rExtT (G : Glo) : V → List V → Hp → VK → Prop := fun x vs H Q => ∃ l b xs zs, x = .ref l ∧ vs = [.ref b] ∧ H l = some (.lst xs) ∧ SqT G.K H b zs ∧ xs.length + zs.length ≤ sizeLine ∧ Q .non (upd H l (.lst (xs ++ zs)))
theorem mt_extT (hK : X.K = G.K) : MtM X "list.extend" (rExtT G) := by
  intro pins s σ H x vs v us Q I rx rv q0
  obtain ⟨l, b, xs, zs, rfl, rfl, hl0, sT, hz, q⟩ := q0
  cases rx
  obtain ⟨u, rfl, ru⟩ := rv.one
  cases ru
  rw [← hK] at sT
  obtain ⟨_, its, n, r, e5, e⟩ := I.lstM hl0
  obtain ⟨ts, r2, ⟨⟨cls, dd, data, sl⟩, ho, ec, m, ed⟩, zz⟩ := I.tuple sT
  simp only at ec ed
  subst ec ed
  have l1 := r.length
  have l2 := r2.length
  have sz : its.toArray.size + ts.toArray.size ≤ sizeLine := by rw [List.size_toArray, List.size_toArray]; omega
  refine call_meets F.slot_list_extend ⟨_, e, rfl⟩ F.entry_list_extend (F.args_list_extend_2 _ _) (ext_tup l its.toArray n b dd ts.toArray m sl (by rw [notLongL sz, Bool.and_false]; exact Bool.false_ne_true) (by rw [List.size_toArray]; omega) (by omega)) ⟨e, ho, ?_⟩
  exact ⟨.non, _, I.lset (its' := its ++ ts) hl0 e (by simp) (r.append r2) (by rw [List.length_append]; omega), rfl, q⟩
theorem MtM.or {id : String} {r r' : V → List V → Hp → VK → Prop} (h : MtM X id r) (h' : MtM X id r') : MtM X id (fun x xs H Q => r x xs H Q ∨ r' x xs H Q) := fun pins s σ H x xs v us Q I rx rv q => by
  rcases q with q | q
  · exact h pins s σ H x xs v us Q I rx rv q
  · exact h' pins s σ H x xs v us Q I rx rv q
theorem rel_extend (ρ : List Addr) (H : Hp) (h : Hea) (d : D) (ds : List D) (x : V) (vs : List V) (Q : VK) (W : Exn → Hea → Prop) (rd : RelD G ρ H d x) (rds : RelDs G ρ H ds vs) (r : RelH G ρ H h) (q : (meD .extend d ds h).all (PostE G ρ H Q) W) : rExtend x vs H Q ∨ rExtT G x vs H Q := by
  unfold meD at q
  split at q <;> first
    | (rename_i hh _ _; cases hh; done)
    | (rename_i hh; cases hh; done)
    | exact q.elim
    | skip
  split at q
  · rename_i xs e1
    obtain ⟨y, rfl, ry⟩ := rds.one
    cases rd with
    | ref q2 =>
      obtain ⟨ws, h2, h3⟩ := r.ob _ _ _ e1 q2
      split at q
      · rename_i ys e2
        split at q
        · rename_i hl
          obtain ⟨p2, zs, rfl, h4, h5⟩ := asTup_rel e2 ry
          exact .inr ⟨_, _, ws, zs, rfl, rfl, h2, h4, by rw [← h3.length, ← h5.length, ← szl]; exact hl, PostE.putL r e1 q2 (h3.append h5) (.a .non) q⟩
        · exact q.elim
      · split at q
        · rename_i ys e2
          split at q
          · rename_i hl
            obtain ⟨_, p2, zs, _, rfl, _, _, h4, h5⟩ := asLst_rel r e2 ry
            exact .inl ⟨_, _, ws, zs, rfl, rfl, h2, h4, by rw [← h3.length, ← h5.length, ← szl]; exact hl, PostE.putL r e1 q2 (h3.append h5) (.a .non) q⟩
          · exact q.elim
        · exact q.elim
  · exact q.elim
theorem rel_pop (ρ : List Addr) (H : Hp) (h : Hea) (d : D) (ds : List D) (x : V) (vs : List V) (Q : VK) (W : Exn → Hea → Prop) (rd : RelD G ρ H d x) (rds : RelDs G ρ H ds vs) (r : RelH G ρ H h) (q : (meD .pop d ds h).all (PostE G ρ H Q) W) : rPop x vs H Q := by
  unfold meD at q
  split at q <;> first
    | (rename_i hh _ _; cases hh; done)
    | (rename_i hh; cases hh; done)
    | exact q.elim
    | skip
  split at q
  · rename_i xs e1
    split at q
    · rename_i y e2
      cases rds
      cases rd with
      | ref q2 =>
        obtain ⟨ws, h2, h3⟩ := r.ob _ _ _ e1 q2
        obtain ⟨v, e3, rv⟩ := h3.get e2
        refine ⟨_, ws, v, rfl, rfl, h2, by rw [← h3.length]; exact e3, ?_⟩
        refine PostE.putL r e1 q2 ?_ rv q
        rw [List.dropLast_eq_take, List.dropLast_eq_take, h3.length]
        exact h3.take _
    · exact q.elim
  · exact q.elim
end
end EV

set_option Elab.async false
set_option linter.all false
set_option maxRecDepth 100000
set_option maxHeartbeats 1000000
/-! EvI: a call has a heap of its own: what is handed in, what comes back. -/
namespace EV
open PySem PySem.Spec PyProof.Rows L2
section
variable {G : Glo} {ρ ρ' ρ'' ρ1 : List Addr} {H H' H'' H1 : Hp} {h h' h1 : Hea}
theorem ixN_get : ∀ {l : List Nat} {n j : Nat}, EV.ixN l n = some j → l[j]? = some n
  | [], _, _, e => by simp [EV.ixN] at e
  | m :: r, n, j, e => by
    unfold EV.ixN at e
    split at e
    · rename_i hm
      cases e
      have : m = n := by simpa using hm
      simp [this]
    · split at e
      · rename_i j' e'
        cases e
        simpa using ixN_get e'
      · cases e
theorem hasN_mem {n : Nat} : ∀ {l : List Nat}, hasN n l = true ↔ n ∈ l
  | [] => by simp [hasN]
  | m :: r => by
    unfold hasN
    rw [Bool.or_eq_true, hasN_mem, List.mem_cons]
    constructor
    · rintro (z | z)
      · exact .inl (by simpa using Eq.symm (by simpa using z))
      · exact .inr z
    · rintro (z | z)
      · exact .inl (by simp [z])
      · exact .inr z
theorem nodupB_nd : ∀ {l : List Nat}, nodupB l = true → l.Nodup
  | [], _ => List.nodup_nil
  | n :: r, e => by
    unfold nodupB at e
    rw [Bool.and_eq_true] at e
    refine List.nodup_cons.mpr ⟨fun hm => ?_, nodupB_nd e.2⟩
    have := hasN_mem.mpr hm
    rw [this] at e
    simp at e
mutual
theorem RelD.ren {f : Nat → Option Nat} (hf : ∀ n m p, f n = some m → ρ[n]? = some p → ρ'[m]? = some p) : ∀ (d d' : D) (v : V), renD f d = some d' → RelD G ρ H d v → RelD G ρ' H d' v
  | .a x, d', v, e, q => by
    simp only [renD, Option.some.injEq] at e
    subst e
    cases q with | a q => exact .a q
  | .ref n, d', v, e, q => by
    simp only [renD] at e
    split at e
    · rename_i m e1
      cases e
      cases q with | ref q => exact .ref (hf _ _ _ e1 q)
    · cases e
  | .tupR xs, d', v, e, q => by
    simp only [renD] at e
    split at e
    · rename_i ys e1
      cases e
      cases q with | tupR q1 q2 => exact .tupR q1 (RelDs.ren hf xs ys _ e1 q2)
    · cases e
  | .exn0 c, d', v, e, q => by
    simp only [renD, Option.some.injEq] at e
    subst e
    cases q with | exn0 q q2 => exact .exn0 q q2
  | .exn1 c x, d', v, e, q => by
    simp only [renD] at e
    split at e
    · rename_i y e1
      cases e
      cases q with | exn1 q1 q0 q2 q3 => exact .exn1 q1 q0 q2 (RelD.ren hf x y _ e1 q3)
    · cases e
  | .scr, d', v, e, q => by
    simp only [renD, Option.some.injEq] at e
    subst e
    cases q with | scr q => exact .scr q
  | .opt xs, d', v, e, q => by
    simp only [renD] at e
    split at e
    · rename_i ys e1
      cases e
      cases q with | opt q1 => exact .opt (RelU.ren hf xs ys _ e1 q1)
    · cases e
theorem RelU.ren {f : Nat → Option Nat} (hf : ∀ n m p, f n = some m → ρ[n]? = some p → ρ'[m]? = some p) : ∀ (ds ds' : List D) (v : V), renDs f ds = some ds' → RelU G ρ H ds v → RelU G ρ' H ds' v
  | [], ds', v, e, q => by cases q
  | d :: ds, ds', v, e, q => by
    simp only [renDs] at e
    split at e
    · rename_i y e1
      split at e
      · rename_i ys e2
        cases e
        cases q with
        | hd q1 => exact .hd (RelD.ren hf d y _ e1 q1)
        | tl q2 => exact .tl (RelU.ren hf ds ys _ e2 q2)
      · cases e
    · cases e
theorem RelDs.ren {f : Nat → Option Nat} (hf : ∀ n m p, f n = some m → ρ[n]? = some p → ρ'[m]? = some p) : ∀ (ds ds' : List D) (vs : List V), renDs f ds = some ds' → RelDs G ρ H ds vs → RelDs G ρ' H ds' vs
  | [], ds', vs, e, q => by
    simp only [renDs, Option.some.injEq] at e
    subst e
    cases q
    exact .nil
  | d :: ds, ds', vs, e, q => by
    simp only [renDs] at e
    split at e
    · rename_i y e1
      split at e
      · rename_i ys e2
        cases e
        cases q with | cons q1 q2 => exact .cons (RelD.ren hf d y _ e1 q1) (RelDs.ren hf ds ys _ e2 q2)
      · cases e
    · cases e
end
theorem RelEs.ren {f : Nat → Option Nat} (hf : ∀ n m p, f n = some m → ρ[n]? = some p → ρ'[m]? = some p) : ∀ {xs ys : List (A × D)} {es : List En}, renKs f xs = some ys → RelEs G ρ H xs es → RelEs G ρ' H ys es ∧ ys.map (·.1) = xs.map (·.1)
  | _, ys, _, e, .nil => by simp only [renKs, Option.some.injEq] at e; subst e; exact ⟨.nil, rfl⟩
  | _, ys, _, e, .cons a q r => by
    simp only [renKs] at e
    split at e
    · rename_i y e1
      split at e
      · rename_i zs e2
        cases e
        obtain ⟨h1, h2⟩ := RelEs.ren hf e2 r
        exact ⟨.cons a (RelD.ren hf _ y _ e1 q) h1, by rw [List.map_cons, List.map_cons, h2]⟩
      · cases e
    · cases e
theorem RelO.ren {f : Nat → Option Nat} (hf : ∀ n m p, f n = some m → ρ[n]? = some p → ρ'[m]? = some p) {o o' : Obj} {p : Addr} (e : renO f o = some o') (q : RelO G ρ H p o) : RelO G ρ' H p o' := by
  cases o with
  | lst xs =>
    simp only [renO] at e
    split at e
    · rename_i ys e1
      cases e
      obtain ⟨vs, h1, h2⟩ := q
      exact ⟨vs, h1, RelDs.ren hf xs ys _ e1 h2⟩
    · cases e
  | dct z xs =>
    simp only [renO] at e
    split at e
    · rename_i ys e1
      cases e
      obtain ⟨es, a, b, c, d, nd⟩ := q
      obtain ⟨h1, h2⟩ := RelEs.ren hf e1 b
      have l := congrArg List.length h2
      rw [List.length_map, List.length_map] at l
      refine ⟨es, a, h1, by rw [l]; exact c, d, ?_⟩
      have : ys.map (fun x => nk x.1) = xs.map fun x => nk x.1 := by
        have := congrArg (List.map nk) h2
        rw [List.map_map, List.map_map] at this
        exact this
      rw [this]
      exact nd
    · cases e
  | dice =>
    simp only [renO, Option.some.injEq] at e
    subst e
    exact q
theorem pickO_get {f : Nat → Option Nat} : ∀ {ns : List Nat} {q : Hea} {j : Nat} {o' : Obj}, pickO f h ns = some q → q[j]? = some o' → ∃ n o, ns[j]? = some n ∧ h[n]? = some o ∧ renO f o = some o'
  | [], q, j, o', e, e2 => by simp only [pickO, Option.some.injEq] at e; subst e; simp at e2
  | n :: r, q, j, o', e, e2 => by
    unfold pickO at e
    split at e
    · rename_i o e1
      split at e
      · rename_i o2 e3
        split at e
        · rename_i t e4
          cases e
          cases j with
          | zero => simp at e2; subst e2; exact ⟨n, o, rfl, e1, e3⟩
          | succ j => exact pickO_get (ns := r) (j := j) e4 (by simpa using e2)
        · cases e
      · cases e
    · cases e
theorem pickO_len {f : Nat → Option Nat} : ∀ {ns : List Nat} {q : Hea}, pickO f h ns = some q → q.length = ns.length
  | [], q, e => by simp only [pickO, Option.some.injEq] at e; subst e; rfl
  | n :: r, q, e => by
    unfold pickO at e
    split at e
    · split at e
      · split at e
        · rename_i t e4
          cases e
          simp [pickO_len e4]
        · cases e
      · cases e
    · cases e
theorem pickO_lt {f : Nat → Option Nat} : ∀ {ns : List Nat} {q : Hea}, pickO f h ns = some q → ∀ n ∈ ns, n < h.length
  | [], _, _ => fun n hn => by cases hn
  | n :: r, q, e => fun m hm => by
    unfold pickO at e
    split at e
    · rename_i o e1
      split at e
      · split at e
        · rename_i t e4
          rcases List.mem_cons.mp hm with z | z
          · subst z; exact (List.getElem?_eq_some_iff.mp e1).1
          · exact pickO_lt e4 m z
        · cases e
      · cases e
    · cases e
theorem backO_len : ∀ {ns : List Nat} {q : Hea} {h : Hea}, (backO h ns q).length = h.length
  | [], _, _ => by simp [backO]
  | _ :: _, [], _ => by simp [backO]
  | n :: r, o :: q, h => by simp [backO, backO_len]
theorem backO_out : ∀ {ns : List Nat} {q : Hea} {h : Hea} {n : Nat}, n ∉ ns → (backO h ns q)[n]? = h[n]?
  | [], _, _, _, _ => by simp [backO]
  | _ :: _, [], _, _, _ => by simp [backO]
  | m :: r, o :: q, h, n, hn => by
    simp only [List.mem_cons, not_or] at hn
    unfold backO
    rw [backO_out hn.2, List.getElem?_set_ne (Ne.symm hn.1)]
theorem backO_in : ∀ {ns : List Nat} {q : Hea} {h : Hea} {j n : Nat}, ns.Nodup → ns[j]? = some n → n < h.length → ns.length = q.length → (backO h ns q)[n]? = q[j]?
  | [], _, _, _, _, _, e, _, _ => by simp at e
  | m :: r, [], _, _, _, _, _, _, l => by simp at l
  | m :: r, o :: q, h, j, n, nd, e, hl, l => by
    rw [List.nodup_cons] at nd
    unfold backO
    cases j with
    | zero =>
      simp at e
      subst e
      rw [backO_out nd.1, List.getElem?_set_self hl]
      rfl
    | succ j =>
      rw [backO_in (j := j) nd.2 (by simpa using e) (by simpa using hl) (by simpa using l)]
      simp
def subR (ρ : List Addr) (ns : List Nat) : List Addr := ns.map fun n => ρ.getD n 0
theorem subR_get {ns : List Nat} {j : Nat} {p : Addr} (e : (subR ρ ns)[j]? = some p) (hl : ∀ n ∈ ns, n < ρ.length) : ∃ n, ns[j]? = some n ∧ ρ[n]? = some p := by
  unfold subR at e
  rw [List.getElem?_map] at e
  cases e1 : ns[j]? with
  | none => rw [e1] at e; cases e
  | some n =>
    rw [e1] at e
    have hn := hl n (List.mem_of_getElem? e1)
    refine ⟨n, rfl, ?_⟩
    cases e
    simp [List.getD, List.getElem?_eq_getElem hn]
theorem subR_at {ns : List Nat} {j n : Nat} {p : Addr} (e : ns[j]? = some n) (e2 : ρ[n]? = some p) : (subR ρ ns)[j]? = some p := by
  unfold subR
  rw [List.getElem?_map, e]
  simp [List.getD, e2]
theorem subR_mem {ns : List Nat} {p : Addr} (hl : ∀ n ∈ ns, n < ρ.length) (hm : p ∈ subR ρ ns) : p ∈ ρ := by
  obtain ⟨j, hj, e⟩ := List.mem_iff_getElem.mp hm
  obtain ⟨n, _, e2⟩ := subR_get (j := j) (p := p) (by rw [List.getElem?_eq_getElem hj, e]) hl
  exact List.mem_of_getElem? e2
theorem nd_ix {l : List Addr} (nd : l.Nodup) {i j : Nat} {p : Addr} (a : l[i]? = some p) (b : l[j]? = some p) : i = j := by
  obtain ⟨h1, e1⟩ := List.getElem?_eq_some_iff.mp a
  obtain ⟨h2, e2⟩ := List.getElem?_eq_some_iff.mp b
  exact (List.getElem_inj nd).mp (e1.trans e2.symm)
theorem subR_nd {ns : List Nat} (nd : ns.Nodup) (ndr : ρ.Nodup) (hl : ∀ n ∈ ns, n < ρ.length) : (subR ρ ns).Nodup := by
  unfold subR
  rw [List.nodup_iff_pairwise_ne, List.pairwise_map]
  refine List.Pairwise.imp_of_mem (R := (· ≠ ·)) (fun {a b} ha hb hne => ?_) (List.nodup_iff_pairwise_ne.mp nd)
  intro e
  have h1 := hl a ha
  have h2 := hl b hb
  simp only [List.getD, List.getElem?_eq_getElem h1, List.getElem?_eq_getElem h2, Option.getD_some] at e
  exact hne ((List.getElem_inj ndr).mp e)
/-- what is handed in -/
theorem handIn {ns : List Nat} {hl : Hea} (r : RelH G ρ H h) (nd : nodupB ns = true) (e : pickO (EV.ixN ns) h ns = some hl) : RelH G (subR ρ ns) H hl ∧ (∀ n ∈ ns, n < ρ.length) ∧
    ∀ ds ds' vs, renDs (EV.ixN ns) ds = some ds' → RelDs G ρ H ds vs → RelDs G (subR ρ ns) H ds' vs := by
  have lt : ∀ n ∈ ns, n < ρ.length := fun n hn => by rw [r.len]; exact pickO_lt e n hn
  have hf : ∀ n m p, EV.ixN ns n = some m → ρ[n]? = some p → (subR ρ ns)[m]? = some p := fun n m p e1 e2 => subR_at (ixN_get e1) e2
  refine ⟨⟨by rw [pickO_len e]; simp [subR], subR_nd (nodupB_nd nd) r.nd lt, fun j o' p e1 e2 => ?_, r.tab, fun p sn s => ?_⟩, lt, fun ds ds' vs e1 q => q.ren hf _ _ _ e1⟩
  · obtain ⟨n, o, e3, e4, e5⟩ := pickO_get e e1
    obtain ⟨n', e6, e7⟩ := subR_get e2 lt
    rw [e3] at e6
    cases e6
    exact (r.ob n o p e4 e7).ren hf e5
  · obtain ⟨hl, q⟩ := r.sc p sn s
    refine ⟨hl, ?_⟩
    rcases q with ⟨q1, q2⟩ | q
    · exact .inl ⟨q1, fun hm => q2 (subR_mem lt hm)⟩
    · exact .inr q
/-- what comes back -/
theorem handOut {ns : List Nat} {rs : List Nat} {f : Nat → Option Nat} {h2 : Hea} (r : RelH G ρ H h) (nd : nodupB ns = true) (lt : ∀ n ∈ ns, n < ρ.length) (x : Ext (subR ρ ns) H ρ1 H1) (r1 : RelH G ρ1 H1 h1)
    (e : outH h ns h1 rs = some (f, h2)) : ∃ ρ', Ext ρ H ρ' H1 ∧ RelH G ρ' H1 h2 ∧ ∀ n m p, f n = some m → ρ1[n]? = some p → ρ'[m]? = some p := by
  have ndn := nodupB_nd nd
  unfold outH at e
  dsimp only at e
  generalize hks : ((reach h1 1000 (rs ++ (h1.take ns.length).flatMap refsO) []).filter fun j => decide (ns.length ≤ j)) = ks at e
  have kge : ∀ k ∈ ks, ns.length ≤ k := fun k hk => by
    rw [← hks] at hk
    exact of_decide_eq_true (List.mem_filter.mp hk).2
  split at e
  · cases e
  · rename_i old e1
    split at e
    · cases e
    · rename_i new e2
      split at e
      · rename_i ndk
        cases e
        have ndk := nodupB_nd ndk
        have klt : ∀ k ∈ ks, k < ρ1.length := fun k hk => by rw [r1.len]; exact pickO_lt e2 k hk
        obtain ⟨⟨ee, hee, hfree⟩, hkp⟩ := id x
        have sl : (subR ρ ns).length = ns.length := by simp [subR]
        -- the new ones stand behind what was handed in
        have knew : ∀ p, p ∈ subR ρ1 ks → Nw H p := fun p hp => by
          obtain ⟨j, hj, e3⟩ := List.mem_iff_getElem.mp hp
          obtain ⟨n, e4, e5⟩ := subR_get (j := j) (p := p) (by rw [List.getElem?_eq_getElem hj, e3]) klt
          have := kge n (List.mem_of_getElem? e4)
          rw [hee, List.getElem?_append_right (by omega)] at e5
          exact hfree p (List.mem_of_getElem? e5)
        have hf : ∀ n m p, outF h.length ns ks n = some m → ρ1[n]? = some p → (ρ ++ subR ρ1 ks)[m]? = some p := fun n m p e3 e4 => by
          unfold outF at e3
          split at e3
          · rename_i hn
            rw [hee, List.getElem?_append_left (by omega)] at e4
            obtain ⟨n', e5, e6⟩ := subR_get e4 lt
            rw [e3] at e5
            cases e5
            rw [List.getElem?_append_left (List.getElem?_eq_some_iff.mp e6).1]
            exact e6
          · split at e3
            · rename_i i e5
              cases e3
              rw [← r.len, List.getElem?_append_right (by omega), Nat.add_sub_cancel_left]
              exact subR_at (ixN_get e5) e4
            · cases e3
        have X : Ext ρ H (ρ ++ subR ρ1 ks) H1 := ⟨⟨_, rfl, knew⟩, fun b o hb nb nt => hkp b o hb (nb.imp (fun nb hm => nb (subR_mem lt hm)) id) nt⟩
        refine ⟨ρ ++ subR ρ1 ks, X, ⟨?_, ?_, fun n o p e3 e4 => ?_, r1.tab, r.sc.keep X⟩, hf⟩
        · rw [List.length_append, List.length_append, backO_len, pickO_len e2, r.len]
          simp [subR]
        · rw [List.nodup_append]
          refine ⟨r.nd, subR_nd ndk r1.nd klt, fun a ha b hb z => ?_⟩
          subst z
          exact r.notnw (knew a hb) ha
        · by_cases hn : n < h.length
          · have hn' : n < ρ.length := by rw [r.len]; exact hn
            rw [List.getElem?_append_left (by rw [backO_len]; exact hn)] at e3
            rw [List.getElem?_append_left hn'] at e4
            by_cases hm : n ∈ ns
            · obtain ⟨j, hj, e5⟩ := List.mem_iff_getElem.mp hm
              have e5' : ns[j]? = some n := by rw [List.getElem?_eq_getElem hj, e5]
              have ol : old.length = ns.length := by rw [pickO_len e1, List.length_range]
              rw [backO_in ndn e5' hn ol.symm] at e3
              obtain ⟨n', o', e6, e7, e8⟩ := pickO_get e1 e3
              have : n' = j := by
                rw [List.getElem?_range hj] at e6
                exact (Option.some.inj e6).symm
              subst this
              refine (r1.ob _ o' p e7 ?_).ren hf e8
              rw [hee, List.getElem?_append_left (by rw [sl]; exact hj)]
              exact subR_at e5' e4
            · rw [backO_out hm] at e3
              have q := r.ob n o p e3 e4
              refine q.keep r X ?_
              obtain ⟨m1, m2⟩ := q.mut
              cases hz : H p with
              | none => rw [hz] at m1; exact m1.elim
              | some u =>
                rw [hz] at m2
                refine hkp p u hz (.inl fun hp => ?_) fun ps z => m2 ps (by rw [z])
                obtain ⟨j, hj, e5⟩ := List.mem_iff_getElem.mp hp
                obtain ⟨n', e6, e7⟩ := subR_get (j := j) (p := p) (by rw [List.getElem?_eq_getElem hj, e5]) lt
                have := nd_ix r.nd e7 e4
                subst this
                exact hm (List.mem_of_getElem? e6)
          · have hn' : ¬ n < ρ.length := by rw [r.len]; exact hn
            rw [List.getElem?_append_right (by rw [backO_len]; omega), backO_len] at e3
            rw [List.getElem?_append_right (by omega), r.len] at e4
            obtain ⟨n', o', e6, e7, e8⟩ := pickO_get e2 e3
            obtain ⟨n2, e9, e10⟩ := subR_get e4 klt
            rw [e6] at e9
            cases e9
            exact (r1.ob _ o' p e7 e10).ren hf e8
      · cases e
theorem outR_all {ns : List Nat} {Q : VK} {W : XK} (r : RelH G ρ H h) (nd : nodupB ns = true) (lt : ∀ n ∈ ns, n < ρ.length) : ∀ {q : Res D}, (callL.outR h ns q).all (PostE G ρ H Q) (PostX G ρ H W) → q.all (PostE G (subR ρ ns) H Q) (PostX G (subR ρ ns) H W)
  | .ok d h1, k => fun ρ1 H1 v x rd r1 => by
    unfold callL.outR at k
    split at k
    · rename_i f h2 e1
      split at k
      · rename_i d' e2
        obtain ⟨ρ', X, R, hf⟩ := handOut r nd lt x r1 e1
        exact k ρ' H1 v X (rd.ren hf _ _ _ e2) R
      · exact k.elim
    · exact k.elim
  | .exc ⟨c, none⟩ h1, k => fun ρ1 H1 cv dd x rx r1 => by
    unfold callL.outR at k
    split at k
    · rename_i f h2 e1
      obtain ⟨ρ', X, R, hf⟩ := handOut r nd lt x r1 e1
      exact k ρ' H1 cv dd X ⟨rx.1, rx.2.1, fun v e => by cases e⟩ R
    · exact k.elim
  | .exc ⟨c, some v⟩ h1, k => fun ρ1 H1 cv dd x rx r1 => by
    unfold callL.outR at k
    split at k
    · rename_i f h2 e1
      split at k
      · rename_i v' e2
        obtain ⟨ρ', X, R, hf⟩ := handOut r nd lt x r1 e1
        refine k ρ' H1 cv dd X ⟨rx.1, rx.2.1, fun w e => ?_⟩ R
        cases e
        obtain ⟨d1, vv, h3, h4, h5, h6⟩ := rx.2.2 v rfl
        refine ⟨d1, vv, h3, h4, h5.ren hf _ _ _ e2, fun hm => ?_⟩
        exact R.notin h4 (fun z => z) hm
      · exact k.elim
    · exact k.elim
  | .ask n k', k => fun i hi => outR_all r nd lt (q := k' i) (by
      unfold callL.outR at k
      exact k i hi)
  | .bad, k => by
    unfold callL.outR at k
    exact k
/-- a def's promise, by its meaning -/
def spC (G : Glo) (F : List D → Hea → Res D) (np : Nat) : Sp := fun vs H Q E => vs.length = np ∧ ∃ ρ h ds, RelDs G ρ H ds vs ∧ RelH G ρ H h ∧ (F ds h).all (PostE G ρ H Q) (PostX G ρ H E)
theorem callL_sp {F : List D → Hea → Res D} {np : Nat} {ds : List D} {vs : List V} {Q : VK} {W : XK} (hn : vs.length = np) (r : RelH G ρ H h) (rd : RelDs G ρ H ds vs) (k : (callL F ds h).all (PostE G ρ H Q) (PostX G ρ H W)) : spC G F np vs H Q W := by
  unfold callL at k
  dsimp only at k
  split at k
  · rename_i ds' hl e1 e2 e3
    obtain ⟨R, lt, h1⟩ := handIn r e1 e3
    exact ⟨hn, _, _, ds', h1 ds ds' vs e2 rd, R, outR_all r e1 lt k⟩
  · exact k.elim
end
end EV

set_option Elab.async false
set_option linter.all false
set_option maxRecDepth 100000
set_option maxHeartbeats 2000000
/-! EvJ0: enumerate(tuple). -/
namespace PySem
open Sem (wp)
open AutoSeq1 (wpAny_loadPart')
theorem ev_meets_enumT (l : Addr) (items : Array Value) (n : Nat) (dct : Option Addr) (sl : Array (Option Value)) :
    Meets (Builtin.«enumerate.__new__» ⟨[.type "enumerate", .ref l], []⟩) (fun _ R s => s.heap.get? l = some { cls := .type "tuple", dict := dct, data := .seq items n, slots := sl } ∧
      R (.ok (.ret (.ref (s.heap.push { cls := .type "tuple_iterator", data := .fields #[.ref l, .int 0 0] }).objs.size)))
        { s with heap := (s.heap.push { cls := .type "tuple_iterator", data := .fields #[.ref l, .int 0 0] }).push { cls := .type "enumerate", data := .fields #[.none, .bool false, .ref s.heap.objs.size, rawInt 0, .none, .none] } }) :=
  .of_wp fun prog w A R s h => by
    obtain ⟨hp, g, d, tk, os⟩ := s; obtain ⟨hl, h⟩ := h
    have hsub := sub_enumerate
    have hL : Heap.IsTuple (Shared.heap ⟨hp, g, d, tk, os⟩) l items := ⟨_, hl, rfl, n, rfl⟩
    wp_walk using wpAny_loadPart' hl
    refine wpAny_stack_any fun st => wpAny_pure ?_
    split
    · rename_i c _ _ _ _ _
      cases (c == Value.type "enumerate")
      · wp_walk using wpAny_loadPart' hl, wpAny_pyIter_tuple hL
        exact ⟨_, rfl, h⟩
      · wp_walk using wpAny_loadPart' hl, wpAny_pyIter_tuple hL
        exact ⟨_, rfl, h⟩
    · wp_walk using wpAny_loadPart' hl, wpAny_pyIter_tuple hL
      exact ⟨_, rfl, h⟩
theorem ev_call_enumT {prog : Program} {w : World} {A : Around} {E : Value → Shared → Prop} {s : Shared} {l : Addr} {items : Array Value} {Q : Value → Shared → Prop} (hL : s.heap.IsTuple l items)
    (h : ∀ h', IsEnum h' (s.heap.objs.size + 1) s.heap.objs.size 0 .none → h'.IsTupleIter s.heap.objs.size l 0 → h'.objs.size = s.heap.objs.size + 2 →
      (∀ b o, s.heap.get? b = some o → h'.get? b = some o) → Q (.ref (s.heap.objs.size + 1)) { s with heap := h' }) :
    wpAny (model prog w) A (call (.type "enumerate") [.ref l]) Q E s := by
  obtain ⟨⟨c, dct, dt, sl⟩, hl, hc, n, hd⟩ := hL
  replace hc : c = .type "tuple" := hc
  replace hd : dt = .seq items n := hd
  subst hc hd
  refine callType_new F.called_enumerate (by decide) (F.typeCall_enumerate_1 _) (F.newCall_enumerate_1 _) (fun obj => F.args_object_init_2 obj _) F.entry_enumerate_new
    (ev_meets_enumT l items n dct sl) ⟨hl, ?_⟩
  have hz : (s.heap.push { cls := .type "tuple_iterator", data := .fields #[.ref l, .int 0 0] }).objs.size = s.heap.objs.size + 1 := Heap.size_push ..
  show _ ∧ _
  rw [hz]
  have he : IsEnum ((s.heap.push { cls := .type "tuple_iterator", data := .fields #[.ref l, .int 0 0] }).push
      { cls := .type "enumerate", data := .fields #[.none, .bool false, .ref s.heap.objs.size, rawInt 0, .none, .none] }) (s.heap.objs.size + 1) s.heap.objs.size 0 .none := by
    have := Heap.get?_push_size (s.heap.push { cls := .type "tuple_iterator", data := .fields #[.ref l, .int 0 0] })
      (o := { cls := .type "enumerate", data := .fields #[.none, .bool false, .ref s.heap.objs.size, rawInt 0, .none, .none] }) rfl
    rw [hz] at this; exact this
  refine ⟨⟨_, he, rfl⟩, h _ he ⟨_, Heap.get?_push_of_some _ (Heap.get?_push_size _ rfl), rfl, rfl⟩ (by rw [Heap.size_push, hz]) fun b o x => Heap.get?_push_of_some _ (Heap.get?_push_of_some _ x)⟩
end PySem
namespace L2
open PySem PySem.Spec PyProof.Rows
/-- the tuple at a, each item in a new pair -/
def IteT (K : PySem.W.Frag) (a : Addr) : It :=
  ⟨fun i H => ∃ (xs : List V) (x : V), SqT K H a xs ∧ xs[i]? = some x, fun i H v H' => ∃ T x, v = .ref T ∧ H T = none ∧ H' = upd H T (.tup [.int (i : Nat), x]) ∧ ∀ xs, SqT K H a xs → xs[i]? = some x, fun i H => ∃ xs : List V, SqT K H a xs ∧ xs.length ≤ i⟩
theorem turn_enumT {P : Program} {w : World} {K : PySem.W.Frag} {elts : List Expr} {kk : Nat} {tpos : Pos} (a e it : Addr) :
    Turn P w K (.Tuple elts kk tpos) (IteT K a) [e, it] e (fun i h => (∃ old, IsEnum h e it ((i : Nat) : Int) old) ∧ h.IsTupleIter it a i ∧ e ≠ it ∧ a ≠ e ∧ a ≠ it) where
  mem := by simp
  obj := fun i h st b hb => by
    obtain ⟨⟨old, he⟩, ⟨o, ho, hc, hd⟩, _⟩ := st
    have e' : b = e ∨ b = it := by simpa using hb
    rcases e' with z | z
    · rw [z]; exact ⟨_, he, fun v q => nomatch q⟩
    · rw [z]; exact ⟨o, ho, fun v q => by rw [hd] at q; cases q⟩
  keep := fun i h h' st k => let ⟨⟨old, he⟩, hi, hne⟩ := st; ⟨⟨old, k e (by simp) _ he⟩, hi.at fun o q => k it (by simp) o q, hne⟩
  item := by
    intro X hP hw hK hc i pins s σ H E I hf st hg
    subst hP hw hK
    obtain ⟨⟨old, he⟩, hit, hne, hae, hai⟩ := st
    obtain ⟨xs, x, hq, hx⟩ := hg
    obtain ⟨its, rv, p, hz⟩ := I.tuple hq
    obtain ⟨u, hu, ru⟩ := rv.get hx
    have hel : e < s.heap.objs.size := Heap.lt_size he
    have hil : it < s.heap.objs.size := by obtain ⟨_, q, _⟩ := hit; exact Heap.lt_size q
    have D := Draws.tuple (prog := X.prog) (w := X.w) (A := X.A.in1) (I.ok.hd hc) it a hai its.toArray
    have hlt : i < its.toArray.size := by
      have := (List.getElem?_eq_some_iff.mp hu).1
      simpa using this
    refine wpAny_pyNext_enum_itemD D he ⟨hit, (show s.heap.IsTuple a its.toArray from p)⟩ hlt hne (by simp [hne, Ne.symm hae]) fun x' h' tk hP ho hst hT hsz hk => ?_
    have ex : x' = u := by
      have : its.toArray[i]? = some u := by simpa using hu
      rw [this] at hP
      exact (Option.some.inj hP).symm
    subst ex
    refine ⟨_, rfl, wpAny_letOwnedTupleGo_enum (s := { s with heap := h', toks := tk + 1 }) ho fun h'' he' sb => ?_⟩
    have hT2 : h''.get? s.heap.objs.size = some { cls := .type "tuple", data := .seq #[.int i tk, x'] } := (sb.2 _ (Nat.ne_of_gt hel)).trans hT
    have new : ObjOk X.prog X.w (upd H s.heap.objs.size (.tup [.int (i : Nat), x])) h'' s.heap.objs.size (.tup [.int (i : Nat), x]) :=
      ⟨by show 2 ≤ sizeLine; decide, [.int i tk, x'], .cons ⟨_, rfl⟩ (.cons ru .nil), ⟨_, hT2, rfl, _, rfl⟩⟩
    have I1 : Inv X pins σ (upd H s.heap.objs.size (.tup [.int (i : Nat), x])) { s with heap := h'', toks := tk + 1 } :=
      I.turnedNew (ch := [e, it]) (fun b ob hb q => (sb.2 b (fun z => hb (by simp [z]))).trans (hk b ob (fun z => hb (by simp [z])) (fun z => hb (by simp [z])) q)) hf (Nat.le_refl _) new
    refine ⟨.ref s.heap.objs.size, _, I1, rfl, ⟨_, x, rfl, I.hok.fresh (Nat.le_refl _), rfl, fun ys hy => by rw [I.tuple_inj hy hq]; exact hx⟩, ⟨⟨x', ?_⟩, hst.1.at fun o q => (sb.2 it (Ne.symm hne)).trans q, hne, hae, hai⟩, fun b hb => ?_⟩
    · have e1 : ((i + 1 : Nat) : Int) = (i : Int) + 1 := by omega
      rw [e1]; exact he'
    · have hb' : b < s.heap.objs.size := by
        have e' : b = e ∨ b = it := by simpa using hb
        rcases e' with z | z
        · rw [z]; exact hel
        · rw [z]; exact hil
      rw [upd_ne (Nat.ne_of_lt hb')]
      exact (hf b hb).1
  done := by
    intro X hP hw hK hc i pins s σ H E I hf st hg
    subst hP hw hK
    obtain ⟨⟨old, he⟩, hit, hne, hae, hai⟩ := st
    obtain ⟨xs, hq, hx⟩ := hg
    obtain ⟨its, rv, p, hz⟩ := I.tuple hq
    obtain ⟨f0, f1, f2, f3, f4, f5⟩ := hf it (by simp)
    have hl := rv.length
    unfold pyNext
    have hT : s.TypeIs (.ref e) "enumerate" := ⟨_, he, rfl⟩
    refine wpAny_bind (wpAny_attempt (wpAny_callSpecial?_slot (name := Str.ofString "__next__") hT F.slot_enumerate_next
      (wpAny_call_entry F.slot_enumerate_next hT F.entry_enumerate_next ?_ (F.args_enumerate_next_1 _))))
    show wpAny _ _ (field (.ref e) 2 >>= _) _ _ _
    refine wpAny_bind (wpAny_field he rfl (x := .ref it) rfl ?_)
    refine wpAny_bind (wpAny_nextOf_tuple_end (I.ok.hd hc) hit (show s.heap.IsTuple a its.toArray from p) (by simp; omega) fun h' x' eb hx' => ?_)
    obtain ⟨o, ho, hc'⟩ := hx'
    refine wpAny_bind (wpAny_isInstance (T := "StopIteration") (b := true) ⟨o, ho, hc'⟩ isSubtype_stop ?_)
    exact wpAny_pure ⟨rfl, I.turned (t' := s.toks) (fun b o hb q => eb b o hb q) f0 f1 f3 f4 f5⟩
  self := fun A i s Q E st h => let ⟨⟨_, he⟩, _⟩ := st; wpAny_pyIter_enum he h
def iEnumA (K : PySem.W.Frag) (ta : TA) : TI := fun σ H R => ta σ H fun vs H1 => ∃ a xs, vs = [.ref a] ∧ ((SqL K H1 a xs ∧ R (Ite K a) H1) ∨ (SqT K H1 a xs ∧ R (IteT K a) H1))
theorem pi_enumA {X : Cx} {e : Expr} {ta : TA} {p pos tpos : Pos} {elts : List Expr} {kk : Nat} (hg : Gl X "enumerate") (hm : X.mg "enumerate" = none) (ha : PA X [e] ta) (hs : starEach [e] X.env = [(false, eval e X.env)] := by rfl) :
    PI X (.Tuple elts kk tpos) (.Call (.Name "enumerate" p) [e] [] pos) (iEnumA X.K ta) := by
  refine ⟨fun pins s σ H R I h => ?_⟩
  refine Call_ (ld_blt I hg hm boot_enumerate (PyProof.Rows.callWith_type1 (thn (ha.run pos pins s σ H _ I h) fun us s1 ⟨vs, H1, I1, r1, q1⟩ => ?_) hs rfl))
  obtain ⟨a, xs, ex, q⟩ := q1
  subst ex
  have fp : ∀ b ∈ [s1.heap.objs.size + 1, s1.heap.objs.size], FpOk X pins H1 b := fun b hb => by
    have e' : b = s1.heap.objs.size + 1 ∨ b = s1.heap.objs.size := by simpa using hb
    have hle : s1.heap.objs.size ≤ b := by
      rcases e' with z | z
      · rw [z]; exact Nat.le_add_right _ _
      · rw [z]; exact Nat.le_refl _
    exact I1.fpOk hle (I1.hok.fresh hle)
  cases r1 with
  | cons r rr =>
    cases rr
    cases r
    rcases q with ⟨hq, q⟩ | ⟨hq, q⟩
    · obtain ⟨its, rv, p', hz⟩ := I1.list hq
      refine call_enumerate_list p'.isList fun h' he hit hsz hk => wpAny_pyIter_enum he ?_
      have I2 : Inv X pins σ H1 { s1 with heap := h' } := I1.kept (t' := s1.toks) hk
      exact ⟨s1.heap.objs.size + 1, [s1.heap.objs.size + 1, s1.heap.objs.size], _, _, H1, rfl, I2, turn_enum a (s1.heap.objs.size + 1) s1.heap.objs.size, ⟨⟨.none, he⟩, hit, Nat.succ_ne_self _⟩, fp, q⟩
    · obtain ⟨its, rv, p', hz⟩ := I1.tuple hq
      have hal : a < s1.heap.objs.size := p'.lt
      refine ev_call_enumT (show s1.heap.IsTuple a its.toArray from p') fun h' he hit hsz hk => wpAny_pyIter_enum he ?_
      have I2 : Inv X pins σ H1 { s1 with heap := h' } := I1.kept (t' := s1.toks) hk
      exact ⟨s1.heap.objs.size + 1, [s1.heap.objs.size + 1, s1.heap.objs.size], _, _, H1, rfl, I2, turn_enumT a (s1.heap.objs.size + 1) s1.heap.objs.size,
        ⟨⟨.none, he⟩, hit, Nat.succ_ne_self _, Nat.ne_of_lt (Nat.lt_succ_of_lt hal), Nat.ne_of_lt hal⟩, fp, q⟩
end L2

set_option Elab.async false
set_option linter.all false
set_option maxRecDepth 100000
set_option maxHeartbeats 1000000
/-! EvJ: calls of the text's own defs; what is walked; comprehensions. -/
namespace EV
open PySem PySem.Spec PyProof.Rows L2
section
variable {G : Glo} {ρ ρ' ρ'' ρ1 : List Addr} {H H' H'' H1 : Hp} {h h' h1 : Hea} {X : Cx}
/-- a def keeps its promise, where gd asks: when no repr is under way -/
structure FnX (gd : Bool) (P : Program) (w : World) (K : PySem.W.Frag) (mg : Str → Option Value) (base : Heap) (CX : CXT) (k : Nat) (f : Addr) (fd : FuncData) (ps : List Str) (sp : Sp) : Prop where
  len : ∀ vs H Q E, sp vs H Q E → vs.length = ps.length
  run : ∀ (A : Around) (outer : List PySem.Env) (s : Shared) (H : Hp) (args : Args) (us : List Value) (vs : List V) (Q : VK) (E : XK), Room k A → (gd = true → A.guards = some []) → Env0 P w K mg base A outer s H → BindsTo s fd args (ps.zip us) → Vals vs us → sp vs H Q E →
    codeAny (model P w) A (.call (.ref f) args) (CR CX outer P w H s Q E) s
theorem FnX.of {gd : Bool} {P : Program} {w : World} {K : PySem.W.Frag} {mg : Str → Option Value} {base : Heap} {CX : CXT} {k : Nat} {f : Addr} {fd : FuncData} {ps : List Str} {sp : Sp} (F : FnOk P w K mg base CX k f fd ps sp) : FnX gd P w K mg base CX k f fd ps sp :=
  ⟨F.len, fun A outer s H args us vs Q E hr _ he hb hv hs => F.run A outer s H args us vs Q E hr he hb hv hs⟩
theorem FnX.mono {gd : Bool} {P : Program} {w : World} {K : PySem.W.Frag} {mg : Str → Option Value} {base : Heap} {CX : CXT} {j k : Nat} {f : Addr} {fd : FuncData} {ps : List Str} {sp : Sp} (F : FnX gd P w K mg base CX j f fd ps sp) (h : j ≤ k) : FnX gd P w K mg base CX k f fd ps sp :=
  ⟨F.len, fun A outer s H args us vs Q E hr => F.run A outer s H args us vs Q E (hr.mono h)⟩
theorem FnX.imp {gd : Bool} {P : Program} {w : World} {K : PySem.W.Frag} {mg : Str → Option Value} {base : Heap} {CX : CXT} {k : Nat} {f : Addr} {fd : FuncData} {ps : List Str} {sp sp' : Sp} (F : FnX gd P w K mg base CX k f fd ps sp) (h : ∀ vs H Q E, sp' vs H Q E → sp vs H Q E) : FnX gd P w K mg base CX k f fd ps sp' :=
  ⟨fun vs H Q E q => F.len vs H Q E (h _ _ _ _ q), fun A outer s H args us vs Q E hr hg he hb hv hs => F.run A outer s H args us vs Q E hr hg he hb hv (h _ _ _ _ hs)⟩
theorem run_fnX {gd : Bool} {CX : CXT} {k : Nat} {f : Addr} {fd : FuncData} {ps : List Str} {sp : Sp} {E : L2.St → XK} {pins : List (Addr × PySem.Obj)} {σ : L2.St} {s : Shared} {Q : VK} {us : List Value} {vs : List V} (F : FnX gd X.prog X.w X.K X.mg X.base CX k f fd ps sp) (hr : Room k X.A) (hg : gd = true → X.A.guards = some []) (hb : Binds X.K fd ps []) (hx : PassesAt CX X σ (E σ))
    (I : Inv X pins σ H s) (r : Vals vs us) (h : sp vs H Q (E σ)) : wpAny (model X.prog X.w) X.A (call (.ref f) us) (EP X pins σ Q) X.xe s := by
  have hl : us.length = ps.length := by rw [← r.length]; exact F.len _ _ _ _ h
  have b := hb s us I.kIn (by rw [List.append_nil]; exact hl)
  rw [List.append_nil] at b
  refine wpAny_call (codeAny_mono (F.run X.A X.stack s H ⟨us, []⟩ us vs Q (E σ) hr hg I.env0 b r h) fun r s' hq => ?_)
  cases r with
  | error e => exact hx pins H s e s' I hq
  | ok fl =>
    cases fl with
    | ret u => exact I.after hq
    | next => exact False.elim hq
    | brk => exact False.elim hq
    | cont => exact False.elim hq
theorem pe_callX {gd : Bool} {CX : CXT} {k : Nat} {f : Addr} {fd : FuncData} {ps : List Str} {sp : Sp} {E : L2.St → XK} {x : Str} {p pos : Pos} {e : Expr} {es : List Expr} {t : TA} (F : FnX gd X.prog X.w X.K X.mg X.base CX k f fd ps sp) (hr : Room k X.A) (hgd : gd = true → X.A.guards = some []) (hg : Gl X x) (hm : X.mg x = some (.ref f)) (hk : PySem.W.keepIn X.K (.ref f) = true) (hb : Binds X.K fd ps []) (hx : ∀ σ, PassesAt CX X σ (E σ))
    (ha : PA X (e :: es) t) (hdb : (x == ("__debug__" : Str)) = false) (he : starEach (e :: es) X.env = (false, eval e X.env) :: starEach es X.env) (hpl : (backTo pos (starEach es X.env)).any (·.1) = false) :
    PE X (.Call (.Name x p) (e :: es) [] pos) (tCallS sp E t) := by
  refine ⟨fun pins s σ H Q I h => ?_⟩
  refine wpAny_Call_Name_kw (ld_glob I hg hm ?_ hdb)
  refine PySem.W.callWith_K (h₀ := X.base) I.ok.mod.kin hk (thn (ha.run pos pins s σ H _ I h) fun us s1 ⟨vs, H1, I1, r, q⟩ => ⟨I1.kIn, ?_⟩) he hpl
  exact run_fnX F hr hgd hb (hx σ) I1 r q
/-- the i-th def keeps its promise -/
structure DefOk (G : Glo) (P : Program) (w : World) (mg : Str → Option Value) (base : Heap) (lev : Nat) (F : List D → Hea → Res D) (i : Nat) : Prop where
  ex : ∃ (fd : FuncData) (ps : List Str), FnX (G.gdf i) P w G.K mg base (L2.CX P w) lev (G.fa i) fd ps (spC G F ps.length) ∧ PySem.W.keepIn G.K (.ref (G.fa i)) = true ∧ Binds G.K fd ps [] ∧ ∀ ds h, ds.length ≠ ps.length → F ds h = .bad
theorem renDs_len {f : Nat → Option Nat} : ∀ {ds ds' : List D}, renDs f ds = some ds' → ds'.length = ds.length
  | [], ds', e => by simp only [renDs, Option.some.injEq] at e; subst e; rfl
  | d :: ds, ds', e => by
    simp only [renDs] at e
    split at e
    · split at e
      · rename_i ys e2
        cases e
        simp [renDs_len e2]
      · cases e
    · cases e
theorem callL_len {F : List D → Hea → Res D} {np : Nat} (hl : ∀ ds h, ds.length ≠ np → F ds h = .bad) {ds : List D} {P : D → Hea → Prop} {W : Exn → Hea → Prop} (k : (callL F ds h).all P W) : ds.length = np := by
  unfold callL at k
  dsimp only at k
  split at k
  · rename_i ds' hl' e1 e2 e3
    by_cases hn : ds.length = np
    · exact hn
    · exfalso
      rw [hl ds' hl' (by rw [renDs_len e2]; exact hn)] at k
      unfold callL.outR at k
      exact k
  · exact k.elim
theorem snd_call {x : Str} {e : Expr} {es : List Expr} {rs : Env → Hea → Res (List D)} {F : List D → Hea → Res D} {i lev : Nat} {p pos : Pos} (hK : X.K = G.K) (ok : DefOk G X.prog X.w X.mg X.base lev F i) (hr : Room lev X.A) (hgd : G.gdf i = true → X.A.guards = some []) (hg : Gl X x) (hm : X.mg x = some (.ref (G.fa i)))
    (ha : SndA G X (e :: es) rs) (n : (e :: es).all (fun e => !starB e) = true) (hdb : (x == ("__debug__" : Str)) = false) :
    Snd G X (.Call (.Name x p) (e :: es) [] pos) (fun σ h => (rs σ h).bind fun ds h1 => joinR (callL F ds h1)) := fun W tk => by
  rw [List.all_cons, Bool.and_eq_true] at n
  obtain ⟨fd, ps, F', hk, b, hl⟩ := ok
  refine PE.imp (pe_callX (E := WE W) (by rw [hK]; exact F') hr hgd hg hm (by rw [hK]; exact hk) (by rw [hK]; exact b) (fun σ => passAt tk σ) (ha W tk) hdb (starEach_cons (by simpa using n.1)) (noStar n.2)) fun σ H Q ⟨ρ, σd, h, st, rh, q⟩ => ?_
  exact tL_then (α := Unit) st rh q fun ρ1 H1 vs ds k1 x1 st1 rd r1 q => callL_sp (by rw [← rd.length]; exact callL_len hl (joinR_all q)) r1 rd (joinR_all q)
theorem pe_callLS {gd : Bool} {CX : CXT} {k i : Nat} {f : Addr} {fd : FuncData} {ps : List Str} {sp : Sp} {E : L2.St → XK} {x : Str} {p pos : Pos} {e : Expr} {es : List Expr} {t : TA} (F : FnX gd X.prog X.w X.K X.mg X.base CX k f fd ps sp) (hr : Room k X.A) (hgd : gd = true → X.A.guards = some []) (hN : X.N[i]? = some x) (hv : Vis X.env.scope x) (hk : PySem.W.keepIn X.K (.ref f) = true) (hb : Binds X.K fd ps []) (hx : ∀ σ, PassesAt CX X σ (E σ)) (ha : PA X (e :: es) t)
    (hdb : (x == ("__debug__" : Str)) = false) (hcd : (x == ("__classdict__" : Str)) = false) (he : starEach (e :: es) X.env = (false, eval e X.env) :: starEach es X.env) (hpl : (backTo pos (starEach es X.env)).any (·.1) = false) :
    PE X (.Call (.Name x p) (e :: es) [] pos) (fun σ H Q => σ[i]? = some (some (.ref f)) ∧ t σ H fun vs H1 => sp vs H1 Q (E σ)) := by
  refine ⟨fun pins s σ H Q I h => ?_⟩
  obtain ⟨hs, ht⟩ := h
  refine wpAny_Call_Name_kw (thn ((pe_var (pos := p) hN hv hdb hcd).run pins s σ H (fun v H1 => v = .ref f ∧ H1 = H) I ⟨.ref f, hs, rfl, rfl⟩) fun u s1 ⟨v, H1, I1, r1, q1⟩ => ?_)
  obtain ⟨rfl, rfl⟩ := q1
  cases r1
  refine PySem.W.callWith_K (h₀ := X.base) I.ok.mod.kin hk (thn (ha.run pos pins s1 σ _ _ I1 ht) fun us s2 ⟨vs, H2, I2, r, q⟩ => ⟨I2.kIn, ?_⟩) he hpl
  exact run_fnX F hr hgd hb (hx σ) I2 r q
/-- a call of what a name holds -/
theorem snd_callv {x : Str} {e : Expr} {es : List Expr} {rs : Env → Hea → Res (List D)} {C : Nat → List D → Hea → Res D} {V0 : Nat → Bool} {i lev : Nat} {p pos : Pos} (hK : X.K = G.K) (ok : ∀ f, V0 f = true → DefOk G X.prog X.w X.mg X.base lev (C f) f) (og : ∀ f, V0 f = true → G.gdf f = false) (hr : Room lev X.A)
    (hN : X.N[i]? = some x) (hv : Vis X.env.scope x) (ha : SndA G X (e :: es) rs) (n : (e :: es).all (fun e => !starB e) = true) (hdb : (x == ("__debug__" : Str)) = false) (hcd : (x == ("__classdict__" : Str)) = false) :
    Snd G X (.Call (.Name x p) (e :: es) [] pos) (fun σ h => match σ[i]? with
      | some (some (.a (.fn f))) => if V0 f then (rs σ h).bind fun ds h1 => joinR (callL (C f) ds h1) else .bad
      | _ => .bad) := fun W tk => by
  rw [List.all_cons, Bool.and_eq_true] at n
  refine ⟨fun pins s σ H Q I ⟨ρ, σd, h, st, rh, q⟩ => ?_⟩
  dsimp only at q
  split at q
  · rename_i f e1
    split at q
    · rename_i hv0
      obtain ⟨fd, ps, F', hk, b, hl⟩ := ok f hv0
      obtain ⟨v, e2, e3⟩ := st.at_ i _ e1
      cases e3 with
      | a e3 =>
        cases e3
        refine (pe_callLS (i := i) (f := G.fa f) (E := WE W) (by rw [hK]; exact F') hr (fun z => by rw [og f hv0] at z; cases z) hN hv (by rw [hK]; exact hk) (by rw [hK]; exact b) (fun σ => passAt tk σ) (ha W tk) hdb hcd (starEach_cons (by simpa using n.1)) (noStar n.2)).run pins s σ H Q I ⟨e2, ?_⟩
        exact tL_then (α := Unit) st rh q fun ρ1 H1 vs ds k1 x1 st1 rd r1 q => callL_sp (by rw [← rd.length]; exact callL_len hl (joinR_all q)) r1 rd (joinR_all q)
    · exact q.elim
  · exact q.elim

/-! ### what is walked -/
/-- a walk that gives the items xs while the lists of g stay -/
def WalkR (G : Glo) (ρ1 : List Addr) (H1 : Hp) (J : L2.It) (xs : List D) (g : Gd) : Prop := ∃ (Gp : Hp → Prop) (Y : Nat → Hp → V → Hp → Prop), L2.Walk J xs.length Gp Y ∧
  (∀ ρ' H' h', Ext ρ1 H1 ρ' H' → RelH G ρ' H' h' → okG h' g = true → Gp H') ∧
  ∀ i d ρ' H' h' x H'', xs[i]? = some d → Ext ρ1 H1 ρ' H' → RelH G ρ' H' h' → okG h' g = true → Y i H' x H'' → Ext ρ' H' ρ' H'' ∧ RelD G ρ' H'' d x ∧ RelH G ρ' H'' h'
def SndI (G : Glo) (X : Cx) (tg it : Expr) (r : Env → Hea → Res (List D × Gd)) : Prop := ∀ W, Takes X W → ∃ wi : TI, PI X tg it wi ∧
  ∀ ρ σd σ h H (R : L2.It → Hp → Prop) (P : (List D × Gd) → Hea → Prop), RelSt G ρ H σd σ → RelH G ρ H h → (r σd h).all P (PostX G ρ H fun c d H' => W c d σ H') →
    (∀ ρ1 H1 J q h1, Ext ρ H ρ1 H1 → RelH G ρ1 H1 h1 → okG h1 q.2 = true → WalkR G ρ1 H1 J q.1 q.2 → P q h1 → R J H1) → wi σ H R
theorem okG_one {n : Nat} {o : Obj} (e : okG h [(n, o)] = true) : h[n]? = some o := by
  unfold okG at e
  rw [List.all_cons, Bool.and_eq_true] at e
  have e1 := e.1
  dsimp only at e1
  split at e1
  · rename_i ys h1
    rw [Obj.same_eq e1]
    exact h1
  · cases e1
theorem okG_self {n : Nat} {o : Obj} (e : h[n]? = some o) : okG h [(n, o)] = true := by
  unfold okG
  rw [List.all_cons, Bool.and_eq_true]
  refine ⟨?_, rfl⟩
  dsimp only
  rw [e]
  exact oSame o
where
  oSame : ∀ o : Obj, Obj.same o o = true
    | .lst xs => sameD xs
    | .dct z kvs => by unfold Obj.same; rw [Bool.and_eq_true]; exact ⟨by simp, kSame kvs⟩
    | .dice => rfl
  kSame : ∀ kvs : List (A × D), KVs.sames kvs kvs = true
    | [] => rfl
    | p :: r => by
      unfold KVs.sames
      rw [Bool.and_eq_true, Bool.and_eq_true]
      have := sameD [p.2]
      simp only [D.sames, Bool.and_true] at this
      exact ⟨⟨sameA p.1, this⟩, kSame r⟩
  sameA : ∀ x : A, A.same x x = true := fun x => by
    induction x using A.rec (motive_2 := fun xs => A.sames xs xs = true) with
    | non => rfl
    | bl b => simp [A.same]
    | int i => simp [A.same]
    | str s => simp [A.same]
    | tup xs ih => simpa [A.same] using ih
    | fn i => simp [A.same]
    | nil => rfl
    | cons x xs h1 h2 => simp [A.sames, h1, h2]
  sameD : ∀ xs : List D, D.sames xs xs = true := fun xs => by
    induction xs using D.rec_1 (motive_1 := fun x => D.same x x = true) with
    | a x => simpa [D.same] using sameA x
    | ref n => simp [D.same]
    | tupR xs ih => simpa [D.same] using ih
    | exn0 c => simp [D.same]
    | exn1 c v ih => simpa [D.same] using ih
    | scr => rfl
    | opt xs ih => simpa [D.same] using ih
    | nil => rfl
    | cons x xs h1 h2 => simp [D.sames, h1, h2]
/-- the list at a as it stands -/
theorem walk_listF {K : PySem.W.Frag} {a : Addr} {n : Nat} : L2.Walk (Itl K a) n (fun H => ∃ vs, SqL K H a vs ∧ vs.length = n) (fun i H x H' => H' = H ∧ ∀ vs, SqL K H a vs → vs[i]? = some x) :=
  ⟨fun i H hi ⟨vs, q, l⟩ => ⟨vs, vs[i]'(by omega), q, by simp⟩, fun H ⟨vs, q, l⟩ => ⟨vs, q, by omega⟩, fun _ _ _ _ _ _ y => y⟩
theorem walkR_list {p : Addr} {n : Nat} {xs : List D} (e : ρ1[n]? = some p) : WalkR G ρ1 H1 (Itl G.K p) xs [(n, .lst xs)] := by
  refine ⟨_, _, walk_listF, fun ρ' H' h' x r g => ?_, fun i d ρ' H' h' v H'' hi x r g y => ?_⟩
  · obtain ⟨vs, h1, h2⟩ := r.ob n _ p (okG_one g) (x.ix e)
    exact ⟨vs, SqL.of h1, h2.length.symm⟩
  · obtain ⟨vs, h1, h2⟩ := r.ob n _ p (okG_one g) (x.ix e)
    obtain ⟨rfl, y⟩ := y
    obtain ⟨w, h3, h4⟩ := h2.get hi
    rw [y vs (SqL.of h1)] at h3
    cases h3
    exact ⟨Ext.refl, h4, r⟩
theorem walkR_tup {p : Addr} {vs : List V} {xs : List D} {h1 : Hea} (r1 : RelH G ρ1 H1 h1) (s : SqT G.K H1 p vs) (q : RelDs G ρ1 H1 xs vs) : WalkR G ρ1 H1 (Itt G.K p) xs [] := by
  have w := walk_tup (K := G.K) (a := p) (xs := vs)
  rw [← q.length] at w
  refine ⟨_, _, w, fun ρ' H' h' x r g => x.seqT r1 s, fun i d ρ' H' h' v H'' hi x r g y => ?_⟩
  obtain ⟨rfl, y⟩ := y
  obtain ⟨w, h3, h4⟩ := q.get hi
  rw [y] at h3
  cases h3
  exact ⟨Ext.refl, h4.keep r1 x, r⟩
theorem seqG_rel {d : D} {v : V} {q : List D × Gd} (r : RelH G ρ H h) (e : seqG h d = some q) (rd : RelD G ρ H d v) : okG h q.2 = true ∧
    ((∃ p vs, v = .ref p ∧ SqT G.K H p vs ∧ RelDs G ρ H q.1 vs ∧ q.2 = []) ∨ ∃ p n vs, v = .ref p ∧ ρ[n]? = some p ∧ H p = some (.lst vs) ∧ RelDs G ρ H q.1 vs ∧ q.2 = [(n, .lst q.1)]) := by
  unfold seqG at e
  split at e
  · rename_i xs e1
    cases e
    obtain ⟨p, vs, h1, h2, h3⟩ := asTup_rel e1 rd
    exact ⟨rfl, .inl ⟨p, vs, h1, h2, h3, rfl⟩⟩
  · split at e
    · split at e
      · rename_i xs e1
        cases e
        cases rd with
        | ref q =>
          obtain ⟨vs, h1, h2⟩ := r.ob _ _ _ e1 q
          exact ⟨okG_self e1, .inr ⟨_, _, vs, rfl, q, h1, h2, rfl⟩⟩
      · cases e
    · cases e
/-- a list or a tuple -/
def iSeq (K : PySem.W.Frag) (tl : TE) : TI := fun σ H R => tl σ H fun x H1 => (∃ a, x = .ref a ∧ (∃ xs, SqL K H1 a xs) ∧ R (Itl K a) H1) ∨ ∃ a, x = .ref a ∧ (∃ xs, SqT K H1 a xs) ∧ R (Itt K a) H1
theorem pi_seq {tg l : Expr} {tl : TE} (hl : PE X l tl) : PI X tg l (iSeq X.K tl) := by
  refine ⟨fun pins s σ H R I h => ?_⟩
  refine thn (hl.run pins s σ H _ I h) fun v s1 ⟨x, H1, I1, r1, q1⟩ => ?_
  rcases q1 with ⟨a, e, ⟨xs, hq⟩, q⟩ | ⟨a, e, ⟨xs, hq⟩, q⟩
  · subst e
    cases r1
    obtain ⟨its, rv, p, hz⟩ := I1.list hq
    refine wpAny_pyIter_list p.isList ?_
    refine ⟨s1.heap.objs.size, [s1.heap.objs.size], _, _, H1, rfl, I1.kept (t' := s1.toks) fun b o e => Heap.get?_push_of_some _ e, turn_list a _, ⟨_, Heap.get?_push_size _ rfl, rfl, rfl⟩, fun b hb => ?_, q⟩
    have e : b = s1.heap.objs.size := by simpa using hb
    subst e
    exact I1.fpOk (Nat.le_refl _) (I1.hok.fresh (Nat.le_refl _))
  · subst e
    cases r1
    obtain ⟨its, rv, p, hz⟩ := I1.tuple hq
    refine wpAny_pyIter_tuple (show s1.heap.IsTuple a its.toArray from p) ?_
    refine ⟨s1.heap.objs.size, [s1.heap.objs.size], _, _, H1, rfl, I1.kept (t' := s1.toks) fun b o e => Heap.get?_push_of_some _ e, turn_tuple a _, ⟨_, Heap.get?_push_size _ rfl, rfl, rfl⟩, fun b hb => ?_, q⟩
    have e : b = s1.heap.objs.size := by simpa using hb
    subst e
    exact I1.fpOk (Nat.le_refl _) (I1.hok.fresh (Nat.le_refl _))
theorem sndi_seq {tg l : Expr} {r : Env → Hea → Res D} (hK : X.K = G.K) (hl : Snd G X l r) : SndI G X tg l (fun σ h => (r σ h).bind fun d h1 => match seqG h1 d with | some q => .ok q h1 | none => .bad) := fun W tk =>
  ⟨_, pi_seq (hl W tk), fun ρ σd σ h H R P st rh q k => by
    rw [Res.all_bind] at q
    refine ⟨ρ, σd, h, st, rh, Res.all_mono (fun d h1 q ρ1 H1 v x rd r1 => ?_) (fun _ _ p => p) q⟩
    split at q
    · rename_i q' e1
      obtain ⟨hg, z⟩ := seqG_rel r1 e1 rd
      rw [hK]
      rcases z with ⟨p, vs, h1, h2, h3, h4⟩ | ⟨p, n, vs, h1, h2, h3, h4, h5⟩
      · exact .inr ⟨p, h1, ⟨vs, h2⟩, k ρ1 H1 _ q' _ x r1 hg (by rw [h4]; exact walkR_tup r1 h2 h3) q⟩
      · exact .inl ⟨p, h1, ⟨vs, SqL.of h3⟩, k ρ1 H1 _ q' _ x r1 hg (by rw [h5]; exact walkR_list h2) q⟩
    · exact q.elim⟩

theorem upto_len (lo : Int) (n : Nat) : (upto lo n).length = n := by simp [upto]
theorem upto_get {lo : Int} {n i : Nat} {d : D} (e : (upto lo n)[i]? = some d) : d = .int (lo + i) := by
  unfold upto at e
  rw [List.getElem?_map] at e
  have hi : i < n := by
    have := (List.getElem?_eq_some_iff.mp (show ((List.range n).map fun (k : Nat) => D.int (lo + k))[i]? = some d by rw [List.getElem?_map]; exact e)).1
    simpa using this
  rw [List.getElem?_range hi] at e
  exact (Option.some.inj e).symm
theorem walkR_range {lo : Int} {n : Nat} : WalkR G ρ1 H1 (Itr lo n) (upto lo n) [] := by
  have w := walk_range (lo := lo) (n := n)
  rw [← upto_len lo n] at w
  rw [upto_len lo n] at w
  refine ⟨fun _ => True, _, by rw [upto_len]; exact w, fun _ _ _ _ _ _ => trivial, fun i d ρ' H' h' v H'' hi x r g y => ?_⟩
  obtain ⟨rfl, rfl⟩ := y
  rw [upto_get hi]
  exact ⟨Ext.refl, .a (.int _), r⟩
theorem lim_ok {n : Int} (e : lim n = true) : -(2 ^ 62) ≤ n ∧ n < 2 ^ 62 := by
  unfold lim at e
  rw [Bool.and_eq_true] at e
  exact ⟨of_decide_eq_true e.1, of_decide_eq_true e.2⟩
theorem sndi_rng {tg a : Expr} {r : Env → Hea → Res D} {p pos : Pos} (ha : Snd G X a r) (ns : starB a = false) (hg : Gl X "range") (hm : X.mg "range" = none) :
    SndI G X tg (.Call (.Name "range" p) [a] [] pos) (fun σ h => (r σ h).bind fun d h1 => match asInt d with | some n => if lim n then .ok (upto 0 n.toNat, []) h1 else .bad | none => .bad) := fun W tk =>
  ⟨_, pi_range1 hg hm (pa_cons (ha W tk) pa_nil (starEach_cons ns)) (starEach_cons ns), fun ρ σd σ h H R P st rh q k => by
    rw [Res.all_bind] at q
    refine ⟨ρ, σd, h, st, rh, Res.all_mono (fun d h1 q ρ1 H1 v x rd r1 => ?_) (fun _ _ p => p) q⟩
    split at q
    · rename_i n e1
      split at q
      · rename_i hl
        have := lim_ok hl
        refine ⟨n, by rw [asInt_rel e1 rd], ?_, ?_, k ρ1 H1 (Itr 0 n.toNat) _ _ x r1 rfl walkR_range q⟩
        · exact this.1
        · exact this.2
      · exact q.elim
    · exact q.elim⟩
theorem sndi_rng2 {tg a b : Expr} {ra rb : Env → Hea → Res D} {p pos : Pos} (ha : Snd G X a ra) (hb : Snd G X b rb) (na : starB a = false) (nb : starB b = false) (hg : Gl X "range") (hm : X.mg "range" = none) :
    SndI G X tg (.Call (.Name "range" p) [a, b] [] pos) (fun σ h => (ra σ h).bind fun d h1 => (rb σ h1).bind fun e h2 => match asInt d, asInt e with
      | some lo, some hi => if lim lo && lim hi then .ok (upto lo (hi - lo).toNat, []) h2 else .bad
      | _, _ => .bad) := fun W tk =>
  ⟨_, pi_range2 hg hm (pa_cons (ha W tk) (pa_cons (hb W tk) pa_nil (starEach_cons nb)) (starEach_cons na)) (by rw [starEach_cons na, starEach_cons nb]; rfl) (starEach_cons nb), fun ρ σd σ h H R P st rh q k => by
    rw [Res.all_bind] at q
    refine ⟨ρ, σd, h, st, rh, Res.all_mono (fun d h1 q ρ1 H1 v x rd r1 => ?_) (fun _ _ p => p) q⟩
    rw [Res.all_bind] at q
    refine ⟨ρ1, σd, h1, st.keep rh x, r1, Res.all_mono (fun e h2 q ρ2 H2 v2 x2 re r2 => ?_) (fun _ _ p => p.mv r1 x) q⟩
    split at q
    · rename_i lo hi e1 e2
      split at q
      · rename_i hl
        rw [Bool.and_eq_true] at hl
        have h3 := lim_ok hl.1
        have h4 := lim_ok hl.2
        exact ⟨lo, hi, by rw [asInt_rel e1 (rd.keep r1 x2), asInt_rel e2 re], ⟨h3.1, h3.2, h4.1, h4.2⟩, k ρ2 H2 _ _ _ (Ext.trans r1 x x2) r2 rfl walkR_range q⟩
      · exact q.elim
    · exact q.elim⟩
theorem enumL_len : ∀ (k : Nat) (xs : List D), (enumL k xs).length = xs.length
  | _, [] => rfl
  | k, x :: xs => by simp [enumL, enumL_len]
theorem enumL_get : ∀ {k : Nat} {xs : List D} {i : Nat} {d : D}, (enumL k xs)[i]? = some d → ∃ x, xs[i]? = some x ∧ d = mkTup [.int ((k + i : Nat) : Int), x]
  | k, [], i, d, e => by simp [enumL] at e
  | k, x :: xs, 0, d, e => by simp [enumL] at e; subst e; exact ⟨x, rfl, by simp⟩
  | k, x :: xs, i + 1, d, e => by
    obtain ⟨y, h1, h2⟩ := enumL_get (k := k + 1) (xs := xs) (i := i) (d := d) (by simpa [enumL] using e)
    exact ⟨y, by simpa using h1, by rw [h2]; congr 4; omega⟩
theorem pair_rel {ds : List D} {vs : List V} {T : Addr} (r : RelH G ρ' H' h') (q : RelDs G ρ' H' ds vs) (n : H' T = none) : Ext ρ' H' ρ' (upd H' T (.tup vs)) ∧ RelD G ρ' (upd H' T (.tup vs)) (mkTup ds) (.ref T) ∧ RelH G ρ' (upd H' T (.tup vs)) h' :=
  ⟨Ext.quiet n, mkTup_rel (q.keep r (Ext.quiet n)) (SqT.of upd_same), r.fresh_quiet n⟩
theorem walkR_enumT {p : Addr} {vs : List V} {xs : List D} {h1 : Hea} (r1 : RelH G ρ1 H1 h1) (s : SqT G.K H1 p vs) (q : RelDs G ρ1 H1 xs vs) : WalkR G ρ1 H1 (IteT G.K p) (enumL 0 xs) [] := by
  refine ⟨fun H => SqT G.K H p vs, (IteT G.K p).yld, ⟨fun i H hi z => ?_, fun H z => ⟨vs, z, by rw [enumL_len, q.length]; exact Nat.le_refl _⟩, fun _ _ _ _ _ _ y => y⟩, fun ρ' H' h' x r g => x.seqT r1 s, fun i d ρ' H' h' v H'' hi x r g y => ?_⟩
  · rw [enumL_len, q.length] at hi
    exact ⟨vs, vs[i], z, by simp⟩
  · obtain ⟨z, e1, rfl⟩ := enumL_get hi
    obtain ⟨T, w, rfl, hn, rfl, hx⟩ := y
    obtain ⟨w', e2, e3⟩ := q.get e1
    rw [hx vs (x.seqT r1 s)] at e2
    cases e2
    rw [Nat.zero_add]
    exact pair_rel r (.cons (.a (.int _)) (.cons (e3.keep r1 x) .nil)) hn
theorem walkR_enumL {p : Addr} {n : Nat} {xs : List D} (e : ρ1[n]? = some p) : WalkR G ρ1 H1 (Ite G.K p) (enumL 0 xs) [(n, .lst xs)] := by
  refine ⟨fun H => ∃ vs, SqL G.K H p vs ∧ vs.length = xs.length, (Ite G.K p).yld, ⟨fun i H hi ⟨vs, z, l⟩ => ?_, fun H ⟨vs, z, l⟩ => ⟨vs, z, by rw [enumL_len, l]; exact Nat.le_refl _⟩, fun _ _ _ _ _ _ y => y⟩, fun ρ' H' h' x r g => ?_, fun i d ρ' H' h' v H'' hi x r g y => ?_⟩
  · rw [enumL_len] at hi
    exact ⟨vs, vs[i]'(by omega), z, by simp⟩
  · obtain ⟨vs, h1, h2⟩ := r.ob n _ p (okG_one g) (x.ix e)
    exact ⟨vs, SqL.of h1, h2.length.symm⟩
  · obtain ⟨vs, h1, h2⟩ := r.ob n _ p (okG_one g) (x.ix e)
    obtain ⟨z, e1, rfl⟩ := enumL_get hi
    obtain ⟨T, w, rfl, hn, rfl, hx⟩ := y
    obtain ⟨w', e2, e3⟩ := h2.get e1
    rw [hx vs (SqL.of h1)] at e2
    cases e2
    rw [Nat.zero_add]
    exact pair_rel r (.cons (.a (.int _)) (.cons e3 .nil)) hn
theorem sndi_enum {e : Expr} {elts : List Expr} {kk : Nat} {tpos p pos : Pos} {r : Env → Hea → Res D} (hK : X.K = G.K) (he : Snd G X e r) (ns : starB e = false) (hg : Gl X "enumerate") (hm : X.mg "enumerate" = none) :
    SndI G X (.Tuple elts kk tpos) (.Call (.Name "enumerate" p) [e] [] pos) (fun σ h => (r σ h).bind fun d h1 => match seqG h1 d with | some (xs, g) => .ok (enumL 0 xs, g) h1 | none => .bad) := fun W tk =>
  ⟨_, pi_enumA hg hm (pa_cons (he W tk) pa_nil (starEach_cons ns)) (starEach_cons ns), fun ρ σd σ h H R P st rh q k => by
    rw [Res.all_bind] at q
    refine ⟨ρ, σd, h, st, rh, Res.all_mono (fun d h1 q ρ1 H1 v x rd r1 => ?_) (fun _ _ p => p) q⟩
    split at q
    · rename_i xs g e1
      obtain ⟨hg, z⟩ := seqG_rel r1 e1 rd
      rw [hK]
      rcases z with ⟨p, vs, h1, h2, h3, h4⟩ | ⟨p, n, vs, h1, h2, h3, h4, h5⟩
      · subst h1
        exact ⟨p, vs, rfl, .inr ⟨h2, k ρ1 H1 _ (enumL 0 xs, g) _ x r1 hg (by rw [show (enumL 0 xs, g).2 = [] from h4]; exact walkR_enumT r1 h2 h3) q⟩⟩
      · subst h1
        exact ⟨p, vs, rfl, .inl ⟨SqL.of h3, k ρ1 H1 _ (enumL 0 xs, g) _ x r1 hg (by rw [show (enumL 0 xs, g).2 = [(n, .lst xs)] from h5]; exact walkR_enumL h2) q⟩⟩
    · exact q.elim⟩
theorem zipL_get : ∀ {xs ys : List D} {i : Nat} {d : D}, (zipL xs ys)[i]? = some d → ∃ x y, xs[i]? = some x ∧ ys[i]? = some y ∧ d = mkTup [x, y]
  | [], ys, i, d, e => by simp [zipL] at e
  | x :: xs, [], i, d, e => by simp [zipL] at e
  | x :: xs, y :: ys, 0, d, e => by simp [zipL] at e; subst e; exact ⟨x, y, rfl, rfl, rfl⟩
  | x :: xs, y :: ys, i + 1, d, e => by
    obtain ⟨a, b, h1, h2, h3⟩ := zipL_get (xs := xs) (ys := ys) (i := i) (d := d) (by simpa [zipL] using e)
    exact ⟨a, b, by simpa using h1, by simpa using h2, h3⟩
theorem zipL_len : ∀ (xs ys : List D), (zipL xs ys).length = min xs.length ys.length
  | [], ys => by simp [zipL]
  | x :: xs, [] => by simp [zipL]
  | x :: xs, y :: ys => by simp [zipL, zipL_len]
theorem walkR_zipT {p p2 : Addr} {vs ws : List V} {xs ys : List D} {h1 : Hea} (r1 : RelH G ρ1 H1 h1) (s : SqT G.K H1 p vs) (s2 : SqT G.K H1 p2 ws) (q : RelDs G ρ1 H1 xs vs) (q2 : RelDs G ρ1 H1 ys ws) : WalkR G ρ1 H1 (RZ.ItzT G.K p p2) (zipL xs ys) [] := by
  refine ⟨fun H => SqT G.K H p vs ∧ SqT G.K H p2 ws, (RZ.ItzT G.K p p2).yld, ⟨fun i H hi z => ?_, fun H z => ⟨vs, ws, z.1, z.2, by rw [zipL_len, q.length, q2.length]; omega⟩, fun _ _ _ _ _ _ y => y⟩, fun ρ' H' h' x r g => ⟨x.seqT r1 s, x.seqT r1 s2⟩, fun i d ρ' H' h' v H'' hi x r g y => ?_⟩
  · rw [zipL_len, q.length, q2.length] at hi
    exact ⟨vs, ws, vs[i]'(by omega), ws[i]'(by omega), z.1, z.2, by simp, by simp⟩
  · obtain ⟨a, b, e1, e2, rfl⟩ := zipL_get hi
    obtain ⟨T, w, w2, rfl, hn, rfl, hx, hy⟩ := y
    obtain ⟨w', e3, e4⟩ := q.get e1
    obtain ⟨w2', e5, e6⟩ := q2.get e2
    rw [hx vs (x.seqT r1 s)] at e3
    rw [hy ws (x.seqT r1 s2)] at e5
    cases e3
    cases e5
    exact pair_rel r (.cons (e4.keep r1 x) (.cons (e6.keep r1 x) .nil)) hn
theorem okG_app {g g' : Gd} : okG h (g ++ g') = true ↔ okG h g = true ∧ okG h g' = true := by
  unfold okG
  rw [List.all_append, Bool.and_eq_true]
theorem walkR_zipL {p p2 : Addr} {n m : Nat} {xs ys : List D} (e : ρ1[n]? = some p) (e' : ρ1[m]? = some p2) : WalkR G ρ1 H1 (Itz G.K p p2) (zipL xs ys) ([(n, .lst xs)] ++ [(m, .lst ys)]) := by
  refine ⟨fun H => (∃ vs, SqL G.K H p vs ∧ vs.length = xs.length) ∧ ∃ ws, SqL G.K H p2 ws ∧ ws.length = ys.length, (Itz G.K p p2).yld, ⟨fun i H hi ⟨⟨vs, z, l⟩, ws, z2, l2⟩ => ?_, fun H ⟨⟨vs, z, l⟩, ws, z2, l2⟩ => ⟨vs, ws, z, z2, by rw [zipL_len]; omega⟩, fun _ _ _ _ _ _ y => y⟩, fun ρ' H' h' x r g => ?_, fun i d ρ' H' h' v H'' hi x r g y => ?_⟩
  · rw [zipL_len] at hi
    exact ⟨vs, ws, vs[i]'(by omega), ws[i]'(by omega), z, z2, by simp, by simp⟩
  · obtain ⟨g1, g2⟩ := okG_app.mp g
    obtain ⟨vs, h1, h2⟩ := r.ob n _ p (okG_one g1) (x.ix e)
    obtain ⟨ws, h3, h4⟩ := r.ob m _ p2 (okG_one g2) (x.ix e')
    exact ⟨⟨vs, SqL.of h1, h2.length.symm⟩, ws, SqL.of h3, h4.length.symm⟩
  · obtain ⟨g1, g2⟩ := okG_app.mp g
    obtain ⟨vs, h1, h2⟩ := r.ob n _ p (okG_one g1) (x.ix e)
    obtain ⟨ws, h3, h4⟩ := r.ob m _ p2 (okG_one g2) (x.ix e')
    obtain ⟨a, b, e1, e2, rfl⟩ := zipL_get hi
    obtain ⟨T, w, w2, rfl, hn, rfl, hx, hy⟩ := y
    obtain ⟨w', e3, e4⟩ := h2.get e1
    obtain ⟨w2', e5, e6⟩ := h4.get e2
    rw [hx vs (SqL.of h1)] at e3
    rw [hy ws (SqL.of h3)] at e5
    cases e3
    cases e5
    exact pair_rel r (.cons e4 (.cons e6 .nil)) hn
theorem sndi_zip {a b : Expr} {elts : List Expr} {kk : Nat} {tpos p pos : Pos} {ra rb : Env → Hea → Res D} (hK : X.K = G.K) (ha : Snd G X a ra) (hb : Snd G X b rb) (na : starB a = false) (nb : starB b = false) (hg : Gl X "zip") (hm : X.mg "zip" = none) :
    SndI G X (.Tuple elts kk tpos) (.Call (.Name "zip" p) [a, b] [] pos) (fun σ h => (ra σ h).bind fun d h1 => (rb σ h1).bind fun e h2 => match seqG h2 d, seqG h2 e with
      | some (xs, g), some (ys, g') => if g.length == g'.length then .ok (zipL xs ys, g ++ g') h2 else .bad
      | _, _ => .bad) := fun W tk =>
  ⟨_, RZ.pi_zipA hg hm (pa_cons (ha W tk) (pa_cons (hb W tk) pa_nil (starEach_cons nb)) (starEach_cons na)) (starEach_cons na) (noStar (by simp [nb])), fun ρ σd σ h H R P st rh q k => by
    rw [Res.all_bind] at q
    refine ⟨ρ, σd, h, st, rh, Res.all_mono (fun d h1 q ρ1 H1 v x rd r1 => ?_) (fun _ _ p => p) q⟩
    rw [Res.all_bind] at q
    refine ⟨ρ1, σd, h1, st.keep rh x, r1, Res.all_mono (fun e h2 q ρ2 H2 v2 x2 re r2 => ?_) (fun _ _ p => p.mv r1 x) q⟩
    split at q
    · rename_i xs g ys g' e1 e2
      split at q
      · rename_i hl
        obtain ⟨hg, z⟩ := seqG_rel r2 e1 (rd.keep r1 x2)
        obtain ⟨hg', z'⟩ := seqG_rel r2 e2 re
        have ok : okG h2 (g ++ g') = true := okG_app.mpr ⟨hg, hg'⟩
        rw [hK]
        rcases z with ⟨p, vs, h1, h2, h3, h4⟩ | ⟨p, n, vs, h1, h2, h3, h4, h5⟩
        · have h4 : g = [] := h4
          rcases z' with ⟨p', vs', h1', h2', h3', h4'⟩ | ⟨p', n', vs', h1', h2', h3', h4', h5'⟩
          · have h4' : g' = [] := h4'
            subst h1 h1' h4 h4'
            exact ⟨p, p', vs, vs', rfl, .inr ⟨h2, h2', k ρ2 H2 _ (zipL xs ys, [] ++ []) _ (Ext.trans r1 x x2) r2 ok (walkR_zipT r2 h2 h2' h3 h3') q⟩⟩
          · have h5' : g' = [(n', .lst ys)] := h5'
            rw [h4, h5'] at hl
            simp at hl
        · have h5 : g = [(n, .lst xs)] := h5
          rcases z' with ⟨p', vs', h1', h2', h3', h4'⟩ | ⟨p', n', vs', h1', h2', h3', h4', h5'⟩
          · have h4' : g' = [] := h4'
            rw [h5, h4'] at hl
            simp at hl
          · have h5' : g' = [(n', .lst ys)] := h5'
            subst h1 h1' h5 h5'
            exact ⟨p, p', vs, vs', rfl, .inl ⟨SqL.of h3, SqL.of h3', k ρ2 H2 _ (zipL xs ys, [(n, Obj.lst xs)] ++ [(n', Obj.lst ys)]) _ (Ext.trans r1 x x2) r2 ok (walkR_zipL h2 h2') q⟩⟩
      · exact q.elim
    · exact q.elim⟩
/-- the entries of a locked dict -/
theorem dItems_len {k : Dk} {kvs : List (A × D)} : (dItems k kvs).length = kvs.length := by cases k <;> simp [dItems]
theorem RelEs.get {kvs : List (A × D)} {es : List En} (r : RelEs G ρ H kvs es) : ∀ {i : Nat} {e : En}, es[i]? = some e → ∃ x, kvs[i]? = some (e.k, x) ∧ RelA G H e.k e.kv ∧ RelD G ρ H x e.v := by
  induction r with
  | nil => intro i e h; simp at h
  | @cons e0 x kvs es r1 r2 r3 ih =>
    intro i e h
    cases i with
    | zero => simp at h; subst h; exact ⟨x, rfl, r1, r2⟩
    | succ i => obtain ⟨x, h1, h2⟩ := ih (i := i) (e := e) (by simpa using h); exact ⟨x, by simpa using h1, h2⟩
theorem walkR_dct {k : Dk} {p : Addr} {n : Nat} {od : PySem.Obj} {kvs : List (A × D)} {es : List En} {h1 : Hea} (r1 : RelH G ρ1 H1 h1) (f : H1 p = some (.frz od (DctO G.w p es))) (e : RelEs G ρ1 H1 kvs es) : WalkR G ρ1 H1 (ItE k G.w p od es) (dItems k kvs) [(n, .dct true kvs)] := by
  have l := e.len
  refine ⟨fun H => H p = some (.frz od (DctO G.w p es)), yldE k es, ⟨fun i H hi z => ?_, fun H z => ?_, fun _ _ _ _ _ _ y => y⟩, fun ρ' H' h' x r g => x.atF f, fun i d ρ' H' h' v H'' hi x r g y => ?_⟩
  · rw [dItems_len, l] at hi
    exact ⟨z, hi⟩
  · refine ⟨z, ?_⟩
    rw [dItems_len, l]
    exact Nat.le_refl _
  · have e' := e.kee (x.kee r1)
    cases k with
    | keys =>
      obtain ⟨rfl, en, h2, rfl⟩ := y
      obtain ⟨w, h3, h4, h5⟩ := e'.get h2
      simp only [dItems, List.getElem?_map, h3, Option.map_some, Option.some.injEq] at hi
      subst hi
      exact ⟨Ext.refl, .a h4, r⟩
    | vals =>
      obtain ⟨rfl, en, h2, rfl⟩ := y
      obtain ⟨w, h3, h4, h5⟩ := e'.get h2
      simp only [dItems, List.getElem?_map, h3, Option.map_some, Option.some.injEq] at hi
      subst hi
      exact ⟨Ext.refl, h5, r⟩
    | items =>
      obtain ⟨T, en, h2, rfl, hn, rfl⟩ := y
      obtain ⟨w, h3, h4, h5⟩ := e'.get h2
      simp only [dItems, List.getElem?_map, h3, Option.map_some, Option.some.injEq] at hi
      subst hi
      exact pair_rel r (.cons (.a h4) (.cons h5 .nil)) hn
/-- a dict is locked -/
theorem IsDct.lock {d : D} {x : V} {n : Nat} {kvs : List (A × D)} {p : Addr} {es : List En} {od : PySem.Obj} (i : IsDct G ρ H h d x n false kvs p es) (r : RelH G ρ H h) (nc : ∀ c q, H c = some (LamX.CodeO c q) → c ≠ p) : Ext ρ H ρ (upd H p (.frz od (DctO G.w p es))) ∧ RelH G ρ (upd H p (.frz od (DctO G.w p es))) (h.set n (.dct true kvs)) ∧ RelEs G ρ (upd H p (.frz od (DctO G.w p es))) kvs es := by
  have mp : p ∈ ρ := List.mem_of_getElem? i.r
  have hp : H p = some (DctO G.w p es) := i.a
  have nf : ¬ Frz (DctO G.w p es) := fun z => z
  have x := Ext.put (o := .frz od (DctO G.w p es)) mp hp nf
  have e' := i.e.kee (x.kee r)
  have nt : ∀ ps, H p ≠ some (.tbl ps) := fun ps z => by rw [hp] at z; cases z
  refine ⟨x, ⟨by simp [r.len], r.nd, fun m u a f1 f2 => ?_, tabs_upd r.tab nt nc, r.sc.keep x⟩, e'⟩
  by_cases hm : n = m
  · subst hm
    rw [List.getElem?_set_self (List.getElem?_eq_some_iff.mp i.o).1] at f1
    cases f1
    rw [i.r] at f2
    cases f2
    exact ⟨es, ⟨od, upd_same⟩, e', i.l, i.m, i.nd⟩
  · rw [List.getElem?_set_ne hm] at f1
    refine (r.ob m u a f1 f2).keep r x (upd_ne fun z => ?_)
    subst z
    exact hm (nd_ix r.nd i.r f2)
/-- the lock is taken off at the end -/
theorem unlock_rel {n : Nat} {kvs : List (A × D)} {p : Addr} {od : PySem.Obj} {es : List En} (x : Ext ρ H ρ1 H1) (r : RelH G ρ1 H1 h1) (nf : ∀ o u, H p ≠ some (.frz o u)) (mp : p ∈ ρ) (e1 : h1[n]? = some (.dct true kvs)) (e2 : ρ1[n]? = some p) (f : H1 p = some (.frz od (DctO G.w p es))) :
    Ext ρ H ρ1 (upd H1 p (DctO G.w p es)) ∧ RelH G ρ1 (upd H1 p (DctO G.w p es)) (h1.set n (.dct false kvs)) ∧ Kee G ρ1 H1 ρ1 (upd H1 p (DctO G.w p es)) := by
  have k : Kee G ρ1 H1 ρ1 (upd H1 p (DctO G.w p es)) := by
    refine ⟨fun a ws q => ?_, fun a fs q => ?_, fun _ _ q => q⟩
    · rcases q with (q | ⟨ob, q⟩) | q
      · exact .inl (.inl (by rw [upd_ne (fun z => by rw [z, f] at q; cases q)]; exact q))
      · exact .inl (.inr ⟨ob, by rw [upd_ne (fun z => by rw [z, f] at q; cases q)]; exact q⟩)
      · exact .inr q
    · rw [upd_ne (fun z => by rw [z, f] at q; cases q)]
      exact q
  have X : Ext ρ H ρ1 (upd H1 p (DctO G.w p es)) := ⟨x.ex, fun b o hb nb nt => by
    have ne : b ≠ p := fun z => by
      subst z
      rcases nb with nb | nb
      · exact nb mp
      · cases o with
        | frz o' u => exact nf o' u hb
        | _ => exact nb
    rw [upd_ne ne]
    exact x.kp b o hb nb nt⟩
  refine ⟨X, ⟨by simp [r.len], r.nd, fun m u a f1 f2 => ?_, tabs_upd r.tab (fun ps z => by rw [f] at z; cases z) (fun c q e z => by rw [z, f] at e; cases e), fun a ns q => ?_⟩, k⟩
  · by_cases hm : n = m
    · subst hm
      rw [List.getElem?_set_self (List.getElem?_eq_some_iff.mp e1).1] at f1
      cases f1
      rw [e2] at f2
      cases f2
      obtain ⟨es2, ⟨o2, a1⟩, b1, c1, d1, n1⟩ := r.ob n _ p e1 e2
      rw [f] at a1
      have ee : DctO G.w p es = DctO G.w p es2 := by
        injection a1 with a1
        injection a1
      exact ⟨es2, by show upd H1 p _ p = _; rw [upd_same, ee], b1.kee k, c1, d1, n1⟩
    · rw [List.getElem?_set_ne hm] at f1
      refine (r.ob m u a f1 f2).kee k (upd_ne fun z => ?_)
      subst z
      exact hm (nd_ix r.nd e2 f2)
  · obtain ⟨hl, z⟩ := r.sc a ns q
    refine ⟨hl, ?_⟩
    rcases z with ⟨z, z2⟩ | z
    · have ne : a ≠ p := fun e => by
        subst e
        exact z2 (List.mem_of_getElem? e2)
      refine .inl ⟨?_, z2⟩
      rcases z with z | ⟨ob, z⟩
      · exact .inl (by rw [upd_ne ne]; exact z)
      · exact .inr ⟨ob, by rw [upd_ne ne]; exact z⟩
    · exact .inr z
end
end EV

set_option Elab.async false
set_option linter.all false
set_option maxRecDepth 100000
set_option maxHeartbeats 1000000
/-! EvK: targets, comprehensions. -/
namespace EV
open PySem PySem.Spec PyProof.Rows L2
section
variable {G : Glo} {ρ ρ' ρ'' ρ1 : List Addr} {H H' H'' H1 : Hp} {h h' h1 : Hea} {X : Cx}
/-! ### targets -/
def slotsT : Tg → List Nat
  | .nm i => [i]
  | .tp is => is
def gAll : List Nat → TGs
  | [] => gNil
  | i :: is => gCons (gName i) (gAll is)
def gTg (K : PySem.W.Frag) : Tg → TG
  | .nm i => gName i
  | .tp is => gTup K is.length (gAll is)
/-- the same but for some slots -/
def Only (is : List Nat) (σ σ' : L2.St) : Prop := σ'.length = σ.length ∧ ∀ j, j ∉ is → σ'[j]? = σ[j]?
theorem Only.refl {is : List Nat} {σ : L2.St} : Only is σ σ := ⟨rfl, fun _ _ => rfl⟩
theorem Only.set {is : List Nat} {σ σ' : L2.St} {i : Nat} {v : Option V} (o : Only is (σ.set i v) σ') (hi : i ∈ is) : Only is σ σ' :=
  ⟨by rw [o.1, List.length_set], fun j hj => by rw [o.2 j hj, List.getElem?_set_ne (fun z => hj (by rw [← z]; exact hi))]⟩
theorem Only.mono {is is' : List Nat} {σ σ' : L2.St} (o : Only is σ σ') (s : ∀ i ∈ is, i ∈ is') : Only is' σ σ' := ⟨o.1, fun j hj => o.2 j fun z => hj (s j z)⟩
theorem gAll_set {Q : L2.St → Hp → Prop} (r : RelH G ρ H h) : ∀ {is : List Nat} {xs : List D} {vs : List V} {σd σd' : Env} {σ : L2.St}, RelSt G ρ H σd σ → RelDs G ρ H xs vs → setTg.setAll is xs σd = some σd' →
    (∀ σ', RelSt G ρ H σd' σ' → Only is σ σ' → Q σ' H) → gAll is vs σ H Q
  | [], xs, vs, σd, σd', σ, st, rd, e, k => by
    cases rd with
    | nil =>
      simp only [setTg.setAll, Option.some.injEq] at e
      subst e
      exact ⟨rfl, k σ st Only.refl⟩
    | cons _ _ => simp [setTg.setAll] at e
  | i :: is, xs, vs, σd, σd', σ, st, rd, e, k => by
    cases rd with
    | nil => simp [setTg.setAll] at e
    | cons q q2 =>
      simp only [setTg.setAll] at e
      refine ⟨_, _, rfl, ?_⟩
      exact gAll_set r (st.set q i) q2 e fun σ' st' o => k σ' st' (Only.set (o.mono fun j hj => List.mem_cons_of_mem _ hj) List.mem_cons_self)
theorem setAll_len : ∀ {is : List Nat} {xs : List D} {σd σd' : Env}, setTg.setAll is xs σd = some σd' → xs.length = is.length
  | [], [], _, _, _ => rfl
  | [], _ :: _, _, _, e => by simp [setTg.setAll] at e
  | _ :: _, [], _, _, e => by simp [setTg.setAll] at e
  | i :: is, x :: xs, _, _, e => by
    simp only [setTg.setAll] at e
    simp [setAll_len e]
theorem gTg_set {Q : L2.St → Hp → Prop} {tg : Tg} {d : D} {v : V} {σd σd' : Env} {σ : L2.St} (r : RelH G ρ H h) (st : RelSt G ρ H σd σ) (rd : RelD G ρ H d v) (e : setTg tg d σd = some σd')
    (k : ∀ σ', RelSt G ρ H σd' σ' → Only (slotsT tg) σ σ' → Q σ' H) : gTg G.K tg v σ H Q := by
  cases tg with
  | nm i =>
    simp only [setTg, Option.some.injEq] at e
    subst e
    exact k _ (st.set rd i) (Only.set Only.refl (by simp [slotsT]))
  | tp is =>
    simp only [setTg] at e
    split at e
    · cases e
    · rename_i xs e1
      obtain ⟨p, vs, rfl, h1, h2⟩ := asTup_rel e1 rd
      exact ⟨p, vs, rfl, h1, by rw [← h2.length]; exact setAll_len e, gAll_set r st h2 e k⟩
/-- the names of a target -/
def tgNames : Expr → Option (List Str)
  | .Name x _ => some [x]
  | .Tuple es _ _ => optAll (fun e => match e with | .Name x _ => some x | _ => none) es
  | _ => none
/-- the i-th name may be stored -/
def StoreOk (X : Cx) (x : Str) (i : Nat) : Prop := X.N[i]? = some x ∧ Loc X.env.scope x ∧ (X.fn x = true ∨ X.env.scope.names.lookup x = some .local)
theorem pgs_all (hN : X.N.Nodup) : ∀ {es : List Expr} {is : List Nat}, es.length = is.length → (∀ (k : Nat) e i, es[k]? = some e → is[k]? = some i → ∃ x p, e = .Name x p ∧ StoreOk X x i) → PGs X es (gAll is) ∧ (assignEach es X.env).length = es.length ∧ (assignEach es X.env).findIdx? (·.1) = none
  | [], [], _, _ => ⟨pgs_nil, rfl, rfl⟩
  | [], _ :: _, l, _ => by simp at l
  | _ :: _, [], l, _ => by simp at l
  | e :: es, i :: is, l, h => by
    obtain ⟨x, p, rfl, h1, h2, h3⟩ := h 0 e i rfl rfl
    obtain ⟨a, b, c⟩ := pgs_all hN (es := es) (is := is) (by simpa using l) fun k e i e1 e2 => h (k + 1) e i (by simpa using e1) (by simpa using e2)
    refine ⟨pgs_cons (pg_name hN h1 h2 h3) a rfl, ?_, ?_⟩
    · show ((false, _) :: assignEach es X.env).length = _
      simp [b]
    · show List.findIdx? (·.1) ((false, _) :: assignEach es X.env) = none
      rw [List.findIdx?_cons]
      simp [c]
def TgOk (X : Cx) (t : Expr) (tg : Tg) : Prop := match tg with
  | .nm i => ∃ x p, t = .Name x p ∧ StoreOk X x i
  | .tp is => ∃ es kk p, t = .Tuple es kk p ∧ es.length = is.length ∧ ∀ (k : Nat) e i, es[k]? = some e → is[k]? = some i → ∃ x p, e = .Name x p ∧ StoreOk X x i
theorem pg_of {t : Expr} {tg : Tg} (hK : X.K = G.K) (hN : X.N.Nodup) (hc : X.calm = true) (ok : TgOk X t tg) : PG X t (gTg G.K tg) := by
  cases tg with
  | nm i =>
    obtain ⟨x, p, rfl, h1, h2, h3⟩ := ok
    exact pg_name hN h1 h2 h3
  | tp is =>
    obtain ⟨es, kk, p, rfl, hl, h1⟩ := ok
    obtain ⟨a, b, c⟩ := pgs_all hN hl h1
    have q := pg_tup (k := kk) (pos := p) (n := is.length) hc a (b.trans hl) c
    rw [hK] at q
    exact q
/-! ### comprehensions -/
theorem wipe_get {σ : L2.St} {vs : List Nat} {j : Nat} : (L2.wipe σ vs)[j]? = if j ∈ vs ∧ j < σ.length then some none else σ[j]? := by
  induction vs with
  | nil => simp [L2.wipe]
  | cons v vs ih =>
    unfold L2.wipe
    by_cases hv : v = j
    · subst hv
      by_cases hl : v < σ.length
      · rw [List.getElem?_set_self (by rw [L2.wipe_length]; exact hl)]
        simp [hl]
      · rw [List.getElem?_eq_none (by rw [List.length_set, L2.wipe_length]; omega), if_neg (fun z => hl z.2), List.getElem?_eq_none (by omega)]
    · rw [List.getElem?_set_ne hv, ih]
      have : (j ∈ v :: vs ∧ j < σ.length) ↔ (j ∈ vs ∧ j < σ.length) := by
        simp only [List.mem_cons]
        constructor
        · rintro ⟨z | z, w⟩
          · exact absurd z.symm hv
          · exact ⟨z, w⟩
        · rintro ⟨z, w⟩; exact ⟨.inr z, w⟩
      simp only [this]
theorem wipe_only {σ σ' : L2.St} {vs : List Nat} (o : Only vs (L2.wipe σ vs) σ') : L2.wipe σ' vs = L2.wipe σ vs := by
  apply List.ext_getElem?
  intro j
  rw [wipe_get, wipe_get]
  have hl : σ'.length = σ.length := by rw [o.1, L2.wipe_length]
  by_cases hj : j ∈ vs
  · by_cases h2 : j < σ.length
    · rw [if_pos ⟨hj, by omega⟩, if_pos ⟨hj, h2⟩]
    · rw [if_neg (fun z => h2 (by omega)), if_neg (fun z => h2 z.2), List.getElem?_eq_none (by omega), List.getElem?_eq_none (by omega)]
  · rw [if_neg (fun z => hj z.1), if_neg (fun z => hj z.1), o.2 j hj, wipe_get, if_neg (fun z => hj z.1)]
abbrev noW : WX := fun _ _ _ _ => False
theorem takes_no {X : Cx} : Takes X noW := fun _ _ x => by
  obtain ⟨_, _, _, _, _, _, _, _, _, _, _, _, _, _, _, _, z⟩ := x
  exact z.elim
theorem noexc_all {α : Type} {P : α → Hea → Prop} {Y Y' : Exn → Hea → Prop} : ∀ {r : Res α}, r.noexc.all P Y → r.all P Y'
  | .ok _ _, q => q
  | .exc _ _, q => q.elim
  | .ask n k, q => fun i hi => noexc_all (r := k i) (q i hi)
  | .bad, q => q
theorem noexc_bind {α β : Type} {P : β → Hea → Prop} {Y Y' : Exn → Hea → Prop} {f : α → Hea → Res β} {r : Res α} (q : (r.noexc.bind f).all P Y) : r.all (fun a h => (f a h).all P Y) Y' := by
  rw [Res.all_bind] at q
  exact noexc_all q
end
end EV

set_option Elab.async false
set_option linter.all false
set_option maxRecDepth 100000
set_option maxHeartbeats 1000000
/-! EvL: list comprehensions. -/
namespace EV
open PySem PySem.Spec PyProof.Rows L2
section
variable {G : Glo} {ρ ρ' ρ'' ρ1 : List Addr} {H H' H'' H1 : Hp} {h h' h1 : Hea} {X : Cx}
/-- what holds between two turns of a comprehension, its new list at D -/
structure LcP (G : Glo) (ρ1 : List Addr) (H1 : Hp) (D : Addr) (σd : Env) (σ : L2.St) (ρ' : List Addr) (H' : Hp) (h' : Hea) (acc : List EV.D) (vs : List V) : Prop where
  x : Ext ρ1 H1 ρ' H'
  st : RelSt G ρ' H' σd σ
  rh : RelH G ρ' H' h'
  at_ : H' D = some (.lst vs)
  ds : RelDs G ρ' H' acc vs
  out : D ∉ ρ'
variable {D : Addr} {σd : Env} {σ : L2.St} {g : Gd} {acc : List EV.D} {vs : List V}
theorem Ext.notin (x : Ext ρ H ρ' H') {b : Addr} {o : HO} (e : H b = some o) (n : b ∉ ρ) (nt : ∀ ps, o ≠ .tbl ps) : b ∉ ρ' := by
  obtain ⟨⟨e2, rfl, he⟩, _⟩ := x
  intro hm
  rcases List.mem_append.mp hm with z | z
  · exact n z
  · obtain ⟨ps, e3⟩ := he b z o e; exact nt ps e3
theorem LcP.mv (p : LcP G ρ1 H1 D σd σ ρ' H' h' acc vs) (r1 : RelH G ρ1 H1 h1) (x : Ext ρ' H' ρ'' H'') {h'' : Hea} (r : RelH G ρ'' H'' h'') : LcP G ρ1 H1 D σd σ ρ'' H'' h'' acc vs :=
  ⟨Ext.trans p.rh p.x x, p.st.keep p.rh x, r, x.at p.at_ p.out (fun _ z => by cases z), p.ds.keep p.rh x, x.notin p.at_ p.out (fun _ z => by cases z)⟩
theorem LcP.push (p : LcP G ρ1 H1 D σd σ ρ' H' h' acc vs) (sc : ∀ a ns, G.scr = some (a, ns) → a ≠ D ∨ ∀ H', SqL G.K H' a (ns.map V.int)) (n1 : H1 D = none) {y : EV.D} {v : V} (q : RelD G ρ' H' y v) :
    LcP G ρ1 H1 D σd σ ρ' (upd H' D (.lst (vs ++ [v]))) h' (acc ++ [y]) (vs ++ [v]) := by
  have k : Kee G ρ' H' ρ' (upd H' D (.lst (vs ++ [v]))) := Kee.upd p.at_
  refine ⟨⟨p.x.ex, fun b o e nb nt => ?_⟩, p.st.kee k, p.rh.upd_out p.at_ p.out sc, upd_same, RelDs.append (RelDs.kee k _ _ p.ds) (.cons (RelD.kee k _ _ q) .nil), p.out⟩
  have : b ≠ D := fun z => by rw [z, n1] at e; cases e
  rw [upd_ne this]
  exact p.x.kp b o e nb nt
theorem LcP.start (r1 : RelH G ρ1 H1 h1) (st : RelSt G ρ1 H1 σd σ) (n : H1 D = none) : LcP G ρ1 H1 D σd σ ρ1 (upd H1 D (.lst [])) h1 [] [] :=
  ⟨Ext.quiet n, st.keep r1 (Ext.quiet n), r1.fresh_quiet n, upd_same, .nil, r1.notnone n⟩
/-- the new list becomes one of the heap's own -/
theorem LcP.fin (p : LcP G ρ1 H1 D σd σ ρ' H' h' acc vs) (r1 : RelH G ρ1 H1 h1) (n1 : H1 D = none) : Ext ρ1 H1 (ρ' ++ [D]) H' ∧ RelH G (ρ' ++ [D]) H' (h' ++ [.lst acc]) ∧ RelD G (ρ' ++ [D]) H' (.ref h'.length) (.ref D) := by
  have k : Kee G ρ' H' (ρ' ++ [D]) H' := ⟨fun _ _ q => q, fun _ _ q => q, fun n a q => by rw [List.getElem?_append_left (List.getElem?_eq_some_iff.mp q).1]; exact q⟩
  refine ⟨⟨?_, p.x.kp⟩, ⟨by simp [p.rh.len], ?_, fun m u a e1 e2 => ?_, p.rh.tab, fun a ns e => ?_⟩, .ref ?_⟩
  · obtain ⟨e, he, hn⟩ := p.x.ex
    refine ⟨e ++ [D], by rw [he, List.append_assoc], fun b hb => ?_⟩
    rcases List.mem_append.mp hb with z | z
    · exact hn b z
    · have : b = D := by simpa using z
      rw [this]; exact Nw.of n1
  · rw [List.nodup_append]
    refine ⟨p.rh.nd, by simp, fun a ha b hb => ?_⟩
    have e : b = D := by simpa using hb
    subst e
    intro z
    subst z
    exact p.out ha
  · by_cases hm : m < h'.length
    · have hm' : m < ρ'.length := by rw [p.rh.len]; exact hm
      rw [List.getElem?_append_left hm] at e1
      rw [List.getElem?_append_left hm'] at e2
      exact (p.rh.ob m u a e1 e2).kee k rfl
    · have hm' : ¬ m < ρ'.length := by rw [p.rh.len]; exact hm
      rw [List.getElem?_append_right (by omega)] at e1 e2
      have z : m - h'.length = 0 := by
        have := (List.getElem?_eq_some_iff.mp e1).1
        simp at this
        omega
      rw [z] at e1
      rw [p.rh.len, z] at e2
      simp at e1 e2
      subst e1 e2
      exact ⟨vs, p.at_, RelDs.kee k _ _ p.ds⟩
  · obtain ⟨hl, z⟩ := p.rh.sc a ns e
    refine ⟨hl, ?_⟩
    rcases z with ⟨z, z2⟩ | z
    · rcases r1.sc.apart n1 a ns e with ne | w
      · exact .inl ⟨z, fun hm => by
          rcases List.mem_append.mp hm with q | q
          · exact z2 q
          · exact ne (by simpa using q)⟩
      · exact .inr w
    · exact .inr z
  · rw [← p.rh.len, List.getElem?_append_right (Nat.le_refl _)]
    simp
def ttOf (G : Glo) : Option (Env → Hea → Res EV.D) → TT
  | none => tYes
  | some rt => tT G rt noW
/-- one turn's element -/
theorem lc_elt {re : Env → Hea → Res EV.D} {f : EV.D → Hea → Res (List EV.D)} {P : List EV.D → Hea → Prop} {Y : Exn → Hea → Prop} {σ1 : Env} {σ2 : L2.St} {Pn : Hp → Prop} (p : LcP G ρ1 H1 D σd σ ρ' H' h' acc vs) (r1 : RelH G ρ1 H1 h1) (n1 : H1 D = none)
    (st : RelSt G ρ' H' σ1 σ2) (q : ((re σ1 h').noexc.bind fun y h1 => if okG h1 g && decide (acc.length < SZ) then f y h1 else .bad).all P Y)
    (k : ∀ ρ'' H'' h'' y v, LcP G ρ1 H1 D σd σ ρ'' H'' h'' (acc ++ [y]) (vs ++ [v]) → okG h'' g = true → (f y h'').all P Y → Pn H'') :
    tV G re noW σ2 H' fun y H4 => ∃ acc, H4 D = some (.lst acc) ∧ acc.length < sizeLine ∧ Pn (upd H4 D (.lst (acc ++ [y]))) := by
  refine ⟨ρ', σ1, h', st, p.rh, Res.all_mono (fun y h2 q ρ2 H2 v x rd r2 => ?_) (fun _ _ z => z) (noexc_bind (Y' := PostX G ρ' H' fun c d H' => noW c d σ2 H') q)⟩
  split at q
  · rename_i e
    rw [Bool.and_eq_true, decide_eq_true_eq] at e
    have p2 := p.mv r1 x r2
    refine ⟨vs, p2.at_, by rw [← p2.ds.length, sizeLine_eq]; exact e.2, ?_⟩
    exact k ρ2 _ h2 y v (p2.push (r1.sc.apart n1) n1 rd) e.1 q
  · exact q.elim
theorem lc_turn {re : Env → Hea → Res EV.D} {rc : Option (Env → Hea → Res EV.D)} {tg : Tg} {own : List Nat} {ys : List EV.D} {d : EV.D} {w : V} {P : List EV.D → Hea → Prop} {Y : Exn → Hea → Prop} {Pn : Hp → Prop}
    (p : LcP G ρ1 H1 D (wipeE σd own) (L2.wipe σ own) ρ' H' h' acc vs) (r1 : RelH G ρ1 H1 h1) (n1 : H1 D = none) (hs : ∀ i ∈ slotsT tg, i ∈ own) (rd : RelD G ρ' H' d w)
    (q : (compL re rc tg (wipeE σd own) g (d :: ys) acc h').all P Y)
    (k : ∀ ρ'' H'' h'' acc vs, LcP G ρ1 H1 D (wipeE σd own) (L2.wipe σ own) ρ'' H'' h'' acc vs → okG h'' g = true → (compL re rc tg (wipeE σd own) g ys acc h'').all P Y → Pn H'') :
    gTg G.K tg w (L2.wipe σ own) H' fun σ2 H2 => L2.wipe σ2 own = L2.wipe σ own ∧ ttOf G rc σ2 H2 fun b H3 =>
      if b = true then tV G re noW σ2 H3 fun y H4 => ∃ acc, H4 D = some (.lst acc) ∧ acc.length < sizeLine ∧ Pn (upd H4 D (.lst (acc ++ [y]))) else Pn H3 := by
  unfold compL at q
  split at q
  · exact q.elim
  · rename_i σ1 e1
    refine gTg_set p.rh p.st rd e1 fun σ2 st2 o => ⟨wipe_only (o.mono hs), ?_⟩
    cases rc with
    | none =>
      unfold ttOf tYes
      simp only [if_true]
      exact lc_elt p r1 n1 st2 q fun ρ'' H'' h'' y v p2 e q2 => k _ _ _ _ _ p2 e q2
    | some rt =>
      refine ⟨ρ', σ1, h', st2, p.rh, Res.all_mono (fun b h2 q => ?_) (fun _ _ z => z) (noexc_bind (Y' := PostX G ρ' H' fun c d H' => noW c d σ2 H') q)⟩
      split at q
      · rename_i e2
        refine ⟨true, e2, fun ρ2 H2 x r2 => ?_⟩
        simp only [if_true]
        exact lc_elt (p.mv r1 x r2) r1 n1 (st2.keep p.rh x) q fun ρ'' H'' h'' y v p2 e q2 => k _ _ _ _ _ p2 e q2
      · rename_i e2
        refine ⟨false, e2, fun ρ2 H2 x r2 => ?_⟩
        simp only [Bool.false_eq_true, if_false]
        split at q
        · rename_i e3
          exact k _ _ _ _ _ (p.mv r1 x r2) e3 q
        · exact q.elim
      · exact q.elim
/-- the whole walk -/
theorem lc_run {re : Env → Hea → Res EV.D} {rc : Option (Env → Hea → Res EV.D)} {tg : Tg} {own : List Nat} {xs : List EV.D} {J : L2.It} {Q : VK} {Y : Exn → Hea → Prop} {h0 : Hea}
    (x0 : Ext ρ H ρ1 H1) (r0 : RelH G ρ H h0) (r1 : RelH G ρ1 H1 h1) (st : RelSt G ρ1 H1 σd σ) (ok : okG h1 g = true) (w : WalkR G ρ1 H1 J xs g) (hs : ∀ i ∈ slotsT tg, i ∈ own)
    (q : ((compL re rc tg (wipeE σd own) g xs [] h1).bind fun ys h2 => newO (.lst ys) h2).all (PostE G ρ H Q) Y) (n1 : H1 D = none) :
    ∃ W : Nat → Nat → Hp → Prop, (∃ m, W 0 m (upd H1 D (.lst []))) ∧ ∀ i m H, W i m H →
      (J.stop i H ∧ Q (.ref D) H) ∨ (J.go i H ∧ ∃ Nx : Hp → Prop, (∀ H', Nx H' → ∃ m', m' < m ∧ W (i + 1) m' H') ∧ ∀ x H', J.yld i H x H' → gTg G.K tg x (L2.wipe σ own) H' fun σ2 H2 => L2.wipe σ2 own = L2.wipe σ own ∧ ttOf G rc σ2 H2 fun b H3 =>
        if b = true then tV G re noW σ2 H3 fun y H4 => ∃ acc, H4 D = some (.lst acc) ∧ acc.length < sizeLine ∧ Nx (upd H4 D (.lst (acc ++ [y]))) else Nx H3) := by
  obtain ⟨Gp, Yp, wk, w1, w2⟩ := w
  refine lc_it wk (fun i H' => ∃ ρ' h' acc vs, LcP G ρ1 H1 D (wipeE σd own) (L2.wipe σ own) ρ' H' h' acc vs ∧ okG h' g = true ∧ (compL re rc tg (wipeE σd own) g (xs.drop i) acc h').all (fun ys h2 => (newO (.lst ys) h2).all (PostE G ρ H Q) Y) Y)
    ⟨ρ1, h1, [], [], LcP.start r1 (st.wipe own) n1, ok, by rw [Res.all_bind] at q; exact q⟩ (fun i H' _ ⟨ρ', h', acc, vs, p, e, _⟩ => w1 ρ' H' h' p.x p.rh e) ?_ ?_
  · rintro i v H2 H3 hi ⟨ρ', h', acc, vs, p, e, q⟩ y
    obtain ⟨d, hd⟩ : ∃ d, xs[i]? = some d := ⟨xs[i], List.getElem?_eq_getElem hi⟩
    obtain ⟨x2, rd, r2⟩ := w2 i d ρ' H2 h' v H3 hd p.x p.rh e y
    have p2 := p.mv r1 x2 r2
    rw [show xs.drop i = d :: xs.drop (i + 1) by rw [← List.getElem_cons_drop hi]; rw [List.getElem?_eq_getElem hi] at hd; cases hd; rfl] at q
    exact lc_turn p2 r1 n1 hs rd q fun ρ'' H'' h'' acc vs p3 e3 q3 => ⟨ρ'', h'', acc, vs, p3, e3, q3⟩
  · rintro H' ⟨ρ', h', acc, vs, p, e, q⟩
    rw [List.drop_length] at q
    obtain ⟨x2, r2, rd⟩ := p.fin r1 n1
    exact q _ _ _ (Ext.trans r1 x0 x2) rd r2
variable {elt tg iter : Expr} {ifs : List Expr} {scope : Scope} {own : List (Str × Nat)} {pos : Pos}
/-- what is asked of a comprehension's parts -/
structure CompOk (G : Glo) (X : Cx) (elt tg iter : Expr) (ifs : List Expr) (scope : Scope) (own : List (Str × Nat)) (t : Tg) (ri : Env → Hea → Res (List EV.D × Gd)) (re : Env → Hea → Res EV.D) (rc : Option (Env → Hea → Res EV.D)) : Prop where
  K : X.K = G.K
  c : X.calm = true
  N : X.N.Nodup
  it : SndI G X tg iter ri
  blk : BlkOk X.N X.env.scope scope own
  g : ∀ (s : Shared) (H : Hp) (C : Addr) (cl : List (Str × Addr)) (fp : List Addr), TgOk (X.blk s H scope (compEnvC scope cl C X.env) fp) tg t
  sl : ∀ i ∈ slotsT t, i ∈ own.map (·.2)
  e : ∀ (s : Shared) (H : Hp) (C : Addr) (cl : List (Str × Addr)) (fp : List Addr), Snd G (X.blk s H scope (compEnvC scope cl C X.env) fp) elt re
  t : match rc with
    | none => ifs = []
    | some rt => ∃ c, ifs = [c] ∧ ∀ (s : Shared) (H : Hp) (C : Addr) (cl : List (Str × Addr)) (fp : List Addr), SndT G (X.blk s H scope (compEnvC scope cl C X.env) fp) c rt
  fs : ∀ x, foldedSetIterable iter X.env x = pure x
theorem CompOk.pts {t : Tg} {ri : Env → Hea → Res (List EV.D × Gd)} {re : Env → Hea → Res EV.D} {rc : Option (Env → Hea → Res EV.D)} (o : CompOk G X elt tg iter ifs scope own t ri re rc) :
    ∀ (s : Shared) (H : Hp) (C : Addr) (cl : List (Str × Addr)) (fp : List Addr), PTs (X.blk s H scope (compEnvC scope cl C X.env) fp) ifs (ttOf G rc) := fun s H C cl fp => by
  have q := o.t
  cases rc with
  | none => rw [show ifs = [] from q]; exact pts_nil
  | some rt =>
    obtain ⟨c, rfl, q⟩ := q
    exact pts_one (q s H C cl fp noW takes_no)
/-- its answer -/
def compR (t : Tg) (own : List Nat) (ri : Env → Hea → Res (List EV.D × Gd)) (re : Env → Hea → Res EV.D) (rc : Option (Env → Hea → Res EV.D)) : Env → Hea → Res EV.D := fun σ h =>
  (ri σ h).bind fun q h1 => (compL re rc t (wipeE σ own) q.2 q.1 [] h1).bind fun ys h2 => newO (.lst ys) h2
theorem CompOk.tlc {t : Tg} {ri : Env → Hea → Res (List EV.D × Gd)} {re : Env → Hea → Res EV.D} {rc : Option (Env → Hea → Res EV.D)} (o : CompOk G X elt tg iter ifs scope own t ri re rc) {W : WX} (tk : Takes X W) :
    ∃ wi : TI, PI X tg iter wi ∧ ∀ σ H Q, tV G (compR t (own.map (·.2)) ri re rc) W σ H Q → tLc wi (gTg G.K t) (ttOf G rc) (tV G re noW) (own.map (·.2)) σ H Q := by
  obtain ⟨wi, h1, h2⟩ := o.it W tk
  refine ⟨wi, h1, fun σ H Q ⟨ρ, σd, h, st, rh, q⟩ => ?_⟩
  unfold compR at q
  rw [Res.all_bind] at q
  exact h2 ρ σd σ h H _ _ st rh q fun ρ1 H1 J q h1 x r1 ok w p D n1 => lc_run x rh r1 (st.keep rh x) ok w o.sl p n1
theorem snd_comp {t : Tg} {ri : Env → Hea → Res (List EV.D × Gd)} {re : Env → Hea → Res EV.D} {rc : Option (Env → Hea → Res EV.D)} (o : CompOk G X elt tg iter ifs scope own t ri re rc) :
    Snd G X (.ListComp elt [⟨tg, iter, ifs, 0⟩] scope pos) (compR t (own.map (·.2)) ri re rc) := fun W tk => by
  obtain ⟨wi, h1, h2⟩ := o.tlc tk
  exact PE.imp (pe_lc o.c o.N h1 o.blk (fun s H C cl fp => pg_of o.K o.N o.c (o.g s H C cl fp)) o.pts (fun s H C cl fp => o.e s H C cl fp noW takes_no) o.fs) h2
end
end EV

set_option Elab.async false
set_option linter.all false
set_option maxRecDepth 100000
set_option maxHeartbeats 1000000
/-! EvM: statements. -/
namespace EV
open PySem PySem.Spec PyProof.Rows L2
section
variable {G : Glo} {ρ ρ' ρ'' ρ1 : List Addr} {H H' H'' H1 : Hp} {h h' h1 : Hea} {X : Cx}
def EndAt (G : Glo) (ρ : List Addr) (H : Hp) (D : Ends) : Fl → Prop
  | .nx σd => ∀ σ, RelSt G ρ H σd σ → D.nx σ H
  | .bk σd => ∀ σ, RelSt G ρ H σd σ → D.bk σ H
  | .ct σd => ∀ σ, RelSt G ρ H σd σ → D.ct σ H
  | .rt d => ∀ v, RelD G ρ H d v → D.rt v H
def PostS (G : Glo) (ρ : List Addr) (H : Hp) (D : Ends) : Fl → Hea → Prop := fun fl h' => ∀ ρ' H', Ext ρ H ρ' H' → RelH G ρ' H' h' → EndAt G ρ' H' D fl
theorem PostS.mv {D : Ends} {fl : Fl} (r : RelH G ρ' H' h) (x : Ext ρ H ρ' H') (p : PostS G ρ H D fl h') : PostS G ρ' H' D fl h' := fun _ _ y => p _ _ (Ext.trans r x y)
def tS (G : Glo) (r : Env → Hea → Res Fl) (E : XK) : TS := fun D σ H => ∃ ρ σd h, RelSt G ρ H σd σ ∧ RelH G ρ H h ∧ (r σd h).all (PostS G ρ H D) (PostX G ρ H E)
def WE' (E : XK) : WX := fun c d _ H => E c d H
def SndS (G : Glo) (X : Cx) (st : Stmt) (r : Env → Hea → Res Fl) : Prop := ∀ E, Takes X (WE' E) → PS X st (tS G r E)
def SndSs (G : Glo) (X : Cx) (st : List Stmt) (r : Env → Hea → Res Fl) : Prop := ∀ E, Takes X (WE' E) → PSs X st (tS G r E)
theorem Res.all_and {α : Type} {P : α → Hea → Prop} {Y Y' : Exn → Hea → Prop} {r : Res α} (q : r.all P Y) (f : ∀ x h, Y x h → Y' x h) : r.all P Y' := Res.all_mono (fun _ _ z => z) f q
/-- the value's answer, then what a statement does with it -/
theorem tV_thenS {r : Env → Hea → Res D} {E : XK} {σ : L2.St} {σd : Env} {f : D → Hea → Res Fl} {D0 : Ends} {R : VK}
    (st : RelSt G ρ H σd σ) (rh : RelH G ρ H h) (q : ((r σd h).bind f).all (PostS G ρ H D0) (PostX G ρ H E))
    (k : ∀ ρ1 H1 v d h1, Ext ρ H ρ1 H1 → RelSt G ρ1 H1 σd σ → RelD G ρ1 H1 d v → RelH G ρ1 H1 h1 → (f d h1).all (PostS G ρ1 H1 D0) (PostX G ρ1 H1 E) → R v H1) : tV G r (WE' E) σ H R := by
  rw [Res.all_bind] at q
  exact ⟨ρ, σd, h, st, rh, Res.all_mono (fun d h1 q ρ1 H1 v x rd r1 => k ρ1 H1 v d h1 x (st.keep rh x) rd r1 (Res.all_mono (fun _ _ p => p.mv r1 x) (fun _ _ p => p.mv r1 x) q)) (fun _ _ p => p) q⟩
theorem tT_thenS {r : Env → Hea → Res D} {E : XK} {σ : L2.St} {σd : Env} {f : D → Hea → Res Fl} {D0 : Ends} {R : Bool → Hp → Prop}
    (st : RelSt G ρ H σd σ) (rh : RelH G ρ H h) (q : ((r σd h).bind f).all (PostS G ρ H D0) (PostX G ρ H E))
    (hb : ∀ d h1, (f d h1).all (PostS G ρ H D0) (PostX G ρ H E) → ∃ b, asBl d = some b)
    (k : ∀ ρ1 H1 d h1 b, asBl d = some b → Ext ρ H ρ1 H1 → RelSt G ρ1 H1 σd σ → RelH G ρ1 H1 h1 → (f d h1).all (PostS G ρ1 H1 D0) (PostX G ρ1 H1 E) → R b H1) : tT G r (WE' E) σ H R := by
  rw [Res.all_bind] at q
  exact ⟨ρ, σd, h, st, rh, Res.all_mono (fun d h1 q => by
    obtain ⟨b, e⟩ := hb d h1 q
    exact ⟨b, e, fun ρ1 H1 x r1 => k ρ1 H1 d h1 b e x (st.keep rh x) r1 (Res.all_mono (fun _ _ p => p.mv r1 x) (fun _ _ p => p.mv r1 x) q)⟩) (fun _ _ p => p) q⟩
/-! ### one after another -/
theorem sndss_nil : SndSs G X [] (fun σ h => .ok (.nx σ) h) := fun E tk => PSs.imp pss_nil fun D σ H ⟨ρ, σd, h, st, rh, q⟩ => q ρ H Ext.refl rh σ st
def seqR (r u : Env → Hea → Res Fl) : Env → Hea → Res Fl := fun σ h => (r σ h).bind fun fl h1 => match fl with
  | .nx σ1 => u σ1 h1
  | fl => .ok fl h1
theorem sndss_cons {s : Stmt} {ss : List Stmt} {r u : Env → Hea → Res Fl} (hs : SndS G X s r) (hss : SndSs G X ss u) : SndSs G X (s :: ss) (seqR r u) := fun E tk =>
  PSs.imp (pss_cons (hs E tk) (hss E tk)) fun D σ H ⟨ρ, σd, h, st, rh, q⟩ => by
    unfold seqR at q
    rw [Res.all_bind] at q
    refine ⟨ρ, σd, h, st, rh, Res.all_mono (fun fl h1 q ρ1 H1 x r1 => ?_) (fun _ _ p => p) q⟩
    cases fl with
    | nx σ1 => exact fun σ' st' => ⟨ρ1, σ1, h1, st', r1, Res.all_mono (fun _ _ p => p.mv r1 x) (fun _ _ p => p.mv r1 x) q⟩
    | bk σ1 => exact q ρ1 H1 x r1
    | ct σ1 => exact q ρ1 H1 x r1
    | rt d => exact q ρ1 H1 x r1
theorem sndss_one {s : Stmt} {r : Env → Hea → Res Fl} (hs : SndS G X s r) : SndSs G X [s] r := fun E tk => pss_one (hs E tk)
/-! ### simple statements -/
variable {pos : Pos}
theorem snds_pass : SndS G X (.Pass pos) (fun σ h => .ok (.nx σ) h) := fun E tk => PS.imp ps_pass fun D σ H ⟨ρ, σd, h, st, rh, q⟩ => q ρ H Ext.refl rh σ st
theorem snds_brk : SndS G X (.Break pos) (fun σ h => .ok (.bk σ) h) := fun E tk => PS.imp ps_break fun D σ H ⟨ρ, σd, h, st, rh, q⟩ => q ρ H Ext.refl rh σ st
theorem snds_cnt : SndS G X (.Continue pos) (fun σ h => .ok (.ct σ) h) := fun E tk => PS.imp ps_continue fun D σ H ⟨ρ, σd, h, st, rh, q⟩ => q ρ H Ext.refl rh σ st
theorem snds_doc {x j pos'} : SndS G X (.Expr (.Constant (.str x) j pos) pos') (fun σ h => .ok (.nx σ) h) := fun E tk => PS.imp ps_doc fun D σ H ⟨ρ, σd, h, st, rh, q⟩ => q ρ H Ext.refl rh σ st
def noComp : Expr → Bool
  | .ListComp .. => false
  | .SetComp .. => false
  | .DictComp .. => false
  | _ => true
theorem swaps_no {e : Expr} {t : Option Expr} {l : Nat} {env : PySem.Env} (n : noComp e = true) : swapsWith e t l env = pure false := by
  cases e <;> first | rfl | (simp [noComp] at n)
theorem snds_expr {e : Expr} {r : Env → Hea → Res D} (he : Snd G X e r) (n : noComp e = true) : SndS G X (.Expr e pos) (fun σ h => (r σ h).bind fun _ h1 => .ok (.nx σ) h1) := fun E tk =>
  PS.imp (ps_expr (he _ tk) (swaps_no n)) fun D σ H ⟨ρ, σd, h, st, rh, q⟩ => tV_thenS st rh q fun ρ1 H1 v d h1 x st1 rd r1 q => q ρ1 H1 Ext.refl r1 σ st1
theorem snds_ret {e : Expr} {r : Env → Hea → Res D} (he : Snd G X e r) : SndS G X (.Return (some e) pos) (fun σ h => (r σ h).bind fun d h1 => .ok (.rt d) h1) := fun E tk =>
  PS.imp (ps_ret (he _ tk)) fun D σ H ⟨ρ, σd, h, st, rh, q⟩ => tV_thenS st rh q fun ρ1 H1 v d h1 x st1 rd r1 q => q ρ1 H1 Ext.refl r1 v rd
theorem snds_retN : SndS G X (.Return none pos) (fun _ h => .ok (.rt .non) h) := fun E tk => PS.imp ps_retN fun D σ H ⟨ρ, σd, h, st, rh, q⟩ => q ρ H Ext.refl rh _ (.a .non)
theorem asBl_of {d : D} {h1 : Hea} {P Y} {a b : Res Fl} (q : (match asBl d with | some true => a | some false => b | none => Res.bad).all P Y) : ∃ b, asBl d = some b := by
  cases e : asBl d with
  | none => rw [e] at q; exact q.elim
  | some b => exact ⟨b, rfl⟩
theorem snds_if {c : Expr} {a b : List Stmt} {rc : Env → Hea → Res D} {ra rb : Env → Hea → Res Fl} (hc : SndT G X c rc) (ha : SndSs G X a ra) (hb : SndSs G X b rb) :
    SndS G X (.If c a b pos) (fun σ h => (rc σ h).bind fun d h1 => match asBl d with
      | some true => ra σ h1
      | some false => rb σ h1
      | none => .bad) := fun E tk =>
  PS.imp (ps_if (hc _ tk) (ha E tk) (hb E tk)) fun D σ H ⟨ρ, σd, h, st, rh, q⟩ => tT_thenS st rh q (fun d h1 q => asBl_of (h1 := h1) q) fun ρ1 H1 d h1 b e x st1 r1 q => by
    rw [e] at q
    cases b with
    | true => rw [if_pos rfl]; exact ⟨ρ1, σd, h1, st1, r1, q⟩
    | false => rw [if_neg Bool.false_ne_true]; exact ⟨ρ1, σd, h1, st1, r1, q⟩
/-! ### stores -/
theorem snds_asg {e : Expr} {r : Env → Hea → Res D} {i : Nat} {x : Str} {py : Pos} (hN : X.N.Nodup) (so : StoreOk X x i) (he : Snd G X e r) (hs : swapsWith e (some (.Name x py)) pos.line X.env = pure false) :
    SndS G X (.Assign [.Name x py] e pos) (fun σ h => (r σ h).bind fun d h1 => .ok (.nx (σ.set i (some d))) h1) := fun E tk =>
  PS.imp (ps_set hN so.1 so.2.1 (he _ tk) hs so.2.2) fun D σ H ⟨ρ, σd, h, st, rh, q⟩ => tV_thenS st rh q fun ρ1 H1 v d h1 x st1 rd r1 q => q ρ1 H1 Ext.refl r1 _ (st1.set rd i)
theorem snds_asgC {elt tg iter : Expr} {ifs : List Expr} {scope : Scope} {own : List (Str × Nat)} {lpos : Pos} {t : Tg} {ri : Env → Hea → Res (List EV.D × Gd)} {re : Env → Hea → Res EV.D} {rc : Option (Env → Hea → Res EV.D)} {i : Nat} {y : Str} {py : Pos}
    (o : CompOk G X elt tg iter ifs scope own t ri re rc) (hy : X.N[i]? = some y) (hyl : X.env.scope.names.lookup y = some .local)
    (hsw : swapsWith (.ListComp elt [⟨tg, iter, ifs, 0⟩] scope lpos) (some (.Name y py)) pos.line X.env = pure true) :
    SndS G X (.Assign [.Name y py] (.ListComp elt [⟨tg, iter, ifs, 0⟩] scope lpos) pos) (fun σ h => (compR t (own.map (·.2)) ri re rc σ h).bind fun d h1 => .ok (.nx (σ.set i (some d))) h1) := fun E tk => by
  obtain ⟨wi, h1, h2⟩ := o.tlc tk
  exact PS.imp (ps_setLc o.c o.N hy hyl hsw h1 o.blk (fun s H C cl fp => pg_of o.K o.N o.c (o.g s H C cl fp)) o.pts (fun s H C cl fp => o.e s H C cl fp noW takes_no) o.fs) fun D σ H ⟨ρ, σd, h, st, rh, q⟩ =>
    h2 σ H _ (tV_thenS st rh q fun ρ1 H1 v d h1 x st1 rd r1 q => q ρ1 H1 Ext.refl r1 _ (st1.set rd i))
theorem snds_asgT {e t : Expr} {r : Env → Hea → Res D} {is : List Nat} (hK : X.K = G.K) (hc : X.calm = true) (hN : X.N.Nodup) (ok : TgOk X t (.tp is)) (he : Snd G X e r) (hs : swapsWithSole [t] e pos.line X.env = pure false) (hw : swappedStores [t] e X.env = pure none) :
    SndS G X (.Assign [t] e pos) (fun σ h => (r σ h).bind fun d h1 => match setTg (.tp is) d σ with | some σ1 => .ok (.nx σ1) h1 | none => .bad) := fun E tk => by
  refine PS.imp (ps_asg (he _ tk) (pg_of hK hN hc ok) hs hw (by obtain ⟨es, kk, p, rfl, _⟩ := ok; rfl)) fun D σ H ⟨ρ, σd, h, st, rh, q⟩ => tV_thenS st rh q fun ρ1 H1 v d h1 x st1 rd r1 q => ?_
  split at q
  · rename_i σ1 e1
    exact gTg_set r1 st1 rd e1 fun σ' st' _ => q ρ1 H1 Ext.refl r1 σ' st'
  · exact q.elim
theorem snds_par {a b : Expr} {ra rb : Env → Hea → Res D} {i j : Nat} {x y : Str} {px py pt : Pos} {kt k2 : Nat} {pt2 : Pos} (hc : X.calm = true) (hN : X.N.Nodup) (hi : X.N[i]? = some x) (hj : X.N[j]? = some y) (hij : i ≠ j)
    (hx : X.env.scope.names.lookup x = some .local) (hy : X.env.scope.names.lookup y = some .local) (ha : Snd G X a ra) (hb : Snd G X b rb) (na : starB a = false) (nb : starB b = false)
    (hw : swappedStores [.Tuple [.Name x px, .Name y py] kt pt] (.Tuple [a, b] k2 pt2) X.env = pure (some [x, y])) :
    SndS G X (.Assign [.Tuple [.Name x px, .Name y py] kt pt] (.Tuple [a, b] k2 pt2) pos) (fun σ h => (ra σ h).bind fun d h1 => (rb σ h1).bind fun e h2 => .ok (.nx ((σ.set i (some d)).set j (some e))) h2) := fun E tk =>
  PS.imp (ps_par hc hN hi hj hij hx hy (pa_cons (ha _ tk) (pa_cons (hb _ tk) pa_nil (starEach_cons nb)) (starEach_cons na)) hw) fun D σ H ⟨ρ, σd, h, st, rh, q⟩ =>
    tV_thenS st rh q fun ρ1 H1 v d h1 x st1 rd r1 q => tV_thenS st1 r1 q fun ρ2 H2 w e h2 x2 st2 re r2 q => ⟨v, w, rfl, q ρ2 H2 Ext.refl r2 _ ((st2.set (rd.keep r1 x2) i).set re j)⟩
def augF (o : Bop) (i : Nat) (σ : Env) (x : Int) (d : D) (h1 : Hea) : Res Fl := match o, d with
  | .add, .a (.int y) => .ok (.nx (σ.set i (some (.int (x + y))))) h1
  | .sub, .a (.int y) => .ok (.nx (σ.set i (some (.int (x - y))))) h1
  | .mul, .a (.int y) => if (-I64 < x ∧ x < I64) ∨ (-I64 < y ∧ y < I64) then .ok (.nx (σ.set i (some (.int (x * y))))) h1 else .bad
  | _, _ => .bad
theorem snds_aug {e : Expr} {r : Env → Hea → Res D} {i : Nat} {x : Str} {op : Operator} {o : Bop} {pos' : Pos} (hN : X.N.Nodup) (so : StoreOk X x i) (he : Snd G X e r) (ho : (op = .Add ∧ o = .add) ∨ (op = .Sub ∧ o = .sub) ∨ (op = .Mult ∧ o = .mul)) :
    SndS G X (.AugAssign (.Name x pos') op e pos) (fun σ h => match σ[i]? with
    | some (some (.a (.int x))) => (r σ h).bind fun d h1 => augF o i σ x d h1
    | _ => .bad) := fun E tk => by
  rcases ho with ⟨rfl, rfl⟩ | ⟨rfl, rfl⟩ | ⟨rfl, rfl⟩
  · refine PS.imp (ps_aug hN so.1 so.2.1 (he _ tk) ip_add so.2.2) fun D σ H ⟨ρ, σd, h, st, rh, q⟩ => ?_
    dsimp only at q
    split at q
    · rename_i n e1
      obtain ⟨v, e2, e3⟩ := st.at_ i _ e1
      cases e3 with
      | a e3 =>
        cases e3
        refine ⟨_, e2, tV_thenS st rh q fun ρ1 H1 v d h1 x st1 rd r1 q => ?_⟩
        unfold augF at q
        split at q
        · cases rd with
          | a rd => cases rd; exact ⟨n, _, rfl, rfl, q ρ1 H1 Ext.refl r1 _ (st1.set (.a (.int _)) i)⟩
        · rename_i z; cases z
        · rename_i z; cases z
        · exact q.elim
    · exact q.elim
  · refine PS.imp (ps_aug hN so.1 so.2.1 (he _ tk) ip_sub so.2.2) fun D σ H ⟨ρ, σd, h, st, rh, q⟩ => ?_
    dsimp only at q
    split at q
    · rename_i n e1
      obtain ⟨v, e2, e3⟩ := st.at_ i _ e1
      cases e3 with
      | a e3 =>
        cases e3
        refine ⟨_, e2, tV_thenS st rh q fun ρ1 H1 v d h1 x st1 rd r1 q => ?_⟩
        unfold augF at q
        split at q
        · rename_i z; cases z
        · cases rd with
          | a rd => cases rd; exact ⟨n, _, rfl, rfl, q ρ1 H1 Ext.refl r1 _ (st1.set (.a (.int _)) i)⟩
        · rename_i z; cases z
        · exact q.elim
    · exact q.elim
  · refine PS.imp (ps_aug hN so.1 so.2.1 (he _ tk) iop_mul so.2.2) fun D σ H ⟨ρ, σd, h, st, rh, q⟩ => ?_
    dsimp only at q
    split at q
    · rename_i n e1
      obtain ⟨v, e2, e3⟩ := st.at_ i _ e1
      cases e3 with
      | a e3 =>
        cases e3
        refine ⟨_, e2, tV_thenS st rh q fun ρ1 H1 v d h1 x st1 rd r1 q => ?_⟩
        unfold augF at q
        split at q
        · rename_i z; cases z
        · rename_i z; cases z
        · split at q
          · rename_i hc
            cases rd with
            | a rd => cases rd; exact ⟨n, _, rfl, rfl, by unfold CMul; simpa [I64] using hc, q ρ1 H1 Ext.refl r1 _ (st1.set (.a (.int _)) i)⟩
          · exact q.elim
        · exact q.elim
    · exact q.elim
/-! ### loops -/
theorem forL_run {u : Env → Hea → Res Fl} {tg : Tg} {xs : List D} {g : Gd} {fo : List D → Env → Hea → Res Fl} {J : L2.It} {D : Ends} {E : XK} {σd : Env} {σ : L2.St} {h0 : Hea}
    (f0 : ∀ σ h, fo [] σ h = .ok (.nx σ) h) (f1 : ∀ x r σ h, fo (x :: r) σ h = match setTg tg x σ with
      | none => .bad
      | some σ1 => (u σ1 h).bind fun fl h1 => match fl with
        | .nx σ2 => if okG h1 g then fo r σ2 h1 else .bad
        | .ct σ2 => if okG h1 g then fo r σ2 h1 else .bad
        | .bk σ2 => .ok (.nx σ2) h1
        | .rt d => .ok (.rt d) h1)
    (x0 : Ext ρ H ρ1 H1) (r0 : RelH G ρ H h0) (r1 : RelH G ρ1 H1 h1) (st : RelSt G ρ1 H1 σd σ) (ok : okG h1 g = true) (w : WalkR G ρ1 H1 J xs g)
    (q : (fo xs σd h1).all (PostS G ρ H D) (PostX G ρ H E)) :
    ∃ W : Nat → Nat → L2.St → Hp → Prop, (∃ m, W 0 m σ H1) ∧ ∀ i m σ H, W i m σ H →
      (J.stop i H ∧ D.nx σ H) ∨ (J.go i H ∧ ∃ N : L2.St → Hp → Prop, (∀ σ' H', N σ' H' → ∃ m', m' < m ∧ W (i + 1) m' σ' H') ∧ ∀ x H', J.yld i H x H' → gTg G.K tg x σ H' fun σ2 H2 => tS G u E { D with nx := N, ct := N, bk := D.nx } σ2 H2) := by
  obtain ⟨Gp, Yp, wk, w1, w2⟩ := w
  refine for_it wk (fun i σ H' => ∃ ρ' h' σd', Ext ρ1 H1 ρ' H' ∧ RelSt G ρ' H' σd' σ ∧ RelH G ρ' H' h' ∧ okG h' g = true ∧ (fo (xs.drop i) σd' h').all (PostS G ρ H D) (PostX G ρ H E))
    ⟨ρ1, h1, σd, Ext.refl, st, r1, ok, q⟩ (fun i σ H' _ ⟨ρ', h', σd', x, st', r', e, _⟩ => w1 ρ' H' h' x r' e) ?_ ?_
  · rintro i v σ2 H2 H3 hi ⟨ρ', h', σd', x, st', r', e, q⟩ y
    obtain ⟨d, hd⟩ : ∃ d, xs[i]? = some d := ⟨xs[i], List.getElem?_eq_getElem hi⟩
    obtain ⟨x2, rd, r2⟩ := w2 i d ρ' H2 h' v H3 hd x r' e y
    rw [show xs.drop i = d :: xs.drop (i + 1) by rw [← List.getElem_cons_drop hi]; rw [List.getElem?_eq_getElem hi] at hd; cases hd; rfl, f1] at q
    split at q
    · exact q.elim
    · rename_i σ1 e1
      refine gTg_set r2 (st'.keep r' x2) rd e1 fun σ3 st3 _ => ?_
      rw [Res.all_bind] at q
      refine ⟨ρ', σ1, h', st3, r2, Res.all_mono (fun fl h4 q ρ4 H4 x4 r4 => ?_) (fun _ _ p => p.mv r2 (Ext.trans r1 x0 (Ext.trans r' x x2))) q⟩
      have x5 : Ext ρ1 H1 ρ4 H4 := Ext.trans r2 (Ext.trans r' x x2) x4
      cases fl with
      | nx σ4 =>
        intro σ5 st5
        dsimp only at q
        split at q
        · rename_i e4
          exact ⟨ρ4, h4, σ4, x5, st5, r4, e4, q⟩
        · exact q.elim
      | ct σ4 =>
        intro σ5 st5
        dsimp only at q
        split at q
        · rename_i e4
          exact ⟨ρ4, h4, σ4, x5, st5, r4, e4, q⟩
        · exact q.elim
      | bk σ4 => exact q ρ4 H4 (Ext.trans r1 x0 x5) r4
      | rt d => exact q ρ4 H4 (Ext.trans r1 x0 x5) r4
  · rintro σ2 H' ⟨ρ', h', σd', x, st', r', e, q⟩
    rw [List.drop_length, f0] at q
    exact q ρ' H' (Ext.trans r1 x0 x) r' σ2 st'
theorem snds_for {tg it : Expr} {body : List Stmt} {t : Tg} {ri : Env → Hea → Res (List D × Gd)} {u : Env → Hea → Res Fl} {fo : Gd → List D → Env → Hea → Res Fl} (hp : PassesOwn (model X.prog X.w) X.A X.env X.xe) (hK : X.K = G.K) (hc : X.calm = true) (hN : X.N.Nodup)
    (hi : SndI G X tg it ri) (ok : TgOk X tg t) (hb : SndSs G X body u) (fs : ∀ x, foldedSetIterable it X.env x = pure x)
    (f0 : ∀ g σ h, fo g [] σ h = .ok (.nx σ) h) (f1 : ∀ g x r σ h, fo g (x :: r) σ h = match setTg t x σ with
      | none => .bad
      | some σ1 => (u σ1 h).bind fun fl h1 => match fl with
        | .nx σ2 => if okG h1 g then fo g r σ2 h1 else .bad
        | .ct σ2 => if okG h1 g then fo g r σ2 h1 else .bad
        | .bk σ2 => .ok (.nx σ2) h1
        | .rt d => .ok (.rt d) h1) :
    SndS G X (.For tg it body [] pos) (fun σ h => (ri σ h).bind fun q h1 => fo q.2 q.1 σ h1) := fun E tk => by
  obtain ⟨wi, h1, h2⟩ := hi _ tk
  refine PS.imp (ps_for hp hc h1 (pg_of hK hN hc ok) (hb E tk) fs) fun D σ H ⟨ρ, σd, h, st, rh, q⟩ => ?_
  rw [Res.all_bind] at q
  exact h2 ρ σd σ h H _ _ st rh q fun ρ1 H1 J q h1 x r1 ok w p => forL_run (f0 q.2) (f1 q.2) x rh r1 (st.keep rh x) ok w p
theorem snds_while {c : Expr} {body : List Stmt} {rc : Env → Hea → Res D} {u : Nat → Env → Hea → Res Fl} {w : Nat → Env → Hea → Res Fl} {n : Nat} (hp : PassesOwn (model X.prog X.w) X.A X.env X.xe)
    (hc : SndT G X c rc) (hb : ∀ n, SndSs G X body (u n)) (w0 : ∀ σ h, w 0 σ h = .bad) (w1 : ∀ n σ h, w (n + 1) σ h = (rc σ h).bind fun d h1 => match asBl d with
      | some true => (u n σ h1).bind fun fl h2 => match fl with
        | .nx σ2 => w n σ2 h2
        | .ct σ2 => w n σ2 h2
        | .bk σ2 => .ok (.nx σ2) h2
        | .rt d => .ok (.rt d) h2
      | some false => .ok (.nx σ) h1
      | none => .bad) : SndS G X (.While c body [] pos) (w n) := fun E tk => by
  have hb' : PSs X body (fun D σ H => ∃ n, tS G (u n) E D σ H) := ⟨fun pins s σ H D I ⟨n, h⟩ => (hb n E tk).run pins s σ H D I h⟩
  refine PS.imp (ps_while hp (hc _ tk) hb') fun D σ H ⟨ρ, σd, h, st, rh, q⟩ => ?_
  refine ⟨fun m σ H' => ∃ ρ' h' σd', Ext ρ H ρ' H' ∧ RelSt G ρ' H' σd' σ ∧ RelH G ρ' H' h' ∧ (w m σd' h').all (PostS G ρ H D) (PostX G ρ H E), ⟨n, ρ, h, σd, Ext.refl, st, rh, q⟩, ?_⟩
  rintro m σ2 H2 ⟨ρ', h', σd', x, st', r', q⟩
  cases m with
  | zero => rw [w0] at q; exact q.elim
  | succ m =>
    rw [w1, Res.all_bind] at q
    refine ⟨ρ', σd', h', st', r', Res.all_mono (fun d h2 q => ?_) (fun _ _ p => p.mv r' x) q⟩
    obtain ⟨b, e⟩ := asBl_of (h1 := h2) q
    refine ⟨b, e, fun ρ3 H3 x3 r3 => ?_⟩
    rw [e] at q
    have x4 : Ext ρ H ρ3 H3 := Ext.trans r' x x3
    cases b with
    | false => rw [if_neg Bool.false_ne_true]; exact q ρ3 H3 x4 r3 σ2 (st'.keep r' x3)
    | true =>
      rw [if_pos rfl]
      refine ⟨fun σ H' => ∃ ρ' h' σd', Ext ρ H ρ' H' ∧ RelSt G ρ' H' σd' σ ∧ RelH G ρ' H' h' ∧ (w m σd' h').all (PostS G ρ H D) (PostX G ρ H E), fun σ' H' p => ⟨m, Nat.lt_succ_self m, p⟩, m, ρ3, σd', h2, st'.keep r' x3, r3, ?_⟩
      dsimp only at q
      rw [Res.all_bind] at q
      refine Res.all_mono (fun fl h5 q ρ5 H5 x5 r5 => ?_) (fun _ _ p => p.mv r3 x4) q
      have x6 : Ext ρ H ρ5 H5 := Ext.trans r3 x4 x5
      cases fl with
      | nx σ4 => exact fun σ5 st5 => ⟨ρ5, h5, σ4, x6, st5, r5, q⟩
      | ct σ4 => exact fun σ5 st5 => ⟨ρ5, h5, σ4, x6, st5, r5, q⟩
      | bk σ4 => exact q ρ5 H5 x6 r5
      | rt d => exact q ρ5 H5 x6 r5
end
end EV

set_option Elab.async false
set_option linter.all false
set_option maxRecDepth 100000
set_option maxHeartbeats 1000000
/-! EvMd: comprehensions and loops over dicts. -/
namespace EV
open PySem PySem.Spec PyProof.Rows L2
section
variable {G : Glo} {ρ ρ' ρ'' ρ1 : List Addr} {H H' H'' H1 : Hp} {h h' h1 : Hea} {X : Cx}
/-- a dict, or a list or tuple -/
def iDq (k : Dk) (X : Cx) (td : TE) : TI := fun σ H R => td σ H fun x H1 => (∃ d es, x = .ref d ∧ (d == sysModules) = false ∧
  ((H1 d = some (DctO X.w d es) ∧ ∀ od, Opn X d → (∀ c q, H1 c = some (LamX.CodeO c q) → c ≠ d) → R (ItE k X.w d od es) (upd H1 d (.frz od (DctO X.w d es)))) ∨ ∃ od, H1 d = some (.frz od (DctO X.w d es)) ∧ R (ItE k X.w d od es) H1)) ∨
  (k = .keys ∧ ((∃ a, x = .ref a ∧ (∃ xs, SqL X.K H1 a xs) ∧ R (Itl X.K a) H1) ∨ ∃ a, x = .ref a ∧ (∃ xs, SqT X.K H1 a xs) ∧ R (Itt X.K a) H1))
theorem PI.imp {tg e : Expr} {t t' : TI} (p : PI X tg e t) (f : ∀ σ H R, t' σ H R → t σ H R) : PI X tg e t' := ⟨fun pins s σ H R I h => p.run pins s σ H R I (f σ H R h)⟩
theorem piE_seq {tg l : Expr} {tl : TE} (hl : PE X l tl) : PI X tg l (iDq .keys X tl) := by
  refine ⟨fun pins s σ H R I h => ?_⟩
  refine thn (hl.run pins s σ H _ I h) fun v s1 ⟨x, H1, I1, r1, q1⟩ => ?_
  rcases q1 with ⟨d, es, ex, hs, q⟩ | ⟨_, q1⟩
  · subst ex
    cases r1
    obtain ⟨od, H2, I2, hd, q⟩ := lockE I1 q
    obtain ⟨hgd, hx, qs, ep, hdt, hsz, ent⟩ := frzE I2 hd
    refine iter_keys hs hgd hx hdt (pi_one (tk := s1.toks) I2 _ (turnE_keys _ hdt) ⟨_, Heap.get?_push_size _ rfl, rfl, ?_⟩ q)
    rw [hsz] <;> rfl
  · rcases q1 with ⟨a, e, ⟨xs, hq⟩, q⟩ | ⟨a, e, ⟨xs, hq⟩, q⟩
    · subst e
      cases r1
      obtain ⟨its, rv, p, hz⟩ := I1.list hq
      refine wpAny_pyIter_list p.isList ?_
      refine ⟨s1.heap.objs.size, [s1.heap.objs.size], _, _, H1, rfl, I1.kept (t' := s1.toks) fun b o e => Heap.get?_push_of_some _ e, turn_list a _, ⟨_, Heap.get?_push_size _ rfl, rfl, rfl⟩, fun b hb => ?_, q⟩
      have e : b = s1.heap.objs.size := by simpa using hb
      subst e
      exact I1.fpOk (Nat.le_refl _) (I1.hok.fresh (Nat.le_refl _))
    · subst e
      cases r1
      obtain ⟨its, rv, p, hz⟩ := I1.tuple hq
      refine wpAny_pyIter_tuple (show s1.heap.IsTuple a its.toArray from p) ?_
      refine ⟨s1.heap.objs.size, [s1.heap.objs.size], _, _, H1, rfl, I1.kept (t' := s1.toks) fun b o e => Heap.get?_push_of_some _ e, turn_tuple a _, ⟨_, Heap.get?_push_size _ rfl, rfl, rfl⟩, fun b hb => ?_, q⟩
      have e : b = s1.heap.objs.size := by simpa using hb
      subst e
      exact I1.fpOk (Nat.le_refl _) (I1.hok.fresh (Nat.le_refl _))
theorem iDq_only {k : Dk} {td : TE} {σ : L2.St} {H : Hp} {R : L2.It → Hp → Prop} (hk : k ≠ .keys) (p : ∀ {P P' : VK}, (∀ v H, P v H → P' v H) → td σ H P → td σ H P') (q : iDq k X td σ H R) : iDk k X td σ H R :=
  p (fun x H1 z => z.elim id fun z => (hk z.1).elim) q
theorem tV_mono {r : Env → Hea → Res D} {W : WX} {σ : L2.St} {H : Hp} {P P' : VK} (f : ∀ v H, P v H → P' v H) (q : tV G r W σ H P) : tV G r W σ H P' := by
  obtain ⟨ρ, σd, h, st, rh, q⟩ := q
  exact ⟨ρ, σd, h, st, rh, Res.all_mono (fun d h1 p ρ1 H1 v x rd r1 => f _ _ (p ρ1 H1 v x rd r1)) (fun _ _ p => p) q⟩
/-- the dict that is walked, its entries -/
def SndDI (G : Glo) (X : Cx) (k : Dk) (tg it : Expr) (r : Env → Hea → Res D) : Prop := ∀ W, Takes X W → PI X tg it (iDq k X (tV G r W))
theorem sndD_keys {tg e : Expr} {r : Env → Hea → Res D} (he : Snd G X e r) : SndDI G X .keys tg e r := fun W tk => piE_seq (he W tk)
theorem sndD_vals {tg e : Expr} {r : Env → Hea → Res D} {apos cpos : Pos} (he : Snd G X e r) (hb : attributeBase e "values" X.env (eval e X.env) = eval e X.env) (hl : (apos.endLine == cpos.line) = true) : SndDI G X .vals tg (.Call (.Attribute e "values" apos) [] [] cpos) r := fun W tk => PI.imp (piE_vals (he W tk) hb hl) fun σ H R q => iDq_only (fun z => by cases z) tV_mono q
theorem sndD_items {e : Expr} {elts : List Expr} {kk : Nat} {tpos : Pos} {r : Env → Hea → Res D} {apos cpos : Pos} (he : Snd G X e r) (hb : attributeBase e "items" X.env (eval e X.env) = eval e X.env) (hl : (apos.endLine == cpos.line) = true) : SndDI G X .items (.Tuple elts kk tpos) (.Call (.Attribute e "items" apos) [] [] cpos) r := fun W tk => PI.imp (piE_items (he W tk) hb hl) fun σ H R q => iDq_only (fun z => by cases z) tV_mono q
theorem dctO_notfrz {w : World} {p : Addr} {es : List En} (e : H p = some (DctO w p es)) : ∀ o u, H p ≠ some (.frz o u) := fun o u z => by rw [e] at z; cases z
/-- after the walk: the lock taken off, or what stands -/
theorem unfz_post {Q : VK} {Y : Exn → Hea → Prop} {d0 d : D} {x0 : V} {n : Nat} {kvs : List (A × D)} {p : Addr} {es : List En} {od : PySem.Obj} (i : IsDct G ρ1 H1 h1 d0 x0 n false kvs p es) (op : Opn X p) (r2 : RelH G ρ1 (upd H1 p (.frz od (DctO G.w p es))) (h1.set n (.dct true kvs))) (x2 : Ext ρ1 H1 ρ1 (upd H1 p (.frz od (DctO G.w p es))))
    (q : (unfz n d h').all (PostE G ρ1 H1 Q) Y) : PostE G ρ1 (upd H1 p (.frz od (DctO G.w p es))) (fun v H' => Unl X H' (Q v)) d h' := by
  intro ρ' H' v x rd r
  unfold unfz at q
  split at q
  · rename_i kvs' e1
    have f := x.atF (b := p) (o := od) (u := DctO G.w p es) upd_same
    obtain ⟨x3, r3, k⟩ := unlock_rel (Ext.trans r2 x2 x) r (dctO_notfrz i.a) (List.mem_of_getElem? i.r) e1 (x.ix i.r) f
    exact .inr ⟨p, od, _, f, op, q ρ' _ v x3 (RelD.kee k _ _ rd) r3⟩
  · exact q.elim
theorem PostE.unl {Q : VK} {d : D} {h' : Hea} (q : PostE G ρ H Q d h') : PostE G ρ H (fun v H' => Unl X H' (Q v)) d h' := fun ρ' H' v x rd r => .inl (q ρ' H' v x rd r)
/-- what is asked of a comprehension's parts -/
structure CompD (G : Glo) (X : Cx) (k : Dk) (elt tg iter : Expr) (ifs : List Expr) (scope : Scope) (own : List (Str × Nat)) (t : Tg) (ri : Env → Hea → Res D) (re : Env → Hea → Res D) (rc : Option (Env → Hea → Res D)) : Prop where
  K : X.K = G.K
  w : X.w = G.w
  c : X.calm = true
  N : X.N.Nodup
  it : SndDI G X k tg iter ri
  blk : BlkOk X.N X.env.scope scope own
  g : ∀ (s : Shared) (H : Hp) (C : Addr) (cl : List (Str × Addr)) (fp : List Addr), TgOk (X.blk s H scope (compEnvC scope cl C X.env) fp) tg t
  sl : ∀ i ∈ slotsT t, i ∈ own.map (·.2)
  e : ∀ (s : Shared) (H : Hp) (C : Addr) (cl : List (Str × Addr)) (fp : List Addr), Snd G (X.blk s H scope (compEnvC scope cl C X.env) fp) elt re
  t : match rc with
    | none => ifs = []
    | some rt => ∃ c, ifs = [c] ∧ ∀ (s : Shared) (H : Hp) (C : Addr) (cl : List (Str × Addr)) (fp : List Addr), SndT G (X.blk s H scope (compEnvC scope cl C X.env) fp) c rt
  fs : ∀ x, foldedSetIterable iter X.env x = pure x
variable {k : Dk} {elt tg iter : Expr} {ifs : List Expr} {scope : Scope} {own : List (Str × Nat)} {pos : Pos} {t : Tg} {ri : Env → Hea → Res D} {re : Env → Hea → Res D} {rc : Option (Env → Hea → Res D)}
theorem CompD.pts (o : CompD G X k elt tg iter ifs scope own t ri re rc) :
    ∀ (s : Shared) (H : Hp) (C : Addr) (cl : List (Str × Addr)) (fp : List Addr), PTs (X.blk s H scope (compEnvC scope cl C X.env) fp) ifs (ttOf G rc) := fun s H C cl fp => by
  have q := o.t
  cases rc with
  | none => rw [show ifs = [] from q]; exact pts_nil
  | some rt =>
    obtain ⟨c, rfl, q⟩ := q
    exact pts_one (q s H C cl fp noW takes_no)
/-- its answer -/
def compRD (k : Dk) (t : Tg) (own : List Nat) (ri : Env → Hea → Res D) (re : Env → Hea → Res D) (rc : Option (Env → Hea → Res D)) : Env → Hea → Res D := fun σ h =>
  (ri σ h).bind fun d h1 => walkD k d h1 fun xs g h2 => (compL re rc t (wipeE σ own) g xs [] h2).bind fun ys h3 => newO (.lst ys) h3
theorem CompD.tlc (o : CompD G X k elt tg iter ifs scope own t ri re rc) {W : WX} (tk : Takes X W) : ∀ σ H Q, tV G (compRD k t (own.map (·.2)) ri re rc) W σ H Q →
    tLc (iDq k X (tV G ri W)) (gTg G.K t) (ttOf G rc) (tV G re noW) (own.map (·.2)) σ H (fun v H' => Unl X H' (Q v)) := fun σ H Q ⟨ρ, σd, h, st, rh, q⟩ => by
  unfold compRD at q
  refine tV_then st rh q fun ρ1 H1 x d k1 x1 st1 rd r1 q => ?_
  unfold walkD at q
  split at q
  · rename_i n kvs e1
    obtain ⟨p, es, i⟩ := asDct_rel r1 e1 rd
    refine .inl ⟨p, es, i.x, i.m, .inl ⟨by rw [o.w]; exact i.a, fun od op nc => ?_⟩⟩
    rw [o.w]
    obtain ⟨x2, r2, e2⟩ := i.lock (od := od) r1 nc
    rw [Res.all_bind] at q
    intro D n1
    exact lc_run (Q := fun v H' => Unl X H' (Q v)) Ext.refl r2 r2 (st1.keep r1 x2) (okG_self (List.getElem?_set_self (List.getElem?_eq_some_iff.mp i.o).1)) (walkR_dct r2 upd_same e2) o.sl (Res.all_mono (fun d' h' q => unfz_post i op r2 x2 q) (fun _ _ p => p) q) n1
  · rename_i n kvs e1
    obtain ⟨p, es, i⟩ := asDct_rel r1 e1 rd
    obtain ⟨od, f⟩ := (show ∃ o, H1 p = some (.frz o (DctO G.w p es)) from i.a)
    refine .inl ⟨p, es, i.x, i.m, .inr ⟨od, by rw [o.w]; exact f, ?_⟩⟩
    rw [o.w]
    intro D n1
    exact lc_run (Q := fun v H' => Unl X H' (Q v)) Ext.refl r1 r1 st1 (okG_self i.o) (walkR_dct r1 f i.e) o.sl (Res.all_mono (fun d' h' q => PostE.unl q) (fun _ _ p => p) q) n1
  · split at q
    · split at q
      · rename_i xs g e1
        obtain ⟨hg, z⟩ := seqG_rel r1 e1 rd
        have q2 := Res.all_mono (P' := PostE G ρ1 H1 fun v H' => Unl X H' (Q v)) (fun d' h' q => PostE.unl q) (fun _ _ p => p) q
        rcases z with ⟨p, vs, h1, h2, h3, h4⟩ | ⟨p, n, vs, h1, h2, h3, h4, h5⟩
        · refine .inr ⟨rfl, .inr ⟨p, h1, ⟨vs, by rw [o.K]; exact h2⟩, ?_⟩⟩
          rw [o.K]
          intro D n1
          have h4 : g = [] := h4
          subst h4
          exact lc_run (Q := fun v H' => Unl X H' (Q v)) Ext.refl r1 r1 st1 hg (walkR_tup r1 h2 h3) o.sl q2 n1
        · refine .inr ⟨rfl, .inl ⟨p, h1, ⟨vs, SqL.of h3⟩, ?_⟩⟩
          rw [o.K]
          intro D n1
          have h5 : g = [(n, .lst xs)] := h5
          subst h5
          exact lc_run (Q := fun v H' => Unl X H' (Q v)) Ext.refl r1 r1 st1 hg (walkR_list h2) o.sl q2 n1
      · exact q.elim
    · exact q.elim
theorem snd_compD (o : CompD G X k elt tg iter ifs scope own t ri re rc) :
    Snd G X (.ListComp elt [⟨tg, iter, ifs, 0⟩] scope pos) (compRD k t (own.map (·.2)) ri re rc) := fun W tk =>
  PE.imp (pe_unl (pe_lc o.c o.N (o.it W tk) o.blk (fun s H C cl fp => pg_of o.K o.N o.c (o.g s H C cl fp)) o.pts (fun s H C cl fp => o.e s H C cl fp noW takes_no) o.fs)) (o.tlc tk)
theorem snds_asgCD {lpos : Pos} {i : Nat} {y : Str} {py : Pos} (o : CompD G X k elt tg iter ifs scope own t ri re rc) (hy : X.N[i]? = some y) (hyl : X.env.scope.names.lookup y = some .local)
    (hsw : swapsWith (.ListComp elt [⟨tg, iter, ifs, 0⟩] scope lpos) (some (.Name y py)) pos.line X.env = pure true) :
    SndS G X (.Assign [.Name y py] (.ListComp elt [⟨tg, iter, ifs, 0⟩] scope lpos) pos) (fun σ h => (compRD k t (own.map (·.2)) ri re rc σ h).bind fun d h1 => .ok (.nx (σ.set i (some d))) h1) := fun E tk =>
  PS.imp (ps_unl (ps_setLc o.c o.N hy hyl hsw (o.it _ tk) o.blk (fun s H C cl fp => pg_of o.K o.N o.c (o.g s H C cl fp)) o.pts (fun s H C cl fp => o.e s H C cl fp noW takes_no) o.fs)) fun D σ H ⟨ρ, σd, h, st, rh, q⟩ =>
    o.tlc tk σ H _ (tV_thenS st rh q fun ρ1 H1 v d h1 x st1 rd r1 q => q ρ1 H1 Ext.refl r1 _ (st1.set rd i))
/-! ### loops -/
def uEnds (X : Cx) (D : Ends) : Ends := ⟨fun σ' H' => Unl X H' (D.nx σ'), fun v H' => Unl X H' (D.rt v), fun σ' H' => Unl X H' (D.bk σ'), fun σ' H' => Unl X H' (D.ct σ')⟩
theorem EndAt.kee {D0 : Ends} {fl : Fl} (k : Kee G ρ H ρ' H') (q : EndAt G ρ' H' D0 fl) (u : ∀ Q : Hp → Prop, Q H' → Unl X H Q) : EndAt G ρ H (uEnds X D0) fl := by
  cases fl with
  | nx σd => exact fun σ st => u _ (q σ (st.kee k))
  | bk σd => exact fun σ st => u _ (q σ (st.kee k))
  | ct σd => exact fun σ st => u _ (q σ (st.kee k))
  | rt d => exact fun v rv => u _ (q v (RelD.kee k _ _ rv))
theorem unfz_postS {D0 : Ends} {Y : Exn → Hea → Prop} {d0 : D} {fl : Fl} {x0 : V} {n : Nat} {kvs : List (A × D)} {p : Addr} {es : List En} {od : PySem.Obj} (i : IsDct G ρ1 H1 h1 d0 x0 n false kvs p es) (op : Opn X p) (r2 : RelH G ρ1 (upd H1 p (.frz od (DctO G.w p es))) (h1.set n (.dct true kvs))) (x2 : Ext ρ1 H1 ρ1 (upd H1 p (.frz od (DctO G.w p es))))
    (q : (unfz n fl h').all (PostS G ρ1 H1 D0) Y) : PostS G ρ1 (upd H1 p (.frz od (DctO G.w p es))) (uEnds X D0) fl h' := by
  intro ρ' H' x r
  unfold unfz at q
  split at q
  · rename_i kvs' e1
    have f := x.atF (b := p) (o := od) (u := DctO G.w p es) upd_same
    obtain ⟨x3, r3, k⟩ := unlock_rel (Ext.trans r2 x2 x) r (dctO_notfrz i.a) (List.mem_of_getElem? i.r) e1 (x.ix i.r) f
    exact EndAt.kee k (q ρ' _ x3 r3) fun Q z => .inr ⟨p, od, _, f, op, z⟩
  · exact q.elim
theorem PostS.unl {D0 : Ends} {fl : Fl} {h' : Hea} (q : PostS G ρ H D0 fl h') : PostS G ρ H (uEnds X D0) fl h' := fun ρ' H' x r =>
  EndAt.kee ⟨fun _ _ q => q, fun _ _ q => q, fun _ _ q => q⟩ (q ρ' H' x r) fun Q z => .inl z
theorem snds_forD {it : Expr} {body : List Stmt} {u : Env → Hea → Res Fl} {fo : Gd → List D → Env → Hea → Res Fl} (hp : PassesOwn (model X.prog X.w) X.A X.env X.xe) (hK : X.K = G.K) (hw : X.w = G.w) (hc : X.calm = true) (hN : X.N.Nodup)
    (hi : SndDI G X k tg it ri) (ok : TgOk X tg t) (hb : SndSs G X body u) (fs : ∀ x, foldedSetIterable it X.env x = pure x)
    (f0 : ∀ g σ h, fo g [] σ h = .ok (.nx σ) h) (f1 : ∀ g x r σ h, fo g (x :: r) σ h = match setTg t x σ with
      | none => .bad
      | some σ1 => (u σ1 h).bind fun fl h1 => match fl with
        | .nx σ2 => if okG h1 g then fo g r σ2 h1 else .bad
        | .ct σ2 => if okG h1 g then fo g r σ2 h1 else .bad
        | .bk σ2 => .ok (.nx σ2) h1
        | .rt d => .ok (.rt d) h1) :
    SndS G X (.For tg it body [] pos) (fun σ h => (ri σ h).bind fun d h1 => walkD k d h1 fun xs g h2 => fo g xs σ h2) := fun E tk => by
  refine PS.imp (ps_unl (ps_for hp hc (hi _ tk) (pg_of hK hN hc ok) (hb E tk) fs)) fun D σ H ⟨ρ, σd, h, st, rh, q⟩ => ?_
  refine tV_thenS st rh q fun ρ1 H1 x d k1 x1 st1 rd r1 q => ?_
  unfold walkD at q
  split at q
  · rename_i n kvs e1
    obtain ⟨p, es, i⟩ := asDct_rel r1 e1 rd
    refine .inl ⟨p, es, i.x, i.m, .inl ⟨by rw [hw]; exact i.a, fun od op nc => ?_⟩⟩
    rw [hw]
    obtain ⟨x2, r2, e2⟩ := i.lock (od := od) r1 nc
    rw [Res.all_bind] at q
    exact forL_run (D := uEnds X D) (f0 _) (f1 _) Ext.refl r2 r2 (st1.keep r1 x2) (okG_self (List.getElem?_set_self (List.getElem?_eq_some_iff.mp i.o).1)) (walkR_dct r2 upd_same e2) (Res.all_mono (fun d' h' q => unfz_postS i op r2 x2 q) (fun _ _ p => p.mv r2 x2) q)
  · rename_i n kvs e1
    obtain ⟨p, es, i⟩ := asDct_rel r1 e1 rd
    obtain ⟨od, f⟩ := (show ∃ o, H1 p = some (.frz o (DctO G.w p es)) from i.a)
    refine .inl ⟨p, es, i.x, i.m, .inr ⟨od, by rw [hw]; exact f, ?_⟩⟩
    rw [hw]
    exact forL_run (D := uEnds X D) (f0 _) (f1 _) Ext.refl r1 r1 st1 (okG_self i.o) (walkR_dct r1 f i.e) (Res.all_mono (fun d' h' q => PostS.unl q) (fun _ _ p => p) q)
  · split at q
    · split at q
      · rename_i xs g e1
        obtain ⟨hg, z⟩ := seqG_rel r1 e1 rd
        have q2 := Res.all_mono (P' := PostS G ρ1 H1 (uEnds X D)) (fun d' h' q => PostS.unl q) (fun _ _ p => p) q
        rcases z with ⟨p, vs, h1, h2, h3, h4⟩ | ⟨p, n, vs, h1, h2, h3, h4, h5⟩
        · refine .inr ⟨rfl, .inr ⟨p, h1, ⟨vs, by rw [hK]; exact h2⟩, ?_⟩⟩
          rw [hK]
          have h4 : g = [] := h4
          subst h4
          exact forL_run (D := uEnds X D) (f0 _) (f1 _) Ext.refl r1 r1 st1 hg (walkR_tup r1 h2 h3) q2
        · refine .inr ⟨rfl, .inl ⟨p, h1, ⟨vs, SqL.of h3⟩, ?_⟩⟩
          rw [hK]
          have h5 : g = [(n, .lst xs)] := h5
          subst h5
          exact forL_run (D := uEnds X D) (f0 _) (f1 _) Ext.refl r1 r1 st1 hg (walkR_list h2) q2
      · exact q.elim
    · exact q.elim
/-! ### o[i] = v -/
theorem PSet.or {t t' : TSet} (h : PSet X t) (h' : PSet X t') : PSet X (fun o i v H Q => t o i v H Q ∨ t' o i v H Q) := fun pins s σ H o i v ov iv u Q I r1 r2 r3 q => by
  rcases q with q | q
  · exact h pins s σ H o i v ov iv u Q I r1 r2 r3 q
  · exact h' pins s σ H o i v ov iv u Q I r1 r2 r3 q
theorem snds_stS {ob ie e : Expr} {ro ri re : Env → Hea → Res D} {p' : Pos} (hK : X.K = G.K) (hw : X.w = G.w) (hu : X.A.units + 10 < cLine) (ho : Snd G X ob ro) (hi : Snd G X ie ri) (he : Snd G X e re) (n : sliceB ie = false) (nc : noComp e = true) :
    SndS G X (.Assign [.Subscript ob ie p'] e pos) (fun σ h => (re σ h).bind fun v h1 => (ro σ h1).bind fun x h2 => (ri σ h2).bind fun y h3 => (stD x y v h3).bind fun _ h4 => .ok (.nx σ) h4) := fun E tk => by
  have hs : swapsWithSole [.Subscript ob ie p'] e pos.line X.env = pure false := by
    unfold swapsWithSole
    exact swaps_no nc
  refine PS.imp (ps_asg (he _ tk) (pg_sub (ho _ tk) (hi _ tk) (PSet.or set_list (set_dctK hK hw hu)) (fun v => by cases ie <;> first | rfl | (simp [sliceB] at n))) hs) fun D σ H ⟨ρ, σd, h, st, rh, q⟩ => ?_
  refine tV_thenS st rh q fun ρ1 H1 v d h1 x st1 rd r1 q => tV_thenS st1 r1 q fun ρ2 H2 v2 d2 h2 x2 st2 rd2 r2 q => tV_thenS st2 r2 q fun ρ3 H3 v3 d3 h3 x3 st3 rd3 r3 q => ?_
  have rdv := (rd.keep r1 x2).keep r2 x3
  have rdo := rd2.keep r2 x3
  unfold stD at q
  split at q
  · rename_i m z kvs e1
    obtain ⟨p, es, i⟩ := asDct_rel r3 e1 rdo
    unfold stK at q
    split at q
    · split at q
      · rename_i ko
        rw [Bool.and_eq_true, decide_eq_true_eq] at ko
        cases rd3 with
        | a rk => exact .inr ⟨ρ3, h3, d2, m, kvs, p, es, _, d, i, r3, rk, rdv, ko.1, ko.2, fun H' x' r' => q ρ3 H' x' r' σ (st3.keep r3 x')⟩
      · exact q.elim
    · exact q.elim
  · unfold stL at q
    split at q
    · rename Int => k
      split at q
      · rename_i xs e1
        split at q
        · rename_i j e2
          cases rd3.int_inv
          cases rdo with
          | ref q2 =>
            rename_i p
            obtain ⟨ws, h4, h5⟩ := r3.ob _ _ _ e1 q2
            refine .inl ⟨p, ws, k, j, rfl, rfl, h4, by rw [← h5.length]; exact e2, ?_⟩
            have mp : p ∈ ρ3 := List.mem_of_getElem? q2
            have x' : Ext ρ3 H3 ρ3 (upd H3 p (.lst (ws.set j v))) := Ext.put mp h4 fun z => z
            exact q ρ3 _ x' (r3.put e1 q2 h4 (fun z => z) ⟨_, upd_same, (h5.set j rdv).keep r3 x'⟩ (lst_notcode h4)) σ (st3.keep r3 x')
        · exact q.elim
      · exact q.elim
    · exact q.elim
end
end EV

set_option Elab.async false
set_option linter.all false
set_option maxRecDepth 100000
set_option maxHeartbeats 1000000
/-! EvN: try, its clauses. -/
namespace EV
open PySem PySem.Spec PyProof.Rows L2
/-- a clause: its class, its name's slot, its suite's one expression -/
structure Cl where
  k : Nat
  oi : Option Nat
  re : Env → Hea → Res EV.D
def exnD (x : Exn) : EV.D := match x.val with
  | some v => .exn1 x.cls v
  | none => .exn0 x.cls
def catchR (sups : Nat → List Nat) (x : Exn) (σ : Env) (h : Hea) : List Cl → Res Fl
  | [] => .exc x h
  | c :: r => if hasN c.k (sups x.cls) then
      (match c.oi with
        | none => (c.re σ h).noexc
        | some j => (c.re (σ.set j (some (exnD x))) h).noexc).bind fun d h1 => if d.noX && noXH h1 then .ok (.rt d) h1 else .bad
    else catchR sups x σ h r
def Glo.at (G : Glo) (a : Addr) (d : Option Addr) (e : Nat) : Glo := { G with ex := some (a, d), exc := e }
section
variable {G : Glo} {ρ ρ' ρ'' ρ1 : List Addr} {H H' H'' H1 : Hp} {h h' h1 : Hea} {X : Cx}
/-! ### with an error in hand -/
mutual
theorem RelA.to (a : Addr) (d : Option Addr) (e : Nat) : ∀ (x : A) (v : V), RelA G H x v → RelA (G.at a d e) H x v
  | .non, _, q => by cases q; exact .non
  | .bl b, _, q => by cases q; exact .bl b
  | .int i, _, q => by cases q; exact .int i
  | .str s, _, q => by cases q; exact .str s
  | .tup xs, _, q => by
    cases q with
    | tup q1 q2 => exact .tup q1 (RelAs.to a d e xs _ q2)
  | .fn i, _, q => by cases q; exact .fn i
theorem RelAs.to (a : Addr) (d : Option Addr) (e : Nat) : ∀ (xs : List A) (vs : List V), RelAs G H xs vs → RelAs (G.at a d e) H xs vs
  | [], _, q => by cases q; exact .nil
  | x :: xs, _, q => by
    cases q with
    | cons q1 q2 => exact .cons (RelA.to a d e x _ q1) (RelAs.to a d e xs _ q2)
end
mutual
theorem RelA.from (a : Addr) (d : Option Addr) (e : Nat) : ∀ (x : A) (v : V), RelA (G.at a d e) H x v → RelA G H x v
  | .non, _, q => by cases q; exact .non
  | .bl b, _, q => by cases q; exact .bl b
  | .int i, _, q => by cases q; exact .int i
  | .str s, _, q => by cases q; exact .str s
  | .tup xs, _, q => by
    cases q with
    | tup q1 q2 => exact .tup q1 (RelAs.from a d e xs _ q2)
  | .fn i, _, q => by cases q; exact .fn i
theorem RelAs.from (a : Addr) (d : Option Addr) (e : Nat) : ∀ (xs : List A) (vs : List V), RelAs (G.at a d e) H xs vs → RelAs G H xs vs
  | [], _, q => by cases q; exact .nil
  | x :: xs, _, q => by
    cases q with
    | cons q1 q2 => exact .cons (RelA.from a d e x _ q1) (RelAs.from a d e xs _ q2)
end
mutual
theorem RelD.to (n : G.ex = none) (a : Addr) (d : Option Addr) (e : Nat) : ∀ (x : EV.D) (v : V), RelD G ρ H x v → RelD (G.at a d e) ρ H x v
  | .a y, _, q => by cases q with | a q => exact .a (RelA.to a d e y _ q)
  | .ref n, _, q => by cases q with | ref q => exact .ref q
  | .tupR xs, _, q => by cases q with | tupR q1 q2 => exact .tupR q1 (RelDs.to n a d e xs _ q2)
  | .exn0 c, _, q => by cases q with | exn0 q => rw [n] at q; cases q
  | .exn1 c y, _, q => by cases q with | exn1 q => rw [n] at q; cases q
  | .scr, _, q => by cases q with | scr q => exact .scr q
  | .opt xs, _, q => by cases q with | opt q => exact .opt (RelU.to n a d e xs _ q)
theorem RelU.to (n : G.ex = none) (a : Addr) (d : Option Addr) (e : Nat) : ∀ (xs : List EV.D) (v : V), RelU G ρ H xs v → RelU (G.at a d e) ρ H xs v
  | [], _, q => by cases q
  | x :: xs, _, q => by
    cases q with
    | hd q1 => exact .hd (RelD.to n a d e x _ q1)
    | tl q2 => exact .tl (RelU.to n a d e xs _ q2)
theorem RelDs.to (n : G.ex = none) (a : Addr) (d : Option Addr) (e : Nat) : ∀ (xs : List EV.D) (vs : List V), RelDs G ρ H xs vs → RelDs (G.at a d e) ρ H xs vs
  | [], _, q => by cases q; exact .nil
  | x :: xs, _, q => by cases q with | cons q1 q2 => exact .cons (RelD.to n a d e x _ q1) (RelDs.to n a d e xs _ q2)
end
mutual
theorem RelD.from (a : Addr) (d : Option Addr) (e : Nat) : ∀ (x : EV.D) (v : V), x.noX = true → RelD (G.at a d e) ρ H x v → RelD G ρ H x v
  | .a y, _, _, q => by cases q with | a q => exact .a (RelA.from a d e y _ q)
  | .ref n, _, _, q => by cases q with | ref q => exact .ref q
  | .tupR xs, _, n, q => by cases q with | tupR q1 q2 => exact .tupR q1 (RelDs.from a d e xs _ (by simpa [D.noX] using n) q2)
  | .exn0 c, _, n, q => by simp [D.noX] at n
  | .exn1 c y, _, n, q => by simp [D.noX] at n
  | .scr, _, _, q => by cases q with | scr q => exact .scr q
  | .opt xs, _, n, q => by cases q with | opt q => exact .opt (RelU.from a d e xs _ (by simpa [D.noX] using n) q)
theorem RelU.from (a : Addr) (d : Option Addr) (e : Nat) : ∀ (xs : List EV.D) (v : V), D.noXs xs = true → RelU (G.at a d e) ρ H xs v → RelU G ρ H xs v
  | [], _, _, q => by cases q
  | x :: xs, _, n, q => by
    simp only [D.noXs, Bool.and_eq_true] at n
    cases q with
    | hd q1 => exact .hd (RelD.from a d e x _ n.1 q1)
    | tl q2 => exact .tl (RelU.from a d e xs _ n.2 q2)
theorem RelDs.from (a : Addr) (d : Option Addr) (e : Nat) : ∀ (xs : List EV.D) (vs : List V), D.noXs xs = true → RelDs (G.at a d e) ρ H xs vs → RelDs G ρ H xs vs
  | [], _, _, q => by cases q; exact .nil
  | x :: xs, _, n, q => by
    simp only [D.noXs, Bool.and_eq_true] at n
    cases q with | cons q1 q2 => exact .cons (RelD.from a d e x _ n.1 q1) (RelDs.from a d e xs _ n.2 q2)
end
theorem RelEs.to (n : G.ex = none) {a : Addr} {d : Option Addr} {e : Nat} : ∀ {xs : List (A × EV.D)} {es : List En}, RelEs G ρ H xs es → RelEs (G.at a d e) ρ H xs es
  | _, _, .nil => .nil
  | _, _, .cons p q s => .cons (RelA.to a d e _ _ p) (RelD.to n a d e _ _ q) (RelEs.to n s)
theorem RelEs.from {a : Addr} {d : Option Addr} {e : Nat} : ∀ {xs : List (A × EV.D)} {es : List En}, (xs.all fun p => p.2.noX) = true → RelEs (G.at a d e) ρ H xs es → RelEs G ρ H xs es
  | _, _, _, .nil => .nil
  | _, _, n, .cons p q s => by
    rw [List.all_cons, Bool.and_eq_true] at n
    exact .cons (RelA.from a d e _ _ p) (RelD.from a d e _ _ n.1 q) (RelEs.from n.2 s)
theorem RelO.to (n : G.ex = none) {a : Addr} {d : Option Addr} {e : Nat} {p : Addr} {o : Obj} (q : RelO G ρ H p o) : RelO (G.at a d e) ρ H p o := by
  cases o with
  | lst xs => obtain ⟨vs, e1, q⟩ := q; exact ⟨vs, e1, RelDs.to n a d e _ _ q⟩
  | dct z kvs => obtain ⟨es, e1, q, r⟩ := q; exact ⟨es, e1, q.to n, r⟩
  | dice => exact q
theorem RelO.from {a : Addr} {d : Option Addr} {e : Nat} {p : Addr} {o : Obj} (n : o.noX = true) (q : RelO (G.at a d e) ρ H p o) : RelO G ρ H p o := by
  cases o with
  | lst xs => obtain ⟨vs, e1, q⟩ := q; exact ⟨vs, e1, RelDs.from a d e _ _ n q⟩
  | dct z kvs => obtain ⟨es, e1, q, r⟩ := q; exact ⟨es, e1, q.from n, r⟩
  | dice => exact q
theorem RelH.to (n : G.ex = none) {a : Addr} {d : Option Addr} {e : Nat} (r : RelH G ρ H h) : RelH (G.at a d e) ρ H h :=
  ⟨r.len, r.nd, fun m o p e1 e2 => (r.ob m o p e1 e2).to n, r.tab, r.sc⟩
theorem RelH.from {a : Addr} {d : Option Addr} {e : Nat} (n : noXH h = true) (r : RelH (G.at a d e) ρ H h) : RelH G ρ H h :=
  ⟨r.len, r.nd, fun m o p e1 e2 => (r.ob m o p e1 e2).from (List.all_eq_true.mp n o (List.mem_of_getElem? e1)), r.tab, r.sc⟩
theorem RelSt.to (n : G.ex = none) {a : Addr} {d : Option Addr} {e : Nat} {σd : Env} {σ : L2.St} (r : RelSt G ρ H σd σ) : RelSt (G.at a d e) ρ H σd σ :=
  ⟨r.len, fun i x e1 => let ⟨v, e2, e3⟩ := r.at_ i x e1; ⟨v, e2, RelD.to n a d e _ _ e3⟩⟩
theorem exnD_rel {x : Exn} {c : Value} {d : Option Addr} {a : Addr} (n : G.ex = none) (r : RelX G ρ H x c d) : RelD (G.at a d x.cls) ρ H (exnD x) (.ref a) := by
  obtain ⟨r1, r2, r3⟩ := r
  unfold exnD
  cases e : x.val with
  | none => exact .exn0 rfl rfl
  | some v =>
    obtain ⟨dd, vv, rfl, h1, h2, _⟩ := r3 v e
    exact .exn1 rfl rfl h1 (RelD.to n a _ _ _ _ h2)
/-- its kept value -/
theorem snd_xf {i k : Nat} {n x : Str} {a : Addr} {oe : PySem.Obj} {cls : Value} {d : Option Addr} {pn : List (Addr × PySem.Obj)} {e : Nat} {pos p : Pos} (hK : X.K = G.K) (T : XfC X.K (G.ca k)) (hno : PySem.W.findIn X.K (.ref (G.ca k)) n = some none) (hfld : G.fld k = n) (hz : Zc cls d oe) (hf : ∃ vs, oe.data = .fields vs) (hc : cls = .ref (G.ca e))
    (hN : X.N[i]? = some x) (hv : Vis X.env.scope x) (hd : (x == ("__debug__" : Str)) = false) (hcd : (x == ("__classdict__" : Str)) = false) (hb : attributeBase (.Name x p) n X.env (eval (.Name x p) X.env) = eval (.Name x p) X.env) :
    Snd (G.at a d e) (X.suite a ((a, oe) :: pn)) (.Attribute (.Name x p) n pos) (fun σ h => match σ[i]? with
      | some (some (.exn1 c v)) => if c = k then .ok v h else .bad
      | _ => .bad) := fun W tk => by
  refine PE.imp (pe_xf T hno hz hf (pe_var (X := X.suite a ((a, oe) :: pn)) (i := i) (pos := p) hN hv hd hcd) hb) fun σ H Q ⟨ρ, σd, h, st, rh, q⟩ => ?_
  dsimp only at q
  split at q
  · rename_i c v e1
    split at q
    · rename_i e2
      subst e2
      obtain ⟨u, e3, e4⟩ := st.at_ i _ e1
      cases e4 with
      | exn1 h1 h0 h2 h3 =>
        cases h1
        refine ⟨_, e3, rfl, ?_, _, _, _, rfl, h2, ?_, q ρ H _ Ext.refl h3 rh⟩
        · rw [h0]; exact hc
        · rw [← hfld]
          simp [List.lookup, Glo.at]
    · exact q.elim
  · exact q.elim
/-! ### the clauses -/
def clSt (c : Cl) (a : Addr) (σ : L2.St) : L2.St := match c.oi with
  | none => σ
  | some i => σ.set i (some (.ref a))
def wM (G : Glo) (Wout : WX) (D : Ends) : List Cl → WX
  | [] => Wout
  | c :: r => fun cls d σ H => ∃ b, PySem.W.exmOne G.K cls (.ref (G.ca c.k)) = some b ∧ (b = true → ∀ a, H a = none → ∃ e, cls = .ref (G.ca e) ∧ tV (G.at a d e) c.re noW (clSt c a σ) H D.rt) ∧ (b = false → wM G Wout D r cls d σ H)
inductive HdsM (G : Glo) (X : Cx) : List ExceptHandler → List Cl → Prop
  | nil : HdsM G X [] []
  | cons {x : Str} {on : Option Str} {c : Cl} {e : Expr} {np rp pos' : Pos} {hds : List ExceptHandler} {l : List Cl} (hc : Names X x (.ref (G.ca c.k))) (hk : c.k < G.nc)
      (ho : match c.oi with
        | none => on = none
        | some i => ∃ n, on = some n ∧ X.N[i]? = some n ∧ X.env.kindOf n = some .local)
      (hsu : ∀ (a : Addr) (oe : PySem.Obj) (cls : Value) (d : Option Addr) (pn : List (Addr × PySem.Obj)) (k : Nat), Zc cls d oe → (∃ vs, oe.data = .fields vs) → cls = .ref (G.ca k) → Snd (G.at a d k) (X.suite a ((a, oe) :: pn)) e c.re) (r : HdsM G X hds l) :
      HdsM G X (.ExceptHandler (some (.Name x np)) on [.Return (some e) rp] pos' :: hds) (c :: l)
/-- what the classes' orders are -/
def SupsOk (G : Glo) (sups : Nat → List Nat) : Prop := ∀ x k, x < G.nc → k < G.nc → PySem.W.exmOne G.K (.ref (G.ca x)) (.ref (G.ca k)) = some (hasN k (sups x))
theorem catch_run {sups : Nat → List Nat} {x : Exn} {c : Value} {d : Option Addr} {σd : Env} {σ : L2.St} {D : Ends} {E : XK} {Wout : WX} (so : SupsOk G sups) (n : G.ex = none) (rx : RelX G ρ H x c d) (rh : RelH G ρ H h) (st : RelSt G ρ H σd σ) (hW : ∀ c d H', E c d H' → Wout c d σ H') :
    ∀ {hds : List ExceptHandler} {l : List Cl}, HdsM G X hds l → (catchR sups x σd h l).all (PostS G ρ H D) (PostX G ρ H E) → wM G Wout D l c d σ H
  | [], [], _, q => hW _ _ _ (q ρ H c d Ext.refl rx rh)
  | hd :: hds, cl :: l, k, q => by
    cases k with
    | cons hc hk ho hsu r =>
      refine ⟨hasN cl.k (sups x.cls), by rw [rx.1]; exact so _ _ rx.2.1 hk, fun hb a na => ⟨x.cls, rx.1, ?_⟩, fun hb => ?_⟩
      · unfold catchR at q
        rw [if_pos hb] at q
        have base : ∀ {σ1 : Env} {σ2 : L2.St}, RelSt (G.at a d x.cls) ρ H σ1 σ2 → (((cl.re σ1 h).noexc).bind fun d h1 => if d.noX && noXH h1 then Res.ok (Fl.rt d) h1 else .bad).all (PostS G ρ H D) (PostX G ρ H E) → tV (G.at a d x.cls) cl.re noW σ2 H D.rt := fun {σ1 σ2} st1 q => by
          refine ⟨ρ, σ1, h, st1, rh.to n, Res.all_mono (fun y h2 q ρ2 H2 v x2 rd r2 => ?_) (fun _ _ z => z) (noexc_bind (Y' := PostX (G.at a d x.cls) ρ H fun c d H' => noW c d σ2 H') q)⟩
          split at q
          · rename_i e
            rw [Bool.and_eq_true] at e
            exact q ρ2 H2 x2 (r2.from e.2) v (RelD.from a d x.cls _ _ e.1 rd)
          · exact q.elim
        unfold clSt
        cases e : cl.oi with
        | none =>
          rw [e] at q
          exact base (st.to n) q
        | some i =>
          rw [e] at q
          exact base ((st.to n).set (exnD_rel n rx) i) q
      · unfold catchR at q
        rw [if_neg (by rw [hb]; exact Bool.false_ne_true)] at q
        exact catch_run so n rx rh st hW r q
  | [], _ :: _, k, _ => by cases k
  | _ :: _, [], k, _ => by cases k
/-! ### the walk -/
section
variable {pins : List (Addr × PySem.Obj)} {s : Shared} {σ : L2.St} {B : Heap} {a : Addr} {cls : Value} {d : Option Addr} {sI : Shared} {D0 : Ends} {Wout : WX}
/-- an error on the ground -/
structure Lies (X : Cx) (pins : List (Addr × PySem.Obj)) (σ : L2.St) (H : Hp) (B : Heap) (a : Addr) (cls : Value) (d : Option Addr) (sI s : Shared) : Prop where
  inv : Inv X pins σ H sI
  nb : ∀ b o, sI.heap.get? b = some o → b ∉ frs X.stack → B.get? b = some o
  up : sI.heap.UpToSlots s.heap
  fl : HandSPX.FlyingZ B (X.env :: X.outer) a (Zc cls d) s.heap
  na : H a = none
  os : s.os = sI.os
  ag : AllBare s.gens
theorem Lies.go {h2 : Heap} (L : Lies X pins σ H B a cls d sI s) (fl : HandSPX.FlyingZ B (X.env :: X.outer) a (Zc cls d) h2) (up : s.heap.UpToSlots h2) : Lies X pins σ H B a cls d sI { s with heap := h2 } :=
  ⟨L.inv, L.nb, L.up.trans up, fl, L.na, L.os, L.ag⟩
theorem Lies.back (L : Lies X pins σ H B a cls d sI s) : Inv X pins σ H s := L.inv.landed L.nb L.fl.1 L.up L.os L.ag
theorem Lies.obj (L : Lies X pins σ H B a cls d sI s) (hf : X.env.frame = some X.env.locals) : ∃ oe vs, s.heap.get? a = some oe ∧ Zc cls d oe ∧ oe.data = .fields vs ∧ a ≠ X.env.locals ∧ a ∉ X.fs := by
  obtain ⟨oe, vs, he, hz, hd⟩ := L.fl.there
  have nfr : a ∉ frs (X.env :: X.outer) := fun hm => by
    obtain ⟨_, o', e', hnf⟩ := L.fl.2.2.1.mem hm
    rw [he] at e'; cases e'
    exact hnf _ hd
  refine ⟨oe, vs, he, hz, hd, fun z => nfr (List.mem_filterMap.mpr ⟨X.env, List.mem_cons_self, by rw [hf, z]⟩), fun hm => ?_⟩
  obtain ⟨e, he2, q⟩ := List.mem_filterMap.mp hm
  exact nfr (List.mem_filterMap.mpr ⟨e, List.mem_cons_of_mem _ he2, q⟩)
theorem handle_all (hK : X.K = G.K) (hs : X.stack = X.env :: X.outer) (hf : X.env.frame = some X.env.locals) (hN : X.N.Nodup) (tk : Takes X Wout) :
    ∀ {hds : List ExceptHandler} {l : List Cl}, HdsM G X hds l → Lies X pins σ H B a cls d sI s → wM G Wout D0 l cls d σ H → wpAny (model X.prog X.w) X.A (handleBy (.ref a) X.env hds) (SP X pins D0) X.xe s
  | _, _, .nil, L, w => by
    refine wpAny_handleBy_nil ?_
    obtain ⟨k1, k2, k3, oe, vs, T, oT, ts', he, hz, hd, h1, hr⟩ := id L.fl
    unfold PySem.passOn
    refine wpAny_bind (wpAny_field he hd h1 ?_)
    rw [if_neg (show ¬ ((Value.ref T == Value.none) = true) from by simp)]
    have fin : wpAny (model X.prog X.w) X.A (setFlight (.ref a) X.env.frame) (fun _ s4 => wpAny (model X.prog X.w) X.A (throw (.ref a) : Sem Flow) (SP X pins D0) X.xe s4) X.xe s := by
      rw [hf]
      refine HandSPX.setFlight_upZ L.fl fun h4 hh4 up4 => wpAny_throw (tk _ _ ?_)
      exact ⟨a, B, sI, pins, σ, H, cls, d, rfl, L.inv, L.nb, L.up.trans up4, .inr (.inr (by rw [hs]; exact hh4)), L.na, L.os, L.ag, w⟩
    first
      | exact wpAny_bind (wpAny_pure (wpAny_bind fin))
      | exact wpAny_bind fin
  | _, _, @HdsM.cons _ _ x on c e np rp pos' hds l hc hk ho hsu r, L, w => by
    obtain ⟨b, hb1, hyes, hno⟩ := w
    have J := L.back
    obtain ⟨oe, vs, he, hz, hd, nL, nF⟩ := L.obj hf
    have S := J.suite he hd L.na nL nF
    refine wpAny_handleBy_cons (codeAny_handlers_test ?_) (by intro q; cases q)
    have LT : PySem.W.Looks (model X.prog X.w) s.heap (typeOf (.ref a)) cls := fun A Q E s k q => wpAny_typeOf_ref (k _ _ he) (by rw [hz.1]; exact q)
    have LM := PySem.W.exm_one (M := model X.prog X.w) (J.kIn) LT (by rw [hK]; exact hb1)
    have test : ∀ {Q : Value → Shared → Prop} {E : Value → Shared → Prop}, Q (.ref (G.ca c.k)) s → wpAny (model X.prog X.w) (X.A.mark (some (.ref a))) (eval (.Name x np) X.env) Q E s := fun {Q E} q => by
      obtain ⟨hg, hdbg, hm | ⟨hm, hv, hnn⟩⟩ := hc
      · exact ld_glob (X := X.suite a ((a, oe) :: (X.pn ++ pins))) S hg hm q hdbg
      · exact ld_blt (X := X.suite a ((a, oe) :: (X.pn ++ pins))) S hg hm hv q hnn hdbg
    refine test (LM.here ?_)
    cases b with
    | false =>
      show wpAny _ X.A (handleBy (.ref a) X.env hds) _ _ _
      exact handle_all hK hs hf hN tk r L (hno rfl)
    | true =>
      obtain ⟨k, ek, hw⟩ := hyes rfl a L.na
      have suite : ∀ {oe4 : PySem.Obj}, Zc cls d oe4 → (∃ vs, oe4.data = .fields vs) → PSs (X.suite a ((a, oe4) :: (X.pn ++ pins))) [.Return (some e) rp] (tRet (tV (G.at a d k) c.re noW)) := fun hz hd => pss_one (ps_ret (hsu a _ cls d _ k hz hd ek noW takes_no))
      unfold clSt at hw
      cases eo : c.oi with
      | none =>
        rw [eo] at ho hw
        have ho : on = none := ho
        subst ho
        refine codeAny_handlers_suite ?_
        refine HandSPX.lands_againZ L.fl fun h4 fl4 up4 => ?_
        have L4 := L.go fl4 up4
        have J4 := L4.back
        obtain ⟨oe4, vs4, he4, hz4, hd4, nL4, nF4⟩ := L4.obj hf
        have S4 := J4.suite he4 hd4 L.na nL4 nF4
        refine wpAny_mono ((suite hz4 ⟨_, hd4⟩).run [] _ _ H D0 S4 hw) (fun f s6 hsp => ?_) (fun _ _ z => False.elim z)
        cases f with
        | next => obtain ⟨σ6, H6, S6, q6⟩ := hsp; exact ⟨_, _, S6.unsuite J.ok, q6⟩
        | brk => obtain ⟨σ6, H6, S6, q6⟩ := hsp; exact ⟨_, _, S6.unsuite J.ok, q6⟩
        | cont => obtain ⟨σ6, H6, S6, q6⟩ := hsp; exact ⟨_, _, S6.unsuite J.ok, q6⟩
        | ret u => obtain ⟨v6, σ6, H6, S6, r6, q6⟩ := hsp; exact ⟨_, _, _, S6.unsuite J.ok, r6, q6⟩
      | some i =>
        rw [eo] at ho hw
        obtain ⟨n, rfl, hi, hln⟩ := ho
        refine codeAny_handlers_suite_as ?_
        refine HandSPX.lands_againZ L.fl fun h4 fl4 up4 => ?_
        have L4 := L.go fl4 up4
        have J4 := L4.back
        obtain ⟨oe4, vs4, he4, hz4, hd4, nL4, nF4⟩ := L4.obj hf
        have S4 := J4.suite he4 hd4 L.na nL4 nF4
        refine store_ok (X := X.suite a ((a, oe4) :: (X.pn ++ pins))) (v := .ref a) S4 hN hi (.inl hln) rfl (fun s5 S5 => ?_) (.inr hln)
        refine wpAny_mono ((suite hz4 ⟨_, hd4⟩).run [] s5 _ H { nx := fun σ' H' => D0.nx (σ'.set i none) H', rt := D0.rt, bk := fun σ' H' => D0.bk (σ'.set i none) H', ct := fun σ' H' => D0.ct (σ'.set i none) H' } S5 hw) (fun f s6 hsp => ?_) (fun _ _ z => False.elim z)
        have end_ : ∀ {σ6 : L2.St} {H6 : Hp} {Q : Shared → Prop}, Inv (X.suite a ((a, oe4) :: (X.pn ++ pins))) [] σ6 H6 s6 → (∀ s7, Inv X pins (σ6.set i none) H6 s7 → Q s7) →
            wpAny (model X.prog X.w) X.A (do bindName X.env n .none; unbindBehindTheSuite X.env n pos') (fun _ s7 => Q s7) X.xe s6 := fun {σ6 H6 Q} S6 hq => gone_ok (S6.unsuite J.ok) hN hi hln hq
        cases f with
        | next => obtain ⟨σ6, H6, S6, q6⟩ := hsp; exact end_ S6 fun s7 J7 => ⟨_, _, J7, q6⟩
        | brk => obtain ⟨σ6, H6, S6, q6⟩ := hsp; exact end_ S6 fun s7 J7 => ⟨_, _, J7, q6⟩
        | cont => obtain ⟨σ6, H6, S6, q6⟩ := hsp; exact end_ S6 fun s7 J7 => ⟨_, _, J7, q6⟩
        | ret u => obtain ⟨v6, σ6, H6, S6, r6, q6⟩ := hsp; exact end_ S6 fun s7 J7 => ⟨_, _, _, J7, r6, q6⟩
/-- try, with such clauses -/
theorem ps_tryM {body : List Stmt} {h₀ : ExceptHandler} {hds : List ExceptHandler} {l : List Cl} {pos : Pos} {tb : WX → TS} (hK : X.K = G.K) (hs : X.stack = X.env :: X.outer) (hf : X.env.frame = some X.env.locals) (hN : X.N.Nodup) (tk : Takes X Wout)
    (hb : ∀ (W : WX) (pn : List (Addr × PySem.Obj)) (xe : Value → Shared → Prop), Takes (X.tr pn xe) W → PassesOwn (model X.prog X.w) X.A X.env xe → PSs (X.tr pn xe) body (tb W))
    (hh : HdsM G X (h₀ :: hds) l) : PS X (.Try body (h₀ :: hds) [] [] pos) (fun D σ H => tb (fun cls d σ H => σ.length = X.N.length → wM G Wout D l cls d σ H) D σ H) := by
  refine ⟨fun pins s σ H D I h => ?_⟩
  have ok := I.ok
  have hfr : X.A.frames = some (X.env :: X.outer) := by rw [ok.frames, hs]
  refine wpAny_Try_except ?_
  refine wpAny_mono ((hb (fun cls d σ H => σ.length = X.N.length → wM G Wout D l cls d σ H) (X.pn ++ pins) (fun e s₁ => wpAny (model X.prog X.w) X.A (noteFrame e X.env) (fun _ s₂ => wpAny (model X.prog X.w) X.A (setFlight e none) (fun _ s₃ =>
    wpAny (model X.prog X.w) X.A (handleBy e X.env (h₀ :: hds)) (SP X pins D) X.xe s₃) X.xe s₂) X.xe s₁) (fun u s' xx => ?_) PassesOwn.looking).run [] s σ H D (I.toTry _) h) (fun f s1 hsp => ?_) (fun e s1 he => he)
  · obtain ⟨a, B, sI, pins', σ', H', cls, d, rfl, J', nb, up, sky, na, os, ag, w⟩ := xx
    have J : Inv X pins σ' H' sI := J'.ofTry ok
    have sky' : Sky B (X.env :: X.outer) a (Zc cls d) X.env.locals s'.heap := by rw [← hs]; exact sky
    show wpAny (model X.prog X.w) X.A (noteFrame (.ref a) X.env) _ _ _
    refine Sky.land Zc.steady hfr hf sky' fun h3 fl3 up3 => ?_
    exact handle_all hK hs hf hN tk hh (s := { s' with heap := h3 }) ⟨J, nb, up.trans up3, fl3, na, os, ag⟩ (w J.len)
  · cases f with
    | next => obtain ⟨σ', H', J', q⟩ := hsp; exact wpAny_execs_nil ⟨σ', H', J'.ofTry ok, q⟩
    | brk => obtain ⟨σ', H', J', q⟩ := hsp; exact ⟨σ', H', J'.ofTry ok, q⟩
    | cont => obtain ⟨σ', H', J', q⟩ := hsp; exact ⟨σ', H', J'.ofTry ok, q⟩
    | ret u => obtain ⟨v, σ', H', J', r, q⟩ := hsp; exact ⟨v, σ', H', J'.ofTry ok, r, q⟩
end
end
end EV

set_option Elab.async false
set_option linter.all false
set_option maxRecDepth 100000
set_option maxHeartbeats 1000000
/-! EvO: try and raise as statements. -/
namespace EV
open PySem PySem.Spec PyProof.Rows L2
section
variable {G : Glo} {ρ ρ' ρ'' ρ1 : List Addr} {H H' H'' H1 : Hp} {h h' h1 : Hea} {X : Cx}
/-- the tried value's answer, its errors caught -/
def tryM (fin : EV.D → Fl) (sups : Nat → List Nat) (l : List Cl) (σ : Env) : Res EV.D → Res Fl
  | .ok d h => .ok (fin d) h
  | .exc x h => catchR sups x σ h l
  | .ask n k => .ask n fun i => tryM fin sups l σ (k i)
  | .bad => .bad
theorem try_all {fin : EV.D → Fl} {sups : Nat → List Nat} {hds : List ExceptHandler} {l : List Cl} {σd : Env} {σ : L2.St} {D : Ends} {E : XK} {Wout : WX} (so : SupsOk G sups) (n : G.ex = none) (rh : RelH G ρ H h) (st : RelSt G ρ H σd σ) (hW : ∀ c d H', E c d H' → Wout c d σ H') (k : HdsM G X hds l) :
    ∀ {r : Res EV.D}, (tryM fin sups l σd r).all (PostS G ρ H D) (PostX G ρ H E) → r.all (fun d h' => PostS G ρ H D (fin d) h') (PostX G ρ H fun c d H' => wM G Wout D l c d σ H')
  | .ok d h, q => q
  | .exc x h', q => fun ρ' H' c d x' rx r' => catch_run so n rx r' (st.keep rh x') hW k (Res.all_mono (fun _ _ p => p.mv r' x') (fun _ _ p => p.mv r' x') q)
  | .ask n' k', q => fun i hi => try_all so n rh st hW k (r := k' i) (q i hi)
  | .bad, q => q
variable {e : Expr} {h₀ : ExceptHandler} {hds : List ExceptHandler} {l : List Cl} {pos p3 : Pos} {re : Env → Hea → Res EV.D} {sups : Nat → List Nat}
theorem snds_try (hK : X.K = G.K) (hs : X.stack = X.env :: X.outer) (hf : X.env.frame = some X.env.locals) (hN : X.N.Nodup) (so : SupsOk G sups) (n : G.ex = none) (he : ∀ pn xe, PassesOwn (model X.prog X.w) X.A X.env xe → Snd G (X.tr pn xe) e re) (nc : noComp e = true) (k : HdsM G X (h₀ :: hds) l) :
    SndS G X (.Try [.Expr e p3] (h₀ :: hds) [] [] pos) (fun σ h => tryM (fun _ => .nx σ) sups l σ (re σ h)) := fun E tk => by
  refine PS.imp (ps_tryM (tb := fun W => tDrop (tV G re W)) hK hs hf hN tk (fun W pn xe tk2 po => pss_one (ps_expr (he pn xe po W tk2) (swaps_no nc))) k) fun D σ H ⟨ρ, σd, h, st, rh, q⟩ => ?_
  refine ⟨ρ, σd, h, st, rh, Res.all_mono (fun d h1 q ρ1 H1 v x rd r1 => ?_) (fun _ _ p ρ1 H1 c d x rx r1 _ => p ρ1 H1 c d x rx r1) (try_all so n rh st (Wout := WE' E) (fun _ _ _ z => z) k q)⟩
  exact q ρ1 H1 x r1 σ (st.keep rh x)
theorem snds_tryQ (hK : X.K = G.K) (hs : X.stack = X.env :: X.outer) (hf : X.env.frame = some X.env.locals) (hN : X.N.Nodup) (so : SupsOk G sups) (n : G.ex = none) (he : ∀ pn xe, PassesOwn (model X.prog X.w) X.A X.env xe → Snd G (X.tr pn xe) e re) (k : HdsM G X (h₀ :: hds) l) :
    SndS G X (.Try [.Return (some e) p3] (h₀ :: hds) [] [] pos) (fun σ h => tryM .rt sups l σ (re σ h)) := fun E tk => by
  refine PS.imp (ps_tryM (tb := fun W => tRet (tV G re W)) hK hs hf hN tk (fun W pn xe tk2 po => pss_one (ps_ret (he pn xe po W tk2))) k) fun D σ H ⟨ρ, σd, h, st, rh, q⟩ => ?_
  refine ⟨ρ, σd, h, st, rh, Res.all_mono (fun d h1 q ρ1 H1 v x rd r1 => ?_) (fun _ _ p ρ1 H1 c d x rx r1 _ => p ρ1 H1 c d x rx r1) (try_all so n rh st (Wout := WE' E) (fun _ _ _ z => z) k q)⟩
  exact q ρ1 H1 x r1 v rd
/-- the clauses of the evaluator -/
def clOf (c : CfgS) : Hd → Cl
  | .mk k i e => ⟨k, i, c.E0 false e⟩
theorem catchH_eq {c : CfgS} {x : Exn} {σ : Env} {h : Hea} : ∀ {hs : List Hd}, catchH c x σ h hs = catchR c.sups x σ h (hs.map (clOf c))
  | [] => rfl
  | .mk k i e :: r => by
    unfold catchH catchR
    rw [catchH_eq (hs := r)]
    show _ = if hasN k (c.sups x.cls) then _ else _
    unfold clOf exnD
    cases i <;> rfl
theorem tryR_eq {c : CfgS} {hs : List Hd} {σ : Env} : ∀ {r : Res EV.D}, tryR c hs σ r = tryM (fun _ => .nx σ) c.sups (hs.map (clOf c)) σ r
  | .ok _ _ => rfl
  | .exc _ _ => catchH_eq
  | .ask n k => by
    unfold tryR tryM
    congr 1
    funext i
    exact tryR_eq
  | .bad => rfl
theorem tryQ_eq {c : CfgS} {hs : List Hd} {σ : Env} : ∀ {r : Res EV.D}, tryQ c hs σ r = tryM .rt c.sups (hs.map (clOf c)) σ r
  | .ok _ _ => rfl
  | .exc _ _ => catchH_eq
  | .ask n k => by
    unfold tryQ tryM
    congr 1
    funext i
    exact tryQ_eq
  | .bad => rfl
/-! ### raise -/
/-- a made error: its class, what it keeps -/
def SndX (G : Glo) (X : Cx) (e : Expr) (r : Env → Hea → Res Exn) : Prop := ∀ W, Takes X W → PMk X e (fun σ H Q => ∃ ρ σd h, RelSt G ρ H σd σ ∧ RelH G ρ H h ∧ (r σd h).all (fun x h' => PostX G ρ H Q x h') (PostX G ρ H fun c d H' => W c d σ H'))
theorem snds_raise {r : Env → Hea → Res Exn} (hc : X.calm = true) (he : SndX G X e r) : SndS G X (.Raise (some e) none pos) (fun σ h => (r σ h).bind fun x h1 => .exc x h1) := fun E tk => by
  refine PS.imp (ps_raise hc tk (he _ tk)) fun D σ H ⟨ρ, σd, h, st, rh, q⟩ => ?_
  rw [Res.all_bind] at q
  exact ⟨ρ, σd, h, st, rh, q⟩
theorem sndx_own {bmB : List Value} {B newId initId : String} {x m : Str} {j k : Nat} {p p2 : Pos} (F : ExcBaseFacts B newId initId bmB) (q : PySem.W.excIn X.K (G.ca k) bmB newId = true) (gC : X.mg x = some (.ref (G.ca k))) (kC : PySem.W.keepIn X.K (.ref (G.ca k)) = true) (r : Raises X (.ref (G.ca k))) (hg : Gl X x)
    (hdb : (x == ("__debug__" : Str)) = false) (hk : k < G.nc) : SndX G X (.Call (.Name x p) [.Constant (.str m) j p2] [] pos) (fun _ h => .ok ⟨k, none⟩ h) := fun W tk pins s σ H Q I ⟨ρ, σd, h, st, rh, z⟩ =>
  pmk_own F q gC kC r hg hdb pins s σ H Q I (z ρ H _ none Ext.refl ⟨rfl, hk, fun v e => by cases e⟩ rh)
end
end EV

set_option Elab.async false
set_option linter.all false
set_option maxRecDepth 100000
set_option maxHeartbeats 2000000
/-! EvP: own errors whose __init__ says super().__init__(text), then keeps its argument. -/
namespace PySem
namespace XI
open PySem.W PySem.Calls PyProof.Rows Builtin Builtin.ObjectAttr
def iA (par : Str) (p1 p2 : Pos) : Arguments := { posonlyargs := [], args := [{ arg := "self", annotation := none, pos := p1 }, { arg := par, annotation := none, pos := p2 }], vararg := none, kwonlyargs := [], kw_defaults := [], kwarg := none, defaults := [] }
def iB (f par msg : Str) (j : Nat) (p0 p1 p2 p3 p4 p5 q1 q2 q3 q4 : Pos) : List Stmt :=
  [.Expr (.Call (.Attribute (.Call (.Name "super" p0) [] [] p1) "__init__" p2) [.Constant (.str msg) j p3] [] p4) p5, .Assign [.Attribute (.Name "self" q1) f q2] (.Name par q3) q4]
def iS (par : Str) : Scope := { kind := .function, names := [(PySem.Str.ofString "self", .local), (par, .local), (PySem.Str.ofString "__class__", .free), (PySem.Str.ofString "super", .globalImplicit)], isGenerator := false, isCoroutine := false, more := [] }
/-- what the written part says of such a class at C, its __init__ at fI -/
structure Txt (P : Program) (K : Frag) (mg : Str → Option Value) (C fI : Addr) (B i newId : String) (bmB : List Value) (f : Str) : Prop where
  FB : ExcBaseFacts B newId i bmB
  KF : KxsFacts B i
  SF : StoreFacts B bmB "object.__setattr__" "object"
  ex : excInitIn K C bmB newId = true
  ov : excOver K C bmB = true
  hd : hasDictIn K C = true
  sa : findIn K (.ref C) "__setattr__" = some (some (.builtin "object.__setattr__"))
  tk : takerIn K C f = some none
  iC : findIn K (.ref C) "__init__" = some (some (.ref fI))
  tC : typeIn K (.ref fI) = some (.type "function")
  su : ks_superIn K C C "__init__" = some (some (.builtin i))
  sb : subIn K (.ref C) (.type B) = some true
  ms : mroIn K C (.ref C) = some true
  op : nsIn K cStatics "thirdparty.any" = some none
  sg : mg "super" = none
  top : (P.main.scope.names.lookup ("super" : Str)).isSome = false
  exC : subIn K (.ref C) (.type "BaseException") = some true
  tyC : typeIn K (.ref C) = some (.type "type")
  kC : keepIn K (.ref C) = true
  fn : ∃ (oc : Value) (od : Option Addr) (qual : Str) (doc pm : Value) (an : Option Addr) (cda cc : Addr) (ct : Value) (osl : Array (Option Value)) (par msg : Str) (j : Nat) (a1 a2 p0 p1 p2 p3 p4 p5 q1 q2 q3 q4 : Pos)
    (ccl : Value) (cdd : Option Addr) (vs : Array Value) (ccs : Array (Option Value)) (file : Str) (tf : Tok) (cl : Value) (cld : Option Addr) (csl : Array (Option Value)),
    K.lookup fI = some ⟨oc, od, .func (ksFn "__init__" qual (iA par a1 a2) (iB f par msg j p0 p1 p2 p3 p4 p5 q1 q2 q3 q4) (iS par) .none .none doc pm an (.ref cda) ct cc), osl⟩ ∧ codeIn K (.ref cda) qual = true ∧
    K.lookup cda = some ⟨ccl, cdd, .fields vs, ccs⟩ ∧ vs[2]? = some (.str file tf) ∧ ((P.main.file : Str) == file) = true ∧ K.lookup cc = some ⟨cl, cld, .cell (some (.ref C)), csl⟩ ∧
    (iS par).names.lookup par = some .local ∧ par ≠ "self" ∧ (par == ("__debug__" : Str)) = false ∧ (iS par).names.lookup ("super" : Str) = some .globalImplicit ∧ (iS par).names.lookup ("__class__" : Str) = some .free ∧ (p2.endLine == p4.line) = true ∧
    ∀ x v : Value, bindArgs (ksFn "__init__" qual (iA par a1 a2) (iB f par msg j p0 p1 p2 p3 p4 p5 q1 q2 q3 q4) (iS par) .none .none doc pm an (.ref cda) ct cc) ⟨[x, v], []⟩ = pure [(("self" : Str), x), (par, v)]
section
variable {prog : Program} {w : World} {A : Around} {E : Value → Shared → Prop} {R : Result → Shared → Prop} {h : Heap} {g : Array GenState} {d : Drawn} {t : Nat} {os : OsState} {K : Frag} {mg : Str → Option Value} {C fI : Addr} {B i newId : String} {bmB : List Value} {f : Str}
/-- the bound __init__, called -/
theorem call_mw (FB : ExcBaseFacts B newId i bmB) {u e t0 : Addr} {dv : Option Addr} {c2 : Value} {rest : List Value} {Q : Value → Shared → Prop} (X : K.In h) (q : excInitIn K C bmB newId = true)
    (he : h.get? e = some (excObj C t0 dv c2)) (hu : h.get? u = some (kxs_mw i e)) (hz : rest.length ≤ sizeLine)
    (hq : ∀ h' t1, (∀ b o, b ≠ e → h.get? b = some o → h'.get? b = some o) → h'.get? e = some (excObj C t1 dv c2) → Q .none ⟨h', g, d, t, os⟩) :
    wpAny (model prog w) A (call (.ref u) rest) Q E ⟨h, g, d, t, os⟩ := by
  obtain ⟨nm, N', qn, bs, bm, hdct, sn, sub, ab, col, dd, k0, k1, k2, k3, k5, hC, hT⟩ := excInit_of X q
  refine wpAny_call (codeAny_of_tree ?_)
  show wpAny _ A.in1 (callAny (.ref u) ⟨rest, []⟩) _ _ _
  simp only [callAny]
  refine wpAny_bind (wpAny_load hu ?_)
  simp only [kxs_mw, show (Value.type "method-wrapper" == Value.type "method" || Value.type "method-wrapper" == Value.type "builtin_function_or_method" || Value.type "method-wrapper" == Value.type "method-wrapper") = true by decide, if_true]
  refine KFB.if_so (by decide) ?_
  refine wpAny_bind (check_bound_init FB.toExcCallFacts hC he rfl ?_)
  refine wpAny_bind (wpAny_pure (wpAny_pure ?_))
  refine ⟨plainId_quiet FB.init.plain _, codeAny_builtin FB.initEntry ?_⟩
  exact exc_init_tree (cls := .ref C) (t0 := t0) (dv := dv) (c2 := c2) (c3 := .none) (b4 := .bool false) he hz fun h' k1 k2 k3 => hq h' _ k1 k2
/-- the first field: the object gets its dict -/
theorem osa_first {name : Str} {tk : Tok} {v : Value} {x t0 : Addr} {c2 : Value} (SF : StoreFacts B bmB "object.__setattr__" "object") (X : K.In h) (hx : h.get? x = some (excObj C t0 none c2)) (ov : excOver K C bmB = true) (hd : hasDictIn K C = true) (ht : takerIn K C name = some none)
    (hq : ∀ h' tk' dx, (∀ b o, b ≠ x → h.get? b = some o → h'.get? b = some o) → h.objs.size ≤ dx → dx ≠ x → h'.get? x = some (excObj C t0 (some dx) c2) →
      h'.Ns1 dx (fun y => if y = name then some v else none) → R (.ok (.ret .none)) ⟨h', g, d, tk', os⟩) :
    codeAny (model prog w) A (.call (.builtin "object.__setattr__") ⟨[.ref x, .str name tk, v], []⟩) R ⟨h, g, d, t, os⟩ := by
  have I : InstAt h x (excObj C t0 none c2) C none := ⟨hx, rfl, rfl, trivial⟩
  have hxs : x ≠ h.objs.size := Nat.ne_of_lt (Heap.lt_size hx)
  refine osa_openX SF X I ov ht fun b => ?_
  obtain ⟨cd, hcd, hh⟩ : ∃ cd, clsIn K C = some cd ∧ cd.hasDict = true := by
    unfold hasDictIn at hd
    exact any_some hd
  have hcls : Looks (model prog w) h (classData C) cd := looks_clsIn X hcd
  obtain ⟨nm, bs, mro, ns, qn, hdd, sn, sb, ab, col, del⟩ := cd
  dsimp only at hh
  subst hh
  show wpAny _ _ (storeInOwnDict (.ref x) (.ref C) (.str name tk) name v b) _ _ _
  unfold storeInOwnDict ownDictForStores
  repeat (first | with_reducible refine HandSPX.store_in_new ?_ ?_ | with_reducible refine wpAny_loadPart_at hx ?_ | with_reducible refine hcls.at ?_ | wp_step)
  · exact ⟨_, #[], _, (Heap.get?_update_ne _ _ _ _ hxs.symm).trans (Heap.get?_push_at rfl rfl), rfl, fun e he => absurd he (by simp), fun _ => rfl⟩
  · intro h' tk' hn' hs
    have hx₁ : (h.push { cls := .type "dict", data := .dict #[] }).get? x = some (excObj C t0 none c2) := Heap.get?_push_of_some _ hx
    refine hq h' tk' h.objs.size (fun b o hb ho => ?_) (Nat.le_refl _) hxs.symm ?_ hn'
    · exact (hs.2 b (Nat.ne_of_lt (Heap.lt_size ho))).trans ((Heap.get?_update_ne _ _ _ _ hb).trans (Heap.get?_push_of_some _ ho))
    · exact (hs.2 x hxs).trans (Heap.get?_update_self _ hx₁ rfl)
end
section
variable {prog : Program} {w : World} {A : Around} {R : Result → Shared → Prop} {s : Shared} {K : Frag} {mg : Str → Option Value} {C fI : Addr} {B i newId : String} {bmB : List Value} {f : Str}
theorem ini_run (T : Txt prog K mg C fI B i newId bmB f) {x t0 : Addr} {v : Value} (X : K.In s.heap) (hlim : s.heap.NoLimit) (hg : s.heap.Ns mainGlobals mg) (hb : ∃ mb, s.heap.Ns builtinsNs mb ∧ ∀ x : Str, x ≠ "__name__" → mb x = bootBuiltins x)
    (hx : s.heap.get? x = some (excObj C t0 none .none)) (hnx : K.lookup x = none) (hroom : A.depth < recursionLimit)
    (hq : ∀ h' tk dx t1, (∀ b o, b ≠ x → s.heap.get? b = some o → h'.get? b = some o) → h'.get? x = some (excObj C t1 (some dx) .none) → s.heap.objs.size ≤ dx → dx ≠ x → h'.Ns1 dx (fun y => if y = f then some v else none) → R (.ok (.ret .none)) { s with heap := h', toks := tk }) :
    codeAny (model prog w) A (.call (.ref fI) ⟨[.ref x, v], []⟩) R s := by
  obtain ⟨oc, od, qual, doc, pm, an, cda, cc, ct, osl, par, msg, j, a1, a2, p0, p1, p2, p3, p4, p5, q1, q2, q3, q4, ccl, cdd, vs, ccs, file, tf, cl, cld, csl, ho, hcd, hcode, hvs, hfile, hcell, hpl, hps, hpd, T_super, T_class, hpos, hbind⟩ := T.fn
  obtain ⟨mb, hmb, hboot⟩ := hb
  have hne : (iS par).names.lookup ("self" : Str) = some .local := by rfl
  refine ks_codeAny_call_defAt (body := iB f par msg j p0 p1 p2 p3 p4 p5 q1 q2 q3 q4) (binds := [(("self" : Str), .ref x), (par, v)]) hroom (X _ _ ho) rfl hlim (codeRec_of X hcd) rfl (BindsTo.of_eq (hbind _ _)) ?_ ?_ (fun h₁ hns k => ?_) rfl rfl rfl
  · intro y hy
    have hy : y ∈ (iS par).names := hy
    simp only [iS, List.mem_cons, List.not_mem_nil, or_false] at hy
    rcases hy with rfl | rfl | rfl | rfl <;> (intro z; cases z)
  · intro y hy
    simp only [List.mem_cons, List.not_mem_nil, or_false] at hy
    rcases hy with rfl | rfl
    · exact hne
    · exact hpl
  · show wpAt _ _ _ (execs (iB f par msg j p0 p1 p2 p3 p4 p5 q1 q2 q3 q4) (ksEnv qual (iS par) s.heap.objs.size fI (.ref cda) cc)) _ _ _
    have X₁ : K.In h₁ := X.keeps k
    have hx₁ := k _ _ hx
    obtain ⟨m₀, hns, vself, vpar⟩ : ∃ m₀ : Str → Option Value, h₁.Ns s.heap.objs.size m₀ ∧ m₀ "self" = some (.ref x) ∧ m₀ par = some v := by
      refine ⟨_, hns, ?_, ?_⟩
      · have : (("self" : Str) == par) = false := by simpa using fun e : ("self" : Str) = par => hps e.symm
        simp [List.lookup, this]
      · simp [List.lookup]
    have lim : h₁.objs.size = h₁.objs.size := rfl
    obtain ⟨cdC, hcl, hcm⟩ : ∃ cd, clsIn K C = some cd ∧ alongIn K "__init__" ((cd.mro.dropWhile (· != .ref C)).drop 1) = some (some (.builtin i)) := Option.bind_eq_some_iff.mp T.su
    obtain ⟨oD, hD1, hD2⟩ : ∃ oD, h₁.get? C = some oD ∧ oD.data = .cls cdC := by
      have z := hcl
      unfold clsIn at z
      split at z
      · rename_i c d cd' sl ho
        cases z
        exact ⟨_, X₁ _ _ ho, rfl⟩
      · cases z
    have I₁ : InstAt h₁ x (excObj C t0 none .none) C none := ⟨hx₁, rfl, rfl, trivial⟩
    have xC : x ≠ C := ks_ne X₁ I₁ hcl
    have hp : ∀ few, methodCallPos few (.Call (.Name "super" p0) [] [] p1) (ksEnv qual (iS par) s.heap.objs.size fI (.ref cda) cc) p2 p4 = pure p4 := fun few => by
      unfold methodCallPos
      rw [hpos, Bool.or_true]
      rfl
    refine ks_wpAt_execs_cons (ks_wpAt_Expr_any (ks_wpAt_MethodCall (pl := do return (← importBound (.Call (.Name "super" p0) [] [] p1) (ksEnv qual (iS par) s.heap.objs.size fI (.ref cda) cc)).getD true) (ks_wpAt_super_base (env := ksEnv qual (iS par) s.heap.objs.size fI (.ref cda) cc) ?_ ?_ (by decide) rfl (X₁ _ _ ho) rfl (ar := { arg := "self", annotation := none, pos := a1 }) rfl rfl (X₁ _ _ hcode) rfl hvs hfile T.top ?_) ?_))
    · show (iS par).names.lookup ("super" : Str) = _
      exact T_super
    · show (iS par).names.lookup ("__class__" : Str) = _
      exact T_class
    · refine ks_loadName_global (env := ksEnv qual (iS par) s.heap.objs.size fI (.ref cda) cc) rfl T_super (loadGlobal_builtin (env := ksEnv qual (iS par) s.heap.objs.size fI (.ref cda) cc) (mg := mg) (mb := mb) (hg.keeps k) T.sg (hmb.keeps k) ((hboot _ (by decide +kernel)).trans Boot.«super») ⟨rfl, ?_⟩)
      refine wpAny_loadName_free rfl T_class rfl ⟨_, X₁ _ _ hcell, rfl⟩ ?_
      refine wpAny_loadName_local rfl hne hns vself ?_
      refine ks_wpAny_isType_cls hD1 hD2 ⟨rfl, ?_⟩
      refine ks_wpAny_call_super hD1 hD2 hx₁ rfl (fun c e => by cases e) (looks_mroIn X₁ T.ms) (fun h₂ eso k₂ => ?_)
      have X₂ : K.In h₂ := X₁.keeps k₂
      have hx₂ := k₂ _ _ hx₁
      have I₂ : InstAt h₂ x (excObj C t0 none .none) C none := ⟨hx₂, rfl, rfl, trivial⟩
      refine kxs_getMethod T.KF eso (looks_opaque X₂ T.op) (l₀ := cdC.mro) (fun A Q E s k q => wpAny_bind ((looks_clsIn X₂ hcl) A _ E s k (wpAny_pure q))) rfl X₂ hcm (I₂.type.andThen (looks_subIn X₂ T.sb)) xC (by decide) ?_
      refine kxs_callWith (i := i) (x := x) rfl (evalArgs_plain ?_)
      show wpAny _ _ (spliced ((false, eval (.Constant (.str msg) j p3) (ksEnv qual (iS par) s.heap.objs.size fI (.ref cda) cc)) :: backTo p4 (starEach [] (ksEnv qual (iS par) s.heap.objs.size fI (.ref cda) cc)))) _ _ _
      refine Calls.spliced_cons (Calls.Constant_str (Calls.spliced_nil ⟨Heap.get?_push_size _ rfl, ?_⟩))
      refine call_mw T.FB (t0 := t0) (dv := none) (c2 := .none) (X₂.keeps fun b o e => Heap.get?_push_of_some _ e) T.ex (Heap.get?_push_of_some _ hx₂) (Heap.get?_push_size _ rfl) (by show 1 ≤ sizeLine; rw [sizeLine_eq]; omega) fun h₃ t1 k₃ hx₃ => ?_
      have hns₁ : ∀ b o, h₁.get? b = some o → b ≠ x → h₃.get? b = some o := fun b o e hb => k₃ b o hb (Heap.get?_push_of_some _ (k₂ b o e))
      have X₃ : K.In h₃ := fun b o e => hns₁ b o (X₁ b o e) (fun z => by rw [z, hnx] at e; cases e)
      have hns₃ : h₃.Ns s.heap.objs.size m₀ := by
        obtain ⟨oL, es, ep, hL, r⟩ := hns
        exact ⟨oL, es, ep, hns₁ _ _ hL (Nat.ne_of_gt (Heap.lt_size hx)), r⟩
      refine ks_wpAt_execs_cons (ks_wpAt_Assign_Attr ?_)
      refine wpAt_of_wpAny (wpAny_Name (wpAny_loadName_local (env := ksEnv qual (iS par) s.heap.objs.size fI (.ref cda) cc) rfl hpl hns₃ vpar ?_) hpd)
      refine wpAny_Name (wpAny_loadName_local (env := ksEnv qual (iS par) s.heap.objs.size fI (.ref cda) cc) rfl hne hns₃ vself ?_) (by decide)
      refine set_plain X₃ (ox := excObj C t1 none .none) (od := none) ⟨hx₃, rfl, rfl, trivial⟩ T.sa ?_
      refine osa_first T.SF X₃ hx₃ T.ov T.hd T.tk (fun h₄ tk₄ dx k₄ dn dne hx₄ hn₄ => ?_)
      refine wpAt_of_wpAny (wpAny_execs_nil (hq h₄ tk₄ dx t1 (fun b o hb e => k₄ b o hb (hns₁ b o (k b o e) hb)) hx₄ ?_ dne hn₄))
      exact Nat.le_of_lt (Nat.lt_of_lt_of_le hns₃.lt dn)
    · rw [eval.eq_def]
      dsimp only
      unfold methodCall
      simp only [hp, pure_bind]
      rfl
end
/-- a made one -/
structure Made (f : Str) (h h' : Heap) (e C d : Addr) (v : Value) : Prop where
  keep : ∀ b o, h.get? b = some o → h'.get? b = some o
  new : h.objs.size ≤ e
  obj : ∃ oe vs, h'.get? e = some oe ∧ oe.cls = .ref C ∧ oe.dict = some d ∧ oe.data = .fields vs ∧ vs[1]? = some .none
  dbig : h.objs.size ≤ d
  dne : d ≠ e
  ns : h'.Ns1 d (fun y => if y = f then some v else none)
section
variable {prog : Program} {w : World} {A : Around} {R : Result → Shared → Prop} {s : Shared} {K : Frag} {mg : Str → Option Value} {C fI : Addr} {B i newId : String} {bmB : List Value} {f : Str}
theorem ini_made (T : Txt prog K mg C fI B i newId bmB f) {v : Value} (X : K.In s.heap) (hlim : s.heap.NoLimit) (hg : s.heap.Ns mainGlobals mg) (hb : ∃ mb, s.heap.Ns builtinsNs mb ∧ ∀ x : Str, x ≠ "__name__" → mb x = bootBuiltins x) (hroom : A.depth + 1 < recursionLimit)
    (hq : ∀ h' tk e d, Made f s.heap h' e C d v → R (.ok (.ret (.ref e))) { s with heap := h', toks := tk }) :
    codeAny (model prog w) A (.call (.ref C) ⟨[v], []⟩) R s := by
  obtain ⟨nm, N', qn, bs, bm, hdct, sn, sub, ab, col, dd, k0, k1, k2, k3, k5, hC, hT⟩ := excInit_of X T.ex
  obtain ⟨hp, g, dr, tk, os⟩ := s
  have k : ∀ b o, hp.get? b = some o → ((hp.push (kdv_tup [v])).push (HandSPX.excO C hp.objs.size)).get? b = some o := fun b o e => Heap.get?_push_of_some _ (Heap.get?_push_of_some _ e)
  have hget : ((hp.push (kdv_tup [v])).push (HandSPX.excO C hp.objs.size)).get? (hp.objs.size + 1) = some (HandSPX.excO C hp.objs.size) := by heap_get
  have hnx : K.lookup (hp.objs.size + 1) = none := by
    cases e : K.lookup (hp.objs.size + 1) with
    | none => rfl
    | some o =>
      have z : hp.get? (hp.objs.size + 1) = some o := X _ _ e
      exact absurd (Nat.lt_of_succ_lt (Heap.lt_size z)) (Nat.lt_irrefl _)
  refine HandSPX.call_own T.FB hT hC (looks_findIn X T.iC) (fun self => bind_fn X self T.tC) (by show 1 ≤ sizeLine; rw [sizeLine_eq]; omega) ?_
  obtain ⟨mb, hmb, hboot⟩ := hb
  refine ini_run (s := ⟨(hp.push (kdv_tup [v])).push (HandSPX.excO C hp.objs.size), g, dr, tk, os⟩) T (t0 := hp.objs.size) (X.keeps k) (hlim.keeps k) (hg.keeps k) ⟨mb, hmb.keeps k, hboot⟩ hget hnx hroom fun h' tk' dx t1 k' hx dn dne hns => ?_
  have old : ∀ b o, hp.get? b = some o → h'.get? b = some o := fun b o e => k' b o (Nat.ne_of_lt (Nat.lt_succ_of_lt (Heap.lt_size e))) (k b o e)
  have z : hp.objs.size + 1 + 1 ≤ dx := by
    first
      | (simpa only [Heap.size_push] using dn)
      | exact dn
      | (have q := dn; rw [Heap.size_push, Heap.size_push] at q; exact q)
  exact ⟨rfl, hq h' tk' (hp.objs.size + 1) dx ⟨old, Nat.le_succ _, ⟨_, _, hx, rfl, rfl, rfl, rfl⟩, Nat.le_trans (Nat.le_trans (Nat.le_succ _) (Nat.le_succ _)) z, dne, hns⟩⟩
end
end XI
end PySem
namespace EV
open PySem PySem.Spec PyProof.Rows L2
theorem relO_xi {v : V} {v' : Value} {g : Str} (r : RelV v v') (f : Str) : L2.RelO (List.lookup f [(g, v)]) (if f = g then some v' else none) := by
  by_cases hw : f = g
  · subst hw
    rw [if_pos rfl]
    have q : List.lookup f [(f, v)] = some v := by simp [List.lookup]
    rw [q]
    exact r
  · rw [if_neg hw]
    have qw : (f == g) = false := by simpa using hw
    have q2 : List.lookup f [(g, v)] = none := by simp [List.lookup, qw]
    rw [q2]
    trivial
section
variable {X : Cx} {C fI : Addr} {B i newId : String} {bmB : List Value} {f : Str}
/-- C(e) -/
def tMkI (C : Addr) (f : Str) (ta : TA) : L2.St → Hp → XK → Prop := fun σ H Q => ta σ H fun vs H1 => ∃ v, vs = [v] ∧ ∀ d, H1 d = none → Q (.ref C) (some d) (upd H1 d (.xd [(f, v)]))
theorem pmk_ini {a : Expr} {ta : TA} {x : Str} {p pos : Pos} {k : Nat} (T : PySem.XI.Txt X.prog X.K X.mg C fI B i newId bmB f) (hm : X.mg x = some (.ref C)) (hr : Room k X.A) (ha : PA X [a] ta) (hg : Gl X x)
    (ns : starB a = false) (hdb : (x == ("__debug__" : Str)) = false) :
    PMk X (.Call (.Name x p) [a] [] pos) (tMkI C f ta) := by
  intro pins s σ H Q I h
  refine wpAny_Call_Name_kw (ld_glob I hg hm ?_ hdb)
  refine PySem.W.callWith_K (h₀ := X.base) I.ok.mod.kin T.kC (thn (ha.run pos pins s σ H _ I h) fun us s1 hh => ?_) (starEach_cons ns) (by rfl)
  obtain ⟨vs, H1, I1, r1, v, ev, q1⟩ := hh
  subst ev
  refine ⟨I1.kIn, ?_⟩
  cases r1 with
  | cons rv rn =>
    rename_i v' us'
    cases rn
    show wpAny _ _ (call (.ref C) [v']) _ _ _
    have hlim := I1.nolimit
    have bk := I1.bk
    obtain ⟨mb, hmb, hboot⟩ := I1.ok.mod.blt
    obtain ⟨hp, g, dr, tk, os⟩ := s1
    refine wpAny_call (PySem.XI.ini_made T I1.kIn hlim (I1.ok.mod.glob.keeps bk) ⟨mb, hmb.keeps bk, hboot⟩ (by have := hr.dp; omega) fun h' tk' e d M => ?_)
    show MkP X pins σ Q (.ref e) ⟨h', g, dr, tk', os⟩
    obtain ⟨oe, fv, hoe, hc, hd, hdat, h1⟩ := M.obj
    have hns := M.ns
    obtain ⟨G', g1, g2⟩ := restrict h' fun b => decide (b ≠ e)
    have gk : ∀ b, b ≠ e → G'.get? b = h'.get? b := fun b hb => g1 b (decide_eq_true hb)
    have ge : G'.get? e = none := g2 e (by simp)
    have old : ∀ b o, hp.get? b = some o → G'.get? b = some o := fun b o q => (gk b (Nat.ne_of_lt (Nat.lt_of_lt_of_le (Heap.lt_size q) M.new))).trans (M.keep b o q)
    have ob : ObjOk X.prog X.w (upd H1 d (.xd [(f, v)])) G' d (.xd [(f, v)]) :=
      ⟨_, hns.at (fun o q => (gk d M.dne).trans q), fun f => relO_xi rv f⟩
    have J : Inv X pins σ (upd H1 d (.xd [(f, v)])) ⟨G', g, dr, tk', os⟩ := I1.laid (t' := tk') old M.dbig ob
    refine ⟨e, oe, fv, ⟨G', g, dr, tk', os⟩, _, .ref C, some d, rfl, J, fun b o q => ?_, ge, hoe, ⟨hc, hd⟩, hdat, h1, ?_, rfl, I1.bare, raises_own T.exC T.tyC, q1 d (I1.hok.fresh M.dbig)⟩
    · by_cases hb : b = e
      · have q' : G'.get? b = some o := q
        rw [hb, ge] at q'; cases q'
      · exact (gk b hb).symm.trans q
    · rw [upd_ne (Ne.symm M.dne)]
      exact I1.hok.fresh M.new
variable {G : Glo} {ρ ρ' : List Addr} {H H' : Hp} {h h' : Hea}
theorem RelD.quiet {d : EV.D} {v : V} (q : RelD G ρ H d v) (r : RelH G ρ H h) {p : Addr} {o : HO} (n : H p = none) : RelD G ρ (upd H p o) d v := q.keep r (Ext.quiet n)
theorem sndx_ini {a : Expr} {r : Env → Hea → Res EV.D} {x : Str} {k lev : Nat} {p pos : Pos} (T : PySem.XI.Txt X.prog X.K X.mg (G.ca k) fI B i newId bmB (G.fld k)) (hm : X.mg x = some (.ref (G.ca k))) (hr : Room lev X.A) (ha : Snd G X a r) (hg : Gl X x) (ns : starB a = false) (hdb : (x == ("__debug__" : Str)) = false) (hk : k < G.nc) :
    SndX G X (.Call (.Name x p) [a] [] pos) (fun σ h => (r σ h).bind fun d h1 => .ok ⟨k, some d⟩ h1) := fun W tk pins s σ H Q I ⟨ρ, σd, h, st, rh, z⟩ => by
  refine pmk_ini T hm hr (pa_cons (ha W tk) pa_nil (starEach_cons ns)) hg ns hdb pins s σ H Q I ?_
  rw [Res.all_bind] at z
  refine ⟨ρ, σd, h, st, rh, Res.all_mono (fun d h1 z ρ1 H1 v x1 rd r1 => ?_) (fun _ _ p => p) z⟩
  refine ⟨v, rfl, fun dd n => ?_⟩
  refine z ρ1 _ _ _ (Ext.trans r1 x1 (Ext.quiet n)) ⟨rfl, hk, fun w e => ?_⟩ (r1.fresh_quiet n)
  cases e
  exact ⟨dd, v, rfl, upd_same, rd.quiet r1 n, r1.notnone n⟩
end
end EV

set_option Elab.async false
set_option linter.all false
set_option maxRecDepth 100000
set_option maxHeartbeats 2000000
/-! EvQ: the check that a code tree is the program's expression. -/
namespace EV
open PySem PySem.Spec PyProof.Rows L2
structure Ctx where
  N : List Str
  sc : Scope
  calm : Bool
  cell : Str → Bool
  sx : Option Nat
  lp : Bool
  lam : Bool
  gd : Bool
structure Stat where
  gfn : Str → Option Nat
  gcst : Str → Option A
  gcls : Str → Option Nat
  isB : Str → Bool
  fld : Nat → Option Str
  ini : Nat → Bool
  gmet : Str → Option Nat
  gdf : Nat → Bool
def visB (sc : Scope) (x : Str) : Bool := match sc.names.lookup x with
  | some .local => true
  | some .cell => true
  | some .free => true
  | _ => false
def glB (sc : Scope) (x : Str) : Bool := match sc.names.lookup x with
  | some .globalImplicit => true
  | _ => false
def locB (sc : Scope) (x : Str) : Bool := match sc.names.lookup x with
  | some .local => true
  | some .cell => true
  | _ => false
def lclB (sc : Scope) (x : Str) : Bool := match sc.names.lookup x with
  | some .local => true
  | _ => false
def nmB (x : Str) : Bool := !(x == ("__debug__" : Str)) && !(x == ("__classdict__" : Str)) && !(x == ("__name__" : Str))
theorem visB_ok {sc : Scope} {x : Str} (h : visB sc x = true) : Vis sc x := by
  unfold visB at h
  unfold Vis
  split at h <;> simp_all
theorem glB_ok {X : Cx} {sc : Scope} {x : Str} (e : X.env.scope = sc) (h : glB sc x = true) : Gl X x := by
  unfold glB at h
  show X.env.scope.names.lookup x = some .globalImplicit
  rw [e]
  split at h <;> simp_all
theorem locB_ok {sc : Scope} {x : Str} (h : locB sc x = true) : L2.Loc sc x := by
  unfold locB at h
  unfold L2.Loc
  split at h <;> simp_all
theorem lclB_ok {sc : Scope} {x : Str} (h : lclB sc x = true) : sc.names.lookup x = some .local := by
  unfold lclB at h
  split at h <;> simp_all
structure NmOk (x : Str) : Prop where
  d : (x == ("__debug__" : Str)) = false
  c : (x == ("__classdict__" : Str)) = false
  n : x ≠ "__name__"
theorem nmB_ok {x : Str} (h : nmB x = true) : NmOk x := by
  unfold nmB at h
  simp only [Bool.and_eq_true, Bool.not_eq_true'] at h
  exact ⟨h.1.1, h.1.2, by simpa using h.2⟩
section
variable {G : Glo} {ρ ρ' ρ1 : List Addr} {H H' H1 : Hp} {h h' h1 : Hea} {X : Cx}
/-- what the def makes of the lambda's answer -/
def TTm (G : Glo) (met : (Hea → Res EV.D) → Hea → Res EV.D) : (XK → Hp → VK → Prop) → Hp → VK → Prop := fun tl H Q =>
  ∃ (ρ : List Addr) (h : Hea) (act : Hea → Res EV.D), RelH G ρ H h ∧ ((met act h).noexc).all (PostE G ρ H Q) (fun _ _ => False) ∧
    ∀ Q' E, (act h).all (PostE G ρ H Q') (PostX G ρ H E) → tl E H Q'
theorem RelH.extN (r : RelH G ρ H h) (e : LamX.ExtN H H1) (t : LamX.Tabs G.T H1) : Ext ρ H ρ H1 ∧ RelH G ρ H1 h := by
  have x : Ext ρ H ρ H1 := ⟨⟨[], by simp, by simp⟩, fun b o hb _ nt => e b o hb nt⟩
  refine ⟨x, r.len, r.nd, fun m o p e1 e2 => ?_, t, r.sc.keep x⟩
  have q := r.ob m o p e1 e2
  refine q.keep r x ?_
  obtain ⟨m1, m2⟩ := q.mut
  cases hz : H p with
  | none => rw [hz] at m1; exact m1.elim
  | some u => exact e p u hz fun ps z => m2 ps (by rw [hz, z])
/-- the lambda's call, read -/
theorem tlam {met : (Hea → Res EV.D) → Hea → Res EV.D} {re : Env → Hea → Res EV.D} {W : WX} {σ : L2.St} {Q : VK} (q : tV G (fun σ h => (met (re σ) h).noexc) W σ H Q) :
    LamX.tLam G.T (TTm G met) (fun E => tV G re (fun c d _ H' => E c d H')) σ H Q := by
  obtain ⟨ρ, σd, h, st, rh, q⟩ := q
  refine ⟨rh.tab, fun H1 e t => ?_⟩
  obtain ⟨x, r1⟩ := rh.extN e t
  exact ⟨ρ, h, re σd, r1, (noexcP (Res.all_mono (fun _ _ p => p.mv r1 x) (fun _ _ p => p) q)), fun Q' E z => ⟨ρ, σd, h, st.keep rh x, r1, z⟩⟩
where
  noexcP {α : Type} {P : α → Hea → Prop} {Y Y' : Exn → Hea → Prop} : ∀ {r : Res α}, (r.noexc).all P Y → (r.noexc).all P Y'
    | .ok _ _, q => q
    | .exc _ _, q => q
    | .ask n k, q => fun i hi => noexcP (r := k i) (q i hi)
    | .bad, q => q
end
/-- the def x calls what it gets within a try -/
def GivX (G : Glo) (X : Cx) (x : Str) (met : (Hea → Res EV.D) → Hea → Res EV.D) : Prop :=
  ∃ (g : Addr) (pg : Arguments) (bg : List Stmt) (sg : Scope) (dV kV doc pm cdv ct oc : Value) (an od : Option Addr) (osl : Array (Option Value)) (Ng : List Str) (a : Str),
    X.mg x = some (.ref g) ∧ PySem.W.keepIn X.K (.ref g) = true ∧ X.K.lookup g = some ⟨oc, od, .func (PySem.W.fnOf x x pg bg sg dV kV doc pm an cdv ct), osl⟩ ∧ PySem.W.codeIn X.K cdv x = true ∧
      L2.Binds X.K (PySem.W.fnOf x x pg bg sg dV kV doc pm an cdv ct) [a] [] ∧ FnScope Ng [a] sg ∧ Ng[0]? = some a ∧ Vis sg a ∧ NmOk a ∧ NmOk x ∧ ∀ qn, LamX.GivesTo X Ng x sg g cdv bg a qn (TTm G met)
/-- what the making of a lambda asks -/
def LamOk (G : Glo) (X : Cx) : Prop := ∃ cda Pt, X.env.code = .ref cda ∧ LamX.TabB X.base X.mg cda Pt ∧ (Pt, X.env.qual ++ "<lambda>") ∈ G.T ∧ ∀ p ∈ G.T, p.1 = Pt → p.2 = X.env.qual ++ "<lambda>"
theorem room_ub {k : Nat} {A : Around} (r : Room k A) : A.units + 100 < cLine := by have := r.un; omega
/-- the context is as told -/
structure CxOk (G : Glo) (S : Stat) (c : Cfg) (lev : Nat) (C : Ctx) (X : Cx) : Prop where
  K : X.K = G.K
  w : X.w = G.w
  N : X.N = C.N
  nd : C.N.Nodup
  sc : X.env.scope = C.sc
  calm : C.calm = true → X.calm = true
  cc : c.calm = C.calm
  room : C.calm = true → Room lev X.A
  fn : ∀ x, C.cell x = true → X.fn x = true
  gf : ∀ x i, S.gfn x = some i → X.mg x = some (.ref (G.fa i))
  dok : ∀ i, c.ok i = true → DefOk G X.prog X.w X.mg X.base lev (c.call i) i
  gc : ∀ x d, S.gcst x = some d → ∃ v u, X.mg x = some u ∧ RelV v u ∧ ∀ H, RelA G H d v
  bi : ∀ x, S.isB x = true → X.mg x = none
  gdc : c.gdf = G.gdf
  gds : G.gdf = S.gdf
  gd : C.gd = true → X.A.guards = some []
  ub : X.A.units + 100 < cLine
  sx : C.sx.isSome = true → ∃ (G0 : Glo) (Y : Cx) (a : Addr) (oe : PySem.Obj) (cls : Value) (d : Option Addr) (pn : List (Addr × PySem.Obj)) (e : Nat), G = G0.at a d e ∧ X = Y.suite a ((a, oe) :: pn) ∧ Zc cls d oe ∧ (∃ vs, oe.data = .fields vs) ∧ cls = .ref (G0.ca e) ∧
    ∀ k n, S.fld k = some n → XfC Y.K (G0.ca k) ∧ PySem.W.findIn Y.K (.ref (G0.ca k)) n = some none ∧ G0.fld k = n
  lm : C.lam = true → LamOk G X ∧ Room (lev + 2) X.A ∧ ∀ x g, S.gmet x = some g → ∃ met, GivX G X x met ∧ ∀ act h, c.met g act h = (met act h).noexc
section
variable {G : Glo} {S : Stat} {c : Cfg} {lev : Nat} {C : Ctx} {X : Cx}
theorem CxOk.nN (o : CxOk G S c lev C X) : X.N.Nodup := by rw [o.N]; exact o.nd
theorem CxOk.gl (o : CxOk G S c lev C X) {x : Str} (h : glB C.sc x = true) : Gl X x := glB_ok o.sc h
theorem CxOk.vis (o : CxOk G S c lev C X) {x : Str} (h : visB C.sc x = true) : Vis X.env.scope x := by rw [o.sc]; exact visB_ok h
theorem CxOk.at (o : CxOk G S c lev C X) {x : Str} {i : Nat} (h : C.N[i]? = some x) : X.N[i]? = some x := by rw [o.N]; exact h
theorem CxOk.un (o : CxOk G S c lev C X) (h : C.calm = true) : X.A.units + 65 < cLine := by
  have := (o.room h).un
  omega
theorem snd_bad {e : Expr} : Snd G X e (fun _ _ => .bad) := fun W tk => ⟨fun _ _ _ _ _ _ ⟨_, _, _, _, _, q⟩ => q.elim⟩
theorem sndt_bad {e : Expr} : SndT G X e (fun _ _ => .bad) := fun W tk => ⟨fun _ _ _ _ _ _ ⟨_, _, _, _, _, q⟩ => q.elim⟩
theorem Snd.to {e : Expr} {r r' : Env → Hea → Res D} (s : Snd G X e r) (k : ∀ σ h ρ H Q (W : Exn → Hea → Prop), (r' σ h).all (PostE G ρ H Q) W → (r σ h).all (PostE G ρ H Q) W) : Snd G X e r' := fun W tk =>
  PE.imp (s W tk) fun σ H Q ⟨ρ, σd, h, st, rh, q⟩ => ⟨ρ, σd, h, st, rh, k _ _ _ _ _ _ q⟩
theorem RelU.mem {ρ : List Addr} {H : Hp} {v : V} : ∀ {xs : List D} {x : D}, x ∈ xs → RelD G ρ H x v → RelU G ρ H xs v
  | [], _, h, _ => by cases h
  | a :: xs, x, h, q => by
    rcases List.mem_cons.mp h with rfl | h
    · exact .hd q
    · exact .tl (RelU.mem h q)
mutual
theorem RelD.alts {ρ : List Addr} {H : Hp} : ∀ (d : D) (v : V), RelD G ρ H d v → ∃ x ∈ EV.alts d, RelD G ρ H x v
  | .opt xs, v, q => by
    cases q with
    | opt q => exact RelU.alts xs v q
  | .a x, v, q => ⟨.a x, List.mem_cons_self, q⟩
  | .ref x, v, q => ⟨.ref x, List.mem_cons_self, q⟩
  | .tupR x, v, q => ⟨.tupR x, List.mem_cons_self, q⟩
  | .exn0 x, v, q => ⟨.exn0 x, List.mem_cons_self, q⟩
  | .exn1 x y, v, q => ⟨.exn1 x y, List.mem_cons_self, q⟩
  | .scr, v, q => ⟨.scr, List.mem_cons_self, q⟩
theorem RelU.alts {ρ : List Addr} {H : Hp} : ∀ (xs : List D) (v : V), RelU G ρ H xs v → ∃ x ∈ EV.altss xs, RelD G ρ H x v
  | [], v, q => by cases q
  | d :: xs, v, q => by
    cases q with
    | hd q =>
      obtain ⟨x, m, r⟩ := RelD.alts d v q
      exact ⟨x, List.mem_append_left _ m, r⟩
    | tl q =>
      obtain ⟨x, m, r⟩ := RelU.alts xs v q
      exact ⟨x, List.mem_append_right _ m, r⟩
end
theorem frcA_all {ρ : List Addr} {H : Hp} {P : D → Hea → Prop} {X : Exn → Hea → Prop} : ∀ {st : List Bool} {F : List D → Res D} {ds : List D} {vs : List V}, (frcA st F ds).all P X → RelDs G ρ H ds vs → ∃ ds', RelDs G ρ H ds' vs ∧ (F ds').all P X
  | [], F, ds, vs, q, r => by
    have e : frcA [] F ds = F ds := by cases ds <;> rfl
    rw [e] at q
    exact ⟨ds, r, q⟩
  | b :: bs, F, [], vs, q, r => ⟨[], r, q⟩
  | b :: bs, F, d :: ds, _, q, .cons rd rs => by
    have plain : (frcA bs (fun r => F (d :: r)) ds).all P X → ∃ ds', RelDs G ρ H ds' (_ :: _) ∧ (F ds').all P X := fun q => by
      obtain ⟨ds', r', q'⟩ := frcA_all q rs
      exact ⟨d :: ds', .cons rd r', q'⟩
    unfold frcA at q
    split at q
    · rename_i xs
      cases rd with
      | opt u =>
        obtain ⟨x, m, rx⟩ := RelU.alts xs _ u
        obtain ⟨k, hk, e⟩ := List.mem_iff_getElem.mp m
        have z := q k hk
        dsimp only at z
        rw [List.getElem?_eq_getElem hk, e] at z
        obtain ⟨ds', r', q'⟩ := frcA_all z rs
        exact ⟨x :: ds', .cons rx r', q'⟩
    · exact plain q
theorem PostE.lz {ρ : List Addr} {H : Hp} {Q : VK} {xs : List D} {h : Hea} (p : PostE G ρ H Q (.opt xs) h) {x : D} (m : x ∈ xs) : PostE G ρ H Q x h := fun ρ' H' v y rd r => p ρ' H' v y (.opt (RelU.mem m rd)) r
theorem PostE.frc {ρ : List Addr} {H : Hp} {Q : VK} {xs : List D} {h : Hea} (p : ∀ x ∈ EV.altss xs, PostE G ρ H Q x h) : PostE G ρ H Q (.opt xs) h := fun ρ' H' v y rd r => by
  cases rd with
  | opt q =>
    obtain ⟨x, m, rx⟩ := RelU.alts xs v q
    exact p x m ρ' H' v y rx r
theorem snd_frc {e : Expr} {r : Env → Hea → Res D} (s : Snd G X e r) : Snd G X e (fun σ h => frcR (r σ h)) := s.to fun σ h ρ H Q W q => frcR_all (fun xs h p => PostE.frc p) q
theorem snd_lz {e : Expr} {r : Env → Hea → Res D} (s : Snd G X e r) : Snd G X e (fun σ h => lzR (r σ h)) := s.to fun σ h ρ H Q W q => lzR_all (fun xs h p x m => PostE.lz p m) q
theorem Snd.congr {e : Expr} {r r' : Env → Hea → Res D} (h : Snd G X e r) (q : ∀ σ h, r' σ h = r σ h) : Snd G X e r' := by
  have : r' = r := funext fun σ => funext fun h => q σ h
  rw [this]; exact h
theorem SndT.congr {e : Expr} {r r' : Env → Hea → Res D} (h : SndT G X e r) (q : ∀ σ h, r' σ h = r σ h) : SndT G X e r' := by
  have : r' = r := funext fun σ => funext fun h => q σ h
  rw [this]; exact h
theorem Res.bind_assoc {α β γ : Type} {f : α → Hea → Res β} {g : β → Hea → Res γ} : ∀ {r : Res α}, (r.bind f).bind g = r.bind fun a h => (f a h).bind g
  | .ok _ _ => rfl
  | .exc _ _ => rfl
  | .ask n k => by
    show Res.ask n _ = Res.ask n _
    congr 1
    funext i
    exact Res.bind_assoc
  | .bad => rfl
/-! ### the pieces -/
def chkAll {α β : Type} (f : α → β → Bool) : List α → List β → Bool
  | [], [] => true
  | a :: as, b :: bs => f a b && chkAll f as bs
  | _, _ => false
def nost (xs : List Expr) : Bool := xs.all fun e => !starB e
def opB : Bop → Operator → Bool
  | .add, .Add => true
  | .sub, .Sub => true
  | .mul, .Mult => true
  | .fdiv, .FloorDiv => true
  | .mod, .Mod => true
  | .pow, .Pow => true
  | _, _ => false
theorem opB_ok (hK : X.K = G.K) {o : Bop} {op : Operator} (h : opB o op = true) : OpS G X (binaryOp op) (bopD o) := by
  unfold opB at h
  split at h <;> first | cases h; done | exact ops_add hK | exact ops_sub | exact ops_mul hK | exact ops_fdiv | exact ops_mod | exact ops_pow
def copB (calm : Bool) : Cop → CmpOp → Bool
  | .eq, .Eq => calm
  | .ne, .NotEq => calm
  | .lt, .Lt => true
  | .le, .LtE => true
  | .gt, .Gt => true
  | .ge, .GtE => true
  | .inn, .In => calm
  | .nin, .NotIn => calm
  | _, _ => false
theorem copB_ok (o : CxOk G S c lev C X) {k : Cop} {op : CmpOp} (h : copB C.calm k op = true) : OpS G X (compareOp op) (fun d e h => blR (copD k d e h) h) := by
  unfold copB at h
  split at h <;> first
    | cases h; done
    | exact ops_eq o.K o.w (Nat.lt_of_succ_lt (o.un h))
    | exact ops_ne o.K o.w (Nat.lt_of_succ_lt (o.un h))
    | exact ops_lt | exact ops_le | exact ops_gt | exact ops_ge
    | exact ops_in o.K o.w (o.un h) | exact ops_nin o.K o.w (o.un h)
def cstB : A → Const → Bool
  | .non, .none => true
  | .bl a, .bool b => a == b
  | .int i, .int j => decide (i = j)
  | .str s, .str t => decide (t.cps.toList = s)
  | _, _ => false
def isNoneE : Expr → Bool
  | .Constant .none _ _ => true
  | _ => false
def cst0 : IR → Bool
  | .cst .non => true
  | _ => false
/-- a built-in: its name, whether a type, its id -/
def biN : Bi → Option (String × Bool)
  | .len => some ("len", false)
  | .tuple => some ("tuple", true)
  | .list => some ("list", true)
  | .all => some ("all", false)
  | .any => some ("any", false)
  | .sum => some ("sum", false)
  | .sorted => some ("sorted", false)
  | .abs => some ("abs", false)
  | .int => some ("int", true)
  | .max2 => some ("max", false)
  | .min2 => some ("min", false)
  | _ => none
def meN : Me → Option (String × Nat)
  | .append => some ("append", 1)
  | .extend => some ("extend", 1)
  | .pop => some ("pop", 0)
  | _ => none
def baseB : Expr → Bool
  | .Name .. => true
  | .Subscript .. => true
  | .Call _ (_ :: _) _ _ => true
  | .Call (.Attribute ..) _ _ _ => true
  | _ => false
/-- a method of a dict: its name -/
def dmN : Dm → String
  | .get => "get"
  | .setdefault => "setdefault"
  | .update => "update"
  | .copy => "copy"
def dmOk : Dm → Bool
  | .copy => false
  | _ => true
def notSet : Expr → Bool
  | .Set .. => false
  | _ => true
theorem notSet_ok {e : Expr} (h : notSet e = true) {env : PySem.Env} : ∀ x, foldedSetIterable e env x = pure x := fun x => by
  cases e <;> first | rfl | (simp [notSet] at h)
def ownL (N : List Str) (own : List Nat) : List (Str × Nat) := own.map fun i => ((N[i]?).getD "", i)
theorem ownL_snd {N : List Str} {own : List Nat} : (ownL N own).map (·.2) = own := by
  unfold ownL
  rw [List.map_map]
  induction own with
  | nil => rfl
  | cons a r ih => simp [ih]
def Ctx.comp (C : Ctx) (scope : Scope) : Ctx := { C with sc := relS scope C.sc, cell := fun x => scope.names.lookup x == some .cell, sx := none }
def Ctx.lamc (C : Ctx) (scope : Scope) : Ctx := ⟨C.N, scope, true, fun _ => false, none, false, false, false⟩
def storeB (C : Ctx) (x : Str) (i : Nat) : Bool := decide (C.N[i]? = some x) && locB C.sc x && (C.cell x || lclB C.sc x)
theorem storeB_ok (o : CxOk G S c lev C X) {x : Str} {i : Nat} (h : storeB C x i = true) : StoreOk X x i := by
  unfold storeB at h
  simp only [Bool.and_eq_true, Bool.or_eq_true, decide_eq_true_eq] at h
  refine ⟨o.at h.1.1, by rw [o.sc]; exact locB_ok h.1.2, ?_⟩
  rcases h.2 with z | z
  · exact .inl (o.fn x z)
  · exact .inr (by rw [o.sc]; exact lclB_ok z)
def tgB (C : Ctx) : Tg → Expr → Bool
  | .nm i, .Name x _ => storeB C x i
  | .tp is, .Tuple es _ _ => chkAll (fun i e => match e with | .Name x _ => storeB C x i | _ => false) is es
  | _, _ => false
theorem chkAll_len {α β : Type} {f : α → β → Bool} : ∀ {as : List α} {bs : List β}, chkAll f as bs = true → bs.length = as.length
  | [], [], _ => rfl
  | a :: as, b :: bs, h => by
    simp only [chkAll, Bool.and_eq_true] at h
    simp [chkAll_len h.2]
  | [], _ :: _, h => by simp [chkAll] at h
  | _ :: _, [], h => by simp [chkAll] at h
theorem chkAll_get {α β : Type} {f : α → β → Bool} : ∀ {as : List α} {bs : List β} {k : Nat} {a : α} {b : β}, chkAll f as bs = true → as[k]? = some a → bs[k]? = some b → f a b = true
  | [], _, _, _, _, _, e, _ => by simp at e
  | _ :: _, [], _, _, _, h, _, _ => by simp [chkAll] at h
  | a :: as, b :: bs, 0, _, _, h, e1, e2 => by
    simp only [chkAll, Bool.and_eq_true] at h
    simp at e1 e2
    subst e1 e2
    exact h.1
  | a :: as, b :: bs, k + 1, _, _, h, e1, e2 => by
    simp only [chkAll, Bool.and_eq_true] at h
    exact chkAll_get h.2 (by simpa using e1) (by simpa using e2)
theorem tgB_ok (o : CxOk G S c lev C X) {t : Tg} {e : Expr} (h : tgB C t e = true) : TgOk X e t := by
  unfold tgB at h
  split at h
  · rename_i i x p
    exact ⟨x, p, rfl, storeB_ok o h⟩
  · rename_i is es k p
    refine ⟨es, k, p, rfl, chkAll_len h, fun j e i e1 e2 => ?_⟩
    have z := chkAll_get h e2 e1

    split at z
    · exact ⟨_, _, rfl, storeB_ok o z⟩
    · cases z
  · cases h
end
end EV

set_option Elab.async false
set_option linter.all false
set_option maxRecDepth 100000
set_option maxHeartbeats 4000000
/-! EvR: one step of the check, and that it is sound. -/
namespace EV
open PySem PySem.Spec PyProof.Rows L2
abbrev ChkF := Ctx → IR → Expr → Bool
def chkIt (S : Stat) (f : ChkF) (C : Ctx) (tg : Expr) : It → Expr → Bool
  | .seq e, x => f C e x
  | .rng e, .Call (.Name n _) [x] [] _ => n == "range" && glB C.sc n && S.isB n && !starB x && f C e x
  | .rng2 a b, .Call (.Name n _) [x, y] [] _ => n == "range" && glB C.sc n && S.isB n && !starB x && !starB y && f C a x && f C b y
  | .enum e, .Call (.Name n _) [x] [] _ => n == "enumerate" && glB C.sc n && S.isB n && !starB x && f C e x && (match tg with | .Tuple .. => true | _ => false)
  | .zip a b, .Call (.Name n _) [x, y] [] _ => n == "zip" && glB C.sc n && S.isB n && !starB x && !starB y && f C a x && f C b y && (match tg with | .Tuple .. => true | _ => false)
  | _, _ => false
def chkKs (g : IR → Expr → Bool) : List (IR × IR) → List (Option Expr) → List Expr → Bool
  | [], [], [] => true
  | (a, b) :: r, some k :: ks, v :: vs => g a k && g b v && chkKs g r ks vs
  | _, _, _ => false
/-- what of a dict is walked -/
def chkDI (f : ChkF) (C : Ctx) (k : Dk) (tg : Expr) (e : IR) (it : Expr) : Bool := match k, it with
  | .keys, it => f C e it
  | .vals, .Call (.Attribute v n ap) [] [] p => n == "values" && f C e v && baseB v && ap.endLine == p.line
  | .items, .Call (.Attribute v n ap) [] [] p => n == "items" && f C e v && baseB v && ap.endLine == p.line && (match tg with | .Tuple .. => true | _ => false)
  | _, _ => false
def chkSt (g : IR → Expr → Bool) : List (Bool × IR) → List Expr → Bool
  | [], [] => true
  | (true, e) :: r, .Starred x _ :: xs => g e x && chkSt g r xs
  | (false, e) :: r, x :: xs => !starB x && g e x && chkSt g r xs
  | _, _ => false
def chkStep (S : Stat) (f : ChkF) (C : Ctx) : IR → Expr → Bool
  | .cst d, .Constant k _ _ => cstB d k
  | .cst d, .Name x _ => nmB x && glB C.sc x && (match S.gcst x with
    | some d' => A.same d d'
    | none => match S.gfn x, d with
      | some i, .fn j => i == j
      | _, _ => false)
  | .var i, .Name x _ => decide (C.N[i]? = some x) && visB C.sc x && nmB x
  | .tup es, .Tuple xs _ _ => chkAll (f C) es xs && nost xs
  | .lst es, .List xs _ => chkAll (f C) es xs && nost xs
  | .bin o a b, .BinOp x op y _ => opB o op && f C a x && f C b y
  | .neg a, .UnaryOp .USub x _ => f C a x
  | .not a, .UnaryOp .Not x _ => f C a x
  | .isn a, .Compare x [.Is] [.Constant .none _ _] _ => f C a x
  | .isnt a, .Compare x [.IsNot] [.Constant .none _ _] _ => f C a x
  | .cmp o a b, .Compare x [op] [y] _ => copB C.calm o op && !behindInMarks op y && f C a x && f C b y
  | .cmp2 o p a b e, .Compare x [op, op'] [y, z] _ => copB C.calm o op && copB C.calm p op' && !lastMarks [op, op'] [y, z] && f C a x && f C b y && f C e z
  | .and es, .BoolOp .And xs _ => !xs.isEmpty && chkAll (f C) es xs
  | .or es, .BoolOp .Or xs _ => !xs.isEmpty && chkAll (f C) es xs
  | .ife t a b, .IfExp u x y _ => f C t u && f C a x && f C b y
  | .slc a lo hi, .Subscript x (.Slice lo' hi' none _) _ => f C a x && (match lo, lo' with
      | none, none => true
      | some l, some l' => f C l l'
      | _, _ => false) && (match hi, hi' with
      | none, none => true
      | some l, some l' => f C l l'
      | _, _ => false)
  | .sub a i, .Subscript x y _ => f C a x && f C i y && !sliceB y
  | .call g es, .Call (.Name x _) (y :: ys) [] _ => (C.gd || !S.gdf g) && decide (S.gfn x = some g) && glB C.sc x && nmB x && C.calm && chkAll (f C) es (y :: ys) && nost (y :: ys)
  | .callv i es, .Call (.Name x _) (y :: ys) [] _ => decide (C.N[i]? = some x) && visB C.sc x && nmB x && C.calm && chkAll (f C) es (y :: ys) && nost (y :: ys)
  | .bi (.isi t) [e], .Call (.Name x _) [y, .Name T _] [] _ => x == "isinstance" && glB C.sc x && S.isB x && f C e y && !starB y && decide (t < 6) && T == PySem.Str.ofString (tyName t) && glB C.sc T && S.isB T && nmB T
  | .bi .repr [e], .Call (.Name x _) [y] [] _ => x == "repr" && glB C.sc x && S.isB x && f C e y && !starB y && C.gd
  | .bi .lrange [e], .Call (.Name x _) [.Call (.Name r _) [y] [] _] [] _ => x == "list" && r == "range" && glB C.sc x && glB C.sc r && S.isB x && S.isB r && f C e y && !starB y && C.calm
  | .bi b es, .Call (.Name x _) (y :: ys) [] _ => (match biN b with
      | some (n, _) => x == PySem.Str.ofString n && glB C.sc x && S.isB x && chkAll (f C) es (y :: ys) && nost (y :: ys) && C.calm
      | none => false)
  | .me m o [e], .Call (.Attribute v n ap) [y] [] p => (match meN m with
      | some (n', 1) => n == PySem.Str.ofString n' && f C o v && f C e y && !starB y && baseB v && ap.endLine == p.line
      | _ => false)
  | .me m o [], .Call (.Attribute v n ap) [] [] p => (match meN m with
      | some (n', 0) => n == PySem.Str.ofString n' && f C o v && baseB v && ap.endLine == p.line
      | _ => false)
  | .xf i k, .Attribute (.Name x _) n _ => C.sx.isSome && decide (S.fld k = some n) && decide (C.N[i]? = some x) && visB C.sc x && nmB x
  | .un, _ => true
  | .met g e, .Call (.Name x _) [.Lambda ⟨[], [], none, [], [], none, []⟩ v scope _] [] _ => C.lam && C.calm && decide (S.gmet x = some g) && glB C.sc x && LamX.lamSB C.sc scope && f (C.lamc scope) e v
  | .dic kvs, .Dict keys values _ => decide (keys.length ≤ 15) && chkKs (f C) kvs keys values
  | .dme m o es, .Call (.Attribute v n ap) (y :: ys) [] p => n == PySem.Str.ofString (dmN m) && dmOk m && f C o v && chkAll (f C) es (y :: ys) && nost (y :: ys) && decide (ys.length ≤ 1) && baseB v && ap.endLine == p.line
  | .compD k elt tg e cond own, .ListComp elt' [⟨tg', it', ifs', 0⟩] scope _ => C.calm && chkDI f C k tg' e it' && notSet it' && blkC C.N C.sc scope (ownL C.N own) && tgB (C.comp scope) tg tg' && ((slotsT tg).all fun i => own.contains i) && f (C.comp scope) elt elt' && (match cond, ifs' with
      | [], [] => true
      | [e], [x] => f (C.comp scope) e x
      | _, _ => false)
  | .comp elt tg it cond own, .ListComp elt' [⟨tg', it', ifs', 0⟩] scope _ => C.calm && chkIt S f C tg' it it' && notSet it' && blkC C.N C.sc scope (ownL C.N own) && tgB (C.comp scope) tg tg' && ((slotsT tg).all fun i => own.contains i) && f (C.comp scope) elt elt' && (match cond, ifs' with
      | [], [] => true
      | [e], [x] => f (C.comp scope) e x
      | _, _ => false)
  | .tupS es, .Tuple xs _ _ => chkSt (f C) es xs
  | .lstS es, .List xs _ => chkSt (f C) es xs
  | .rev a, .Subscript x (.Slice none none (some (.UnaryOp .USub (.Constant (.int 1) _ _) _)) _) _ => f C a x
  | .frc e, x => plainT x && f C e x
  | .lz e, x => plainT x && f C e x
  | _, _ => false
section
variable {G : Glo} {S : Stat} {c : Cfg} {lev : Nat} {C : Ctx} {X : Cx} {f : ChkF} {R : RecE}
/-- what is known of the parts -/
def RecOk (G : Glo) (S : Stat) (c : Cfg) (lev : Nat) (f : ChkF) (R : RecE) : Prop := ∀ C ir e, f C ir e = true → ∀ X, CxOk G S c lev C X → Snd G X e (R false ir) ∧ SndT G X e (R true ir)
theorem snda_of {es : List IR} {xs : List Expr} (o : CxOk G S c lev C X) (hR : RecOk G S c lev f R) (h : chkAll (f C) es xs = true) (n : nost xs = true) : SndA G X xs (evEs (R false) es) := by
  induction es generalizing xs with
  | nil => cases xs with
    | nil => exact snda_nil
    | cons => simp [chkAll] at h
  | cons e es ih => cases xs with
    | nil => simp [chkAll] at h
    | cons x xs =>
      simp only [chkAll, Bool.and_eq_true] at h
      unfold nost at n
      rw [List.all_cons, Bool.and_eq_true] at n
      exact snda_cons (hR C e x h.1 X o).1 (ih h.2 n.2) (by simpa using n.1)
theorem sndSt_of (o : CxOk G S c lev C X) (hR : RecOk G S c lev f R) : ∀ {es : List (Bool × IR)} {xs : List Expr}, chkSt (f C) es xs = true → SndA G X xs (evSt (R false) es)
  | [], xs, h => by
    unfold chkSt at h
    split at h
    · exact snda_nil
    · rename_i z; cases z
    · rename_i z; cases z
    · cases h
  | (true, e) :: es, xs, h => by
    unfold chkSt at h
    split at h
    · rename_i z; cases z
    · rename_i e' r x p xs z
      cases z
      rw [Bool.and_eq_true] at h
      exact snda_spr o.K (hR C _ _ h.1 X o).1 (sndSt_of o hR h.2)
    · rename_i z; cases z
    · cases h
  | (false, e) :: es, xs, h => by
    unfold chkSt at h
    split at h
    · rename_i z; cases z
    · rename_i z; cases z
    · rename_i e' r x xs z
      cases z
      simp only [Bool.and_eq_true, Bool.not_eq_true'] at h
      exact snda_cons (hR C _ _ h.1.2 X o).1 (sndSt_of o hR h.2) h.1.1
    · cases h
theorem snd_andL {es : List IR} {xs : List Expr} {pos : Pos} (o : CxOk G S c lev C X) (hR : RecOk G S c lev f R) (h : chkAll (f C) es xs = true) (n : xs.isEmpty = false) : Snd G X (.BoolOp .And xs pos) (andV (R false) false es) := by
  induction es generalizing xs with
  | nil => cases xs with
    | nil => simp at n
    | cons => simp [chkAll] at h
  | cons e es ih => cases xs with
    | nil => simp [chkAll] at h
    | cons x xs =>
      simp only [chkAll, Bool.and_eq_true] at h
      have he := (hR C e x h.1 X o).1
      cases es with
      | nil => cases xs with
        | nil => exact snd_one he
        | cons => simp [chkAll] at h
      | cons e2 es => cases xs with
        | nil => simp [chkAll] at h
        | cons x2 xs => exact snd_and o.K he (ih h.2 rfl)
theorem snd_orL {es : List IR} {xs : List Expr} {pos : Pos} (o : CxOk G S c lev C X) (hR : RecOk G S c lev f R) (h : chkAll (f C) es xs = true) (n : xs.isEmpty = false) : Snd G X (.BoolOp .Or xs pos) (andV (R false) true es) := by
  induction es generalizing xs with
  | nil => cases xs with
    | nil => simp at n
    | cons => simp [chkAll] at h
  | cons e es ih => cases xs with
    | nil => simp [chkAll] at h
    | cons x xs =>
      simp only [chkAll, Bool.and_eq_true] at h
      have he := (hR C e x h.1 X o).1
      cases es with
      | nil => cases xs with
        | nil => exact snd_one he
        | cons => simp [chkAll] at h
      | cons e2 es => cases xs with
        | nil => simp [chkAll] at h
        | cons x2 xs => exact snd_or o.K he (ih h.2 rfl)
theorem sndw_andL {es : List IR} {xs : List Expr} {pos : Pos} (o : CxOk G S c lev C X) (hR : RecOk G S c lev f R) (h : chkAll (f C) es xs = true) (n : xs.isEmpty = false) : SndW G X (.BoolOp .And xs pos) (andT (R true) es) := by
  induction es generalizing xs with
  | nil => cases xs with
    | nil => simp at n
    | cons => simp [chkAll] at h
  | cons e es ih => cases xs with
    | nil => simp [chkAll] at h
    | cons x xs =>
      simp only [chkAll, Bool.and_eq_true] at h
      have he := (hR C e x h.1 X o).2
      cases es with
      | nil => cases xs with
        | nil => exact sndw_and1 he
        | cons => simp [chkAll] at h
      | cons e2 es => cases xs with
        | nil => simp [chkAll] at h
        | cons x2 xs => exact sndw_and he (ih h.2 rfl)
theorem sndw_orL {es : List IR} {xs : List Expr} {pos : Pos} (o : CxOk G S c lev C X) (hR : RecOk G S c lev f R) (h : chkAll (f C) es xs = true) (n : xs.isEmpty = false) : SndW G X (.BoolOp .Or xs pos) (orT (R true) es) := by
  induction es generalizing xs with
  | nil => cases xs with
    | nil => simp at n
    | cons => simp [chkAll] at h
  | cons e es ih => cases xs with
    | nil => simp [chkAll] at h
    | cons x xs =>
      simp only [chkAll, Bool.and_eq_true] at h
      have he := (hR C e x h.1 X o).2
      cases es with
      | nil => cases xs with
        | nil => exact sndw_or1 he
        | cons => simp [chkAll] at h
      | cons e2 es => cases xs with
        | nil => simp [chkAll] at h
        | cons x2 xs => exact sndw_or he (ih h.2 rfl)
theorem plain_both {e : Expr} {ir : IR} (o : CxOk G S c lev C X) (v : Snd G X e (stepE c R false ir)) (hp : plainT e = true)
    (ht : ∀ σ h, stepE c R true ir σ h = (stepE c R false ir σ h).bind fun d h1 => match truth h1 d with | some b => .ok (.bl b) h1 | none => .bad) : Snd G X e (stepE c R false ir) ∧ SndT G X e (stepE c R true ir) :=
  ⟨v, (sndt_val o.K v hp).congr ht⟩
theorem chkIt_ok {tg : Expr} {it : EV.It} {e : Expr} (o : CxOk G S c lev C X) (hR : RecOk G S c lev f R) (h : chkIt S f C tg it e = true) : SndI G X tg e (evIt (R false) it) := by
  unfold chkIt at h
  split at h
  · exact sndi_seq o.K (hR C _ _ h X o).1
  · simp only [Bool.and_eq_true, Bool.not_eq_true', beq_iff_eq] at h
    obtain ⟨⟨⟨⟨rfl, h1⟩, h2⟩, h3⟩, h4⟩ := h
    exact sndi_rng (hR C _ _ h4 X o).1 h3 (o.gl h1) (o.bi _ h2)
  · simp only [Bool.and_eq_true, Bool.not_eq_true', beq_iff_eq] at h
    obtain ⟨⟨⟨⟨⟨⟨rfl, h1⟩, h2⟩, h3⟩, h4⟩, h5⟩, h6⟩ := h
    exact sndi_rng2 (hR C _ _ h5 X o).1 (hR C _ _ h6 X o).1 h3 h4 (o.gl h1) (o.bi _ h2)
  · simp only [Bool.and_eq_true, Bool.not_eq_true', beq_iff_eq] at h
    obtain ⟨⟨⟨⟨⟨rfl, h1⟩, h2⟩, h3⟩, h4⟩, h5⟩ := h
    split at h5
    · exact sndi_enum o.K (hR C _ _ h4 X o).1 h3 (o.gl h1) (o.bi _ h2)
    · cases h5
  · simp only [Bool.and_eq_true, Bool.not_eq_true', beq_iff_eq] at h
    obtain ⟨⟨⟨⟨⟨⟨⟨rfl, h1⟩, h2⟩, h3⟩, h4⟩, h5⟩, h6⟩, h7⟩ := h
    split at h7
    · exact sndi_zip o.K (hR C _ _ h5 X o).1 (hR C _ _ h6 X o).1 h3 h4 (o.gl h1) (o.bi _ h2)
    · cases h7
  · cases h
theorem bi_ok {b : Bi} {n : String} {ty : Bool} {es : List IR} {x : Str} {y : Expr} {ys : List Expr} {p pos : Pos} (o : CxOk G S c lev C X) (hR : RecOk G S c lev f R) (hc : C.calm = true) (e : biN b = some (n, ty)) (hx : x = PySem.Str.ofString n) (hg : glB C.sc x = true) (hb : S.isB x = true) (h1 : chkAll (f C) es (y :: ys) = true) (h2 : nost (y :: ys) = true) :
    Snd G X (.Call (.Name x p) (y :: ys) [] pos) (fun σ h => (evEs (R false) es σ h).bind fun ds h1 => biD c.calm b ds h1) := by
  have ha := snda_of o hR h1 h2
  have g := o.gl hg
  have m := o.bi _ hb
  have cc := o.calm hc
  subst hx
  unfold biN at e
  split at e <;> cases e
  · exact snd_callB (calls_len o.K o.w) g m (by decide +kernel) ha h2 (by decide) (by decide)
  · exact snd_callTy (calls_tuple o.K) g m (by decide +kernel) ha h2 (by decide) (by decide)
  · exact snd_callTy (calls_list o.K) g m (by decide +kernel) ha h2 (by decide) (by decide)
  · exact snd_callB (calls_all o.K cc) g m (by decide +kernel) ha h2 (by decide) (by decide)
  · exact snd_callB (calls_any o.K cc) g m (by decide +kernel) ha h2 (by decide) (by decide)
  · exact snd_callB (calls_sum o.K cc) g m (by decide +kernel) ha h2 (by decide) (by decide)
  · exact snd_callB (calls_sorted o.K o.w cc (Nat.lt_of_le_of_lt (by omega) o.ub)) g m (by decide +kernel) ha h2 (by decide) (by decide)
  · exact snd_callB calls_abs g m (by decide +kernel) ha h2 (by decide) (by decide)
  · exact snd_callTy calls_int g m (by decide +kernel) ha h2 (by decide) (by decide)
  · exact snd_callB (calls_max2 cc) g m (by decide +kernel) ha h2 (by decide) (by decide)
  · exact snd_callB (calls_min2 cc) g m (by decide +kernel) ha h2 (by decide) (by decide)
theorem base_ok {v : Expr} {n : Str} {env : PySem.Env} (h : baseB v = true) : attributeBase v n env (eval v env) = eval v env := by
  cases v <;> first
    | rfl
    | (simp [baseB] at h; done)
    | (rename_i f as ks p
       cases as with
       | cons a as => cases f <;> rfl
       | nil => cases f <;> first | rfl | (simp [baseB] at h))
end
end EV

set_option Elab.async false
set_option linter.all false
set_option maxRecDepth 100000
set_option maxHeartbeats 4000000
/-! EvS: the check is sound, for expressions. -/
namespace EV
open PySem PySem.Spec PyProof.Rows L2
section
variable {G : Glo} {S : Stat} {c : Cfg} {lev : Nat} {C : Ctx} {X : Cx} {f : ChkF} {R : RecE}
theorem call_ok {g : Nat} {es : List IR} {x : Str} {y : Expr} {ys : List Expr} {p pos : Pos} (o : CxOk G S c lev C X) (hR : RecOk G S c lev f R) (hgd : (C.gd || !S.gdf g) = true) (hx : S.gfn x = some g) (hg : glB C.sc x = true) (hn : NmOk x) (hc : C.calm = true) (h1 : chkAll (f C) es (y :: ys) = true) (h2 : nost (y :: ys) = true) :
    Snd G X (.Call (.Name x p) (y :: ys) [] pos) (stepE c R false (.call g es)) := by
  by_cases hk : c.ok g = true
  · refine (snd_call o.K (o.dok g hk) (o.room hc) (fun z => o.gd (by rw [o.gds] at z; rw [z] at hgd; simpa using hgd)) (o.gl hg) (o.gf x g hx) (snda_of o hR h1 h2) h2 hn.d).congr fun σ h => ?_
    show (if c.ok g = true then _ else _) = _
    rw [if_pos hk]
  · refine snd_bad.congr fun σ h => ?_
    show (if c.ok g = true then _ else _) = _
    rw [if_neg hk]
theorem callv_ok {i : Nat} {es : List IR} {x : Str} {y : Expr} {ys : List Expr} {p pos : Pos} (o : CxOk G S c lev C X) (hR : RecOk G S c lev f R) (hx : C.N[i]? = some x) (hv : visB C.sc x = true) (hn : NmOk x) (hc : C.calm = true) (h1 : chkAll (f C) es (y :: ys) = true) (h2 : nost (y :: ys) = true) :
    Snd G X (.Call (.Name x p) (y :: ys) [] pos) (stepE c R false (.callv i es)) :=
  snd_callv (V0 := fun f => c.ok f && !c.gdf f) o.K (fun f z => o.dok f (by simp only [Bool.and_eq_true] at z; exact z.1)) (fun f z => by simp only [Bool.and_eq_true, Bool.not_eq_true'] at z; rw [← o.gdc]; exact z.2) (o.room hc) (o.at hx) (o.vis hv) (snda_of o hR h1 h2) h2 hn.d hn.c
theorem lrange_ok {e : IR} {y : Expr} {p q pos pos2 : Pos} (o : CxOk G S c lev C X) (hR : RecOk G S c lev f R) (g1 : glB C.sc "list" = true) (g2 : glB C.sc "range" = true) (b1 : S.isB "list" = true) (b2 : S.isB "range" = true) (h : f C e y = true) (ns : starB y = false) (hc : C.calm = true) :
    Snd G X (.Call (.Name "list" p) [.Call (.Name "range" q) [y] [] pos2] [] pos) (stepE c R false (.bi .lrange [e])) := fun W tk => by
  refine PE.imp (pe_listRg (o.calm hc) (o.gl g1) (o.bi _ b1) (prg_1 (o.gl g2) (o.bi _ b2) ((hR C e y h X o).1 W tk) (starEach_cons ns)) rfl) fun σ H Q ⟨ρ, σd, h, st, rh, q⟩ => ?_
  have q' : ((R false e σd h).bind fun d h1 => biD c.calm .lrange [d] h1).all (PostE G ρ H Q) (PostX G ρ H fun c d H' => W c d σ H') := by
    refine (congrArg (Res.all _ _) ?_).mp q
    show ((R false e σd h).bind fun d h1 => (Res.ok [] h1).bind fun ds h2 => Res.ok (d :: ds) h2).bind (fun ds h1 => biD c.calm .lrange ds h1) = _
    rw [Res.bind_assoc]
    rfl
  refine tV_then st rh q' fun ρ1 H1 x d k1 x1 st1 rd r1 q => ?_
  unfold biD at q
  split at q <;> first
    | (rename_i hh; cases hh; done)
    | (rename_i hh _; cases hh; done)
    | exact q.elim
    | skip
  rename_i n _ e1
  cases e1
  split at q
  · rename_i hl
    rw [Bool.and_eq_true, decide_eq_true_eq] at hl
    have l := lim_ok hl.1
    cases rd.int_inv
    refine ⟨n, rfl, ⟨by decide, by decide, l.1, l.2, by omega⟩, fun a na => ?_⟩
    refine q _ _ _ (Ext.new na) (.ref ?_) (r1.fresh na ⟨_, upd_same, ?_⟩)
    · rw [← r1.len, List.getElem?_append_right (Nat.le_refl _)]
      simp
    · unfold rgV upto
      rw [Int.sub_zero]
      exact rels_range _
  · exact q.elim
where
  rels_range {ρ : List Addr} {H : Hp} (l : List Nat) : RelDs G ρ H (l.map fun (k : Nat) => D.int (0 + (k : Int))) (l.map fun i => V.int (0 + (i : Nat))) := by
    induction l with
    | nil => exact .nil
    | cons a r ih => exact .cons (.a (.int _)) ih
theorem isi_ok {t : Nat} {e : IR} {y : Expr} {T : Str} {p q pos : Pos} (o : CxOk G S c lev C X) (hR : RecOk G S c lev f R) (g1 : glB C.sc "isinstance" = true) (b1 : S.isB "isinstance" = true) (h : f C e y = true) (ns : starB y = false) (ht : t < 6) (hT : T = PySem.Str.ofString (tyName t)) (g2 : glB C.sc T = true) (b2 : S.isB T = true) (hn : NmOk T) :
    Snd G X (.Call (.Name "isinstance" p) [y, .Name T q] [] pos) (stepE c R false (.bi (.isi t) [e])) := by
  have hv : bootBuiltins T = some (.type (tyName t)) := by
    subst hT
    have : ∀ t, t < 6 → bootBuiltins (PySem.Str.ofString (tyName t)) = some (.type (tyName t)) := by
      intro t ht
      match t, ht with
      | 0, _ => decide +kernel
      | 1, _ => decide +kernel
      | 2, _ => decide +kernel
      | 3, _ => decide +kernel
      | 4, _ => decide +kernel
      | 5, _ => decide +kernel
    exact this t ht
  refine (snd_isi o.K o.w ht (hR C e y h X o).1 ns (o.gl g1) (o.bi _ b1) (o.gl g2) (o.bi _ b2) hv hn.n hn.d).congr fun σ h => ?_
  show ((R false e σ h).bind fun d h1 => (Res.ok [] h1).bind fun ds h2 => Res.ok (d :: ds) h2).bind (fun ds h1 => biD c.calm (.isi t) ds h1) = _
  rw [Res.bind_assoc]
  rfl
theorem CxOk.blk (o : CxOk G S c lev C X) (scope : Scope) (s : Shared) (H : Hp) (D : Addr) (cl : List (Str × Addr)) (fp : List Addr) : CxOk G S c lev (C.comp scope) (X.blk s H scope (compEnvC scope cl D X.env) fp) :=
  ⟨o.K, o.w, o.N, o.nd, by show relS scope X.env.scope = relS scope C.sc; rw [o.sc], o.calm, o.cc, o.room, fun x h => h, o.gf, o.dok, o.gc, o.bi, o.gdc, o.gds, o.gd, o.ub, (fun h => by cases h), o.lm⟩
def rcOf (R : RecE) : List IR → Option (Env → Hea → Res D)
  | c :: _ => some (R true c)
  | [] => none
theorem comp_ok {elt : IR} {tg : Tg} {it : EV.It} {cond : List IR} {own : List Nat} {elt' tg' it' : Expr} {ifs' : List Expr} {scope : Scope} (o : CxOk G S c lev C X) (hR : RecOk G S c lev f R)
    (hc : C.calm = true) (h1 : chkIt S f C tg' it it' = true) (h2 : notSet it' = true) (h3 : blkC C.N C.sc scope (ownL C.N own) = true) (h4 : tgB (C.comp scope) tg tg' = true) (h5 : ((slotsT tg).all fun i => own.contains i) = true)
    (h6 : f (C.comp scope) elt elt' = true) (h7 : (match cond, ifs' with
      | [], [] => true
      | [e], [x] => f (C.comp scope) e x
      | _, _ => false) = true) :
    CompOk G X elt' tg' it' ifs' scope (ownL C.N own) tg (evIt (R false) it) (R false elt) (rcOf R cond) := by
  refine ⟨o.K, o.calm hc, o.nN, chkIt_ok o hR h1, by rw [o.N, o.sc]; exact blkOk_by h3, fun s H D cl fp => tgB_ok (o.blk scope s H D cl fp) h4, ?_, fun s H D cl fp => (hR _ _ _ h6 _ (o.blk scope s H D cl fp)).1, ?_, notSet_ok h2⟩
  · intro i hi
    rw [ownL_snd]
    have := List.all_eq_true.mp h5 i hi
    exact List.contains_iff_mem.mp this
  · split at h7
    · rfl
    · exact ⟨_, rfl, fun s H D cl fp => (hR _ _ _ h7 _ (o.blk scope s H D cl fp)).2⟩
    · cases h7
theorem chkDI_ok {k : Dk} {tg : Expr} {e : IR} {it : Expr} (o : CxOk G S c lev C X) (hR : RecOk G S c lev f R) (h : chkDI f C k tg e it = true) : SndDI G X k tg it (R false e) := by
  unfold chkDI at h
  split at h
  · exact sndD_keys (hR C _ _ h X o).1
  · simp only [Bool.and_eq_true, beq_iff_eq] at h
    obtain ⟨⟨⟨rfl, h1⟩, h2⟩, h3⟩ := h
    exact sndD_vals (hR C _ _ h1 X o).1 (base_ok h2) (by rw [beq_iff_eq]; exact h3)
  · simp only [Bool.and_eq_true, beq_iff_eq] at h
    obtain ⟨⟨⟨⟨rfl, h1⟩, h2⟩, h3⟩, h4⟩ := h
    split at h4
    · exact sndD_items (hR C _ _ h1 X o).1 (base_ok h2) (by rw [beq_iff_eq]; exact h3)
    · cases h4
  · cases h
theorem compD_ok {k : Dk} {elt : IR} {tg : Tg} {e : IR} {cond : List IR} {own : List Nat} {elt' tg' it' : Expr} {ifs' : List Expr} {scope : Scope} (o : CxOk G S c lev C X) (hR : RecOk G S c lev f R)
    (hc : C.calm = true) (h1 : chkDI f C k tg' e it' = true) (h2 : notSet it' = true) (h3 : blkC C.N C.sc scope (ownL C.N own) = true) (h4 : tgB (C.comp scope) tg tg' = true) (h5 : ((slotsT tg).all fun i => own.contains i) = true)
    (h6 : f (C.comp scope) elt elt' = true) (h7 : (match cond, ifs' with
      | [], [] => true
      | [e], [x] => f (C.comp scope) e x
      | _, _ => false) = true) :
    CompD G X k elt' tg' it' ifs' scope (ownL C.N own) tg (R false e) (R false elt) (rcOf R cond) := by
  refine ⟨o.K, o.w, o.calm hc, o.nN, chkDI_ok o hR h1, by rw [o.N, o.sc]; exact blkOk_by h3, fun s H D cl fp => tgB_ok (o.blk scope s H D cl fp) h4, ?_, fun s H D cl fp => (hR _ _ _ h6 _ (o.blk scope s H D cl fp)).1, ?_, notSet_ok h2⟩
  · intro i hi
    rw [ownL_snd]
    have := List.all_eq_true.mp h5 i hi
    exact List.contains_iff_mem.mp this
  · split at h7
    · rfl
    · exact ⟨_, rfl, fun s H D cl fp => (hR _ _ _ h7 _ (o.blk scope s H D cl fp)).2⟩
    · cases h7
/-- the pairs of a display -/
theorem chkKs_ok {pos : Pos} (o : CxOk G S c lev C X) (hR : RecOk G S c lev f R) : ∀ {kvs : List (IR × IR)} {keys : List (Option Expr)} {values : List Expr}, chkKs (f C) kvs keys values = true → SndK G X pos keys values (evKs (R false) kvs) ∧ keys.all (·.isSome) = true ∧ keys.length = values.length ∧ (keys = [] → kvs = [] ∧ values = [])
  | [], [], [], _ => ⟨sndk_nil, rfl, rfl, fun _ => ⟨rfl, rfl⟩⟩
  | (a, b) :: r, some k :: ks, v :: vs, h => by
    simp only [chkKs, Bool.and_eq_true] at h
    obtain ⟨h1, h2, h3, _⟩ := chkKs_ok (pos := pos) o hR h.2
    exact ⟨sndk_cons (hR C _ _ h.1.1 X o).1 (hR C _ _ h.1.2 X o).1 h1, by simpa using h2, by simp [h3], fun z => by cases z⟩
  | [], [], _ :: _, h => by simp [chkKs] at h
  | [], _ :: _, _, h => by simp [chkKs] at h
  | _ :: _, [], _, h => by simp [chkKs] at h
  | _ :: _, none :: _, _, h => by simp [chkKs] at h
  | _ :: _, some _ :: _, [], h => by simp [chkKs] at h
theorem dic_ok {kvs : List (IR × IR)} {keys : List (Option Expr)} {values : List Expr} {pos : Pos} (o : CxOk G S c lev C X) (hR : RecOk G S c lev f R) (h1 : keys.length ≤ 15) (h2 : chkKs (f C) kvs keys values = true) : Snd G X (.Dict keys values pos) (stepE c R false (.dic kvs)) := by
  obtain ⟨q1, q2, q3, q4⟩ := chkKs_ok (pos := pos) o hR h2
  by_cases hk : keys = []
  · obtain ⟨rfl, rfl⟩ := q4 hk
    subst hk
    exact snd_dict0 o.w
  · exact snd_dict o.K o.w (Nat.lt_of_le_of_lt (by omega) o.ub) q1 q2 q3 hk h1
theorem dme_ok {m : Dm} {ob : IR} {es : List IR} {v y : Expr} {ys : List Expr} {n : Str} {ap p : Pos} (o : CxOk G S c lev C X) (hR : RecOk G S c lev f R) (hn : n = PySem.Str.ofString (dmN m)) (hm : dmOk m = true) (h1 : f C ob v = true) (h2 : chkAll (f C) es (y :: ys) = true) (h3 : nost (y :: ys) = true) (h6 : ys.length ≤ 1) (h4 : baseB v = true) (h5 : (ap.endLine == p.line) = true) :
    Snd G X (.Call (.Attribute v n ap) (y :: ys) [] p) (stepE c R false (.dme m ob es)) := by
  have ho := (hR C ob v h1 X o).1
  have hs := snda_of o hR h2 h3
  have n1 : starB y = false := by unfold nost at h3; rw [List.all_cons, Bool.and_eq_true] at h3; simpa using h3.1
  have n2 : (ys.all fun e => !starB e) = true := by unfold nost at h3; rw [List.all_cons, Bool.and_eq_true] at h3; exact h3.2
  have few : ((backTo p (starEach (y :: ys) X.env)).all (fun x => !x.1) && (backToKw p (keywordEach [] X.env)).all (fun x => x.1.isSome)
      && decide ((y :: ys).length + ([] : List Keyword).length + (if ([] : List Keyword).isEmpty then 0 else 1) < 30)) = true := by
    have hu : X.A.units + 10 < cLine := Nat.lt_of_le_of_lt (by omega) o.ub
    match ys, h6, n2 with
    | [], _, _ => rw [starEach_cons n1]; rfl
    | [z], _, n2 =>
      have n3 : starB z = false := by simpa using n2
      rw [starEach_cons n1, starEach_cons n3]
      rfl
  have hu : X.A.units + 10 < cLine := Nat.lt_of_le_of_lt (by omega) o.ub
  subst hn
  cases m with
  | get => exact snd_dm o.w PySem.F.slot_dict_get PySem.F.type_dict_get (mt_getK o.K o.w hu) ho hs (base_ok h4) few h5 (starEach_cons n1) (noStar n2)
  | setdefault => exact snd_dm o.w PySem.F.slot_dict_setdefault PySem.F.type_dict_setdefault (mt_setdefK o.K o.w hu) ho hs (base_ok h4) few h5 (starEach_cons n1) (noStar n2)
  | update => exact snd_dm o.w PySem.F.slot_dict_update PySem.F.type_dict_update (mt_updK o.K o.w hu) ho hs (base_ok h4) few h5 (starEach_cons n1) (noStar n2)
  | copy => cases hm
theorem few1 {y : Expr} {env : PySem.Env} {p : Pos} (n : starB y = false) : ((backTo p (starEach [y] env)).all (fun x => !x.1) && (backToKw p (keywordEach [] env)).all (fun x => x.1.isSome)
      && decide (([y] : List Expr).length + ([] : List Keyword).length + (if ([] : List Keyword).isEmpty then 0 else 1) < 30)) = true := by
  rw [starEach_cons n]
  rfl
theorem me1_ok {m : Me} {n' : String} {ob e : IR} {v y : Expr} {n : Str} {ap p : Pos} (o : CxOk G S c lev C X) (hR : RecOk G S c lev f R) (hm : meN m = some (n', 1)) (hn : n = PySem.Str.ofString n') (h1 : f C ob v = true) (h2 : f C e y = true) (h3 : starB y = false) (h4 : baseB v = true) (h5 : (ap.endLine == p.line) = true) :
    Snd G X (.Call (.Attribute v n ap) [y] [] p) (stepE c R false (.me m ob [e])) := by
  have ho := (hR C ob v h1 X o).1
  have ns : nost [y] = true := by simp [nost, h3]
  have hs : SndA G X [y] (evEs (R false) [e]) := snda_of o hR (by simp [chkAll, h2]) ns
  subst hn
  unfold meN at hm
  split at hm <;> cases hm
  · exact snd_lm o.K F.slot_list_append F.type_list_append mt_append rel_append ho hs ns (base_ok h4) (few1 h3) h5
  · exact snd_lm o.K F.slot_list_extend F.type_list_extend (MtM.or mt_extend (mt_extT o.K)) rel_extend ho hs ns (base_ok h4) (few1 h3) h5
theorem me0_ok {m : Me} {n' : String} {ob : IR} {v : Expr} {n : Str} {ap p : Pos} (o : CxOk G S c lev C X) (hR : RecOk G S c lev f R) (hm : meN m = some (n', 0)) (hn : n = PySem.Str.ofString n') (h1 : f C ob v = true) (h4 : baseB v = true) (h5 : (ap.endLine == p.line) = true) :
    Snd G X (.Call (.Attribute v n ap) [] [] p) (stepE c R false (.me m ob [])) := by
  have ho := (hR C ob v h1 X o).1
  subst hn
  unfold meN at hm
  split at hm <;> cases hm
  exact snd_lm0 o.K F.slot_list_pop F.type_list_pop mt_pop rel_pop ho (base_ok h4) h5
theorem xf_ok {i k : Nat} {x n : Str} {p pos : Pos} (o : CxOk G S c lev C X) (h1 : C.sx.isSome = true) (h2 : S.fld k = some n) (h3 : C.N[i]? = some x) (h4 : visB C.sc x = true) (h5 : NmOk x) : Snd G X (.Attribute (.Name x p) n pos) (stepE c R false (.xf i k)) := by
  obtain ⟨G0, Y, a, oe, cls, d, pn, e, rfl, rfl, q1, q2, q3, q4⟩ := o.sx h1
  obtain ⟨z1, z2, z3⟩ := q4 k n h2
  exact snd_xf (X := Y) (G := G0) o.K z1 z2 z3 q1 q2 q3 (o.at h3) (o.vis h4) h5.d h5.c rfl
theorem met_ok {g : Nat} {e : IR} {x : Str} {v : Expr} {scope : Scope} {p lpos pos : Pos} (o : CxOk G S c lev C X) (hR : RecOk G S c lev f R) (h1 : C.lam = true) (hc : C.calm = true) (h2 : S.gmet x = some g) (h3 : glB C.sc x = true) (h4 : LamX.lamSB C.sc scope = true) (h5 : f (C.lamc scope) e v = true) :
    Snd G X (.Call (.Name x p) [.Lambda ⟨[], [], none, [], [], none, []⟩ v scope lpos] [] pos) (stepE c R false (.met g e)) := Snd.to (r := fun σ h => if c.calm then c.met g (fun h1 => R false e σ h1) h else .bad) (fun W tk => by
  obtain ⟨⟨cda, Pt, l1, l2, l3, l4⟩, hr, hm⟩ := o.lm h1
  obtain ⟨met, ⟨ga, pg, bg, sg, dV, kV, doc, pm, cdv, ct, oc, an, od, osl, Ng, a, m1, m2, m3, m4, m5, m6, m7, m8, m9, m10, m11⟩, hmet⟩ := hm x g h2
  refine PE.imp (LamX.pe_lamcall (T := G.T) (TT := TTm G met) (k := lev) (t := fun E => tV G (R false e) (fun c d _ H' => E c d H')) (o.gl h3) m1 m2 m3 m4 m5 m6 m7 m8 (m11 _) l2 l1 l3 l4 hr (by rw [o.sc]; exact LamX.lamS_by h4) rfl (fun _ _ _ _ _ => rfl)
    (fun A outer s H E fa c' hr2 => ?_) m10.d m9.d m9.c) fun σ H Q q => tlam (W := W) ?_
  · have oc : CxOk G S c lev (C.lamc scope) (LamX.lamCx X A outer s H E scope fa c') :=
      ⟨o.K, o.w, o.N, o.nd, rfl, fun _ => rfl, by rw [o.cc, hc]; rfl, fun _ => hr2, (fun x z => by cases z), o.gf, o.dok, o.gc, o.bi, o.gdc, o.gds, (fun z => by cases z), room_ub hr2, (fun z => by cases z), fun z => by cases z⟩
    exact (hR _ _ _ h5 _ oc).1 _ (takes_of rfl rfl rfl rfl)
  · have e1 : (fun σ h => (met (R false e σ) h).noexc) = (fun σ h => if c.calm then c.met g (fun h1 => R false e σ h1) h else .bad) := by
      funext σ h
      show _ = (if c.calm = true then _ else _)
      rw [o.cc, if_pos hc, hmet]
    rw [e1]
    exact q) fun σ h ρ H Q W q => by
      have q : (if c.calm = true then joinR (c.met g (fun h1 => R false e σ h1) h) else .bad).all (PostE G ρ H Q) W := q
      show (if c.calm = true then c.met g (fun h1 => R false e σ h1) h else .bad).all (PostE G ρ H Q) W
      split at q
      · rename_i hcc
        rw [if_pos hcc]
        exact joinR_all q
      · exact q.elim
theorem repr_ok {e : IR} {y : Expr} {p pos : Pos} (o : CxOk G S c lev C X) (hR : RecOk G S c lev f R) (g1 : glB C.sc "repr" = true) (b1 : S.isB "repr" = true) (h : f C e y = true) (ns : starB y = false) (hg : C.gd = true) : Snd G X (.Call (.Name "repr" p) [y] [] pos) (stepE c R false (.bi .repr [e])) :=
  snd_callB (calls_repr (cm := c.calm) o.K (o.gd hg) (Nat.lt_of_le_of_lt (by omega) o.ub)) (o.gl g1) (o.bi _ b1) (by decide +kernel) (snda_of o hR (by simp [chkAll, h]) (by simp [nost, ns])) (by simp [ns]) (by decide) (by decide)
end
end EV

set_option Elab.async false
set_option linter.all false
set_option maxRecDepth 100000
set_option maxHeartbeats 8000000
/-! EvT: the check is sound, for expressions, all forms. -/
namespace EV
open PySem PySem.Spec PyProof.Rows L2
section
variable {G : Glo} {S : Stat} {c : Cfg} {lev : Nat} {C : Ctx} {X : Cx} {f : ChkF} {R : RecE}
theorem cst_ok {d : A} {k : Const} {j : Nat} {pos : Pos} (h : cstB d k = true) : Snd G X (.Constant k j pos) (fun _ h => .ok (.a d) h) := by
  unfold cstB at h
  split at h
  · exact snd_none
  · rw [beq_iff_eq] at h; subst h; exact snd_bool
  · have h := of_decide_eq_true h; subst h; exact snd_int
  · exact snd_str (of_decide_eq_true h)
  · cases h
theorem slo_ok {l : Option IR} {l' : Option Expr} (o : CxOk G S c lev C X) (hR : RecOk G S c lev f R) (h : (match l, l' with
      | none, none => true
      | some l, some l' => f C l l'
      | _, _ => false) = true) : SndO G X l' (evOpt (R false) l) := by
  split at h
  · exact sndo_none
  · exact sndo_some (hR C _ _ h X o).1
  · cases h
theorem step_ok {ir : IR} {e : Expr} (hR : RecOk G S c lev f R) (h : chkStep S f C ir e = true) (o : CxOk G S c lev C X) : Snd G X e (stepE c R false ir) ∧ SndT G X e (stepE c R true ir) := by
  unfold chkStep at h
  split at h
  · exact plain_both o (cst_ok h) rfl fun _ _ => rfl
  · simp only [Bool.and_eq_true] at h
    obtain ⟨⟨h1, h2⟩, h3⟩ := h
    have n := nmB_ok h1
    split at h3
    · rename_i d d' e1
      rw [A.same_eq _ _ h3]
      obtain ⟨v, u, q1, q2, q3⟩ := o.gc _ _ e1
      exact plain_both (c := c) (R := R) (ir := .cst d') o (snd_glob (o.gl h2) q1 q2 n.d q3) rfl fun _ _ => rfl
    · split at h3
      · rename_i d i j e1
        rw [beq_iff_eq] at h3
        subst h3
        exact plain_both (c := c) (R := R) (ir := .cst (.fn i)) o (snd_glob (v := .ref (G.fa i)) (u := .ref (G.fa i)) (o.gl h2) (o.gf _ _ e1) rfl n.d (fun H => .fn i)) rfl fun _ _ => rfl
      · cases h3
  · simp only [Bool.and_eq_true, decide_eq_true_eq] at h
    have n := nmB_ok h.2
    exact plain_both o (snd_var (o.at h.1.1) (o.vis h.1.2) n.d n.c) rfl fun _ _ => rfl
  · simp only [Bool.and_eq_true] at h
    exact plain_both o (snd_tup (snda_of o hR h.1 h.2)) rfl fun _ _ => rfl
  · simp only [Bool.and_eq_true] at h
    exact plain_both o (snd_lst (snda_of o hR h.1 h.2)) rfl fun _ _ => rfl
  · simp only [Bool.and_eq_true] at h
    exact plain_both o (snd_bin (opB_ok o.K h.1.1) (hR C _ _ h.1.2 X o).1 (hR C _ _ h.2 X o).1) rfl fun _ _ => rfl
  · exact plain_both o (snd_neg (hR C _ _ h X o).1) rfl fun _ _ => rfl
  · exact ⟨snd_not o.K (hR C _ _ h X o).1, sndt_not (hR C _ _ h X o).2⟩
  · exact ⟨snd_isN (hR C _ _ h X o).1, sndt_isN (hR C _ _ h X o).1⟩
  · exact ⟨snd_isNot (hR C _ _ h X o).1, sndt_isNot (hR C _ _ h X o).1⟩
  · simp only [Bool.and_eq_true, Bool.not_eq_true'] at h
    exact ⟨snd_cmp (copB_ok o h.1.1.1) (hR C _ _ h.1.2 X o).1 (hR C _ _ h.2 X o).1 h.1.1.2, sndt_cmp (copB_ok o h.1.1.1) (hR C _ _ h.1.2 X o).1 (hR C _ _ h.2 X o).1 h.1.1.2⟩
  · simp only [Bool.and_eq_true, Bool.not_eq_true'] at h
    obtain ⟨⟨⟨⟨⟨h1, h2⟩, h3⟩, h4⟩, h5⟩, h6⟩ := h
    exact ⟨snd_chain (copB_ok o h1) (copB_ok o h2) (hR C _ _ h4 X o).1 (hR C _ _ h5 X o).1 (hR C _ _ h6 X o).1 h3, sndt_chain (copB_ok o h1) (copB_ok o h2) (hR C _ _ h4 X o).1 (hR C _ _ h5 X o).1 (hR C _ _ h6 X o).1 h3⟩
  · simp only [Bool.and_eq_true, Bool.not_eq_true'] at h
    exact ⟨snd_andL o hR h.2 h.1, sndt_w (sndw_andL o hR h.2 h.1)⟩
  · simp only [Bool.and_eq_true, Bool.not_eq_true'] at h
    exact ⟨snd_orL o hR h.2 h.1, sndt_w (sndw_orL o hR h.2 h.1)⟩
  · simp only [Bool.and_eq_true] at h
    exact ⟨snd_ife (hR C _ _ h.1.1 X o).2 (hR C _ _ h.1.2 X o).1 (hR C _ _ h.2 X o).1, sndt_bad⟩
  · rename_i a lo hi x lo' hi' p1 p2
    simp only [Bool.and_eq_true] at h
    refine plain_both o (snd_slc (rl := evOpt (R false) lo) (rh' := evOpt (R false) hi) o.K (hR C _ _ h.1.1 X o).1 (slo_ok o hR h.1.2) (slo_ok o hR h.2)) rfl fun _ _ => rfl
  · simp only [Bool.and_eq_true, Bool.not_eq_true'] at h
    exact plain_both o (snd_sub o.K o.w (Nat.lt_of_le_of_lt (by omega) o.ub) (hR C _ _ h.1.1 X o).1 (hR C _ _ h.1.2 X o).1 h.2) rfl fun _ _ => rfl
  · simp only [Bool.and_eq_true, decide_eq_true_eq] at h
    obtain ⟨⟨⟨⟨⟨⟨h0, h1⟩, h2⟩, h3⟩, h4⟩, h5⟩, h6⟩ := h
    exact plain_both o (call_ok o hR h0 h1 h2 (nmB_ok h3) h4 h5 h6) rfl fun _ _ => rfl
  · simp only [Bool.and_eq_true, decide_eq_true_eq] at h
    obtain ⟨⟨⟨⟨⟨h1, h2⟩, h3⟩, h4⟩, h5⟩, h6⟩ := h
    exact plain_both o (callv_ok o hR h1 h2 (nmB_ok h3) h4 h5 h6) rfl fun _ _ => rfl
  · simp only [Bool.and_eq_true, Bool.not_eq_true', beq_iff_eq, decide_eq_true_eq] at h
    obtain ⟨⟨⟨⟨⟨⟨⟨⟨⟨rfl, h1⟩, h2⟩, h3⟩, h4⟩, h5⟩, h6⟩, h7⟩, h8⟩, h9⟩ := h
    exact plain_both o (isi_ok o hR h1 h2 h3 h4 h5 h6 h7 h8 (nmB_ok h9)) rfl fun _ _ => rfl
  · simp only [Bool.and_eq_true, Bool.not_eq_true', beq_iff_eq] at h
    obtain ⟨⟨⟨⟨⟨rfl, h1⟩, h2⟩, h3⟩, h4⟩, h5⟩ := h
    exact plain_both o (repr_ok o hR h1 h2 h3 h4 h5) rfl fun _ _ => rfl
  · simp only [Bool.and_eq_true, Bool.not_eq_true', beq_iff_eq] at h
    obtain ⟨⟨⟨⟨⟨⟨⟨⟨rfl, rfl⟩, h1⟩, h2⟩, h3⟩, h4⟩, h5⟩, h6⟩, h7⟩ := h
    exact plain_both o (lrange_ok o hR h1 h2 h3 h4 h5 h6 h7) rfl fun _ _ => rfl
  · split at h
    · rename_i n ty e1
      simp only [Bool.and_eq_true, beq_iff_eq] at h
      obtain ⟨⟨⟨⟨⟨h1, h2⟩, h3⟩, h4⟩, h5⟩, h6⟩ := h
      exact plain_both o (bi_ok o hR h6 e1 h1 h2 h3 h4 h5) rfl fun _ _ => rfl
    · cases h
  · split at h
    · rename_i n' e1
      simp only [Bool.and_eq_true, Bool.not_eq_true', beq_iff_eq] at h
      obtain ⟨⟨⟨⟨⟨h1, h2⟩, h3⟩, h4⟩, h5⟩, h6⟩ := h
      exact plain_both o (me1_ok o hR e1 h1 h2 h3 h4 h5 (by rw [beq_iff_eq]; exact h6)) rfl fun _ _ => rfl
    · cases h
  · split at h
    · rename_i n' e1
      simp only [Bool.and_eq_true, beq_iff_eq] at h
      obtain ⟨⟨⟨h1, h2⟩, h5⟩, h6⟩ := h
      exact plain_both o (me0_ok o hR e1 h1 h2 h5 (by rw [beq_iff_eq]; exact h6)) rfl fun _ _ => rfl
    · cases h
  · simp only [Bool.and_eq_true, decide_eq_true_eq] at h
    obtain ⟨⟨⟨⟨h1, h2⟩, h3⟩, h4⟩, h5⟩ := h
    exact plain_both o (xf_ok o h1 h2 h3 h4 (nmB_ok h5)) rfl fun _ _ => rfl
  · exact ⟨snd_bad, sndt_bad⟩
  · simp only [Bool.and_eq_true, decide_eq_true_eq] at h
    obtain ⟨⟨⟨⟨⟨h1, h2⟩, h3⟩, h4⟩, h5⟩, h6⟩ := h
    exact plain_both o (met_ok o hR h1 h2 h3 h4 h5 h6) rfl fun _ _ => rfl
  · simp only [Bool.and_eq_true, decide_eq_true_eq] at h
    exact plain_both o (dic_ok o hR h.1 h.2) rfl fun _ _ => rfl
  · simp only [Bool.and_eq_true, beq_iff_eq, decide_eq_true_eq] at h
    obtain ⟨⟨⟨⟨⟨⟨⟨h1, h2⟩, h3⟩, h4⟩, h5⟩, h6⟩, h7⟩, h8⟩ := h
    exact plain_both o (dme_ok o hR h1 h2 h3 h4 h5 h6 h7 (by rw [beq_iff_eq]; exact h8)) rfl fun _ _ => rfl
  · rename_i k elt tg e cond own elt' tg' it' ifs' scope p
    simp only [Bool.and_eq_true] at h
    obtain ⟨⟨⟨⟨⟨⟨⟨h1, h2⟩, h3⟩, h4⟩, h5⟩, h6⟩, h7⟩, h8⟩ := h
    refine plain_both o ((snd_compD (compD_ok o hR h1 h2 h3 h4 h5 h6 h7 h8)).congr fun σ h => ?_) rfl fun _ _ => rfl
    rw [ownL_snd]
    show (if c.calm = true then _ else _) = _
    rw [o.cc, if_pos h1]
    cases cond <;> rfl
  · rename_i elt tg it cond own elt' tg' it' ifs' scope p
    simp only [Bool.and_eq_true] at h
    obtain ⟨⟨⟨⟨⟨⟨⟨h1, h2⟩, h3⟩, h4⟩, h5⟩, h6⟩, h7⟩, h8⟩ := h
    refine plain_both o ((snd_comp (comp_ok o hR h1 h2 h3 h4 h5 h6 h7 h8)).congr fun σ h => ?_) rfl fun _ _ => rfl
    rw [ownL_snd]
    show (if c.calm = true then _ else _) = _
    rw [o.cc, if_pos h1]
    cases cond <;> rfl
  · exact plain_both o (snd_tup (sndSt_of o hR h)) rfl fun _ _ => rfl
  · exact plain_both o (snd_lst (sndSt_of o hR h)) rfl fun _ _ => rfl
  · exact plain_both o (snd_rev o.K (hR C _ _ h X o).1) rfl fun _ _ => rfl
  · rw [Bool.and_eq_true] at h
    exact plain_both o (snd_frc (hR C _ _ h.2 X o).1) h.1 fun _ _ => rfl
  · rw [Bool.and_eq_true] at h
    exact plain_both o (snd_lz (hR C _ _ h.2 X o).1) h.1 fun _ _ => rfl
  · cases h
def chkE (S : Stat) : Nat → ChkF
  | 0 => fun _ _ _ => false
  | k + 1 => chkStep S (chkE S k)
/-- the whole check -/
theorem chkE_ok : ∀ (k n : Nat), RecOk G S c lev (chkE S k) (ev c n)
  | 0, _ => fun _ _ _ h => by cases h
  | k + 1, 0 => fun _ _ _ _ _ _ => ⟨snd_bad, sndt_bad⟩
  | k + 1, n + 1 => fun _ _ _ h _ o => step_ok (chkE_ok k n) h o
end
end EV

set_option Elab.async false
set_option linter.all false
set_option maxRecDepth 100000
set_option maxHeartbeats 8000000
/-! EvU: the check for statements. -/
namespace EV
open PySem PySem.Spec PyProof.Rows L2
/-- whether the list is handed to the name straight -/
def swB (C : Ctx) (scope : Scope) (y : Str) (l l' : Nat) : Bool := (match C.sc.kind with | .function => true | _ => false) && lclB C.sc y && l == l' && !(scope.names.any fun (n, k) => n == y && (k == .local || k == .cell))
def chkTo (f : ChkF) (C : Ctx) (y : Str) (py pos : Pos) (e : IR) (v : Expr) : Bool := match v with
  | .ListComp _ _ scope lp => (match e with
    | .comp .. => f C e v && lclB C.sc y && (match C.sc.kind with | .function => true | _ => false)
    | .compD .. => f C e v && lclB C.sc y && (match C.sc.kind with | .function => true | _ => false)
    | _ => false)
  | v => noComp v && f C e v
def notTup : Expr → Bool
  | .Tuple .. => false
  | _ => true
def chkHd (S : Stat) (f : ChkF) (C : Ctx) : Hd → ExceptHandler → Bool
  | .mk k i e, .ExceptHandler (some (.Name x _)) on [.Return (some v) _] _ => nmB x && glB C.sc x && decide (S.gcls x = some k) && (match i, on with
      | none, none => f { C with calm := false, sx := none, lam := false } e v
      | some j, some n => decide (C.N[j]? = some n) && lclB C.sc n && f { C with calm := false, sx := some j, lam := false } e v
      | _, _ => false)
  | _, _ => false
/-- the names of one line that are local -/
def swN (sc : Scope) (ts : List Expr) : List Str := ts.filterMap fun
  | .Name id pos => if sc.names.lookup id == some .local && pos.line == (ts.head?.map (·.pos.line)).getD 0 then some id else none
  | _ => none
/-- the stores are not told one for one -/
def noSw (sc : Scope) : Expr → Expr → Bool
  | .Tuple ts _ _, .Tuple vs _ _ => !(ts.length == 2 || ts.length == 3) || vs.length != ts.length || (swN sc ts).length != ts.length || vs.all (foldedForSure 8)
  | _, v => notTup v
theorem noSw_ok {sc : Scope} {t v : Expr} {env : PySem.Env} (e : env.scope = sc) (h : noSw sc t v = true) : swappedStores [t] v env = pure none := by
  subst e
  unfold noSw at h
  split at h
  · rename_i ts k1 p1 vs k2 p2
    unfold swappedStores
    simp only [Bool.or_eq_true] at h
    refine ite_eq ?_
    intro c1
    refine ite_eq ?_
    intro c2
    refine ite_eq ?_
    intro c3
    refine ite_eq ?_
    intro c4
    simp only [Bool.or_eq_true, not_or] at c1 c3
    rcases h with ((h | h) | h) | h
    · exact absurd h (by simpa using c1.1.1)
    · exact absurd h (by simpa using c1.1.2)
    · exact absurd h c3.1
    · exact absurd h c4
  · rename_i hh
    cases v <;> first | (simp [notTup] at h; done) | skip
    all_goals (cases t <;> rfl)
where
  ite_eq {c : Prop} [Decidable c] {a b : Sem (Option (List Str))} (k : ¬ c → b = a) : (if c then a else b) = a := by
    split
    · rfl
    · rename_i n
      exact k n
def chkStepS (S : Stat) (f : ChkF) (C : Ctx) (g : SR → Stmt → Bool) : SR → Stmt → Bool
  | .asg i e, .Assign [.Name x py] v pos => storeB C x i && chkTo f C x py pos e v
  | .par i j a b, .Assign [.Tuple [.Name x px, .Name y py] _ _] (.Tuple [u, v] _ _) _ => C.calm && decide (C.N[i]? = some x) && decide (C.N[j]? = some y) && decide (i ≠ j) && lclB C.sc x && lclB C.sc y && f C a u && f C b v && !starB u && !starB v
      && (match C.sc.kind with | .function => true | _ => false) && px.line == py.line && !(x == y) && !([u, v].all (foldedForSure 8)) && !([u, v].all (constantsAlone 8))
  | .asgT is e, .Assign [t] v _ => C.calm && tgB C (.tp is) t && noComp v && noSw C.sc t v && f C e v
  | .aug i o e, .AugAssign (.Name x _) op v _ => storeB C x i && f C e v && (match o, op with | .add, .Add => true | .sub, .Sub => true | .mul, .Mult => true | _, _ => false)
  | .ret e, .Return (some v) _ => f C e v
  | .retN, .Return none _ => true
  | .ife t a b, .If u x y _ => f C t u && chkAll g a x && chkAll g b y
  | .for_ tg it body, .For tg' it' body' [] _ => C.lp && C.calm && tgB C tg tg' && chkIt S f C tg' it it' && notSet it' && chkAll g body body'
  | .forD k tg e body, .For tg' it' body' [] _ => C.lp && C.calm && tgB C tg tg' && chkDI f C k tg' e it' && notSet it' && chkAll g body body'
  | .stS ob i e, .Assign [.Subscript o' i' _] v _ => noComp v && !sliceB i' && f C e v && f C ob o' && f C i i'
  | .whl t body, .While u body' [] _ => C.lp && f C t u && chkAll g body body'
  | .rai k none, .Raise (some (.Call (.Name x _) [.Constant (.str _) _ _] [] _)) none _ => C.calm && nmB x && glB C.sc x && decide (S.gcls x = some k) && !S.ini k
  | .rai k (some e), .Raise (some (.Call (.Name x _) [v] [] _)) none _ => C.calm && nmB x && glB C.sc x && decide (S.gcls x = some k) && S.ini k && f C e v && !starB v
  | .tr e (h :: hs), .Try [.Expr v _] (h' :: hs') [] [] _ => f C e v && noComp v && chkAll (chkHd S f C) (h :: hs) (h' :: hs')
  | .trr e (h :: hs), .Try [.Return (some v) _] (h' :: hs') [] [] _ => f C e v && chkAll (chkHd S f C) (h :: hs) (h' :: hs')
  | .ex .un, _ => true
  | .ex e, .Expr v _ => noComp v && f C e v
  | .pas, .Pass _ => true
  | .brk, .Break _ => true
  | .cnt, .Continue _ => true
  | _, _ => false
/-- what a def's own context has more -/
structure StOk (G : Glo) (S : Stat) (cs : CfgS) (c c0 : Cfg) (lev : Nat) (C : Ctx) (X : Cx) : Prop where
  cx : CxOk G S c lev C X
  ok0 : c0.ok = fun _ => false
  cc0 : c0.calm = false
  gd0 : c0.gdf = G.gdf
  own : C.lp = true → PassesOwn (model X.prog X.w) X.A X.env X.xe
  stk : X.stack = X.env :: X.outer
  frm : X.env.frame = some X.env.locals
  ex : G.ex = none
  sup : SupsOk G cs.sups
  gk : ∀ x k, S.gcls x = some k → X.mg x = some (.ref (G.ca k)) ∧ k < G.nc
  mk0 : ∀ k, k < G.nc → S.ini k = false → ∃ B newId initId bmB, ExcBaseFacts B newId initId bmB ∧ PySem.W.excIn G.K (G.ca k) bmB newId = true ∧ PySem.W.keepIn G.K (.ref (G.ca k)) = true ∧ Raises X (.ref (G.ca k))
  mk1 : ∀ k, k < G.nc → S.ini k = true → ∃ fI B i newId bmB, PySem.XI.Txt X.prog G.K X.mg (G.ca k) fI B i newId bmB (G.fld k)
  fx : ∀ k n, S.fld k = some n → XfC G.K (G.ca k) ∧ PySem.W.findIn G.K (.ref (G.ca k)) n = some none ∧ G.fld k = n
section
variable {G : Glo} {S : Stat} {cs : CfgS} {c c0 : Cfg} {lev : Nat} {C : Ctx} {X : Cx} {f : ChkF}
theorem StOk.suite (o : StOk G S cs c c0 lev C X) {a : Addr} {oe : PySem.Obj} {cls : Value} {d : Option Addr} {pn : List (Addr × PySem.Obj)} {k : Nat} (sx : Option Nat) (hz : Zc cls d oe) (hf : ∃ vs, oe.data = .fields vs) (hc : cls = .ref (G.ca k)) :
    CxOk (G.at a d k) S c0 lev { C with calm := false, sx := sx, lam := false } (X.suite a ((a, oe) :: pn)) :=
  ⟨o.cx.K, o.cx.w, o.cx.N, o.cx.nd, o.cx.sc, (fun h => by cases h), o.cc0, (fun h => by cases h), o.cx.fn, o.cx.gf, fun i h => (by rw [o.ok0] at h; cases h),
    fun x d' h => let ⟨v, u, q1, q2, q3⟩ := o.cx.gc x d' h; ⟨v, u, q1, q2, fun H => RelA.to a d k _ _ (q3 H)⟩, o.cx.bi, o.gd0, o.cx.gds, o.cx.gd, o.cx.ub,
    fun _ => ⟨G, X, a, oe, cls, d, pn, k, rfl, rfl, hz, hf, hc, fun k n h => by rw [o.cx.K]; exact o.fx k n h⟩, fun h => by cases h⟩
theorem CxOk.tr (o : CxOk G S c lev C X) (ns : C.sx = none) (pn : List (Addr × PySem.Obj)) (xe : Value → Shared → Prop) : CxOk G S c lev C (X.tr pn xe) :=
  ⟨o.K, o.w, o.N, o.nd, o.sc, o.calm, o.cc, o.room, o.fn, o.gf, o.dok, o.gc, o.bi, o.gdc, o.gds, o.gd, o.ub, (fun h => by rw [ns] at h; cases h), o.lm⟩
/-- all that the two evaluators read is right -/
structure EOk (G : Glo) (S : Stat) (cs : CfgS) (c c0 : Cfg) (lev : Nat) (f : ChkF) : Prop where
  e : RecOk G S c lev f cs.E
  e0 : ∀ a d k, RecOk (G.at a d k) S c0 lev f cs.E0
theorem hds_ok (o : StOk G S cs c c0 lev C X) (hE : EOk G S cs c c0 lev f) : ∀ {hs : List Hd} {hs' : List ExceptHandler}, chkAll (chkHd S f C) hs hs' = true → HdsM G X hs' (hs.map (clOf cs))
  | [], [], _ => .nil
  | [], _ :: _, h => by simp [chkAll] at h
  | _ :: _, [], h => by simp [chkAll] at h
  | hd :: hs, hd' :: hs', h => by
    simp only [chkAll, Bool.and_eq_true] at h
    obtain ⟨h1, h2⟩ := h
    have ih := hds_ok o hE h2
    unfold chkHd at h1
    split at h1
    · rename_i k i e x np on v rp pos'
      simp only [Bool.and_eq_true, decide_eq_true_eq] at h1
      obtain ⟨⟨⟨q1, q2⟩, q3⟩, q4⟩ := h1
      obtain ⟨z1, z2⟩ := o.gk x k q3
      have hN : Names X x (.ref (G.ca k)) := ⟨o.cx.gl q2, (nmB_ok q1).d, .inl z1⟩
      show HdsM G X _ (clOf cs (.mk k i e) :: hs.map (clOf cs))
      split at q4
      · exact .cons (c := ⟨k, none, cs.E0 false e⟩) hN z2 rfl (fun a oe cls d pn k' hz hf hc => (hE.e0 a d k' _ _ _ q4 _ (o.suite none hz hf hc)).1) ih
      · rename_i j n
        simp only [Bool.and_eq_true, decide_eq_true_eq] at q4
        exact .cons (c := ⟨k, some j, cs.E0 false e⟩) hN z2 ⟨n, rfl, o.cx.at q4.1.1, by show X.env.scope.names.lookup n = _; rw [o.cx.sc]; exact lclB_ok q4.1.2⟩ (fun a oe cls d pn k' hz hf hc => (hE.e0 a d k' _ _ _ q4.2 _ (o.suite (some j) hz hf hc)).1) ih
      · cases q4
    · cases h1
theorem SndS.congr {e : Stmt} {r r' : Env → Hea → Res Fl} (h : SndS G X e r) (q : ∀ σ h, r' σ h = r σ h) : SndS G X e r' := by
  have : r' = r := funext fun σ => funext fun h => q σ h
  rw [this]; exact h
theorem snds_bad {e : Stmt} : SndS G X e (fun _ _ => .bad) := fun W tk => ⟨fun _ _ _ _ _ _ ⟨_, _, _, _, _, q⟩ => q.elim⟩
theorem swaps_eq {elt : Expr} {gs : List Comprehension} {scope : Scope} {lp py : Pos} {y : Str} {l : Nat} {env : PySem.Env} (hk : env.scope.kind = .function) (hy : env.scope.names.lookup y = some .local) :
    swapsWith (.ListComp elt gs scope lp) (some (.Name y py)) l env = pure (py.line == lp.line && !(scope.names.any fun (n, k) => n == y && (k == .local || k == .cell))) := by
  have ky : env.kindOf y = some .local := hy
  have hb : env.blockKind = .function := by unfold Env.blockKind; rw [hk]; rfl
  unfold swapsWith
  simp only [hb, ky, Expr.pos]
  rfl
theorem kind_ok (o : CxOk G S c lev C X) (h : (match C.sc.kind with | .function => true | _ => false) = true) : X.env.scope.kind = .function := by
  rw [o.sc]
  split at h
  · assumption
  · cases h
/-- a store's value: the list of a comprehension goes to the name straight, or not -/
theorem asg_ok {R : RecE} {k : Nat} {i : Nat} {e : IR} {x : Str} {py pos : Pos} {v : Expr} (o : CxOk G S c lev C X) (hR : ∀ k, RecOk G S c lev (chkE S k) R) (hS : ∀ k, RecOk G S c lev (chkE S k) (stepE c R)) (h1 : storeB C x i = true) (h2 : chkTo (chkE S (k + 1)) C x py pos e v = true) :
    SndS G X (.Assign [.Name x py] v pos) (fun σ h => (stepE c R false e σ h).bind fun d h1 => .ok (.nx (σ.set i (some d))) h1) := by
  unfold chkTo at h2
  split at h2
  · rename_i elt' gs scope lp
    split at h2
    · rename_i elt tg it cond own
      simp only [Bool.and_eq_true] at h2
      obtain ⟨⟨h3, h4⟩, h5⟩ := h2
      have hk := kind_ok o h5
      have hy : X.env.scope.names.lookup x = some .local := by rw [o.sc]; exact lclB_ok h4
      have e1 := swaps_eq (elt := elt') (gs := gs) (scope := scope) (lp := lp) (py := py) (l := pos.line) hk hy
      cases hb : (py.line == lp.line && !(scope.names.any fun (n, k) => n == x && (k == .local || k == .cell))) with
      | false =>
        rw [hb] at e1
        exact snds_asg o.nN (storeB_ok o h1) (hS _ C _ _ h3 X o).1 e1
      | true =>
        rw [hb] at e1
        have h3' : chkStep S (chkE S k) C (.comp elt tg it cond own) (.ListComp elt' gs scope lp) = true := h3
        unfold chkStep at h3'
        split at h3' <;> first
          | (rename_i hh _; cases hh; done)
          | (rename_i hh; cases hh; done)
          | skip
        · rename_i heq1 heq2
          cases heq1
          cases heq2
          simp only [Bool.and_eq_true] at h3'
          obtain ⟨⟨⟨⟨⟨⟨⟨q1, q2⟩, q3⟩, q4⟩, q5⟩, q6⟩, q7⟩, q8⟩ := h3'
          have cu := comp_ok o (hR k) q1 q2 q3 q4 q5 q6 q7 q8
          have z := snds_asgC (i := i) (pos := pos) cu (o.at (by unfold storeB at h1; simp only [Bool.and_eq_true, decide_eq_true_eq] at h1; exact h1.1.1)) hy e1
          refine z.congr fun σ h => ?_
          rw [ownL_snd]
          congr 1
          show (if c.calm = true then _ else _) = _
          rw [o.cc, if_pos q1]
          cases cond <;> rfl
        · cases h3'
    · rename_i k2 elt tg it cond own
      simp only [Bool.and_eq_true] at h2
      obtain ⟨⟨h3, h4⟩, h5⟩ := h2
      have hk := kind_ok o h5
      have hy : X.env.scope.names.lookup x = some .local := by rw [o.sc]; exact lclB_ok h4
      have e1 := swaps_eq (elt := elt') (gs := gs) (scope := scope) (lp := lp) (py := py) (l := pos.line) hk hy
      cases hb : (py.line == lp.line && !(scope.names.any fun (n, k) => n == x && (k == .local || k == .cell))) with
      | false =>
        rw [hb] at e1
        exact snds_asg o.nN (storeB_ok o h1) (hS _ C _ _ h3 X o).1 e1
      | true =>
        rw [hb] at e1
        have h3' : chkStep S (chkE S k) C (.compD k2 elt tg it cond own) (.ListComp elt' gs scope lp) = true := h3
        unfold chkStep at h3'
        split at h3' <;> first
          | (rename_i hh _; cases hh; done)
          | (rename_i hh; cases hh; done)
          | skip
        · rename_i heq1 heq2
          cases heq1
          cases heq2
          simp only [Bool.and_eq_true] at h3'
          obtain ⟨⟨⟨⟨⟨⟨⟨q1, q2⟩, q3⟩, q4⟩, q5⟩, q6⟩, q7⟩, q8⟩ := h3'
          have cu := compD_ok o (hR k) q1 q2 q3 q4 q5 q6 q7 q8
          have z := snds_asgCD (i := i) (pos := pos) cu (o.at (by unfold storeB at h1; simp only [Bool.and_eq_true, decide_eq_true_eq] at h1; exact h1.1.1)) hy e1
          refine z.congr fun σ h => ?_
          rw [ownL_snd]
          congr 1
          show (if c.calm = true then _ else _) = _
          rw [o.cc, if_pos q1]
          cases cond <;> rfl
        · cases h3'
    · cases h2
  · rename_i v' _
    simp only [Bool.and_eq_true] at h2
    exact snds_asg o.nN (storeB_ok o h1) (hS _ C _ _ h2.2 X o).1 (swaps_no h2.1)
end
end EV

set_option Elab.async false
set_option linter.all false
set_option maxRecDepth 100000
set_option maxHeartbeats 8000000
/-! EvV: the check for statements is sound. -/
namespace EV
open PySem PySem.Spec PyProof.Rows L2
section
variable {G : Glo} {S : Stat} {cs : CfgS} {c c0 : Cfg} {lev : Nat} {C : Ctx} {X : Cx} {R : RecE} {act : Hea → Res D}
theorem swapped_eq {x y : Str} {px py pt : Pos} {kt k2 : Nat} {pt2 : Pos} {u v : Expr} {env : PySem.Env} (hk : env.scope.kind = .function) (hx : env.scope.names.lookup x = some .local) (hy : env.scope.names.lookup y = some .local) (hl : (px.line == py.line) = true) (hne : (x == y) = false)
    (h1 : [u, v].all (foldedForSure 8) = false) (h2 : [u, v].all (constantsAlone 8) = false) (h3 : starB u = false) (h4 : starB v = false) :
    swappedStores [.Tuple [.Name x px, .Name y py] kt pt] (.Tuple [u, v] k2 pt2) env = pure (some [x, y]) := by
  have kx : env.kindOf x = some .local := hx
  have ky : env.kindOf y = some .local := hy
  have hb : env.blockKind = .function := by unfold Env.blockKind; rw [hk]; rfl
  have hs : ([u, v].any fun | .Starred .. => true | _ => false) = false := by
    have e1 : ∀ w : Expr, starB w = false → (match w with | .Starred .. => true | _ => false) = false := fun w hw => by
      cases w <;> first | rfl | (simp [starB] at hw)
    simp only [List.any_cons, List.any_nil, e1 u h3, e1 v h4, Bool.or_self]
  have hl' : (py.line == px.line) = true := by rw [beq_iff_eq] at hl ⊢; exact hl.symm
  have hd : [x, y].eraseDups.length = 2 := by
    have : (y == x) = false := by
      rw [beq_eq_false_iff_ne] at hne ⊢
      exact fun e => hne e.symm
    simp [List.eraseDups, List.eraseDupsBy, List.eraseDupsBy.loop, this]
  unfold swappedStores
  simp only [hb, List.length_cons, List.length_nil, h1, h2, List.filterMap_cons, List.filterMap_nil, kx, ky, Expr.pos, List.head?_cons, Option.map_some, Option.getD_some, beq_self_eq_true, hl', Bool.and_self, if_true, hd]
  refine (if_neg (by decide)).trans ((if_neg (fun hz => Bool.false_ne_true (hs.symm.trans hz))).trans ?_)
  rfl
theorem sndss_of {g : SR → Stmt → Bool} {RS : RecS} (hG : ∀ sr st, g sr st = true → SndS G X st (RS sr)) : ∀ {ss : List SR} {sts : List Stmt}, chkAll g ss sts = true → SndSs G X sts (evSs RS ss)
  | [], [], _ => sndss_nil
  | [], _ :: _, h => by simp [chkAll] at h
  | _ :: _, [], h => by simp [chkAll] at h
  | s :: ss, st :: sts, h => by
    simp only [chkAll, Bool.and_eq_true] at h
    exact sndss_cons (hG s st h.1) (sndss_of hG h.2)
def chkS (S : Stat) (C : Ctx) : Nat → SR → Stmt → Bool
  | 0 => fun _ _ => false
  | k + 1 => chkStepS S (chkE S 60) C (chkS S C k)
theorem chkS_ok (o : StOk G S cs c c0 lev C X) (ns : C.sx = none) (hR : ∀ k, RecOk G S c lev (chkE S k) R) (hE : cs.E = stepE c R) (hE2 : ∀ k, EOk G S cs c c0 lev (chkE S k)) : ∀ (k n : Nat) (sr : SR) (st : Stmt), chkS S C k sr st = true → SndS G X st (evS cs act n sr)
  | 0, _, _, _, h => by cases h
  | k + 1, 0, _, _, _ => snds_bad
  | k + 1, n + 1, sr, st, h => by
    have ih : ∀ n sr st, chkS S C k sr st = true → SndS G X st (evS cs act n sr) := fun n sr st h => chkS_ok o ns hR hE hE2 k n sr st h
    have hs : ∀ {ir e}, chkE S 60 C ir e = true → Snd G X e (cs.E false ir) := fun h => ((hE2 60).e _ _ _ h X o.cx).1
    have ht : ∀ {ir e}, chkE S 60 C ir e = true → SndT G X e (cs.E true ir) := fun h => ((hE2 60).e _ _ _ h X o.cx).2
    have htr : ∀ {ir e} pn xe, chkE S 60 C ir e = true → Snd G (X.tr pn xe) e (cs.E false ir) := fun pn xe h => ((hE2 60).e _ _ _ h _ (o.cx.tr ns pn xe)).1
    have h : chkStepS S (chkE S 60) C (chkS S C k) sr st = true := h
    unfold chkStepS at h
    split at h
    · simp only [Bool.and_eq_true] at h
      refine (asg_ok (k := 59) o.cx hR (fun k => by rw [← hE]; exact (hE2 k).e) h.1 h.2).congr fun σ h => ?_
      show (cs.E false _ σ h).bind _ = _
      rw [hE]
    · simp only [Bool.and_eq_true, decide_eq_true_eq, Bool.not_eq_true'] at h
      obtain ⟨⟨⟨⟨⟨⟨⟨⟨⟨⟨⟨⟨⟨⟨h1, h2⟩, h3⟩, h4⟩, h5⟩, h6⟩, h7⟩, h8⟩, h9⟩, h10⟩, h11⟩, h12⟩, h13⟩, h14⟩, h15⟩ := h
      have hx := lclB_ok h5
      have hy := lclB_ok h6
      rw [← o.cx.sc] at hx hy
      exact snds_par (o.cx.calm h1) o.cx.nN (o.cx.at h2) (o.cx.at h3) h4 hx hy (hs h7) (hs h8) h9 h10 (swapped_eq (kind_ok o.cx h11) hx hy h12 h13 h14 h15 h9 h10)
    · simp only [Bool.and_eq_true] at h
      obtain ⟨⟨⟨⟨h1, h2⟩, h3⟩, h4⟩, h5⟩ := h
      exact snds_asgT o.cx.K (o.cx.calm h1) o.cx.nN (tgB_ok o.cx h2) (hs h5) (swaps_no h3) (noSw_ok o.cx.sc h4)
    · simp only [Bool.and_eq_true] at h
      have h3 := h.2
      split at h3
      · exact (snds_aug o.cx.nN (storeB_ok o.cx h.1.1) (hs h.1.2) (.inl ⟨rfl, rfl⟩)).congr fun σ h => rfl
      · exact (snds_aug o.cx.nN (storeB_ok o.cx h.1.1) (hs h.1.2) (.inr (.inl ⟨rfl, rfl⟩))).congr fun σ h => rfl
      · exact (snds_aug o.cx.nN (storeB_ok o.cx h.1.1) (hs h.1.2) (.inr (.inr ⟨rfl, rfl⟩))).congr fun σ h => rfl
      · cases h3
    · exact snds_ret (hs h)
    · exact snds_retN
    · simp only [Bool.and_eq_true] at h
      exact snds_if (ht h.1.1) (sndss_of (ih n) h.1.2) (sndss_of (ih n) h.2)
    · simp only [Bool.and_eq_true] at h
      obtain ⟨⟨⟨⟨⟨h0, h1⟩, h2⟩, h3⟩, h4⟩, h5⟩ := h
      exact snds_for (o.own h0) o.cx.K (o.cx.calm h1) o.cx.nN (chkIt_ok o.cx (hE2 60).e h3) (tgB_ok o.cx h2) (sndss_of (ih n) h5) (notSet_ok h4) (fun _ _ _ => rfl) (fun _ _ _ _ _ => rfl)
    · simp only [Bool.and_eq_true] at h
      obtain ⟨⟨⟨⟨⟨h0, h1⟩, h2⟩, h3⟩, h4⟩, h5⟩ := h
      exact snds_forD (o.own h0) o.cx.K o.cx.w (o.cx.calm h1) o.cx.nN (chkDI_ok o.cx (hE2 60).e h3) (tgB_ok o.cx h2) (sndss_of (ih n) h5) (notSet_ok h4) (fun _ _ _ => rfl) (fun _ _ _ _ _ => rfl)
    · simp only [Bool.and_eq_true, Bool.not_eq_true'] at h
      obtain ⟨⟨⟨⟨h0, h1⟩, h2⟩, h3⟩, h4⟩ := h
      exact snds_stS o.cx.K o.cx.w (Nat.lt_of_le_of_lt (by omega) o.cx.ub) (hs h3) (hs h4) (hs h2) h1 h0
    · simp only [Bool.and_eq_true] at h
      exact snds_while (w := fun n => evS cs act n (.whl _ _)) (n := n + 1) (o.own h.1.1) (ht h.1.2) (fun n => sndss_of (ih n) h.2) (fun _ _ => rfl) (fun _ _ _ => rfl)
    · simp only [Bool.and_eq_true, decide_eq_true_eq, Bool.not_eq_true'] at h
      obtain ⟨⟨⟨⟨h1, h2⟩, h3⟩, h4⟩, h5⟩ := h
      obtain ⟨z1, z2⟩ := o.gk _ _ h4
      obtain ⟨B, newId, initId, bmB, F, q1, q2, q3⟩ := o.mk0 _ z2 h5
      exact snds_raise (o.cx.calm h1) (sndx_own F (by rw [o.cx.K]; exact q1) z1 (by rw [o.cx.K]; exact q2) q3 (o.cx.gl h3) (nmB_ok h2).d z2)
    · simp only [Bool.and_eq_true, decide_eq_true_eq, Bool.not_eq_true'] at h
      obtain ⟨⟨⟨⟨⟨⟨h1, h2⟩, h3⟩, h4⟩, h5⟩, h6⟩, h7⟩ := h
      obtain ⟨z1, z2⟩ := o.gk _ _ h4
      obtain ⟨fI, B, i, newId, bmB, T⟩ := o.mk1 _ z2 h5
      refine (snds_raise (o.cx.calm h1) (sndx_ini (by rw [o.cx.K]; exact T) z1 (o.cx.room h1) (hs h6) (o.cx.gl h3) h7 (nmB_ok h2).d z2)).congr fun σ h => ?_
      rw [Res.bind_assoc]
      rfl
    · simp only [Bool.and_eq_true] at h
      obtain ⟨⟨h1, h2⟩, h3⟩ := h
      refine (snds_try o.cx.K o.stk o.frm o.cx.nN o.sup o.ex (fun pn xe _ => htr pn xe h1) h2 (hds_ok o (hE2 60) h3)).congr fun σ h => ?_
      exact tryR_eq
    · simp only [Bool.and_eq_true] at h
      refine (snds_tryQ o.cx.K o.stk o.frm o.cx.nN o.sup o.ex (fun pn xe _ => htr pn xe h.1) (hds_ok o (hE2 60) h.2)).congr fun σ h => ?_
      exact tryQ_eq
    · refine snds_bad.congr fun σ h => ?_
      show (cs.E false .un σ h).bind _ = _
      rw [hE]
      rfl
    · simp only [Bool.and_eq_true] at h
      exact snds_expr (hs h.2) h.1
    · exact snds_pass
    · exact snds_brk
    · exact snds_cnt
    · cases h
end
end EV

set_option Elab.async false
set_option linter.all false
set_option maxRecDepth 100000
set_option maxHeartbeats 4000000
/-! EvW: a def of the program keeps what its code tree says. -/
namespace EV
open PySem PySem.Spec PyProof.Rows L2
/-- what the program's top is -/
structure WOk (G : Glo) (S : Stat) (sups : Nat → List Nat) (P : Program) (w : World) (mg : Str → Option Value) : Prop where
  hw : w = G.w
  gf : ∀ x i, S.gfn x = some i → mg x = some (.ref (G.fa i))
  gc : ∀ x d, S.gcst x = some d → ∃ v u, mg x = some u ∧ RelV v u ∧ ∀ H, RelA G H d v
  bi : ∀ x, S.isB x = true → mg x = none
  ex : G.ex = none
  gds : G.gdf = S.gdf
  sup : SupsOk G sups
  gk : ∀ x k, S.gcls x = some k → mg x = some (.ref (G.ca k)) ∧ k < G.nc
  mk0 : ∀ k, k < G.nc → S.ini k = false → ∃ B newId initId bmB, ExcBaseFacts B newId initId bmB ∧ PySem.W.excIn G.K (G.ca k) bmB newId = true ∧ PySem.W.keepIn G.K (.ref (G.ca k)) = true ∧ PySem.W.subIn G.K (.ref (G.ca k)) (.type "BaseException") = some true ∧ PySem.W.typeIn G.K (.ref (G.ca k)) = some (.type "type")
  mk1 : ∀ k, k < G.nc → S.ini k = true → ∃ fI B i newId bmB, PySem.XI.Txt P G.K mg (G.ca k) fI B i newId bmB (G.fld k)
  fx : ∀ k n, S.fld k = some n → XfC G.K (G.ca k) ∧ PySem.W.findIn G.K (.ref (G.ca k)) n = some none ∧ G.fld k = n
def cfg0 (g : Nat → Bool) : Cfg := ⟨fun _ _ _ => .bad, fun _ => false, g, fun _ _ _ => .bad, false⟩
def dCtx (N : List Str) (sc : Scope) (gd : Bool) : Ctx := ⟨N, sc, true, fun _ => true, none, true, false, gd⟩
section
variable {G : Glo} {S : Stat} {sups : Nat → List Nat} {P : Program} {w : World} {mg : Str → Option Value} {base : Heap} {c : Cfg} {lev : Nat} {act : Hea → Res D}
theorem eok {N : Nat} {C0 : Cfg} (k : Nat) : EOk G S ⟨ev c N, ev C0 N, sups⟩ c C0 lev (chkE S k) := ⟨chkE_ok k N, fun a d j => chkE_ok k N⟩
theorem start_rel {ρ : List Addr} {H : Hp} {ds : List D} {vs : List V} {n : Nat} {N : List Str} (rd : RelDs G ρ H ds vs) (hn : n = N.length) : RelSt G ρ H (ds.map some ++ List.replicate (n - ds.length) none) (L2.start N vs) := by
  have hl := rd.length
  refine ⟨?_, fun i d e => ?_⟩
  · unfold L2.start
    rw [List.length_append, List.length_append, List.length_map, List.length_map, List.length_replicate, List.length_replicate, hl, hn]
  · unfold L2.start
    by_cases hi : i < ds.length
    · rw [List.getElem?_append_left (by simpa using hi), List.getElem?_map] at e
      obtain ⟨d', e1, e2⟩ := Option.map_eq_some_iff.mp e
      cases e2
      obtain ⟨v, h1, h2⟩ := rd.get e1
      refine ⟨v, ?_, h2⟩
      rw [List.getElem?_append_left (by rw [List.length_map, ← hl]; exact hi), List.getElem?_map, h1]
      rfl
    · rw [List.getElem?_append_right (by simpa using hi)] at e
      obtain ⟨h1, h2⟩ := List.getElem?_eq_some_iff.mp e
      rw [List.getElem_replicate] at h2
      cases h2
theorem def_ok {f : FnI} {i n : Nat} {name : Str} {params : Arguments} {body : List Stmt} {scope : Scope} {dV kV doc pm cdv ct oc : Value} {an od : Option Addr} {osl : Array (Option Value)} {N ps : List Str} (W : WOk G S sups P w mg)
    (hc : c.calm = true) (hd : ∀ j, c.ok j = true → DefOk G P w mg base lev (c.call j) j)
    (lk : G.K.lookup (G.fa i) = some ⟨oc, od, .func (PySem.W.fnOf name name params body scope dV kV doc pm an cdv ct), osl⟩) (hcd : PySem.W.codeIn G.K cdv name = true) (kp : PySem.W.keepIn G.K (.ref (G.fa i)) = true) (hs : FnScope N ps scope)
    (hb : Binds G.K (PySem.W.fnOf name name params body scope dV kV doc pm an cdv ct) ps []) (hp : f.np = ps.length) (hN : f.ns = N.length) {KS : Nat} (hgc : c.gdf = G.gdf) (chk : chkAll (chkS S (dCtx N scope (G.gdf i)) KS) f.body body = true) :
    DefOk G P w mg base (lev + 1) (runB ⟨fun _ => none, sups⟩ (n + 1) c (cfg0 G.gdf) act f) i := by
  refine ⟨_, ps, ⟨fun vs H Q E q => q.1, fun A outer s H args us vs Q E hr1 hgd e0 hb' r q => LamX.run_ofS (N := N) lk hcd hs hr1 e0 hb' r q.1 fun hr => ?_⟩, kp, hb, fun ds h hl => ?_⟩
  · obtain ⟨hl, ρ, h, ds, rd, rh, q⟩ := q
    have o : StOk G S ⟨ev c (n + 1), ev (cfg0 G.gdf) (n + 1), sups⟩ c (cfg0 G.gdf) lev (dCtx N scope (G.gdf i)) (cxOf (L2.CX P w) P w G.K mg base N name scope (G.fa i) cdv A outer s H E) :=
      ⟨⟨rfl, W.hw, rfl, hs.nd, rfl, fun _ => rfl, hc, fun _ => hr, fun _ _ => rfl, W.gf, hd, W.gc, W.bi, hgc, W.gds, hgd, room_ub hr, (fun z => by cases z), fun z => by cases z⟩, rfl, rfl, rfl, fun _ => passes_of (K := L2.CX P w outer H s E) rfl, rfl, rfl, W.ex, W.sup, W.gk,
        fun k h1 h2 => let ⟨B, a, b, d, q1, q2, q3, q4, q5⟩ := W.mk0 k h1 h2; ⟨B, a, b, d, q1, q2, q3, raises_own q4 q5⟩, W.mk1, W.fx⟩
    have z := sndss_of (RS := evS ⟨ev c (n + 1), ev (cfg0 G.gdf) (n + 1), sups⟩ act (n + 1)) (fun sr st h => chkS_ok (act := act) o rfl (fun k => chkE_ok k n) rfl (fun k => eok k) KS (n + 1) sr st h) chk
    refine ⟨_, z E (takes_of rfl rfl rfl rfl), ?_⟩
    unfold runB at q
    rw [if_pos (by rw [rd.length, hl, hp])] at q
    obtain ⟨ds, rd, q⟩ := frcA_all q rd
    rw [Res.all_bind] at q
    refine ⟨ρ, _, h, ?_, rh, Res.all_mono (fun fl h1 q ρ1 H1 x r1 => ?_) (fun _ _ z => z) q⟩
    · have e : f.ns - f.np = f.ns - ds.length := by rw [rd.length, hl, hp]
      rw [e]
      exact start_rel rd hN
    · unfold finF at q
      cases fl with
      | nx σ => exact fun σ' st => q ρ1 H1 _ x (.a .non) r1
      | rt d => exact fun v rv => q ρ1 H1 v x rv r1
      | bk σ => exact q.elim
      | ct σ => exact q.elim
  · unfold runB
    rw [if_neg (by rw [hp]; exact hl)]
/-- a def's meaning may be told again by a stronger one -/
theorem DefOk.imp {F F' : List D → Hea → Res D} {i : Nat} (d : DefOk G P w mg base lev F i) (h : ∀ ds h Q W, (F' ds h).all Q W → (F ds h).all Q W) (hb : ∀ np ds h, (∀ ds h, ds.length ≠ np → F ds h = .bad) → ds.length ≠ np → F' ds h = .bad) : DefOk G P w mg base lev F' i := by
  obtain ⟨fd, ps, h1, h2, h3, h4⟩ := d
  refine ⟨fd, ps, h1.imp fun vs H Q E ⟨q1, ρ, hh, ds, q2, q3, q4⟩ => ⟨q1, ρ, hh, ds, q2, q3, h _ _ _ _ q4⟩, h2, h3, fun ds hh e => hb _ _ _ h4 e⟩
/-- .. its heap told anew -/
theorem DefOk.callL {F : List D → Hea → Res D} {i : Nat} (d : DefOk G P w mg base lev F i) : DefOk G P w mg base lev (fun ds h => callL F ds h) i := by
  obtain ⟨fd, ps, h1, h2, h3, h4⟩ := d
  refine ⟨fd, ps, h1.imp fun vs H Q E ⟨q1, ρ, hh, ds, q2, q3, q4⟩ => callL_sp q1 q3 q2 q4, h2, h3, fun ds hh e => ?_⟩
  show EV.callL F ds hh = _
  unfold EV.callL
  dsimp only
  split
  · rename_i ds' hl e1 e2 e3
    rw [h4 ds' hl (by rw [renDs_len e2]; exact e)]
    rfl
  · rfl
theorem DefOk.mono {F : List D → Hea → Res D} {i lev' : Nat} (d : DefOk G P w mg base lev F i) (h : lev ≤ lev') : DefOk G P w mg base lev' F i := by
  obtain ⟨fd, ps, h1, h2, h3, h4⟩ := d
  exact ⟨fd, ps, h1.mono h, h2, h3, h4⟩
end
end EV

set_option Elab.async false
set_option linter.all false
set_option maxRecDepth 100000
set_option maxHeartbeats 4000000
/-! EvX: a lambda without parameters, handed to a def that calls it within a try. -/
namespace EV
open PySem PySem.Spec PyProof.Rows L2
section
variable {G : Glo} {S : Stat} {sups : Nat → List Nat} {ρ ρ' ρ1 : List Addr} {H H' H1 : Hp} {h h' h1 : Hea} {X : Cx}
theorem nil_rel {n : Nat} {σ : L2.St} (e : σ.length = n) : RelSt G ρ H (List.replicate n none) σ := ⟨by rw [List.length_replicate, e], fun i d h => by
  obtain ⟨h1, h2⟩ := List.getElem?_eq_some_iff.mp h
  rw [List.getElem_replicate] at h2
  cases h2⟩
theorem try_all2 {fin : EV.D → Fl} {sups : Nat → List Nat} {hds : List ExceptHandler} {l : List Cl} {n : Nat} {D : Ends} {E : XK} (so : SupsOk G sups) (ne : G.ex = none) (rh : RelH G ρ H h) (k : HdsM G X hds l) (hE : ∀ c d H', ¬ E c d H') :
    ∀ {r : Res EV.D}, (tryM fin sups l (List.replicate n none) r).all (PostS G ρ H D) (PostX G ρ H E) → r.all (fun d h' => PostS G ρ H D (fin d) h') (PostX G ρ H fun c d H' => ∀ σ' : L2.St, σ'.length = n → wM G noW D l c d σ' H')
  | .ok d h, q => q
  | .exc x h', q => fun ρ' H' c d x' rx r' σ' e => catch_run (E := E) so ne rx r' (nil_rel e) (fun c d H' z => (hE c d H' z).elim) k (Res.all_mono (fun _ _ p => p.mv r' x') (fun _ _ p => p.mv r' x') q)
  | .ask n' k', q => fun i hi => try_all2 so ne rh k hE (r := k' i) (q i hi)
  | .bad, q => q
/-- no calls -/
def cfgM (g : Nat → Bool) : Cfg := ⟨fun _ _ _ => .bad, fun _ => false, g, fun _ _ _ => .bad, true⟩
def mCtx (N : List Str) (sc : Scope) : Ctx := ⟨N, sc, true, fun _ => true, none, false, false, true⟩
def metR (gf : Nat → Bool) (sups : Nat → List Nat) (n : Nat) (f : FnI) (act : Hea → Res EV.D) (h : Hea) : Res EV.D := (evSs (evS ⟨ev (cfgM gf) (n + 1), ev (cfg0 gf) (n + 1), sups⟩ act (n + 1)) f.body (List.replicate f.ns none) h).bind finF
theorem noexc_no {α : Type} {P : α → Hea → Prop} {Y : Exn → Hea → Prop} : ∀ {r : Res α}, r.noexc.all P Y → r.all P (fun _ _ => False)
  | .ok _ _, q => q
  | .exc _ _, q => q
  | .ask n k, q => fun i hi => noexc_no (r := k i) (q i hi)
  | .bad, q => q
theorem met_gives {f : FnI} {n lev : Nat} {Ng : List Str} {x a qn : Str} {sg : Scope} {g : Addr} {cdg : Value} {hs : List Hd} {e : IR} {h₀ : ExceptHandler} {hds : List ExceptHandler} {ex : Expr} {p1 p2 p3 p8 p9 : Pos} (W : WOk G S sups X.prog X.w X.mg) (hK : X.K = G.K)
    (hN : Ng.Nodup) (hn : f.ns = Ng.length) (hl : 0 < Ng.length) (hb : f.body = [.tra hs, .ret e]) (hc1 : chkAll (chkHd S (chkE S 60) (mCtx Ng sg)) hs (h₀ :: hds) = true) (hc2 : chkE S 60 (mCtx Ng sg) e ex = true) (hr : Room (lev + 1) X.A) (hgd : X.A.guards = some []) :
    LamX.GivesTo X Ng x sg g cdg [.Try [.Expr (.Call (.Name a p1) [] [] p2) p3] (h₀ :: hds) [] [] p8, .Return (some ex) p9] a qn (TTm G (metR G.gdf sups n f)) := by
  intro fl c' s H Q tl act hco ⟨ρ, h, ac, rh, q, ktl⟩
  have o : StOk G S ⟨ev (cfgM G.gdf) (n + 1), ev (cfg0 G.gdf) (n + 1), sups⟩ (cfgM G.gdf) (cfg0 G.gdf) lev (mCtx Ng sg) (cxOf C8.CX0 X.prog X.w X.K X.mg X.base Ng x sg g cdg X.A X.stack s H C8.E0).nox :=
    ⟨⟨hK, W.hw, rfl, hN, rfl, fun _ => rfl, rfl, fun _ => hr.deeper _, fun _ _ => rfl, W.gf, fun i z => (by cases z), W.gc, W.bi, rfl, W.gds, fun _ => hgd, room_ub (hr.deeper _), (fun z => by cases z), fun z => by cases z⟩, rfl, rfl, rfl, fun z => (by cases z), rfl, rfl, W.ex, W.sup, W.gk,
      fun k h1 h2 => let ⟨B, a, b, d, q1, q2, q3, q4, q5⟩ := W.mk0 k h1 h2; ⟨B, a, b, d, q1, q2, q3, raises_own (by show PySem.W.subIn X.K _ _ = _; rw [hK]; exact q4) (by show PySem.W.typeIn X.K _ = _; rw [hK]; exact q5)⟩, W.mk1, W.fx⟩
  have hh := hds_ok o (eok 60) hc1
  have se := (chkE_ok (G := G) (S := S) (c := cfgM G.gdf) (lev := lev) 60 (n + 1) _ _ _ hc2 _ o.cx).1
  refine ⟨_, pss_cons (ps_tryM (X := (cxOf C8.CX0 X.prog X.w X.K X.mg X.base Ng x sg g cdg X.A X.stack s H C8.E0).nox) (G := G) (Wout := noW)
      (tb := fun W D σ H => ∃ Ech : XK, (∀ cls d σ' H', Ech cls d H' → W cls d σ' H') ∧ σ[0]? = some (some (.ref fl)) ∧ H c' = some (LamX.CodeO c' qn) ∧ tl Ech H (fun _ H' => D.nx σ H'))
      hK rfl rfl hN takes_no (fun W pn xe tk _ => ⟨fun pins s' σ H' D I h' => ?_⟩) hh) (pss_one (ps_ret (se noW takes_no))), ?_⟩
  · obtain ⟨Ech, hW, h1, h2, h3⟩ := h'
    exact (pss_one (ps_expr (pos := p3) (act W pn xe Ech p1 p2 tk hW))).run pins s' σ H' D I ⟨h1, h2, h3⟩
  · have hst : (L2.start Ng [V.ref fl]).length = Ng.length := by
      unfold L2.start
      simp
      omega
    refine ⟨fun c d H' => ∀ σ' : L2.St, σ'.length = Ng.length → wM G noW _ _ c d σ' H', fun cls d σ' H' z len => z σ' len, ?_, hco, ?_⟩
    · rfl
    · refine ktl _ _ ?_
      have q := noexc_no q
      unfold metR at q
      rw [hb, hn, Res.all_bind] at q
      have q2 : ((tryR ⟨ev (cfgM G.gdf) (n + 1), ev (cfg0 G.gdf) (n + 1), sups⟩ hs (List.replicate Ng.length none) (ac h)).bind fun fl h1 => match fl with
        | .nx σ1 => evSs (evS ⟨ev (cfgM G.gdf) (n + 1), ev (cfg0 G.gdf) (n + 1), sups⟩ ac (n + 1)) [.ret e] σ1 h1
        | fl => .ok fl h1).all (fun fl h1 => (finF fl h1).all (PostE G ρ H Q) (fun _ _ => False)) (fun _ _ => False) := q
      rw [tryR_eq, Res.all_bind] at q2
      have q3 := try_all2 (D := { nx := fun σ H' => tRet (tV G (ev (cfgM G.gdf) (n + 1) false e) noW) { nx := fun _ H' => Q .non H', rt := Q } σ H', rt := Q }) (E := fun _ _ _ => False) W.sup W.ex rh hh (fun _ _ _ z => z) (Res.all_mono (fun fl h1 q ρ1 H1 x1 r1 => ?_) (fun _ _ z => z.elim) q2)
      · refine Res.all_mono (fun d h1 p ρ1 H1 v x1 rd r1 => ?_) (fun _ _ p => p) q3
        exact p ρ1 H1 x1 r1 _ (nil_rel hst)
      · cases fl with
        | nx σ1 =>
          intro σ' st'
          have q4 : (((ev (cfgM G.gdf) (n + 1) false e σ1 h1).bind fun d h2 => (Res.ok (Fl.rt d) h2 : Res Fl)).bind fun fl h1 => match fl with
            | .nx σ1 => Res.ok (.nx σ1) h1
            | fl => .ok fl h1).all (fun fl h1 => (finF fl h1).all (PostE G ρ H Q) (fun _ _ => False)) (fun _ _ => False) := q
          rw [Res.all_bind, Res.all_bind] at q4
          exact ⟨ρ1, σ1, h1, st', r1, Res.all_mono (fun d h2 p => PostE.mv r1 x1 p) (fun _ _ z => z.elim) q4⟩
        | rt d => exact fun v rv => q ρ1 H1 v x1 rv r1
        | bk σ => exact q.elim
        | ct σ => exact q.elim
variable {P : Program} {w : World} {mg : Str → Option Value} {base : Heap} {c : Cfg} {lev : Nat} {act : Hea → Res EV.D}
/-- the text of a def that calls what it gets within a try -/
structure MetTxt (G : Glo) (S : Stat) (sups : Nat → List Nat) (mg : Str → Option Value) (n : Nat) (x : Str) (f : FnI) : Prop where
  ex : ∃ (g : Addr) (pg : Arguments) (sg : Scope) (dV kV doc pm cdv ct oc : Value) (an od : Option Addr) (osl : Array (Option Value)) (Ng : List Str) (a : Str) (hs : List Hd) (e : IR) (h₀ : ExceptHandler) (hds : List ExceptHandler) (ex : Expr) (p1 p2 p3 p8 p9 : Pos),
    mg x = some (.ref g) ∧ PySem.W.keepIn G.K (.ref g) = true ∧
    G.K.lookup g = some ⟨oc, od, .func (PySem.W.fnOf x x pg [.Try [.Expr (.Call (.Name a p1) [] [] p2) p3] (h₀ :: hds) [] [] p8, .Return (some ex) p9] sg dV kV doc pm an cdv ct), osl⟩ ∧ PySem.W.codeIn G.K cdv x = true ∧
    L2.Binds G.K (PySem.W.fnOf x x pg [.Try [.Expr (.Call (.Name a p1) [] [] p2) p3] (h₀ :: hds) [] [] p8, .Return (some ex) p9] sg dV kV doc pm an cdv ct) [a] [] ∧ FnScope Ng [a] sg ∧ Ng[0]? = some a ∧ Vis sg a ∧ NmOk a ∧ NmOk x ∧
    f.ns = Ng.length ∧ f.body = [.tra hs, .ret e] ∧ chkAll (chkHd S (chkE S 60) (mCtx Ng sg)) hs (h₀ :: hds) = true ∧ chkE S 60 (mCtx Ng sg) e ex = true
theorem MetTxt.giv {n : Nat} {x : Str} {f : FnI} (M : MetTxt G S sups X.mg n x f) (W : WOk G S sups X.prog X.w X.mg) (hK : X.K = G.K) (hr : Room (lev + 1) X.A) (hgd : X.A.guards = some []) : GivX G X x (metR G.gdf sups n f) := by
  obtain ⟨g, pg, sg, dV, kV, doc, pm, cdv, ct, oc, an, od, osl, Ng, a, hs, e, h₀, hds, ex, p1, p2, p3, p8, p9, m1, m2, m3, m4, m5, m6, m7, m8, m9, m10, m11, m12, m13, m14⟩ := M.ex
  refine ⟨g, pg, _, sg, dV, kV, doc, pm, cdv, ct, oc, an, od, osl, Ng, a, m1, by rw [hK]; exact m2, by rw [hK]; exact m3, by rw [hK]; exact m4, by rw [hK]; exact m5, m6, m7, m8, m9, m10, fun qn => ?_⟩
  exact met_gives W hK m6.nd m11 (List.getElem?_eq_some_iff.mp m7).1 m12 m13 m14 hr hgd
def lCtx (N : List Str) (sc : Scope) : Ctx := ⟨N, sc, true, fun _ => true, none, true, true, true⟩
/-- a def that makes lambdas -/
theorem def_okL {f : FnI} {i n : Nat} {name : Str} {params : Arguments} {body : List Stmt} {scope : Scope} {dV kV doc pm ct oc : Value} {cda Pt : Addr} {an od : Option Addr} {osl : Array (Option Value)} {N ps : List Str} (W : WOk G S sups P w mg)
    (hc : c.calm = true) (hd : ∀ j, c.ok j = true → DefOk G P w mg base lev (c.call j) j)
    (hm : ∀ x g, S.gmet x = some g → ∃ fg ng, MetTxt G S sups mg ng x fg ∧ ∀ act h, c.met g act h = (metR G.gdf sups ng fg act h).noexc)
    (lk : G.K.lookup (G.fa i) = some ⟨oc, od, .func (PySem.W.fnOf name name params body scope dV kV doc pm an (.ref cda) ct), osl⟩) (hcd : PySem.W.codeIn G.K (.ref cda) name = true) (kp : PySem.W.keepIn G.K (.ref (G.fa i)) = true) (hs : FnScope N ps scope)
    (hb : Binds G.K (PySem.W.fnOf name name params body scope dV kV doc pm an (.ref cda) ct) ps []) (hp : f.np = ps.length) (hN : f.ns = N.length) {KS : Nat} (chk : chkAll (chkS S (lCtx N scope) KS) f.body body = true)
    (hgc : c.gdf = G.gdf) (hgi : G.gdf i = true) (tb : LamX.TabB base mg cda Pt) (tm : ∀ L, (Pt, (envOfC name scope L (G.fa i) (.ref cda)).qual ++ "<lambda>") ∈ G.T) (tu : ∀ L, ∀ p ∈ G.T, p.1 = Pt → p.2 = (envOfC name scope L (G.fa i) (.ref cda)).qual ++ "<lambda>") :
    DefOk G P w mg base (lev + 3) (runB ⟨fun _ => none, sups⟩ (n + 1) c (cfg0 G.gdf) act f) i := by
  refine ⟨_, ps, ⟨fun vs H Q E q => q.1, fun A outer s H args us vs Q E hr2 hgd e0 hb' r q => LamX.run_ofS (k := lev + 2) (N := N) lk hcd hs hr2 e0 hb' r q.1 fun hr => ?_⟩, kp, hb, fun ds h hl => ?_⟩
  · obtain ⟨hl, ρ, h, ds, rd, rh, q⟩ := q
    have hr1 : Room lev (A.deeper (envOfC name scope s.heap.objs.size (G.fa i) (.ref cda))) := hr.mono (by omega)
    have o : StOk G S ⟨ev c (n + 1), ev (cfg0 G.gdf) (n + 1), sups⟩ c (cfg0 G.gdf) lev (lCtx N scope) (cxOf (L2.CX P w) P w G.K mg base N name scope (G.fa i) (.ref cda) A outer s H E) :=
      ⟨⟨rfl, W.hw, rfl, hs.nd, rfl, fun _ => rfl, hc, fun _ => hr1, fun _ _ => rfl, W.gf, hd, W.gc, W.bi, hgc, W.gds, (fun _ => hgd hgi), room_ub hr1, (fun z => by cases z), fun _ => ⟨⟨cda, Pt, rfl, tb, tm _, tu _⟩, hr, fun x g hx => let ⟨fg, ng, m1, m2⟩ := hm x g hx; ⟨metR G.gdf sups ng fg, m1.giv (lev := lev) W rfl (hr.mono (by omega)) (hgd hgi), m2⟩⟩⟩, rfl, rfl, rfl, fun _ => passes_of (K := L2.CX P w outer H s E) rfl, rfl, rfl, W.ex, W.sup, W.gk,
        fun k h1 h2 => let ⟨B, a, b, d, q1, q2, q3, q4, q5⟩ := W.mk0 k h1 h2; ⟨B, a, b, d, q1, q2, q3, raises_own q4 q5⟩, W.mk1, W.fx⟩
    have z := sndss_of (RS := evS ⟨ev c (n + 1), ev (cfg0 G.gdf) (n + 1), sups⟩ act (n + 1)) (fun sr st h => chkS_ok (act := act) o rfl (fun k => chkE_ok k n) rfl (fun k => eok k) KS (n + 1) sr st h) chk
    refine ⟨_, z E (takes_of rfl rfl rfl rfl), ?_⟩
    unfold runB at q
    rw [if_pos (by rw [rd.length, hl, hp])] at q
    obtain ⟨ds, rd, q⟩ := frcA_all q rd
    rw [Res.all_bind] at q
    refine ⟨ρ, _, h, ?_, rh, Res.all_mono (fun fl h1 q ρ1 H1 x r1 => ?_) (fun _ _ z => z) q⟩
    · have e : f.ns - f.np = f.ns - ds.length := by rw [rd.length, hl, hp]
      rw [e]
      exact start_rel rd hN
    · unfold finF at q
      cases fl with
      | nx σ => exact fun σ' st => q ρ1 H1 _ x (.a .non) r1
      | rt d => exact fun v rv => q ρ1 H1 v x rv r1
      | bk σ => exact q.elim
      | ct σ => exact q.elim
  · unfold runB
    rw [if_neg (by rw [hp]; exact hl)]
end
end EV

set_option Elab.async false
set_option linter.all false
set_option maxRecDepth 100000
set_option maxHeartbeats 4000000
/-! EvY: levels of calls; a meaning told by a table. -/
namespace EV
open PySem PySem.Spec PyProof.Rows L2
abbrev Mean := List D → Hea → Res D
def badM : Mean := fun _ _ => .bad
def okL (fns : Nat → Option FnI) (prim : Nat → Option Mean) : Nat → Nat → Bool
  | 0, i => (prim i).isSome
  | _ + 1, i => (prim i).isSome || (fns i).isSome
/-- the meanings, at most d calls deep -/
def lvl (gf : Nat → Bool) (fns : Nat → Option FnI) (sups : Nat → List Nat) (prim : Nat → Option Mean) (n : Nat) : Nat → Nat → Mean
  | 0, i => (prim i).getD badM
  | d + 1, i => match prim i with
    | some F => F
    | none => match fns i with
      | some f => runB ⟨fun _ => none, sups⟩ (n + 1) ⟨lvl gf fns sups prim n d, okL fns prim d, gf, fun _ _ _ => .bad, true⟩ (cfg0 gf) (fun _ => .bad) f
      | none => badM
section
variable {G : Glo} {S : Stat} {sups : Nat → List Nat} {P : Program} {w : World} {mg : Str → Option Value} {base : Heap} {fns : Nat → Option FnI} {prim : Nat → Option Mean} {n : Nat}
/-- what is asked of a def's text -/
def TxtOk (G : Glo) (S : Stat) (i : Nat) (f : FnI) : Prop := ∃ (name : Str) (st : Stmt) (fd : FuncData) (N ps : List Str) (KS : Nat), Fun G.K name name st (G.fa i) fd ∧ L2.Binds G.K fd ps [] ∧ FnScope N ps (defScope st) ∧ f.np = ps.length ∧ f.ns = N.length ∧ chkAll (chkS S (dCtx N (defScope st) (G.gdf i)) KS) f.body (defBody st) = true
theorem TxtOk.ok {i lev : Nat} {f : FnI} {c : Cfg} {act : Hea → Res D} (T : TxtOk G S i f) (W : WOk G S sups P w mg) (hc : c.calm = true) (hgc : c.gdf = G.gdf) (hd : ∀ j, c.ok j = true → DefOk G P w mg base lev (c.call j) j) :
    DefOk G P w mg base (lev + 1) (runB ⟨fun _ => none, sups⟩ (n + 1) c (cfg0 G.gdf) act f) i := by
  obtain ⟨name, st, fd, N, ps, KS, F, b, hs, h1, h2, h3⟩ := T
  obtain ⟨oc, od, kV, doc, pm, an, cdv, ct, osl, rfl, lk, hcd⟩ := F.ex
  exact def_ok W hc hd lk hcd F.kp hs b h1 h2 hgc h3
theorem lvl_ok (W : WOk G S sups P w mg) (hp : ∀ i F, prim i = some F → DefOk G P w mg base 1 F i) (hf : ∀ i f, fns i = some f → prim i = none → TxtOk G S i f) : ∀ (d i : Nat), okL fns prim d i = true → DefOk G P w mg base (d + 1) (lvl G.gdf fns sups prim n d i) i
  | 0, i, h => by
    have h : (prim i).isSome = true := h
    unfold lvl
    cases e : prim i with
    | none => rw [e] at h; cases h
    | some F => exact hp i F e
  | d + 1, i, h => by
    unfold lvl
    cases e : prim i with
    | some F => exact (hp i F e).mono (by omega)
    | none =>
      have h : ((prim i).isSome || (fns i).isSome) = true := h
      rw [e] at h
      cases e2 : fns i with
      | none => rw [e2] at h; cases h
      | some f => exact (hf i f e2 e).ok W rfl rfl fun j hj => lvl_ok W hp hf d j hj
/-! ### tables -/
structure Ent where
  ds : List D
  h : Hea
  d : D
  h' : Hea
def look : List Ent → List D → Hea → Option Ent
  | [], _, _ => none
  | e :: t, ds, h => if D.sames e.ds ds && sameH e.h h then some e else look t ds h
def entOk (F : Mean) (e : Ent) : Bool := (callL F e.ds e.h).chk fun d h => D.same d e.d && sameH h e.h'
def memo (t : List Ent) (F : Mean) : Mean := fun ds h => match look t ds h with
  | some e => .ok e.d e.h'
  | none => .bad
theorem look_mem : ∀ {t : List Ent} {ds : List D} {h : Hea} {e : Ent}, look t ds h = some e → e ∈ t ∧ e.ds = ds ∧ e.h = h
  | [], _, _, _, q => by cases q
  | a :: t, ds, h, e, q => by
    unfold look at q
    split at q
    · rename_i z
      cases q
      rw [Bool.and_eq_true] at z
      exact ⟨List.mem_cons_self, D.sames_eq _ _ z.1, sameH_eq z.2⟩
    · obtain ⟨h1, h2⟩ := look_mem q
      exact ⟨List.mem_cons_of_mem _ h1, h2⟩
theorem memo_imp {t : List Ent} {F : Mean} (ht : t.all (entOk F) = true) {ds : List D} {h : Hea} {Q : D → Hea → Prop} {W : Exn → Hea → Prop} (q : (memo t F ds h).all Q W) : (callL F ds h).all Q W := by
  unfold memo at q
  split at q
  · rename_i e e1
    obtain ⟨h1, rfl, rfl⟩ := look_mem e1
    refine Res.all_mono (fun d h z => ?_) (fun _ _ z => z.elim) (Res.chk_all (List.all_eq_true.mp ht e h1))
    rw [Bool.and_eq_true] at z
    rw [D.same_eq _ _ z.1, sameH_eq z.2]
    exact q
  · exact q.elim
theorem DefOk.memo {lev i : Nat} {F : Mean} {t : List Ent} (d : DefOk G P w mg base lev F i) (ht : t.all (entOk F) = true) : DefOk G P w mg base lev (memo t F) i := by
  refine d.callL.imp (fun ds h Q W q => memo_imp ht q) fun np ds h hb hl => ?_
  unfold EV.memo
  cases e : look t ds h with
  | none => rfl
  | some e1 =>
    exfalso
    obtain ⟨h1, rfl, rfl⟩ := look_mem e
    have := Res.chk_all (List.all_eq_true.mp ht e1 h1)
    rw [show EV.callL F e1.ds e1.h = .bad from hb _ _ hl] at this
    exact this
end
end EV

set_option Elab.async false
set_option linter.all false
set_option maxRecDepth 100000
set_option maxHeartbeats 4000000
/-! EvZ: the law's own call, and the end of its row. -/
namespace EV
open PySem PySem.Spec PyProof.Rows L2
/-- the heap that the law's call starts from: the tables of code objects, the script where it is not of the written part -/
def H0 (K : PySem.W.Frag) (T : List Addr) (a : Addr) (lo : PySem.Obj) (xs : List V) : Hp := fun b => if b ∈ T then some (.tbl #[]) else if b = a ∧ K.lookup a = none then some (.frz lo (.lst xs)) else none
/-- what is known where the law is called -/
structure Start (K : PySem.W.Frag) (mg : Str → Option Value) (cs : List (Addr × Addr)) (s : Shared) (a : Addr) (vs : List Value) (ns : List Int) : Prop where
  kin : K.In s.heap
  nsM : s.heap.Ns mainGlobals mg
  bn : ∃ mb, s.heap.Ns builtinsNs mb ∧ ∀ x : Str, x ≠ "__name__" → mb x = bootBuiltins x
  lim : s.heap.NoLimit
  gens : s.gens = #[]
  tab : ∀ p ∈ cs, s.heap.get? p.2 = some { cls := .none, data := .fields #[] }
  out : ∀ p ∈ cs, K.lookup p.2 = none
  code : ∀ p ∈ cs, PySem.W.CodeHd s.heap p.1 p.2
  mod : ∃ (bm : Addr) (ob : PySem.Obj), mg "__builtins__" = some (.ref bm) ∧ bm ≠ builtinsNs ∧ s.heap.get? bm = some ob ∧ ob.cls = .type "module" ∧ ob.dict = some builtinsNs ∧ ob.data = .plain
  lst : s.heap.get? a = some { cls := .type "list", data := .seq vs.toArray }
  iA : IntsAre vs ns
  len : ns.length ≤ 63
abbrev lobj (vs : List Value) : PySem.Obj := { cls := .type "list", data := .seq vs.toArray }
section
variable {K : PySem.W.Frag} {mg : Str → Option Value} {cs : List (Addr × Addr)} {s : Shared} {a : Addr} {vs : List Value} {ns : List Int}
abbrev HS (K : PySem.W.Frag) (cs : List (Addr × Addr)) (a : Addr) (vs : List Value) (ns : List Int) : Hp := H0 K (cs.map (·.2)) a (lobj vs) (ns.map V.int)
theorem Start.notT (S : Start K mg cs s a vs ns) : a ∉ cs.map (·.2) := fun z => by
  obtain ⟨p, hp, e⟩ := List.mem_map.mp z
  have q := S.tab p hp
  rw [e, S.lst] at q
  cases q
theorem H0_tab {T : List Addr} {lo : PySem.Obj} {xs : List V} {b : Addr} (h : b ∈ T) : H0 K T a lo xs b = some (.tbl #[]) := if_pos h
theorem H0_cases {T : List Addr} {lo : PySem.Obj} {xs : List V} {b : Addr} {u : HO} (h : H0 K T a lo xs b = some u) : (b ∈ T ∧ u = .tbl #[]) ∨ (b ∉ T ∧ b = a ∧ K.lookup a = none ∧ u = .frz lo (.lst xs)) := by
  unfold H0 at h
  split at h
  · rename_i m
    cases h
    exact .inl ⟨m, rfl⟩
  · rename_i m
    split at h
    · rename_i q
      cases h
      exact .inr ⟨m, q.1, q.2, rfl⟩
    · cases h
/-- what is no list and no empty table is not tracked -/
theorem Start.free (S : Start K mg cs s a vs ns) {b : Addr} {o : PySem.Obj} (e : s.heap.get? b = some o) (h1 : ∀ xs n, o.data ≠ .seq xs n) (h2 : o.data ≠ .fields #[]) : HS K cs a vs ns b = none := by
  cases q : HS K cs a vs ns b with
  | none => rfl
  | some u =>
    exfalso
    rcases H0_cases q with ⟨m, _⟩ | ⟨_, rfl, _, _⟩
    · obtain ⟨p, hp, e2⟩ := List.mem_map.mp m
      have t := S.tab p hp
      rw [e2, e] at t
      cases t
      exact h2 rfl
    · rw [S.lst] at e
      cases e
      exact h1 _ _ rfl
theorem Start.hid (S : Start K mg cs s a vs ns) {b : Addr} {o : PySem.Obj} (e : s.heap.get? b = some o) (h1 : ∀ xs n, o.data ≠ .seq xs n) (h2 : o.data ≠ .fields #[]) : (hidT s.heap (HS K cs a vs ns)).get? b = some o := hidT_get e (S.free e h1 h2)
theorem Start.nsH (S : Start K mg cs s a vs ns) {b : Addr} {m : Str → Option Value} (h : s.heap.Ns b m) : (hidT s.heap (HS K cs a vs ns)).Ns b m := by
  obtain ⟨o, es, ep, e, d, r⟩ := h
  exact ⟨o, es, ep, S.hid e (fun xs n z => by rw [d] at z; cases z) (fun z => by rw [d] at z; cases z), d, r⟩
theorem Start.kinH (S : Start K mg cs s a vs ns) : K.In (hidT s.heap (HS K cs a vs ns)) := fun b o e => by
  refine hidT_get (S.kin b o e) ?_
  cases q : HS K cs a vs ns b with
  | none => rfl
  | some u =>
    exfalso
    rcases H0_cases q with ⟨m, _⟩ | ⟨_, rfl, z, _⟩
    · obtain ⟨p, hp, e2⟩ := List.mem_map.mp m
      have t := S.out p hp
      rw [e2, e] at t
      cases t
    · rw [z] at e
      cases e
theorem Start.tabB (S : Start K mg cs s a vs ns) : ∀ p ∈ cs, LamX.TabB (hidT s.heap (HS K cs a vs ns)) mg p.1 p.2 := fun p hp => by
  refine ⟨?_, ?_, fun z => ?_⟩
  · obtain ⟨o, us, file, tf, fl, tg, inF, tx, tt, e1, r1, r2, r3, rest⟩ := S.code p hp
    refine ⟨o, us, file, tf, fl, tg, inF, tx, tt, S.hid e1 (fun xs n z => by rw [r2] at z; cases z) (fun z => ?_), r1, r2, r3, rest⟩
    rw [r2] at z
    cases z
    simp at r3
  · obtain ⟨bm, ob, b1, b2, b3, b4, b5, b6⟩ := S.mod
    refine ⟨bm, ob, b1, b2, fun q => ?_, fun q => ?_, S.hid b3 (fun xs n z => by rw [b6] at z; cases z) (fun z => by rw [b6] at z; cases z), b4, b5, b6⟩
    · obtain ⟨o, es, ep, e, hd, _⟩ := S.nsM
      rw [q, e] at b3
      cases b3
      rw [hd] at b6
      cases b6
    · rw [q, S.tab p hp] at b3
      cases b3
      cases b6
  · obtain ⟨o, es, ep, e, hd, _⟩ := S.nsM
    rw [z, S.tab p hp] at e
    cases e
    cases hd
theorem Start.hok {P : Program} {w : World} (S : Start K mg cs s a vs ns) : HOk P w (HS K cs a vs ns) s.heap := fun b u e => by
  rcases H0_cases e with ⟨m, rfl⟩ | ⟨_, rfl, _, rfl⟩
  · obtain ⟨p, hp, e2⟩ := List.mem_map.mp m
    rw [← e2]
    exact S.tab p hp
  · have rv := vals_ints S.iA
    refine ⟨S.lst, ?_, vs, _, rv, S.lst⟩
    have := S.len
    rw [List.length_map, sizeLine_eq]
    omega
theorem Start.seq (S : Start K mg cs s a vs ns) : SqL K (HS K cs a vs ns) a (ns.map V.int) := by
  cases k : K.lookup a with
  | none => exact .inl (.inr ⟨lobj vs, (if_neg S.notT).trans (if_pos ⟨rfl, k⟩)⟩)
  | some o =>
    have e := S.kin a o k
    rw [S.lst] at e
    cases e
    refine .inr ⟨_, vs.toArray, _, k, rfl, rfl, rfl, ?_, by simpa using vals_ints S.iA⟩
    have l := S.iA.length
    have := S.len
    rw [List.size_toArray, sizeLine_eq]
    omega
/-- the call of the law's def -/
theorem law_run {G : Glo} {P : Program} {w : World} {lev i : Nat} {F : Mean} (S : Start K mg cs s a vs ns) (hG : G.K = K) (hs : G.scr = some (a, ns)) (hT : ∀ p ∈ G.T, p.1 ∈ cs.map (·.2)) (hr : Room lev callerA)
    (D : DefOk G P w mg (hidT s.heap (HS K cs a vs ns)) lev F i) (q : (F [.scr] []).all (fun d _ => d = .bl true) (fun _ _ => False)) :
    codeAny (model P w) callerA (.call (.ref (G.fa i)) ⟨[.ref a], []⟩) (fun r s' => r = .ok (.ret (.bool true)) ∧ OldK s.heap s'.heap ∧ s'.os = s.os ∧ AllBare s'.gens) s := by
  subst hG
  obtain ⟨fd, ps, FX, _, hb, hl⟩ := D
  have np : ps.length = 1 := by
    by_cases z : ([D.scr] : List D).length = ps.length
    · exact z.symm
    · rw [hl _ _ z] at q
      exact q.elim
  have hM : L2.Mod G.K mg (hidT s.heap (HS G.K cs a vs ns)) := by
    obtain ⟨mb, h1, h2⟩ := S.bn
    obtain ⟨mc, h3, h4⟩ := S.lim
    exact ⟨S.kinH, S.nsH S.nsM, ⟨mb, S.nsH h1, h2⟩, ⟨mc, S.nsH h3, h4⟩⟩
  have e0 : Env0 P w G.K mg (hidT s.heap (HS G.K cs a vs ns)) callerA [] s (HS G.K cs a vs ns) := ⟨rfl, hM, fun b o e => of_hidT e, Nat.le_of_eq (hidT_size _ _), trivial, fun b hb => absurd (show b ∈ ([] : List Addr) from hb) (by simp), S.hok, .of_eq S.gens⟩
  have bt := hb s [.ref a] S.kin (by simp [np])
  rw [List.append_nil] at bt
  have rh : RelH G [] (HS G.K cs a vs ns) [] := by
    refine ⟨rfl, List.nodup_nil, fun n o p e => (by simp at e), fun z hz => LamX.TabS.nil (H0_tab (hT z hz)), fun p ms e => ?_⟩
    rw [hs] at e
    cases e
    refine ⟨by have := S.len; omega, ?_⟩
    rcases S.seq with z | z
    · exact .inl ⟨z, by simp⟩
    · exact .inr fun H' => .inr z
  have sp : spC G F ps.length [.ref a] (HS G.K cs a vs ns) (fun v _ => v = .bl true) (fun _ _ _ => False) := by
    refine ⟨by simp [np], [], [], [.scr], .cons (.scr hs) .nil, rh, Res.all_mono (fun d h' e ρ' H' v _ rv _ => ?_) (fun _ _ z => z.elim) q⟩
    subst e
    exact rv.bl_inv
  refine codeAny_mono (FX.run callerA [] s (HS G.K cs a vs ns) ⟨[.ref a], []⟩ [.ref a] [.ref a] _ _ hr (fun _ => rfl) e0 bt (.cons rfl .nil) sp) fun r s' z => ?_
  cases r with
  | error e => obtain ⟨_, _, _, _, _, _, _, _, _, _, _, _, z⟩ := z; exact z.elim
  | ok fl =>
    cases fl with
    | next => exact z.elim
    | brk => exact z.elim
    | cont => exact z.elim
    | ret u =>
      obtain ⟨v, H', os, bare, un, hok', r', e⟩ := z
      have e : v = .bl true := e
      subst e
      cases (show u = Value.bool true from r')
      have kept : ∀ b o, b ∉ cs.map (·.2) → s.heap.get? b = some o → s'.heap.get? b = some o := fun b o nb e => by
        cases q : HS G.K cs a vs ns b with
        | none => exact un.keep b o e q (fun z => absurd (show b ∈ ([] : List Addr) from z) (by simp)) (by simp)
        | some u =>
          rcases H0_cases q with ⟨m, _⟩ | ⟨_, rfl, _, rfl⟩
          · exact (nb m).elim
          · obtain ⟨e2, _⟩ := hok' _ _ (un.frzs _ _ _ q)
            rw [S.lst] at e
            cases e
            exact e2
      have grown : ∀ p ∈ cs, ∃ more : Array Value, s'.heap.get? p.2 = some { cls := .none, data := .fields more } := fun p hp => by
        obtain ⟨more, z⟩ := un.tbls p.2 #[] (H0_tab (List.mem_map.mpr ⟨p, hp, rfl⟩))
        exact ⟨_, hok' p.2 _ z⟩
      refine ⟨rfl, ⟨fun b o e => ?_, fun b o e => ?_⟩, os, bare⟩
      · by_cases m : b ∈ cs.map (·.2)
        · obtain ⟨p, hp, e2⟩ := List.mem_map.mp m
          obtain ⟨more, hm⟩ := grown p hp
          rw [← e2] at e ⊢
          rw [S.tab p hp] at e
          cases e
          exact .inr (.inl ⟨((S.code p hp).tab (S.tab p hp)).isCodeTable, rfl, #[], more, rfl, by rw [Array.empty_append]; exact hm⟩)
        · exact .inl (kept b o m e)
      · by_cases m : b ∈ cs.map (·.2)
        · obtain ⟨p, hp, e2⟩ := List.mem_map.mp m
          obtain ⟨more, hm⟩ := grown p hp
          rw [← e2]
          exact ⟨_, hm⟩
        · exact ⟨o, kept b o m e⟩
end
/-- what the head must give -/
def LawX (l : PySem.W.OpenLaw) (w : World) (K : PySem.W.Frag) (mg : Str → Option Value) (fa : Addr) (h : Heap) : Prop :=
  ∃ cs : List (Addr × Addr), (∀ p ∈ cs, h.get? p.2 = some { cls := .none, data := .fields #[] }) ∧ (∀ p ∈ cs, K.lookup p.2 = none) ∧ (∀ p ∈ cs, PySem.W.CodeHd h p.1 p.2) ∧
    ∀ (a : Addr) (ns : List Int), ∃ (G : Glo) (i lev : Nat) (F : Mean), G.K = K ∧ G.fa i = fa ∧ G.scr = some (a, ns) ∧ (∀ p ∈ G.T, p.1 ∈ cs.map (·.2)) ∧ Room lev callerA ∧ (F [.scr] []).all (fun d _ => d = .bl true) (fun _ _ => False) ∧
      ∀ base : Heap, K.In base → base.Ns mainGlobals mg → (∀ p ∈ cs, LamX.TabB base mg p.1 p.2) → DefOk G l.prog w mg base lev F i
theorem walk_ofX {l : PySem.W.OpenLaw} {q : Program} {loose : List Str} {XP : (Str → Option Value) → Heap → Prop} {YP : World → Heap → Prop} {d : DefRec} {K : Params → PySem.W.Frag} (hn : l.most = some 63) (hdf : d.params.defaults = []) (hY : ∀ (w : World) (h : Heap), YP w h → (K w.params).In h)
    (F : ∀ (w : World) (mg : Str → Option Value) (fa : Addr) (h : Heap), YP w h → (K w.params).In h → h.Ns mainGlobals mg → mg d.name = some (.ref fa) → LawX l w (K w.params) mg fa h) :
    PySem.W.WalkO q loose XP YP l.row.toRowW d [] (fun f vs => PySem.call f vs) := by
  refine Att.attach_callB hn hdf fun w s₀ s₁ mg mb fa o pm cd doc a vs ns Gr Y ho hd hcd hmg hobj hints hlen hbits hg => ?_
  have KX := hY w _ Y
  obtain ⟨cs, hT, nT, C, more⟩ := F w mg fa _ Y KX Gr.T.g hmg
  obtain ⟨G, i, lev, M, e1, e2, e3, e4, hr, all, D⟩ := more a ns
  have S : Start (K w.params) mg cs s₁ a vs ns := ⟨KX, Gr.T.g, ⟨mb, Gr.T.b, Gr.T.builtins⟩, Gr.T.nolimit, hg, hT, nT, C, Gr.T.bmain, hobj, hints, hlen⟩
  rw [← e2]
  exact law_run S e1 e3 e4 hr (D _ S.kinH (S.nsH S.nsM) S.tabB) all
end EV

set_option Elab.async false
set_option linter.all false
set_option maxRecDepth 100000
set_option maxHeartbeats 4000000
/-! EvZa: what a law's text needs to come from its facts. -/
namespace EV
open PySem PySem.Spec PyProof.Rows L2
theorem lookup_mem {α β : Type} [BEq α] [LawfulBEq α] {x : α} {i : β} : ∀ {l : List (α × β)}, l.lookup x = some i → (x, i) ∈ l
  | [], h => by simp at h
  | (y, j) :: r, h => by
    rw [List.lookup_cons] at h
    split at h
    · rename_i e
      rw [beq_iff_eq] at e
      subst e
      cases h
      exact List.mem_cons_self
    · exact List.mem_cons_of_mem _ (lookup_mem h)
def AllP {α : Type} (P : α → Prop) : List α → Prop
  | [] => True
  | a :: l => P a ∧ AllP P l
theorem AllP.mem {α : Type} {P : α → Prop} : ∀ {l : List α} {a : α}, AllP P l → a ∈ l → P a
  | [], _, _, h => by cases h
  | _ :: _, _, h, m => by
    rcases List.mem_cons.mp m with rfl | m
    · exact h.1
    · exact AllP.mem h.2 m
theorem contains_mem {α : Type} [BEq α] [LawfulBEq α] {l : List α} {x : α} (h : l.contains x = true) : x ∈ l := by simpa using h
/-- a constant of the module -/
inductive CstV : A → Value → Prop
  | non : CstV .non .none
  | bl (b : Bool) : CstV (.bl b) (.bool b)
  | int (i : Int) (t : Tok) : CstV (.int i) (.int i t)
  | str (s : List Nat) (t : Tok) : CstV (.str s) (.str ⟨s.toArray⟩ t)
theorem CstV.rel {G : Glo} {d : A} {u : Value} (c : CstV d u) : ∃ v, RelV v u ∧ ∀ H, RelA G H d v := by
  cases c with
  | non => exact ⟨.non, rfl, fun H => .non⟩
  | bl b => exact ⟨.bl b, rfl, fun H => .bl b⟩
  | int i t => exact ⟨.int i, ⟨t, rfl⟩, fun H => .int i⟩
  | str s t => exact ⟨.str _, ⟨t, rfl⟩, fun H => .str s⟩
/-- the text of a def that calls what it gets within a try -/
def metB (S : Stat) (N : List Str) (a : Str) (hs : List Hd) (e : IR) (st : Stmt) : Bool := match defBody st with
  | [.Try [.Expr (.Call (.Name a' _) [] [] _) _] (h :: hds) [] [] _, .Return (some ex) _] => a' == a && chkAll (chkHd S (chkE S 60) (mCtx N (defScope st))) hs (h :: hds) && chkE S 60 (mCtx N (defScope st)) e ex
  | _ => false
theorem met_txt {G : Glo} {S : Stat} {sups : Nat → List Nat} {mg : Str → Option Value} {n : Nat} {x a : Str} {f : FnI} {g : Addr} {st : Stmt} {fd : FuncData} {N : List Str} {hs : List Hd} {e : IR} (hm : mg x = some (.ref g)) (F : Fun G.K x x st g fd) (b : L2.Binds G.K fd [a] []) (sc : FnScope N [a] (defScope st)) (h0 : N[0]? = some a) (hv : visB (defScope st) a = true) (na : nmB a = true) (nx : nmB x = true)
    (hn : f.ns = N.length) (hb : f.body = [.tra hs, .ret e]) (h : metB S N a hs e st = true) : MetTxt G S sups mg n x f := by
  obtain ⟨oc, od, kV, doc, pm, an, cdv, ct, osl, rfl, lk, hcd⟩ := F.ex
  unfold metB at h
  split at h
  · rename_i a' p1 p2 p3 h₀ hds p8 ex p9 eb
    simp only [Bool.and_eq_true, beq_iff_eq] at h
    obtain ⟨⟨rfl, h1⟩, h2⟩ := h
    rw [eb] at lk b
    exact ⟨⟨g, defArgs st, defScope st, .none, kV, doc, pm, cdv, ct, oc, an, od, osl, N, a', hs, e, h₀, hds, ex, p1, p2, p3, p8, p9, hm, F.kp, lk, hcd, b, sc, h0, visB_ok hv, nmB_ok na, nmB_ok nx, hn, hb, h1, h2⟩⟩
  · cases h
/-- a def that makes lambdas, from its facts -/
theorem lam_ok {G : Glo} {S : Stat} {sups : Nat → List Nat} {P : Program} {w : World} {mg : Str → Option Value} {base : Heap} {c : Cfg} {lev n i : Nat} {act : Hea → Res D} {f : FnI} {name : Str} {st : Stmt} {kV doc pm ct oc : Value} {cda Pt : Addr} {an od : Option Addr} {osl : Array (Option Value)} {N ps : List Str} (W : WOk G S sups P w mg)
    (hc : c.calm = true) (hgc : c.gdf = G.gdf) (hd : ∀ j, c.ok j = true → DefOk G P w mg base lev (c.call j) j)
    (hm : ∀ x g, S.gmet x = some g → ∃ fg ng, MetTxt G S sups mg ng x fg ∧ ∀ act h, c.met g act h = (metR G.gdf sups ng fg act h).noexc)
    (lk : G.K.lookup (G.fa i) = some ⟨oc, od, .func (PySem.W.fnOf name name (defArgs st) (defBody st) (defScope st) .none kV doc pm an (.ref cda) ct), osl⟩) (hcd : PySem.W.codeIn G.K (.ref cda) name = true) (kp : PySem.W.keepIn G.K (.ref (G.fa i)) = true) (hs : FnScope N ps (defScope st))
    (hb : L2.Binds G.K (PySem.W.fnOf name name (defArgs st) (defBody st) (defScope st) .none kV doc pm an (.ref cda) ct) ps []) (hp : f.np = ps.length) (hN : f.ns = N.length) {KS : Nat} (chk : chkAll (chkS S (lCtx N (defScope st)) KS) f.body (defBody st) = true) (hgi : G.gdf i = true)
    (tb : LamX.TabB base mg cda Pt) {q : Str} (hq : ∀ L, (envOfC name (defScope st) L (G.fa i) (.ref cda)).qual ++ "<lambda>" = q) (tm : (Pt, q) ∈ G.T) (tu : ∀ p ∈ G.T, p.1 = Pt → p.2 = q) :
    DefOk G P w mg base (lev + 3) (runB ⟨fun _ => none, sups⟩ (n + 1) c (cfg0 G.gdf) act f) i :=
  def_okL W hc hd hm lk hcd kp hs hb hp hN chk hgc hgi tb (fun L => by rw [hq L]; exact tm) fun L p hp e => by rw [hq L]; exact tu p hp e
/-- an own error class with its own __init__ -/
structure IniF (P : Program) (K : PySem.W.Frag) (mg : Str → Option Value) (C fI : Addr) (B i newId : String) (bmB : List Value) (f : Str) : Prop where
  T : PySem.XI.Txt P K mg C fI B i newId bmB f
end EV

set_option Elab.async false
set_option linter.all false
set_option maxRecDepth 100000
set_option maxHeartbeats 4000000
/-! EvZb: a table that is looked up by numbers; an answer, one choice at a time. -/
namespace EV
open PySem PySem.Spec PyProof.Rows L2
mutual
def A.code : A → Nat
  | .non => 1
  | .bl b => match b with
    | true => 3
    | false => 2
  | .int i => match i with
    | .ofNat n => (7 + 11 * n) % 2305843009213693951
    | .negSucc n => (5 + 11 * n) % 2305843009213693951
  | .str s => s.foldl (fun a c => (a * 31 + c) % 2305843009213693951) 13
  | .tup xs => A.codes xs
  | .fn i => 19 + 23 * i
def A.codes : List A → Nat
  | [] => 17
  | x :: xs => (A.codes xs * 1000003 + A.code x) % 2305843009213693951
end
mutual
def D.code : D → Nat
  | .a x => A.code x
  | .ref n => 29 + 37 * n
  | .tupR xs => D.codes xs
  | .exn0 c => 41 + c
  | .exn1 c _ => 43 + c
  | .scr => 47
  | .opt xs => 53 + D.codes xs
def D.codes : List D → Nat
  | [] => 17
  | x :: xs => (D.codes xs * 1000003 + D.code x) % 2305843009213693951
end
inductive Tab where
  | lf (l : List Ent)
  | nd (k : Nat) (l r : Tab)
def Tab.find : Tab → Nat → List Ent
  | .lf l, _ => l
  | .nd k l r, c => match Nat.ble k c with
    | true => r.find c
    | false => l.find c
def Tab.Al (P : Ent → Prop) : Tab → Prop
  | .lf l => AllP P l
  | .nd _ l r => l.Al P ∧ r.Al P
theorem Tab.Al.find {P : Ent → Prop} : ∀ {t : Tab} {c : Nat}, t.Al P → AllP P (t.find c)
  | .lf l, c, h => h
  | .nd k l r, c, h => by
    unfold Tab.find
    split
    · exact Tab.Al.find h.2
    · exact Tab.Al.find h.1
def memoT (t : Tab) : Mean := fun ds h => match look (t.find (D.codes ds)) ds h with
  | some e => .ok e.d e.h'
  | none => .bad
def EntOk (F : Mean) (e : Ent) : Prop := entOk F e = true
section
variable {G : Glo} {P : Program} {w : World} {mg : Str → Option Value} {base : Heap}
theorem memoT_imp {t : Tab} {F : Mean} (ht : t.Al (EntOk F)) {ds : List D} {h : Hea} {Q : D → Hea → Prop} {W : Exn → Hea → Prop} (q : (memoT t ds h).all Q W) : (callL F ds h).all Q W := by
  unfold memoT at q
  split at q
  · rename_i e e1
    obtain ⟨h1, rfl, rfl⟩ := look_mem e1
    refine Res.all_mono (fun d h z => ?_) (fun _ _ z => z.elim) (Res.chk_all (ht.find.mem h1 : entOk F e = true))
    rw [Bool.and_eq_true] at z
    rw [D.same_eq _ _ z.1, sameH_eq z.2]
    exact q
  · exact q.elim
theorem DefOk.memoT {lev i : Nat} {F : Mean} {t : Tab} (d : DefOk G P w mg base lev F i) (ht : t.Al (EntOk F)) : DefOk G P w mg base lev (memoT t) i := by
  refine d.callL.imp (fun ds h Q W q => memoT_imp ht q) fun np ds h hb hl => ?_
  unfold EV.memoT
  cases e : look (t.find (D.codes ds)) ds h with
  | none => rfl
  | some e1 =>
    exfalso
    obtain ⟨h1, rfl, rfl⟩ := look_mem e
    have := Res.chk_all (ht.find.mem h1 : entOk F e1 = true)
    rw [show EV.callL F e1.ds e1.h = .bad from hb _ _ hl] at this
    exact this
end
def Res.at {α : Type} : Res α → Nat → Res α
  | .ask _ k, i => k i
  | r, _ => r
def Res.asks {α : Type} : Res α → Nat
  | .ask n _ => n
  | _ => 0
/-- one choice at a time -/
theorem Res.chk_at {α : Type} {p : α → Hea → Bool} {n : Nat} : ∀ {r : Res α}, r.asks = n + 1 → (∀ i, i < n + 1 → (r.at i).chk p = true) → r.chk p = true
  | .ask m k, h, q => by
    cases (show m = n + 1 from h)
    show (List.range (n + 1)).all _ = true
    rw [List.all_eq_true]
    intro i hi
    exact q i (List.mem_range.mp hi)
  | .ok _ _, h, _ => by cases h
  | .exc _ _, h, _ => by cases h
  | .bad, h, _ => by cases h
end EV

set_option Elab.async false
set_option linter.all false
set_option maxRecDepth 100000
set_option maxHeartbeats 0
namespace EV
open PySem PySem.Spec PyProof.Rows L2
abbrev top (i : Nat) : Stmt := (PySem.Challenge.pw_beatpoints_k04_errors_of_spaces.main.body[i]?).getD (.Pass ⟨0, 0, 0, 0⟩)
abbrev sDice : Stmt := top 78
abbrev sRoll : Stmt := top 79
/-- a roll -/
def F_roll : List D → Hea → Res D := fun ds h => match ds with
  | [.ref n, .a (.int t)] => match h[n]? with
    | some .dice => if 0 < t ∧ t ≤ 1000 then .ask t.toNat fun k => .ok (.int k) h else .bad
    | _ => .bad
  | _ => .bad
theorem roll_inv {G : Glo} {ρ : List Addr} {H : Hp} {h : Hea} {ds : List D} {vs : List V} {Q : D → Hea → Prop} {W : Exn → Hea → Prop} (rd : RelDs G ρ H ds vs) (rh : RelH G ρ H h) (q : (F_roll ds h).all Q W) :
    ∃ n p t x y z, ds = [.ref n, .a (.int t)] ∧ vs = [.ref p, .int t] ∧ ρ[n]? = some p ∧ h[n]? = some .dice ∧ H p = some (.lst [.int x, .int y, .int z]) ∧ 0 < t ∧ t ≤ 1000 ∧ ∀ k : Nat, (k : Int) < t → Q (.int k) h := by
  unfold F_roll at q
  split at q
  · rename_i n t
    split at q
    · rename_i e1
      split at q
      · rename_i ht
        cases rd with
        | cons r1 r2 =>
          cases r2 with
          | cons r2 r3 =>
            cases r3
            cases r1 with
            | ref r1 =>
              rename_i p
              cases r2.int_inv
              obtain ⟨x, y, z, e2, _⟩ := rh.ob n _ p e1 r1
              exact ⟨n, p, t, x, y, z, rfl, rfl, r1, e1, e2, ht.1, ht.2, fun k hk => q k (by omega)⟩
      · exact q.elim
    · exact q.elim
  · exact q.elim
theorem dice_put {G : Glo} {ρ : List Addr} {H : Hp} {h : Hea} {n : Nat} {p : Addr} {x y z x' y' z' : Int} (rh : RelH G ρ H h) (e1 : h[n]? = some .dice) (e2 : ρ[n]? = some p) (e3 : H p = some (.lst [.int x, .int y, .int z])) :
    Ext ρ H ρ (upd H p (.lst [.int x', .int y', .int z'])) ∧ RelH G ρ (upd H p (.lst [.int x', .int y', .int z'])) h := by
  refine ⟨Ext.put (List.mem_of_getElem? e2) e3 (fun z => z), ?_⟩
  have q := rh.put (o := .lst [.int x', .int y', .int z']) (ob' := .dice) e1 e2 e3 (fun z => z) ⟨x', y', z', upd_same, trivial⟩ (fun c q e z => by rw [z, e3] at e; cases e)
  have : h.set n .dice = h := by
    apply List.ext_getElem?
    intro m
    by_cases hm : n = m
    · subst hm; rw [List.getElem?_set_self (List.getElem?_eq_some_iff.mp e1).1, e1]
    · rw [List.getElem?_set_ne hm]
  rwa [this] at q
theorem scRoll : FnScope ["dice", "total", "found", "one", "two"] ["dice", "total"] (defScope sRoll) := ⟨rfl, rfl, rfl, by decide +kernel, rfl, by decide +kernel, by decide +kernel⟩
section
variable {G : Glo} {P : Program} {w : World} {mg : Str → Option Value} {base : Heap} {fd : FuncData}
theorem roll_ok {i : Nat} (F : Fun G.K "_law_roll" "_law_roll" sRoll (G.fa i) fd) (b : L2.Binds G.K fd ["dice", "total"] []) (mi : mg "int" = none) : DefOk G P w mg base 1 F_roll i := by
  refine ⟨fd, ["dice", "total"], FnX.of (F.okX (k := 0) scRoll (fun vs H Q E q => q.1) (fun cdv A outer s H vs Q E hr q => ?_)), F.kp, b, fun ds h hl => ?_⟩
  · obtain ⟨hl, ρ, h, ds, rd, rh, q⟩ := q
    obtain ⟨n, p, t, x, y, z, rfl, rfl, e1, e2, e3, t0, t1, q⟩ := roll_inv rd rh q
    refine ⟨_, pss_cons (ps_if (pt_cmpR op_gt (pe_ix ix_list (pv 0) pe_int (plainIx rfl)) pe_int (by rfl))
        (pss_cons (ps_set (i := 2) scRoll.nd rfl (Or.inl rfl) (pe_op op_mod (pe_callTy call_int1 (by rfl) mi (by decide +kernel) (pa_cons (pe_ix ix_list (pv 0) pe_int (plainIx rfl)) pa_nil) (by decide)) (pv 1)))
          (pss_cons (ps_asg (pe_op op_fdivN (pe_ix ix_list (pv 0) pe_int (plainIx rfl)) (pv 1)) (pg_sub (pv 0) pe_int set_list)) (pss_one (ps_ret (pv 2))))) pss_nil)
      (pss_cons (ps_asg (pe_op op_add (pe_ix ix_list (pv 0) pe_int (plainIx rfl)) pe_int) (pg_sub (pv 0) pe_int set_list))
      (pss_cons (ps_set (i := 3) scRoll.nd rfl (Or.inl rfl) (pe_op op_mod (pe_callTy call_int1 (by rfl) mi (by decide +kernel) (pa_cons (pe_op op_add (pe_ix ix_list (pv 0) pe_int (plainIx rfl)) (pe_op op_mul pe_int (pe_ix ix_list (pv 0) pe_int (plainIx rfl)))) pa_nil) (by decide)) pe_int))
      (pss_cons (ps_set (i := 4) scRoll.nd rfl (Or.inl rfl) (pe_op op_add (pe_op op_mul (pe_op op_mod (pe_callTy call_int1 (by rfl) mi (by decide +kernel) (pa_cons (pe_op op_add (pe_op op_mul (pv 3) (pv 3)) (pe_op op_mul pe_int (pe_ix ix_list (pv 0) pe_int (plainIx rfl)))) pa_nil) (by decide)) pe_int) pe_int) (pv 3)))
      (pss_one (ps_ret (pe_op op_mod (pe_callTy call_int1 (by rfl) mi (by decide +kernel) (pa_cons (pe_op op_fdivN (pv 4) pe_int) pa_nil) (by decide)) (pv 1))))))), ?_⟩
    have fin : ∀ (m x' y' z' : Int), 0 ≤ m → m < t → Q (.int m) (upd H p (.lst [.int x', .int y', .int z'])) := fun m x' y' z' m0 m1 => by
      obtain ⟨xx, rr⟩ := dice_put (x' := x') (y' := y') (z' := z') rh e2 e1 e3
      have := q m.toNat (by omega)
      rw [Int.toNat_of_nonneg m0] at this
      exact this ρ _ _ xx (.a (.int m)) rr
    refine ⟨_, rfl, p, [.int x, .int y, .int z], 0, .int x, rfl, rfl, SqL.of e3, rfl, x, 0, rfl, rfl, _, rfl, ?_⟩
    show if decide (0 < x) = true then _ else _
    by_cases hx : (0 : Int) < x
    · rw [if_pos (decide_eq_true hx)]
      refine ⟨_, rfl, p, [.int x, .int y, .int z], 0, .int x, rfl, rfl, SqL.of e3, rfl, .inl ⟨x, rfl, _, rfl, x, t, rfl, rfl, t0, ?_⟩⟩
      refine ⟨_, rfl, p, [.int x, .int y, .int z], 0, .int x, rfl, rfl, SqL.of e3, rfl, _, rfl, x, t, rfl, rfl, ⟨by omega, by omega⟩, ?_⟩
      refine ⟨_, rfl, p, [.int x, .int y, .int z], 0, 0, rfl, rfl, e3, rfl, _, rfl, ?_⟩
      exact fin _ _ _ _ (Int.emod_nonneg _ (by omega)) (Int.emod_lt_of_pos _ t0)
    · rw [if_neg (fun e => hx (of_decide_eq_true e))]
      refine ⟨_, rfl, p, [.int x, .int y, .int z], 2, .int z, rfl, rfl, SqL.of e3, rfl, z, 1, rfl, rfl, ?_⟩
      refine ⟨_, rfl, p, [.int x, .int y, .int z], 2, 2, rfl, rfl, e3, rfl, ?_⟩
      have e4 : upd H p (.lst [.int x, .int y, .int (z + 1)]) p = some (.lst [.int x, .int y, .int (z + 1)]) := upd_same
      refine ⟨_, rfl, p, [.int x, .int y, .int (z + 1)], 1, .int y, rfl, rfl, SqL.of e4, rfl, _, rfl, p, [.int x, .int y, .int (z + 1)], 2, .int (z + 1), rfl, rfl, SqL.of e4, rfl, _, _, rfl, rfl, .inl ⟨by decide, by decide⟩, _, _, rfl, rfl, .inl ⟨_, rfl, _, _, rfl, rfl, (by decide : (0 : Int) < 2305843009213693907), ?_⟩⟩
      have b1 : ∀ a : Int, 0 ≤ a % 2305843009213693907 ∧ a % 2305843009213693907 < 2305843009213693907 := fun a => ⟨Int.emod_nonneg _ (by decide), Int.emod_lt_of_pos _ (by decide)⟩
      obtain ⟨o1, o2⟩ := b1 (y + 15485863 * (z + 1))
      refine ⟨_, rfl, _, rfl, _, _, rfl, rfl, .inl ⟨Int.lt_of_lt_of_le (by decide) o1, Int.lt_trans o2 (by decide)⟩, _, rfl, p, [.int x, .int y, .int (z + 1)], 2, .int (z + 1), rfl, rfl, SqL.of e4, rfl, _, _, rfl, rfl, .inl ⟨by decide, by decide⟩, _, _, rfl, rfl, .inl ⟨_, rfl, _, _, rfl, rfl, (by decide : (0 : Int) < 2305843009213693921), _, _, rfl, rfl, .inr ⟨by decide, by decide⟩, _, rfl, _, _, rfl, rfl, ?_⟩⟩
      refine ⟨_, rfl, _, _, rfl, rfl, ⟨by decide, by decide⟩, .inl ⟨_, rfl, _, rfl, _, t, rfl, rfl, t0, ?_⟩⟩
      exact fin _ _ _ _ (Int.emod_nonneg _ (by omega)) (Int.emod_lt_of_pos _ t0)
  · unfold F_roll
    split
    · rename_i h1 h2; simp at hl
    · rfl
/-- a new dice -/
def F_dice : List D → Hea → Res D := fun ds h => match ds with
  | [.scr, .a (.int t)] => if 0 ≤ t ∧ t ≤ 1000 then newO .dice h else .bad
  | _ => .bad
theorem scDice : FnScope ["script", "spot", "cell", "left"] ["script", "spot"] (defScope sDice) := ⟨rfl, rfl, rfl, by decide +kernel, rfl, by decide +kernel, by decide +kernel⟩
theorem scr_seq {ρ : List Addr} {H : Hp} {p : Addr} {ns : List Int} (s : ScrOk G ρ H) (e : G.scr = some (p, ns)) : SqL G.K H p (ns.map V.int) := by
  obtain ⟨_, q⟩ := s p ns e
  rcases q with ⟨q, _⟩ | q
  · exact .inl q
  · exact q H
theorem dice_ok {i : Nat} (F : Fun G.K "_law_dice" "_law_dice" sDice (G.fa i) fd) (b : L2.Binds G.K fd ["script", "spot"] []) (mi : mg "int" = none) (ml : mg "len" = none) (mm : mg "max" = none) (ma : mg "abs" = none) : DefOk G P w mg base 1 F_dice i := by
  refine ⟨fd, ["script", "spot"], FnX.of (F.okX (k := 0) scDice (fun vs H Q E q => q.1) (fun cdv A outer s H vs Q E hr q => ?_)), F.kp, b, fun ds h hl => ?_⟩
  · obtain ⟨hl, ρ, h, ds, rd, rh, q⟩ := q
    obtain ⟨t, p, ns, rfl, rfl, es, t0, t1, q⟩ : ∃ t p ns, ds = [.scr, .a (.int t)] ∧ vs = [.ref p, .int t] ∧ G.scr = some (p, ns) ∧ 0 ≤ t ∧ t ≤ 1000 ∧ (newO .dice h).all (PostE G ρ H Q) (PostX G ρ H E) := by
      unfold F_dice at q
      split at q
      · split at q
        · rename_i ht
          cases rd with
          | cons r1 r2 =>
            cases r2 with
            | cons r2 r3 =>
              cases r3
              cases r1 with
              | scr r1 =>
                cases r2.int_inv
                exact ⟨_, _, _, rfl, rfl, r1, ht.1, ht.2, q⟩
        · exact q.elim
      · exact q.elim
    have S := scr_seq rh.sc es
    have fin : ∀ (x' y' z' : Int) (a : Addr), H a = none → Q (.ref a) (upd H a (.lst [.int x', .int y', .int z'])) := fun x' y' z' a na => by
      refine q _ _ _ (Ext.new na) (.ref ?_) (rh.fresh na ⟨x', y', z', upd_same, trivial⟩)
      rw [← rh.len, List.getElem?_append_right (Nat.le_refl _)]
      simp
    refine ⟨_, pss_cons (ps_set (i := 2) scDice.nd rfl (Or.inl rfl) (pe_ifExp (pt_cmpR op_lt (pv 1) (pe_callB call_len_seq (by rfl) ml PySem.boot_len (pa_cons (pv 0) pa_nil)) (by rfl))
        (pe_callTy call_int1 (by rfl) mi (by decide +kernel) (pa_cons (pe_ix ix_list (pv 0) (pv 1) (plainIx rfl)) pa_nil) (by decide)) (pe_op op_add (pe_op op_mul pe_int (pv 1)) pe_int)))
      (pss_cons (ps_set (i := 3) scDice.nd rfl (Or.inl rfl) (pe_op op_mod (pe_callB (call_max2 rfl) (by rfl) mm (by decide +kernel) (pa_cons pe_int (pa_cons (pe_op op_sub (pe_callB call_abs (by rfl) ma (by decide +kernel) (pa_cons (pv 2) pa_nil)) (pe_op op_pow pe_int pe_int)) pa_nil))) (pe_op op_mulW (pe_op op_pow pe_int pe_int) (pe_op op_pow pe_int pe_int))))
      (pss_one (ps_ret (pe_lst (pa_cons (pv 3) (pa_cons (pe_op op_add (pe_op op_add (pe_op op_add (pe_op op_mul (pe_op op_mod (pe_callB call_abs (by rfl) ma (by decide +kernel) (pa_cons (pv 2) pa_nil)) pe_int) pe_int) (pe_op op_mul pe_int (pv 1))) (pe_op op_mul pe_int (pe_callTy call_int1 (by rfl) mi (by decide +kernel) (pa_cons (pe_cmpR op_lt (pv 2) pe_int (by rfl)) pa_nil) (by decide)))) pe_int) (pa_cons pe_int pa_nil))))))), ?_⟩
    have lt1 : ∀ a : Int, CPow 10 a ↔ (0 ≤ a ∧ a ≤ 1000000 ∧ (10 : Int).natAbs < 2 ^ 64) := fun a => Iff.rfl
    have p60 : CMulW ((10 : Int) ^ (60 : Int).toNat) ((10 : Int) ^ (60 : Int).toNat) := by
      show ((10 : Int) ^ (60 : Int).toNat).natAbs.log2 + ((10 : Int) ^ (60 : Int).toNat).natAbs.log2 < 1000000
      decide +kernel
    have q60 : (0 : Int) < (10 : Int) ^ (60 : Int).toNat * (10 : Int) ^ (60 : Int).toNat := by decide +kernel
    refine ⟨_, rfl, _, rfl, p, _, rfl, .inl S, t, _, rfl, rfl, _, rfl, ?_⟩
    show if decide (t < ((ns.map V.int).length : Int)) = true then _ else _
    by_cases ht : t < ((ns.map V.int).length : Int)
    · rw [if_pos (decide_eq_true ht)]
      have hl : t.toNat < ns.length := by
        rw [List.length_map] at ht
        omega
      have e1 : atI (ns.map V.int) t = some (.int ns[t.toNat]) := by
        unfold atI L2.ixN
        rw [if_pos t0, if_pos ht]
        show (ns.map V.int)[t.toNat]? = _
        rw [List.getElem?_map, List.getElem?_eq_getElem hl]
        rfl
      refine ⟨_, rfl, _, rfl, p, _, t, _, rfl, rfl, S, e1, .inl ⟨_, rfl, ?_⟩⟩
      generalize ns[t.toNat] = cell
      refine ⟨_, rfl, cell, rfl, 10, 16, rfl, rfl, ⟨by decide, by decide, by decide⟩, _, _, rfl, rfl, _, _, rfl, 10, 60, rfl, rfl, ⟨by decide, by decide, by decide⟩, 10, 60, rfl, rfl, ⟨by decide, by decide, by decide⟩, _, _, rfl, rfl, p60, _, _, rfl, rfl, q60, ?_⟩
      refine ⟨_, rfl, _, rfl, cell, rfl, _, _, rfl, rfl, (by decide : (0 : Int) < 1152921504606846869), _, _, rfl, rfl, .inr ⟨by decide, by decide⟩, _, rfl, 947, t, rfl, rfl, .inl ⟨by decide, by decide⟩, _, _, rfl, rfl, _, rfl, _, _, rfl, rfl, .inr ⟨_, rfl, _, _, rfl, rfl, .inl ⟨by decide, by decide⟩, _, _, rfl, rfl, _, _, rfl, rfl, (by show 3 ≤ sizeLine; rw [sizeLine_eq]; omega), fun a na => fin _ _ _ a na⟩⟩
    · rw [if_neg (fun e => ht (of_decide_eq_true e))]
      refine ⟨_, rfl, _, _, rfl, rfl, .inl ⟨by decide, by decide⟩, _, _, rfl, rfl, ?_⟩
      refine ⟨_, rfl, _, rfl, 10, 16, rfl, rfl, ⟨by decide, by decide, by decide⟩, _, _, rfl, rfl, _, _, rfl, 10, 60, rfl, rfl, ⟨by decide, by decide, by decide⟩, 10, 60, rfl, rfl, ⟨by decide, by decide, by decide⟩, _, _, rfl, rfl, p60, _, _, rfl, rfl, q60, ?_⟩
      refine ⟨_, rfl, _, rfl, _, rfl, _, _, rfl, rfl, (by decide : (0 : Int) < 1152921504606846869), _, _, rfl, rfl, .inr ⟨by decide, by decide⟩, _, rfl, 947, t, rfl, rfl, .inl ⟨by decide, by decide⟩, _, _, rfl, rfl, _, rfl, _, _, rfl, rfl, .inr ⟨_, rfl, _, _, rfl, rfl, .inl ⟨by decide, by decide⟩, _, _, rfl, rfl, _, _, rfl, rfl, (by show 3 ≤ sizeLine; rw [sizeLine_eq]; omega), fun a na => fin _ _ _ a na⟩⟩
  · unfold F_dice
    split
    · rename_i h1 h2; simp at hl
    · rfl
end

/-- is_whole: value -/
def f0 : FnI := ⟨1, 1, [.ret (.and [.bi (.isi 0) [.var 0], .not (.bi (.isi 1) [.var 0])])], [true]⟩
/-- is_near: value -/
def f1 : FnI := ⟨1, 1, [.ret (.and [.call 0 [.var 0], .cmp2 .lt .lt (.neg (.cst (.int 1000000000000000000000000000000000000000000000000000000000000))) (.var 0) (.cst (.int 1000000000000000000000000000000000000000000000000000000000000))])], [true]⟩
/-- is_within: value least most -/
def f2 : FnI := ⟨3, 3, [.ret (.and [.call 0 [.var 0], .cmp2 .le .le (.var 1) (.var 0) (.var 2)])], [true, true, true]⟩
/-- is_pair: value -/
def f3 : FnI := ⟨1, 1, [.ret (.and [.bi (.isi 2) [.var 0], .cmp .eq (.bi .len [.var 0]) (.cst (.int 2))])], [true]⟩
/-- is_ascending: items one other -/
def f4 : FnI := ⟨1, 3, [.ret (.bi .all [.comp (.cmp .lt (.var 1) (.var 2)) (.tp [1, 2]) (.zip (.var 0) (.slc (.var 0) (some (.cst (.int 1))) none)) [] [1, 2]])], [true]⟩
/-- require_number: value least most -/
def f5 : FnI := ⟨3, 3, [.ife (.or [.not (.call 1 [.var 0]), .and [.isnt (.var 1), .cmp .lt (.var 0) (.var 1)], .and [.isnt (.var 2), .cmp .gt (.var 0) (.var 2)]]) [.rai 5 (some (.var 0))] []], [true, true, true]⟩
/-- key_kind: key kinds member -/
def f6 : FnI := ⟨1, 3, [.ife (.and [.bi (.isi 0) [.var 0], .not (.bi (.isi 1) [.var 0])]) [.ret (.cst (.str [119, 104, 111, 108, 101]))] [], .ife (.bi (.isi 5) [.var 0]) [.ret (.cst (.str [115, 116, 114, 105, 110, 103]))] [], .ife (.not (.bi (.isi 2) [.var 0])) [.ret (.cst (.non))] [], .asg 1 (.bi .tuple [.compD .keys (.call 6 [.var 2]) (.nm 2) (.var 0) [] [2]]), .ret (.ife (.cmp .inn (.cst (.non)) (.var 1)) (.cst (.non)) (.var 1))], [true]⟩
/-- sorted_keys: kept kinds key -/
def f7 : FnI := ⟨1, 3, [.ex .un, .ret (.ife (.and [.cmp .eq (.bi .len [.var 1]) (.cst (.int 1)), .cmp .nin (.cst (.non)) (.var 1)]) (.bi .sorted [.var 0]) (.bi .list [.var 0]))], [true]⟩
/-- copied: value member key -/
def f8 : FnI := ⟨1, 3, [.ife (.bi (.isi 2) [.var 0]) [.ret (.bi .tuple [.compD .keys (.call 8 [.var 1]) (.nm 1) (.var 0) [] [1]])] [], .ife (.bi (.isi 3) [.var 0]) [.ret (.compD .keys (.call 8 [.var 1]) (.nm 1) (.var 0) [] [1])] [], .ife (.bi (.isi 4) [.var 0]) [.ret .un] [], .ret (.var 0)], [true]⟩
/-- is_row_of: value least most one -/
def f9 : FnI := ⟨3, 4, [.ret (.and [.bi (.isi 2) [.var 0], .bi .all [.compD .keys (.call 2 [.var 3, .var 1, .var 2]) (.nm 3) (.var 0) [] [3]]])], [true, false, false]⟩
/-- is_rising_row: value most -/
def f10 : FnI := ⟨2, 2, [.ret (.and [.call 9 [.var 0, .cst (.int 0), .var 1], .call 4 [.var 0]])], [false, false]⟩
/-- is_order_of: value many -/
def f11 : FnI := ⟨2, 2, [.ret (.and [.call 9 [.var 0, .cst (.int 0), .bin .sub (.var 1) (.cst (.int 1))], .cmp .eq (.bi .sorted [.var 0]) (.bi .lrange [.var 1])])], [true, true]⟩
/-- is_space_in: value x lot y -/
def f12 : FnI := ⟨1, 4, [.ife (.or [.not (.bi (.isi 2) [.var 0]), .not (.cmp2 .le .le (.cst (.int 1)) (.bi .len [.var 0]) (.cst (.int 10)))]) [.ret (.cst (.bl false))] [], .ife (.not (.bi .all [.comp (.and [.call 10 [.var 2, .bin .sub (.bi .len [.var 0]) (.cst (.int 1))], .cmp .inn (.var 1) (.var 2)]) (.tp [1, 2]) (.enum (.var 0)) [] [1, 2]])) [.ret (.cst (.bl false))] [], .ret (.bi .all [.compD .keys (.bi .all [.compD .keys (.call 13 [.var 2, .sub (.var 0) (.var 3)]) (.nm 3) (.var 2) [] [3]]) (.nm 2) (.var 0) [] [2]])], [true]⟩
/-- holds: lot part x -/
def f13 : FnI := ⟨2, 3, [.ret (.bi .all [.compD .keys (.cmp .inn (.var 2) (.var 0)) (.nm 2) (.var 1) [] [2]])], [true, true]⟩
/-- is_lot_in: space value -/
def f14 : FnI := ⟨2, 2, [.ret (.call 10 [.var 1, .bin .sub (.bi .len [.var 0]) (.cst (.int 1))])], [true, false]⟩
/-- is_over_in: space x y -/
def f15 : FnI := ⟨3, 3, [.ret (.cmp .inn (.var 2) (.sub (.var 0) (.var 1)))], [true, true, true]⟩
/-- is_strictly_in: space x y -/
def f16 : FnI := ⟨3, 3, [.ret (.and [.cmp .inn (.var 2) (.sub (.var 0) (.var 1)), .cmp .nin (.var 1) (.sub (.var 0) (.var 2))])], [true, true, true]⟩
/-- under_in: space x y -/
def f17 : FnI := ⟨2, 3, [.ret (.compD .keys (.var 2) (.nm 2) (.sub (.var 0) (.var 1)) [.cmp .nin (.var 1) (.sub (.var 0) (.var 2))] [2])], [true, true]⟩
/-- over_in: space x y -/
def f18 : FnI := ⟨2, 3, [.ret (.comp (.var 2) (.nm 2) (.rng (.bi .len [.var 0])) [.call 16 [.var 0, .var 2, .var 1]] [2])], [true, false]⟩
/-- closed_of: space x y -/
def f19 : FnI := ⟨2, 3, [.ret (.comp (.var 2) (.nm 2) (.rng (.bi .len [.var 0])) [.cmp .inn (.var 1) (.sub (.var 0) (.var 2))] [2])], [true, true]⟩
/-- neighbours_in: space found y above x z -/
def f20 : FnI := ⟨1, 6, [.asg 1 (.lst []), .for_ (.nm 2) (.rng (.bi .len [.var 0])) [.asg 3 (.call 18 [.var 0, .var 2]), .ex (.me .extend (.var 1) [.compD .keys (.tup [.var 2, .var 4]) (.nm 4) (.var 3) [.not (.bi .any [.compD .keys (.call 16 [.var 0, .var 4, .var 5]) (.nm 5) (.var 3) [] [5]])] [4]])], .ret (.var 1)], [true]⟩
/-- classes_in: space found x lot one -/
def f21 : FnI := ⟨1, 5, [.asg 1 (.dic []), .for_ (.tp [2, 3]) (.enum (.var 0)) [.ex (.me .append (.dme .setdefault (.var 1) [.var 3, .lst []]) [.var 2])], .ret (.compD .vals (.bi .tuple [.var 4]) (.nm 4) (.var 1) [] [4])], [true]⟩
/-- plain_lot_in: space one -/
def f22 : FnI := ⟨1, 2, [.ret (.compD .keys (.sub (.var 1) (.cst (.int 0))) (.nm 1) (.call 21 [.var 0]) [] [1])], [false]⟩
/-- is_plain_in: space -/
def f23 : FnI := ⟨1, 1, [.ret (.cmp .eq (.bi .len [.call 21 [.var 0]]) (.bi .len [.var 0]))], [true]⟩
/-- part_in: space lot x i y -/
def f24 : FnI := ⟨2, 5, [.ret (.bi .tuple [.compD .keys (.bi .tuple [.comp (.var 3) (.tp [3, 4]) (.enum (.var 1)) [.cmp .inn (.var 4) (.sub (.var 0) (.var 2))] [3, 4]]) (.nm 2) (.var 1) [] [2]])], [true, true]⟩
/-- piece_in: space x found waiting here y -/
def f25 : FnI := ⟨2, 6, [.par 2 3 (.dic [(.var 1, .cst (.bl true))]) (.lst [.var 1]), .whl (.cmp .ne (.var 3) (.lst [])) [.asg 4 (.me .pop (.var 3) []), .for_ (.nm 5) (.rng (.bi .len [.var 0])) [.ife (.and [.cmp .nin (.var 5) (.var 2), .or [.cmp .inn (.var 5) (.sub (.var 0) (.var 4)), .cmp .inn (.var 4) (.sub (.var 0) (.var 5))]]) [.stS (.var 2) (.var 5) (.cst (.bl true)), .ex (.me .append (.var 3) [.var 5])] []]], .ret (.bi .sorted [.var 2])], [true, true]⟩
/-- pieces_in: space found met x -/
def f26 : FnI := ⟨1, 4, [.par 1 2 (.lst []) (.lst []), .for_ (.nm 3) (.rng (.bi .len [.var 0])) [.ife (.cmp .nin (.var 3) (.var 2)) [.ex (.me .append (.var 1) [.bi .tuple [.call 25 [.var 0, .var 3]]]), .ex (.me .extend (.var 2) [.sub (.var 1) (.neg (.cst (.int 1)))])] []], .ret (.var 1)], [true]⟩
/-- is_joined_in: space -/
def f27 : FnI := ⟨1, 1, [.ret (.cmp .eq (.bi .len [.call 25 [.var 0, .cst (.int 0)]]) (.bi .len [.var 0]))], [true]⟩
/-- joined_answer_in: space -/
def f28 : FnI := ⟨1, 1, [.ife (.call 27 [.var 0]) [.ret (.tup [.tup [.cst (.str [106, 111, 105, 110, 101, 100]), .call 8 [.var 0]], .tup []])] [], .ret (.tup [.tup [.cst (.str [105, 110, 32, 112, 105, 101, 99, 101, 115]), .call 8 [.var 0]], .bi .tuple [.call 25 [.var 0, .cst (.int 0)]]])], [false]⟩
/-- is_parting_in: space value y lot x -/
def f29 : FnI := ⟨2, 5, [.ife (.or [.not (.call 14 [.var 0, .var 1]), .not (.cmp2 .lt .lt (.cst (.int 0)) (.bi .len [.var 1]) (.bi .len [.var 0]))]) [.ret (.cst (.bl false))] [], .ret (.bi .all [.comp (.bi .all [.compD .keys (.cmp .eq (.cmp .inn (.var 4) (.var 1)) (.cmp .inn (.var 2) (.var 1))) (.nm 4) (.var 3) [] [4]]) (.tp [2, 3]) (.enum (.var 0)) [] [2, 3]])], [true, true]⟩
/-- opposite_in: space x -/
def f30 : FnI := ⟨1, 2, [.ret (.bi .tuple [.comp (.bi .tuple [.call 19 [.var 0, .var 1]]) (.nm 1) (.rng (.bi .len [.var 0])) [] [1]])], [true]⟩
/-- renamed_in: space naming found x lot y -/
def f31 : FnI := ⟨2, 6, [.asg 2 (.bin .mul (.lst [.tup []]) (.bi .len [.var 0])), .for_ (.tp [3, 4]) (.enum (.var 0)) [.stS (.var 2) (.sub (.var 1) (.var 3)) (.bi .tuple [.bi .sorted [.compD .keys (.sub (.var 1) (.var 5)) (.nm 5) (.var 4) [] [5]]])], .ret (.bi .tuple [.var 2])], [true, true]⟩
/-- is_alike_by_in: space other value -/
def f32 : FnI := ⟨3, 3, [.ife (.or [.cmp .ne (.bi .len [.var 0]) (.bi .len [.var 1]), .not (.call 11 [.var 2, .bi .len [.var 0]])]) [.ret (.cst (.bl false))] [], .ret (.cmp .eq (.call 31 [.var 0, .var 2]) (.var 1))], [true, true, false]⟩
/-- led_on: pairs many found start met waiting here y x -/
def f33 : FnI := ⟨2, 9, [.asg 2 (.lst []), .for_ (.nm 3) (.rng (.var 1)) [.par 4 5 (.dic [(.var 3, .cst (.bl true))]) (.lst [.var 3]), .whl (.cmp .ne (.var 5) (.lst [])) [.asg 6 (.me .pop (.var 5) []), .forD .keys (.tp [7, 8]) (.var 0) [.ife (.and [.cmp .eq (.var 8) (.var 6), .cmp .nin (.var 7) (.var 4)]) [.stS (.var 4) (.var 7) (.cst (.bl true)), .ex (.me .append (.var 5) [.var 7])] []]], .ex (.me .append (.var 2) [.bi .tuple [.bi .sorted [.var 4]]])], .ret (.bi .tuple [.var 2])], [true, true]⟩
/-- require_space: value -/
def f34 : FnI := ⟨1, 1, [.ife (.not (.call 12 [.var 0])) [.rai 1 none] []], [false]⟩
/-- require_point: space x -/
def f35 : FnI := ⟨2, 2, [.ife (.not (.call 2 [.var 1, .cst (.int 0), .bin .sub (.bi .len [.var 0]) (.cst (.int 1))])) [.rai 5 (some (.var 1))] []], [true, false]⟩
/-- require_space_and_point: space x -/
def f36 : FnI := ⟨2, 2, [.ex (.call 34 [.var 0]), .ex (.call 35 [.var 0, .var 1])], [false, false]⟩
/-- require_space_and_two: space x y -/
def f37 : FnI := ⟨3, 3, [.ex (.call 36 [.var 0, .var 1]), .ex (.call 35 [.var 0, .var 2])], [false, false, false]⟩
/-- require_lot: space lot -/
def f38 : FnI := ⟨2, 2, [.ife (.not (.call 14 [.var 0, .var 1])) [.rai 2 none] []], [false, false]⟩
/-- require_some_lot: space lot -/
def f39 : FnI := ⟨2, 2, [.ex (.call 38 [.var 0, .var 1]), .ife (.cmp .eq (.var 1) (.tup [])) [.rai 2 none] []], [false, true]⟩
/-- is_plain: space -/
def f40 : FnI := ⟨1, 1, [.ex (.call 34 [.var 0]), .ret (.call 23 [.var 0])], [false]⟩
/-- is_over: space x y -/
def f41 : FnI := ⟨3, 3, [.ex (.call 37 [.var 0, .var 1, .var 2]), .ret (.call 15 [.var 0, .var 1, .var 2])], [false, false, false]⟩
/-- is_strictly_over: space x y -/
def f42 : FnI := ⟨3, 3, [.ex (.call 37 [.var 0, .var 1, .var 2]), .ret (.call 16 [.var 0, .var 1, .var 2])], [false, false, false]⟩
/-- least_open: space x -/
def f43 : FnI := ⟨2, 2, [.ex (.call 36 [.var 0, .var 1]), .ret (.sub (.var 0) (.var 1))], [true, true]⟩
/-- least_closed: space x -/
def f44 : FnI := ⟨2, 2, [.ex (.call 36 [.var 0, .var 1]), .ret (.bi .tuple [.call 19 [.var 0, .var 1]])], [false, false]⟩
/-- points_under: space x -/
def f45 : FnI := ⟨2, 2, [.ex (.call 36 [.var 0, .var 1]), .ret (.bi .tuple [.call 17 [.var 0, .var 1]])], [false, false]⟩
/-- points_over: space x -/
def f46 : FnI := ⟨2, 2, [.ex (.call 36 [.var 0, .var 1]), .ret (.bi .tuple [.call 18 [.var 0, .var 1]])], [false, false]⟩
/-- neighbours: space -/
def f47 : FnI := ⟨1, 1, [.ex (.call 34 [.var 0]), .ret (.bi .tuple [.call 20 [.var 0]])], [false]⟩
/-- neighbours_of: space x pairs y z -/
def f48 : FnI := ⟨2, 5, [.ex (.call 36 [.var 0, .var 1]), .asg 2 (.call 20 [.var 0]), .ret (.tup [.bi .tuple [.compD .keys (.var 3) (.tp [3, 4]) (.var 2) [.cmp .eq (.var 4) (.var 1)] [3, 4]], .bi .tuple [.compD .keys (.var 4) (.tp [3, 4]) (.var 2) [.cmp .eq (.var 3) (.var 1)] [3, 4]]])], [false, true]⟩
/-- classes: space -/
def f49 : FnI := ⟨1, 1, [.ex (.call 34 [.var 0]), .ret (.bi .tuple [.call 21 [.var 0]])], [false]⟩
/-- plain_lot: space -/
def f50 : FnI := ⟨1, 1, [.ex (.call 34 [.var 0]), .ret (.bi .tuple [.call 22 [.var 0]])], [false]⟩
/-- plain_part: space -/
def f51 : FnI := ⟨1, 1, [.ex (.call 34 [.var 0]), .ret (.call 24 [.var 0, .call 22 [.var 0]])], [false]⟩
/-- part_of: space lot -/
def f52 : FnI := ⟨2, 2, [.ex (.call 34 [.var 0]), .ex (.call 39 [.var 0, .var 1]), .ret (.call 24 [.var 0, .var 1])], [false, false]⟩
/-- pieces: space -/
def f53 : FnI := ⟨1, 1, [.ex (.call 34 [.var 0]), .ret (.bi .tuple [.call 26 [.var 0]])], [false]⟩
/-- piece_of: space x -/
def f54 : FnI := ⟨2, 2, [.ex (.call 36 [.var 0, .var 1]), .ret (.bi .tuple [.call 25 [.var 0, .var 1]])], [false, false]⟩
/-- is_joined: space -/
def f55 : FnI := ⟨1, 1, [.ex (.call 34 [.var 0]), .ret (.call 27 [.var 0])], [false]⟩
/-- joined_answer: space -/
def f56 : FnI := ⟨1, 1, [.ex (.call 34 [.var 0]), .ret (.call 28 [.var 0])], [false]⟩
/-- is_parting: space value -/
def f57 : FnI := ⟨2, 2, [.ex (.call 34 [.var 0]), .ret (.call 29 [.var 0, .var 1])], [false, false]⟩
/-- opposite: space -/
def f58 : FnI := ⟨1, 1, [.ex (.call 34 [.var 0]), .ret (.call 30 [.var 0])], [false]⟩
/-- renamed: space naming -/
def f59 : FnI := ⟨2, 2, [.ex (.call 34 [.var 0]), .ife (.not (.call 11 [.var 1, .bi .len [.var 0]])) [.rai 3 none] [], .ret (.call 31 [.var 0, .var 1])], [true, false]⟩
/-- space_of_pairs: n pairs pair x -/
def f60 : FnI := ⟨2, 4, [.ex (.call 5 [.var 0, .cst (.int 1), .cst (.int 10)]), .ife (.or [.not (.bi (.isi 2) [.var 1]), .cmp .gt (.bi .len [.var 1]) (.cst (.int 90))]) [.rai 4 none] [], .ife (.not (.bi .all [.compD .keys (.and [.call 3 [.var 2], .bi .all [.compD .keys (.call 2 [.var 3, .cst (.int 0), .bin .sub (.var 0) (.cst (.int 1))]) (.nm 3) (.var 2) [] [3]]]) (.nm 2) (.var 1) [] [2]])) [.rai 4 none] [], .ret (.call 33 [.var 1, .var 0])], [true, true]⟩
/-- is_alike_by: space other value -/
def f61 : FnI := ⟨3, 3, [.ex (.call 34 [.var 0]), .ex (.call 34 [.var 1]), .ret (.call 32 [.var 0, .var 1, .var 2])], [false, false, false]⟩
/-- _law_pick: dice items -/
def f64 : FnI := ⟨2, 2, [.ret (.sub (.var 1) (.call 63 [.var 0, .bi .len [.var 1]]))], [false, true]⟩
/-- _law_word_of: call error -/
def f65 : FnI := ⟨1, 2, [.tra [.mk 1 none (.cst (.str [115, 112, 97, 99, 101])), .mk 2 none (.cst (.str [108, 111, 116])), .mk 3 none (.cst (.str [110, 97, 109, 105, 110, 103])), .mk 4 none (.cst (.str [111, 112, 101, 114, 97, 116, 105, 111, 110])), .mk 5 (some 1) (.bin .add (.cst (.str [110, 117, 109, 98, 101, 114, 32])) (.bi .repr [.xf 1 5]))], .ret (.cst (.str [102, 105, 110, 101]))], [false]⟩
/-- _law_words: space x lot naming found call -/
def f66 : FnI := ⟨4, 6, [.asg 4 (.lst []), .forD .keys (.nm 5) (.tup [.cst (.fn 40), .cst (.fn 47), .cst (.fn 49), .cst (.fn 50), .cst (.fn 51), .cst (.fn 53), .cst (.fn 55), .cst (.fn 56), .cst (.fn 58)]) [.ex (.me .append (.var 4) [.met 65 (.callv 5 [.var 0])])], .forD .keys (.nm 5) (.tup [.cst (.fn 43), .cst (.fn 44), .cst (.fn 45), .cst (.fn 46), .cst (.fn 48), .cst (.fn 54)]) [.ex (.me .append (.var 4) [.met 65 (.callv 5 [.var 0, .var 1])])], .forD .keys (.nm 5) (.tup [.cst (.fn 41), .cst (.fn 42)]) [.ex (.me .append (.var 4) [.met 65 (.callv 5 [.var 0, .var 1, .cst (.non)])])], .ex (.me .append (.var 4) [.met 65 (.call 52 [.var 0, .var 2])]), .ex (.me .append (.var 4) [.met 65 (.call 59 [.var 0, .var 3])]), .ex (.me .append (.var 4) [.met 65 (.call 57 [.var 0, .cst (.non)])]), .ret (.bin .add (.var 4) (.lst [.met 65 (.call 61 [.var 0, .var 2, .cst (.non)])]))], [false, false, false, false]⟩
/-- _law_right: dice no x lot naming vee word told n pairs z call -/
def f67 : FnI := ⟨1, 12, [.asg 1 (.lst [.cst (.non), .cst (.int 0), .tup [], .tup [.tup [.cst (.int 1)]], .tup [.tup [.cst (.int 0)], .tup [.cst (.int 0)]], .tup [.tup [.cst (.int 0), .cst (.int 1)], .tup [.cst (.int 1), .cst (.int 0)]], .lst [.tup [.cst (.int 0)]], .tup [.tup [.cst (.bl true)]], .tup [.tup [.cst (.int 0), .cst (.non)]], .dic [], .cst (.str [115, 112, 97, 99, 101])]), .asg 1 (.bin .add (.var 1) (.lst [.bi .tuple [.comp (.tup [.var 10]) (.nm 10) (.rng (.cst (.int 11))) [] [10]], .tup [.tup [.cst (.int 0), .cst (.int 1)], .tup [.cst (.int 1), .cst (.int 2)], .tup [.cst (.int 2)]], .tup [.tup [.cst (.int 0), .cst (.int 0)]], .tup [.lst [.cst (.int 0)]], .tup [.tup [.cst (.int 0), .cst (.int 2)], .tup [.cst (.int 1)]]])), .asg 1 (.lz (.call 64 [.var 0, .var 1])), .asg 2 (.call 64 [.var 0, .lst [.cst (.non), .neg (.cst (.int 1)), .cst (.int 3), .cst (.bl true), .cst (.str [48]), .tup [.cst (.int 0)], .bin .pow (.cst (.int 10)) (.cst (.int 60))]]), .asg 3 (.lz (.call 64 [.var 0, .lst [.cst (.non), .cst (.int 0), .tup [], .tup [.cst (.int 1), .cst (.int 0)], .tup [.cst (.int 0), .cst (.int 0)], .tup [.cst (.int 3)], .lst [.cst (.int 0)], .tup [.cst (.bl true)], .tup [.cst (.int 0), .cst (.non)], .dic []]])), .asg 4 (.lz (.call 64 [.var 0, .lst [.cst (.non), .cst (.int 0), .tup [], .tup [.cst (.int 0), .cst (.int 1)], .tup [.cst (.int 0), .cst (.int 0), .cst (.int 1)], .tup [.cst (.int 0), .cst (.int 1), .cst (.int 3)], .lst [.cst (.int 0), .cst (.int 1), .cst (.int 2)], .tup [.cst (.int 0), .cst (.bl true), .cst (.int 2)], .tup [.cst (.int 0), .cst (.int 1), .cst (.non)], .dic []]])), .ife (.cmp .ne (.call 66 [.var 1, .var 2, .var 3, .var 4]) (.bin .mul (.lst [.cst (.str [115, 112, 97, 99, 101])]) (.cst (.int 21)))) [.ret (.cst (.bl false))] [], .asgT [5, 6] (.tup [(.tup [.tup [.cst (.int 0)], .tup [.cst (.int 1)], .tup [.cst (.int 0), .cst (.int 1), .cst (.int 2)]]), (.bin .add (.cst (.str [110, 117, 109, 98, 101, 114, 32])) (.bi .repr [.var 2]))]), .ife (.cmp .ne (.call 66 [.var 5, .var 2, .var 3, .var 4]) (.bin .add (.bin .add (.bin .mul (.lst [.cst (.str [102, 105, 110, 101])]) (.cst (.int 9))) (.bin .mul (.lst [.var 6]) (.cst (.int 8)))) (.lst [.cst (.str [108, 111, 116]), .cst (.str [110, 97, 109, 105, 110, 103]), .cst (.str [102, 105, 110, 101]), .cst (.str [115, 112, 97, 99, 101])]))) [.ret (.cst (.bl false))] [], .asg 7 (.compD .keys (.met 65 (.callv 11 [.var 5, .cst (.int 0), .var 2])) (.nm 11) (.tup [.cst (.fn 41), .cst (.fn 42)]) [] [11]), .ife (.cmp .ne (.var 7) (.bin .mul (.lst [.var 6]) (.cst (.int 2)))) [.ret (.cst (.bl false))] [], .asg 8 (.call 64 [.var 0, .lst [.cst (.non), .cst (.int 0), .neg (.cst (.int 1)), .cst (.int 11), .cst (.bl true), .cst (.str [51]), .tup [.cst (.int 3)], .bin .pow (.cst (.int 10)) (.cst (.int 60))]]), .asg 9 (.lst [.cst (.non), .cst (.int 0), .lst [.tup [.cst (.int 0), .cst (.int 1)]], .tup [.tup [.cst (.int 0)]], .tup [.tup [.cst (.int 0), .cst (.int 3)]], .tup [.tup [.cst (.int 0), .cst (.int 1), .cst (.int 2)]], .tup [.tup [.cst (.int 0), .cst (.bl true)]], .bin .mul (.tup [.tup [.cst (.int 0), .cst (.int 1)]]) (.cst (.int 91)), .dic [], .tup [.lst [.cst (.int 0), .cst (.int 1)]]]), .asg 9 (.lz (.call 64 [.var 0, .var 9])), .asg 7 (.lst [.met 65 (.call 60 [.var 8, .var 9])]), .asg 7 (.bin .add (.var 7) (.lst [.met 65 (.call 60 [.cst (.int 3), .var 9])])), .ret (.cmp .eq (.var 7) (.lst [.bin .add (.cst (.str [110, 117, 109, 98, 101, 114, 32])) (.bi .repr [.var 8]), .cst (.str [111, 112, 101, 114, 97, 116, 105, 111, 110])]))], [false]⟩
/-- law: script spot dice turn told many -/
def f68 : FnI := ⟨1, 6, [.for_ (.nm 1) (.rng (.bi .max2 [.cst (.int 1), .bi .min2 [.cst (.int 5), .bi .len [.var 0]]])) [.asg 2 (.call 62 [.var 0, .var 1]), .for_ (.nm 3) (.rng (.cst (.int 3))) [.ife (.not (.call 67 [.var 2])) [.ret (.cst (.bl false))] []]], .asg 4 (.compD .keys (.met 65 (.call 60 [.var 5, .bin .mul (.tup [.tup [.cst (.int 0), .cst (.int 0)]]) (.cst (.int 90))])) (.nm 5) (.tup [.cst (.int 1), .cst (.int 10)]) [] [5]), .ret (.cmp .eq (.bin .add (.var 4) (.lst [.met 65 (.call 60 [.cst (.int 1), .tup []])])) (.bin .mul (.lst [.cst (.str [102, 105, 110, 101])]) (.cst (.int 3))))], [true]⟩
def fns : Nat → Option FnI
  | 0 => some f0
  | 1 => some f1
  | 2 => some f2
  | 3 => some f3
  | 4 => some f4
  | 5 => some f5
  | 6 => some f6
  | 7 => some f7
  | 8 => some f8
  | 9 => some f9
  | 10 => some f10
  | 11 => some f11
  | 12 => some f12
  | 13 => some f13
  | 14 => some f14
  | 15 => some f15
  | 16 => some f16
  | 17 => some f17
  | 18 => some f18
  | 19 => some f19
  | 20 => some f20
  | 21 => some f21
  | 22 => some f22
  | 23 => some f23
  | 24 => some f24
  | 25 => some f25
  | 26 => some f26
  | 27 => some f27
  | 28 => some f28
  | 29 => some f29
  | 30 => some f30
  | 31 => some f31
  | 32 => some f32
  | 33 => some f33
  | 34 => some f34
  | 35 => some f35
  | 36 => some f36
  | 37 => some f37
  | 38 => some f38
  | 39 => some f39
  | 40 => some f40
  | 41 => some f41
  | 42 => some f42
  | 43 => some f43
  | 44 => some f44
  | 45 => some f45
  | 46 => some f46
  | 47 => some f47
  | 48 => some f48
  | 49 => some f49
  | 50 => some f50
  | 51 => some f51
  | 52 => some f52
  | 53 => some f53
  | 54 => some f54
  | 55 => some f55
  | 56 => some f56
  | 57 => some f57
  | 58 => some f58
  | 59 => some f59
  | 60 => some f60
  | 61 => some f61
  | 64 => some f64
  | _ => none
def sups : Nat → List Nat
  | 0 => [0]
  | 1 => [1, 0]
  | 2 => [2, 0]
  | 3 => [3, 0]
  | 4 => [4, 0]
  | 5 => [5]
  | _ => []
def gf : Nat → Bool
  | 65 => true
  | 66 => true
  | 67 => true
  | 68 => true
  | _ => false
def gfnL : List (Str × Nat) := [(PySem.Str.ofString "is_whole", 0), (PySem.Str.ofString "is_near", 1), (PySem.Str.ofString "is_within", 2), (PySem.Str.ofString "is_pair", 3), (PySem.Str.ofString "is_ascending", 4), (PySem.Str.ofString "require_number", 5), (PySem.Str.ofString "key_kind", 6), (PySem.Str.ofString "sorted_keys", 7), (PySem.Str.ofString "copied", 8), (PySem.Str.ofString "is_row_of", 9), (PySem.Str.ofString "is_rising_row", 10), (PySem.Str.ofString "is_order_of", 11), (PySem.Str.ofString "is_space_in", 12), (PySem.Str.ofString "holds", 13), (PySem.Str.ofString "is_lot_in", 14), (PySem.Str.ofString "is_over_in", 15), (PySem.Str.ofString "is_strictly_in", 16), (PySem.Str.ofString "under_in", 17), (PySem.Str.ofString "over_in", 18), (PySem.Str.ofString "closed_of", 19), (PySem.Str.ofString "neighbours_in", 20), (PySem.Str.ofString "classes_in", 21), (PySem.Str.ofString "plain_lot_in", 22), (PySem.Str.ofString "is_plain_in", 23), (PySem.Str.ofString "part_in", 24), (PySem.Str.ofString "piece_in", 25), (PySem.Str.ofString "pieces_in", 26), (PySem.Str.ofString "is_joined_in", 27), (PySem.Str.ofString "joined_answer_in", 28), (PySem.Str.ofString "is_parting_in", 29), (PySem.Str.ofString "opposite_in", 30), (PySem.Str.ofString "renamed_in", 31), (PySem.Str.ofString "is_alike_by_in", 32), (PySem.Str.ofString "led_on", 33), (PySem.Str.ofString "require_space", 34), (PySem.Str.ofString "require_point", 35), (PySem.Str.ofString "require_space_and_point", 36), (PySem.Str.ofString "require_space_and_two", 37), (PySem.Str.ofString "require_lot", 38), (PySem.Str.ofString "require_some_lot", 39), (PySem.Str.ofString "is_plain", 40), (PySem.Str.ofString "is_over", 41), (PySem.Str.ofString "is_strictly_over", 42), (PySem.Str.ofString "least_open", 43), (PySem.Str.ofString "least_closed", 44), (PySem.Str.ofString "points_under", 45), (PySem.Str.ofString "points_over", 46), (PySem.Str.ofString "neighbours", 47), (PySem.Str.ofString "neighbours_of", 48), (PySem.Str.ofString "classes", 49), (PySem.Str.ofString "plain_lot", 50), (PySem.Str.ofString "plain_part", 51), (PySem.Str.ofString "part_of", 52), (PySem.Str.ofString "pieces", 53), (PySem.Str.ofString "piece_of", 54), (PySem.Str.ofString "is_joined", 55), (PySem.Str.ofString "joined_answer", 56), (PySem.Str.ofString "is_parting", 57), (PySem.Str.ofString "opposite", 58), (PySem.Str.ofString "renamed", 59), (PySem.Str.ofString "space_of_pairs", 60), (PySem.Str.ofString "is_alike_by", 61), (PySem.Str.ofString "_law_dice", 62), (PySem.Str.ofString "_law_roll", 63), (PySem.Str.ofString "_law_pick", 64), (PySem.Str.ofString "_law_word_of", 65), (PySem.Str.ofString "_law_words", 66), (PySem.Str.ofString "_law_right", 67), (PySem.Str.ofString "law", 68)]
def gcstL : List (Str × A) := [(PySem.Str.ofString "FAR", .int 1000000000000000000000000000000000000000000000000000000000000), (PySem.Str.ofString "PAIR_SIZE", .int 2), (PySem.Str.ofString "MOST_POINTS", .int 10), (PySem.Str.ofString "MOST_PAIRS", .int 90), (PySem.Str.ofString "JOINED", .str [106, 111, 105, 110, 101, 100]), (PySem.Str.ofString "IN_PIECES", .str [105, 110, 32, 112, 105, 101, 99, 101, 115])]
def gclsL : List (Str × Nat) := [(PySem.Str.ofString "SpaceError", 0), (PySem.Str.ofString "InvalidSpace", 1), (PySem.Str.ofString "InvalidLot", 2), (PySem.Str.ofString "InvalidNaming", 3), (PySem.Str.ofString "InvalidOperation", 4), (PySem.Str.ofString "InvalidNumber", 5)]
def biL : List Str := [PySem.Str.ofString "abs", PySem.Str.ofString "all", PySem.Str.ofString "any", PySem.Str.ofString "bool", PySem.Str.ofString "dict", PySem.Str.ofString "enumerate", PySem.Str.ofString "int", PySem.Str.ofString "isinstance", PySem.Str.ofString "len", PySem.Str.ofString "list", PySem.Str.ofString "max", PySem.Str.ofString "min", PySem.Str.ofString "range", PySem.Str.ofString "repr", PySem.Str.ofString "sorted", PySem.Str.ofString "str", PySem.Str.ofString "super", PySem.Str.ofString "tuple", PySem.Str.ofString "zip"]
def fldL : List (Nat × Str) := [(5, PySem.Str.ofString "value")]
def metL : List (Str × Nat) := [(PySem.Str.ofString "_law_word_of", 65)]
def S : Stat where
  gfn := fun x => gfnL.lookup x
  gcst := fun x => gcstL.lookup x
  gcls := fun x => gclsL.lookup x
  isB := fun x => biL.contains x
  fld := fun k => fldL.lookup k
  ini := fun k => (fldL.lookup k).isSome
  gmet := fun x => metL.lookup x
  gdf := gf
abbrev s0 : Stmt := top 10
abbrev N0 : List Str := [PySem.Str.ofString "value"]
abbrev P0 : List Str := [PySem.Str.ofString "value"]
abbrev s1 : Stmt := top 11
abbrev N1 : List Str := [PySem.Str.ofString "value"]
abbrev P1 : List Str := [PySem.Str.ofString "value"]
abbrev s2 : Stmt := top 12
abbrev N2 : List Str := [PySem.Str.ofString "value", PySem.Str.ofString "least", PySem.Str.ofString "most"]
abbrev P2 : List Str := [PySem.Str.ofString "value", PySem.Str.ofString "least", PySem.Str.ofString "most"]
abbrev s3 : Stmt := top 13
abbrev N3 : List Str := [PySem.Str.ofString "value"]
abbrev P3 : List Str := [PySem.Str.ofString "value"]
abbrev s4 : Stmt := top 14
abbrev N4 : List Str := [PySem.Str.ofString "items", PySem.Str.ofString "one", PySem.Str.ofString "other"]
abbrev P4 : List Str := [PySem.Str.ofString "items"]
abbrev s5 : Stmt := top 15
abbrev N5 : List Str := [PySem.Str.ofString "value", PySem.Str.ofString "least", PySem.Str.ofString "most"]
abbrev P5 : List Str := [PySem.Str.ofString "value", PySem.Str.ofString "least", PySem.Str.ofString "most"]
abbrev s6 : Stmt := top 16
abbrev N6 : List Str := [PySem.Str.ofString "key", PySem.Str.ofString "kinds", PySem.Str.ofString "member"]
abbrev P6 : List Str := [PySem.Str.ofString "key"]
abbrev s7 : Stmt := top 17
abbrev N7 : List Str := [PySem.Str.ofString "kept", PySem.Str.ofString "kinds", PySem.Str.ofString "key"]
abbrev P7 : List Str := [PySem.Str.ofString "kept"]
abbrev s8 : Stmt := top 18
abbrev N8 : List Str := [PySem.Str.ofString "value", PySem.Str.ofString "member", PySem.Str.ofString "key"]
abbrev P8 : List Str := [PySem.Str.ofString "value"]
abbrev s9 : Stmt := top 19
abbrev N9 : List Str := [PySem.Str.ofString "value", PySem.Str.ofString "least", PySem.Str.ofString "most", PySem.Str.ofString "one"]
abbrev P9 : List Str := [PySem.Str.ofString "value", PySem.Str.ofString "least", PySem.Str.ofString "most"]
abbrev s10 : Stmt := top 20
abbrev N10 : List Str := [PySem.Str.ofString "value", PySem.Str.ofString "most"]
abbrev P10 : List Str := [PySem.Str.ofString "value", PySem.Str.ofString "most"]
abbrev s11 : Stmt := top 21
abbrev N11 : List Str := [PySem.Str.ofString "value", PySem.Str.ofString "many"]
abbrev P11 : List Str := [PySem.Str.ofString "value", PySem.Str.ofString "many"]
abbrev s12 : Stmt := top 27
abbrev N12 : List Str := [PySem.Str.ofString "value", PySem.Str.ofString "x", PySem.Str.ofString "lot", PySem.Str.ofString "y"]
abbrev P12 : List Str := [PySem.Str.ofString "value"]
abbrev s13 : Stmt := top 28
abbrev N13 : List Str := [PySem.Str.ofString "lot", PySem.Str.ofString "part", PySem.Str.ofString "x"]
abbrev P13 : List Str := [PySem.Str.ofString "lot", PySem.Str.ofString "part"]
abbrev s14 : Stmt := top 29
abbrev N14 : List Str := [PySem.Str.ofString "space", PySem.Str.ofString "value"]
abbrev P14 : List Str := [PySem.Str.ofString "space", PySem.Str.ofString "value"]
abbrev s15 : Stmt := top 30
abbrev N15 : List Str := [PySem.Str.ofString "space", PySem.Str.ofString "x", PySem.Str.ofString "y"]
abbrev P15 : List Str := [PySem.Str.ofString "space", PySem.Str.ofString "x", PySem.Str.ofString "y"]
abbrev s16 : Stmt := top 31
abbrev N16 : List Str := [PySem.Str.ofString "space", PySem.Str.ofString "x", PySem.Str.ofString "y"]
abbrev P16 : List Str := [PySem.Str.ofString "space", PySem.Str.ofString "x", PySem.Str.ofString "y"]
abbrev s17 : Stmt := top 32
abbrev N17 : List Str := [PySem.Str.ofString "space", PySem.Str.ofString "x", PySem.Str.ofString "y"]
abbrev P17 : List Str := [PySem.Str.ofString "space", PySem.Str.ofString "x"]
abbrev s18 : Stmt := top 33
abbrev N18 : List Str := [PySem.Str.ofString "space", PySem.Str.ofString "x", PySem.Str.ofString "y"]
abbrev P18 : List Str := [PySem.Str.ofString "space", PySem.Str.ofString "x"]
abbrev s19 : Stmt := top 34
abbrev N19 : List Str := [PySem.Str.ofString "space", PySem.Str.ofString "x", PySem.Str.ofString "y"]
abbrev P19 : List Str := [PySem.Str.ofString "space", PySem.Str.ofString "x"]
abbrev s20 : Stmt := top 35
abbrev N20 : List Str := [PySem.Str.ofString "space", PySem.Str.ofString "found", PySem.Str.ofString "y", PySem.Str.ofString "above", PySem.Str.ofString "x", PySem.Str.ofString "z"]
abbrev P20 : List Str := [PySem.Str.ofString "space"]
abbrev s21 : Stmt := top 36
abbrev N21 : List Str := [PySem.Str.ofString "space", PySem.Str.ofString "found", PySem.Str.ofString "x", PySem.Str.ofString "lot", PySem.Str.ofString "one"]
abbrev P21 : List Str := [PySem.Str.ofString "space"]
abbrev s22 : Stmt := top 37
abbrev N22 : List Str := [PySem.Str.ofString "space", PySem.Str.ofString "one"]
abbrev P22 : List Str := [PySem.Str.ofString "space"]
abbrev s23 : Stmt := top 38
abbrev N23 : List Str := [PySem.Str.ofString "space"]
abbrev P23 : List Str := [PySem.Str.ofString "space"]
abbrev s24 : Stmt := top 39
abbrev N24 : List Str := [PySem.Str.ofString "space", PySem.Str.ofString "lot", PySem.Str.ofString "x", PySem.Str.ofString "i", PySem.Str.ofString "y"]
abbrev P24 : List Str := [PySem.Str.ofString "space", PySem.Str.ofString "lot"]
abbrev s25 : Stmt := top 40
abbrev N25 : List Str := [PySem.Str.ofString "space", PySem.Str.ofString "x", PySem.Str.ofString "found", PySem.Str.ofString "waiting", PySem.Str.ofString "here", PySem.Str.ofString "y"]
abbrev P25 : List Str := [PySem.Str.ofString "space", PySem.Str.ofString "x"]
abbrev s26 : Stmt := top 41
abbrev N26 : List Str := [PySem.Str.ofString "space", PySem.Str.ofString "found", PySem.Str.ofString "met", PySem.Str.ofString "x"]
abbrev P26 : List Str := [PySem.Str.ofString "space"]
abbrev s27 : Stmt := top 42
abbrev N27 : List Str := [PySem.Str.ofString "space"]
abbrev P27 : List Str := [PySem.Str.ofString "space"]
abbrev s28 : Stmt := top 43
abbrev N28 : List Str := [PySem.Str.ofString "space"]
abbrev P28 : List Str := [PySem.Str.ofString "space"]
abbrev s29 : Stmt := top 44
abbrev N29 : List Str := [PySem.Str.ofString "space", PySem.Str.ofString "value", PySem.Str.ofString "y", PySem.Str.ofString "lot", PySem.Str.ofString "x"]
abbrev P29 : List Str := [PySem.Str.ofString "space", PySem.Str.ofString "value"]
abbrev s30 : Stmt := top 45
abbrev N30 : List Str := [PySem.Str.ofString "space", PySem.Str.ofString "x"]
abbrev P30 : List Str := [PySem.Str.ofString "space"]
abbrev s31 : Stmt := top 46
abbrev N31 : List Str := [PySem.Str.ofString "space", PySem.Str.ofString "naming", PySem.Str.ofString "found", PySem.Str.ofString "x", PySem.Str.ofString "lot", PySem.Str.ofString "y"]
abbrev P31 : List Str := [PySem.Str.ofString "space", PySem.Str.ofString "naming"]
abbrev s32 : Stmt := top 47
abbrev N32 : List Str := [PySem.Str.ofString "space", PySem.Str.ofString "other", PySem.Str.ofString "value"]
abbrev P32 : List Str := [PySem.Str.ofString "space", PySem.Str.ofString "other", PySem.Str.ofString "value"]
abbrev s33 : Stmt := top 48
abbrev N33 : List Str := [PySem.Str.ofString "pairs", PySem.Str.ofString "many", PySem.Str.ofString "found", PySem.Str.ofString "start", PySem.Str.ofString "met", PySem.Str.ofString "waiting", PySem.Str.ofString "here", PySem.Str.ofString "y", PySem.Str.ofString "x"]
abbrev P33 : List Str := [PySem.Str.ofString "pairs", PySem.Str.ofString "many"]
abbrev s34 : Stmt := top 49
abbrev N34 : List Str := [PySem.Str.ofString "value"]
abbrev P34 : List Str := [PySem.Str.ofString "value"]
abbrev s35 : Stmt := top 50
abbrev N35 : List Str := [PySem.Str.ofString "space", PySem.Str.ofString "x"]
abbrev P35 : List Str := [PySem.Str.ofString "space", PySem.Str.ofString "x"]
abbrev s36 : Stmt := top 51
abbrev N36 : List Str := [PySem.Str.ofString "space", PySem.Str.ofString "x"]
abbrev P36 : List Str := [PySem.Str.ofString "space", PySem.Str.ofString "x"]
abbrev s37 : Stmt := top 52
abbrev N37 : List Str := [PySem.Str.ofString "space", PySem.Str.ofString "x", PySem.Str.ofString "y"]
abbrev P37 : List Str := [PySem.Str.ofString "space", PySem.Str.ofString "x", PySem.Str.ofString "y"]
abbrev s38 : Stmt := top 53
abbrev N38 : List Str := [PySem.Str.ofString "space", PySem.Str.ofString "lot"]
abbrev P38 : List Str := [PySem.Str.ofString "space", PySem.Str.ofString "lot"]
abbrev s39 : Stmt := top 54
abbrev N39 : List Str := [PySem.Str.ofString "space", PySem.Str.ofString "lot"]
abbrev P39 : List Str := [PySem.Str.ofString "space", PySem.Str.ofString "lot"]
abbrev s40 : Stmt := top 55
abbrev N40 : List Str := [PySem.Str.ofString "space"]
abbrev P40 : List Str := [PySem.Str.ofString "space"]
abbrev s41 : Stmt := top 56
abbrev N41 : List Str := [PySem.Str.ofString "space", PySem.Str.ofString "x", PySem.Str.ofString "y"]
abbrev P41 : List Str := [PySem.Str.ofString "space", PySem.Str.ofString "x", PySem.Str.ofString "y"]
abbrev s42 : Stmt := top 57
abbrev N42 : List Str := [PySem.Str.ofString "space", PySem.Str.ofString "x", PySem.Str.ofString "y"]
abbrev P42 : List Str := [PySem.Str.ofString "space", PySem.Str.ofString "x", PySem.Str.ofString "y"]
abbrev s43 : Stmt := top 58
abbrev N43 : List Str := [PySem.Str.ofString "space", PySem.Str.ofString "x"]
abbrev P43 : List Str := [PySem.Str.ofString "space", PySem.Str.ofString "x"]
abbrev s44 : Stmt := top 59
abbrev N44 : List Str := [PySem.Str.ofString "space", PySem.Str.ofString "x"]
abbrev P44 : List Str := [PySem.Str.ofString "space", PySem.Str.ofString "x"]
abbrev s45 : Stmt := top 60
abbrev N45 : List Str := [PySem.Str.ofString "space", PySem.Str.ofString "x"]
abbrev P45 : List Str := [PySem.Str.ofString "space", PySem.Str.ofString "x"]
abbrev s46 : Stmt := top 61
abbrev N46 : List Str := [PySem.Str.ofString "space", PySem.Str.ofString "x"]
abbrev P46 : List Str := [PySem.Str.ofString "space", PySem.Str.ofString "x"]
abbrev s47 : Stmt := top 62
abbrev N47 : List Str := [PySem.Str.ofString "space"]
abbrev P47 : List Str := [PySem.Str.ofString "space"]
abbrev s48 : Stmt := top 63
abbrev N48 : List Str := [PySem.Str.ofString "space", PySem.Str.ofString "x", PySem.Str.ofString "pairs", PySem.Str.ofString "y", PySem.Str.ofString "z"]
abbrev P48 : List Str := [PySem.Str.ofString "space", PySem.Str.ofString "x"]
abbrev s49 : Stmt := top 64
abbrev N49 : List Str := [PySem.Str.ofString "space"]
abbrev P49 : List Str := [PySem.Str.ofString "space"]
abbrev s50 : Stmt := top 65
abbrev N50 : List Str := [PySem.Str.ofString "space"]
abbrev P50 : List Str := [PySem.Str.ofString "space"]
abbrev s51 : Stmt := top 66
abbrev N51 : List Str := [PySem.Str.ofString "space"]
abbrev P51 : List Str := [PySem.Str.ofString "space"]
abbrev s52 : Stmt := top 67
abbrev N52 : List Str := [PySem.Str.ofString "space", PySem.Str.ofString "lot"]
abbrev P52 : List Str := [PySem.Str.ofString "space", PySem.Str.ofString "lot"]
abbrev s53 : Stmt := top 68
abbrev N53 : List Str := [PySem.Str.ofString "space"]
abbrev P53 : List Str := [PySem.Str.ofString "space"]
abbrev s54 : Stmt := top 69
abbrev N54 : List Str := [PySem.Str.ofString "space", PySem.Str.ofString "x"]
abbrev P54 : List Str := [PySem.Str.ofString "space", PySem.Str.ofString "x"]
abbrev s55 : Stmt := top 70
abbrev N55 : List Str := [PySem.Str.ofString "space"]
abbrev P55 : List Str := [PySem.Str.ofString "space"]
abbrev s56 : Stmt := top 71
abbrev N56 : List Str := [PySem.Str.ofString "space"]
abbrev P56 : List Str := [PySem.Str.ofString "space"]
abbrev s57 : Stmt := top 72
abbrev N57 : List Str := [PySem.Str.ofString "space", PySem.Str.ofString "value"]
abbrev P57 : List Str := [PySem.Str.ofString "space", PySem.Str.ofString "value"]
abbrev s58 : Stmt := top 73
abbrev N58 : List Str := [PySem.Str.ofString "space"]
abbrev P58 : List Str := [PySem.Str.ofString "space"]
abbrev s59 : Stmt := top 74
abbrev N59 : List Str := [PySem.Str.ofString "space", PySem.Str.ofString "naming"]
abbrev P59 : List Str := [PySem.Str.ofString "space", PySem.Str.ofString "naming"]
abbrev s60 : Stmt := top 75
abbrev N60 : List Str := [PySem.Str.ofString "n", PySem.Str.ofString "pairs", PySem.Str.ofString "pair", PySem.Str.ofString "x"]
abbrev P60 : List Str := [PySem.Str.ofString "n", PySem.Str.ofString "pairs"]
abbrev s61 : Stmt := top 76
abbrev N61 : List Str := [PySem.Str.ofString "space", PySem.Str.ofString "other", PySem.Str.ofString "value"]
abbrev P61 : List Str := [PySem.Str.ofString "space", PySem.Str.ofString "other", PySem.Str.ofString "value"]
abbrev s62 : Stmt := top 78
abbrev N62 : List Str := [PySem.Str.ofString "script", PySem.Str.ofString "spot", PySem.Str.ofString "cell", PySem.Str.ofString "left"]
abbrev P62 : List Str := [PySem.Str.ofString "script", PySem.Str.ofString "spot"]
abbrev s63 : Stmt := top 79
abbrev N63 : List Str := [PySem.Str.ofString "dice", PySem.Str.ofString "total", PySem.Str.ofString "found", PySem.Str.ofString "one", PySem.Str.ofString "two"]
abbrev P63 : List Str := [PySem.Str.ofString "dice", PySem.Str.ofString "total"]
abbrev s64 : Stmt := top 80
abbrev N64 : List Str := [PySem.Str.ofString "dice", PySem.Str.ofString "items"]
abbrev P64 : List Str := [PySem.Str.ofString "dice", PySem.Str.ofString "items"]
abbrev s65 : Stmt := top 81
abbrev N65 : List Str := [PySem.Str.ofString "call", PySem.Str.ofString "error"]
abbrev P65 : List Str := [PySem.Str.ofString "call"]
abbrev s66 : Stmt := top 82
abbrev N66 : List Str := [PySem.Str.ofString "space", PySem.Str.ofString "x", PySem.Str.ofString "lot", PySem.Str.ofString "naming", PySem.Str.ofString "found", PySem.Str.ofString "call"]
abbrev P66 : List Str := [PySem.Str.ofString "space", PySem.Str.ofString "x", PySem.Str.ofString "lot", PySem.Str.ofString "naming"]
abbrev s67 : Stmt := top 83
abbrev N67 : List Str := [PySem.Str.ofString "dice", PySem.Str.ofString "no", PySem.Str.ofString "x", PySem.Str.ofString "lot", PySem.Str.ofString "naming", PySem.Str.ofString "vee", PySem.Str.ofString "word", PySem.Str.ofString "told", PySem.Str.ofString "n", PySem.Str.ofString "pairs", PySem.Str.ofString "z", PySem.Str.ofString "call"]
abbrev P67 : List Str := [PySem.Str.ofString "dice"]
abbrev s68 : Stmt := top 84
abbrev N68 : List Str := [PySem.Str.ofString "script", PySem.Str.ofString "spot", PySem.Str.ofString "dice", PySem.Str.ofString "turn", PySem.Str.ofString "told", PySem.Str.ofString "many"]
abbrev P68 : List Str := [PySem.Str.ofString "script"]
theorem sc0 : FnScope N0 P0 (defScope s0) := ⟨rfl, rfl, rfl, by decide +kernel, rfl, by decide +kernel, by decide +kernel⟩
theorem c0 : chkAll (chkS S (dCtx N0 (defScope s0) (gf 0)) 60) f0.body (defBody s0) = true := by decide +kernel
theorem sc1 : FnScope N1 P1 (defScope s1) := ⟨rfl, rfl, rfl, by decide +kernel, rfl, by decide +kernel, by decide +kernel⟩
theorem c1 : chkAll (chkS S (dCtx N1 (defScope s1) (gf 1)) 60) f1.body (defBody s1) = true := by decide +kernel
theorem sc2 : FnScope N2 P2 (defScope s2) := ⟨rfl, rfl, rfl, by decide +kernel, rfl, by decide +kernel, by decide +kernel⟩
theorem c2 : chkAll (chkS S (dCtx N2 (defScope s2) (gf 2)) 60) f2.body (defBody s2) = true := by decide +kernel
theorem sc3 : FnScope N3 P3 (defScope s3) := ⟨rfl, rfl, rfl, by decide +kernel, rfl, by decide +kernel, by decide +kernel⟩
theorem c3 : chkAll (chkS S (dCtx N3 (defScope s3) (gf 3)) 60) f3.body (defBody s3) = true := by decide +kernel
theorem sc4 : FnScope N4 P4 (defScope s4) := ⟨rfl, rfl, rfl, by decide +kernel, rfl, by decide +kernel, by decide +kernel⟩
theorem c4 : chkAll (chkS S (dCtx N4 (defScope s4) (gf 4)) 60) f4.body (defBody s4) = true := by decide +kernel
theorem sc5 : FnScope N5 P5 (defScope s5) := ⟨rfl, rfl, rfl, by decide +kernel, rfl, by decide +kernel, by decide +kernel⟩
theorem c5 : chkAll (chkS S (dCtx N5 (defScope s5) (gf 5)) 60) f5.body (defBody s5) = true := by decide +kernel
theorem sc6 : FnScope N6 P6 (defScope s6) := ⟨rfl, rfl, rfl, by decide +kernel, rfl, by decide +kernel, by decide +kernel⟩
theorem c6 : chkAll (chkS S (dCtx N6 (defScope s6) (gf 6)) 60) f6.body (defBody s6) = true := by decide +kernel
theorem sc7 : FnScope N7 P7 (defScope s7) := ⟨rfl, rfl, rfl, by decide +kernel, rfl, by decide +kernel, by decide +kernel⟩
theorem c7 : chkAll (chkS S (dCtx N7 (defScope s7) (gf 7)) 60) f7.body (defBody s7) = true := by decide +kernel
theorem sc8 : FnScope N8 P8 (defScope s8) := ⟨rfl, rfl, rfl, by decide +kernel, rfl, by decide +kernel, by decide +kernel⟩
theorem c8 : chkAll (chkS S (dCtx N8 (defScope s8) (gf 8)) 60) f8.body (defBody s8) = true := by decide +kernel
theorem sc9 : FnScope N9 P9 (defScope s9) := ⟨rfl, rfl, rfl, by decide +kernel, rfl, by decide +kernel, by decide +kernel⟩
theorem c9 : chkAll (chkS S (dCtx N9 (defScope s9) (gf 9)) 60) f9.body (defBody s9) = true := by decide +kernel
theorem sc10 : FnScope N10 P10 (defScope s10) := ⟨rfl, rfl, rfl, by decide +kernel, rfl, by decide +kernel, by decide +kernel⟩
theorem c10 : chkAll (chkS S (dCtx N10 (defScope s10) (gf 10)) 60) f10.body (defBody s10) = true := by decide +kernel
theorem sc11 : FnScope N11 P11 (defScope s11) := ⟨rfl, rfl, rfl, by decide +kernel, rfl, by decide +kernel, by decide +kernel⟩
theorem c11 : chkAll (chkS S (dCtx N11 (defScope s11) (gf 11)) 60) f11.body (defBody s11) = true := by decide +kernel
theorem sc12 : FnScope N12 P12 (defScope s12) := ⟨rfl, rfl, rfl, by decide +kernel, rfl, by decide +kernel, by decide +kernel⟩
theorem c12 : chkAll (chkS S (dCtx N12 (defScope s12) (gf 12)) 60) f12.body (defBody s12) = true := by decide +kernel
theorem sc13 : FnScope N13 P13 (defScope s13) := ⟨rfl, rfl, rfl, by decide +kernel, rfl, by decide +kernel, by decide +kernel⟩
theorem c13 : chkAll (chkS S (dCtx N13 (defScope s13) (gf 13)) 60) f13.body (defBody s13) = true := by decide +kernel
theorem sc14 : FnScope N14 P14 (defScope s14) := ⟨rfl, rfl, rfl, by decide +kernel, rfl, by decide +kernel, by decide +kernel⟩
theorem c14 : chkAll (chkS S (dCtx N14 (defScope s14) (gf 14)) 60) f14.body (defBody s14) = true := by decide +kernel
theorem sc15 : FnScope N15 P15 (defScope s15) := ⟨rfl, rfl, rfl, by decide +kernel, rfl, by decide +kernel, by decide +kernel⟩
theorem c15 : chkAll (chkS S (dCtx N15 (defScope s15) (gf 15)) 60) f15.body (defBody s15) = true := by decide +kernel
theorem sc16 : FnScope N16 P16 (defScope s16) := ⟨rfl, rfl, rfl, by decide +kernel, rfl, by decide +kernel, by decide +kernel⟩
theorem c16 : chkAll (chkS S (dCtx N16 (defScope s16) (gf 16)) 60) f16.body (defBody s16) = true := by decide +kernel
theorem sc17 : FnScope N17 P17 (defScope s17) := ⟨rfl, rfl, rfl, by decide +kernel, rfl, by decide +kernel, by decide +kernel⟩
theorem c17 : chkAll (chkS S (dCtx N17 (defScope s17) (gf 17)) 60) f17.body (defBody s17) = true := by decide +kernel
theorem sc18 : FnScope N18 P18 (defScope s18) := ⟨rfl, rfl, rfl, by decide +kernel, rfl, by decide +kernel, by decide +kernel⟩
theorem c18 : chkAll (chkS S (dCtx N18 (defScope s18) (gf 18)) 60) f18.body (defBody s18) = true := by decide +kernel
theorem sc19 : FnScope N19 P19 (defScope s19) := ⟨rfl, rfl, rfl, by decide +kernel, rfl, by decide +kernel, by decide +kernel⟩
theorem c19 : chkAll (chkS S (dCtx N19 (defScope s19) (gf 19)) 60) f19.body (defBody s19) = true := by decide +kernel
theorem sc20 : FnScope N20 P20 (defScope s20) := ⟨rfl, rfl, rfl, by decide +kernel, rfl, by decide +kernel, by decide +kernel⟩
theorem c20 : chkAll (chkS S (dCtx N20 (defScope s20) (gf 20)) 60) f20.body (defBody s20) = true := by decide +kernel
theorem sc21 : FnScope N21 P21 (defScope s21) := ⟨rfl, rfl, rfl, by decide +kernel, rfl, by decide +kernel, by decide +kernel⟩
theorem c21 : chkAll (chkS S (dCtx N21 (defScope s21) (gf 21)) 60) f21.body (defBody s21) = true := by decide +kernel
theorem sc22 : FnScope N22 P22 (defScope s22) := ⟨rfl, rfl, rfl, by decide +kernel, rfl, by decide +kernel, by decide +kernel⟩
theorem c22 : chkAll (chkS S (dCtx N22 (defScope s22) (gf 22)) 60) f22.body (defBody s22) = true := by decide +kernel
theorem sc23 : FnScope N23 P23 (defScope s23) := ⟨rfl, rfl, rfl, by decide +kernel, rfl, by decide +kernel, by decide +kernel⟩
theorem c23 : chkAll (chkS S (dCtx N23 (defScope s23) (gf 23)) 60) f23.body (defBody s23) = true := by decide +kernel
theorem sc24 : FnScope N24 P24 (defScope s24) := ⟨rfl, rfl, rfl, by decide +kernel, rfl, by decide +kernel, by decide +kernel⟩
theorem c24 : chkAll (chkS S (dCtx N24 (defScope s24) (gf 24)) 60) f24.body (defBody s24) = true := by decide +kernel
theorem sc25 : FnScope N25 P25 (defScope s25) := ⟨rfl, rfl, rfl, by decide +kernel, rfl, by decide +kernel, by decide +kernel⟩
theorem c25 : chkAll (chkS S (dCtx N25 (defScope s25) (gf 25)) 60) f25.body (defBody s25) = true := by decide +kernel
theorem sc26 : FnScope N26 P26 (defScope s26) := ⟨rfl, rfl, rfl, by decide +kernel, rfl, by decide +kernel, by decide +kernel⟩
theorem c26 : chkAll (chkS S (dCtx N26 (defScope s26) (gf 26)) 60) f26.body (defBody s26) = true := by decide +kernel
theorem sc27 : FnScope N27 P27 (defScope s27) := ⟨rfl, rfl, rfl, by decide +kernel, rfl, by decide +kernel, by decide +kernel⟩
theorem c27 : chkAll (chkS S (dCtx N27 (defScope s27) (gf 27)) 60) f27.body (defBody s27) = true := by decide +kernel
theorem sc28 : FnScope N28 P28 (defScope s28) := ⟨rfl, rfl, rfl, by decide +kernel, rfl, by decide +kernel, by decide +kernel⟩
theorem c28 : chkAll (chkS S (dCtx N28 (defScope s28) (gf 28)) 60) f28.body (defBody s28) = true := by decide +kernel
theorem sc29 : FnScope N29 P29 (defScope s29) := ⟨rfl, rfl, rfl, by decide +kernel, rfl, by decide +kernel, by decide +kernel⟩
theorem c29 : chkAll (chkS S (dCtx N29 (defScope s29) (gf 29)) 60) f29.body (defBody s29) = true := by decide +kernel
theorem sc30 : FnScope N30 P30 (defScope s30) := ⟨rfl, rfl, rfl, by decide +kernel, rfl, by decide +kernel, by decide +kernel⟩
theorem c30 : chkAll (chkS S (dCtx N30 (defScope s30) (gf 30)) 60) f30.body (defBody s30) = true := by decide +kernel
theorem sc31 : FnScope N31 P31 (defScope s31) := ⟨rfl, rfl, rfl, by decide +kernel, rfl, by decide +kernel, by decide +kernel⟩
theorem c31 : chkAll (chkS S (dCtx N31 (defScope s31) (gf 31)) 60) f31.body (defBody s31) = true := by decide +kernel
theorem sc32 : FnScope N32 P32 (defScope s32) := ⟨rfl, rfl, rfl, by decide +kernel, rfl, by decide +kernel, by decide +kernel⟩
theorem c32 : chkAll (chkS S (dCtx N32 (defScope s32) (gf 32)) 60) f32.body (defBody s32) = true := by decide +kernel
theorem sc33 : FnScope N33 P33 (defScope s33) := ⟨rfl, rfl, rfl, by decide +kernel, rfl, by decide +kernel, by decide +kernel⟩
theorem c33 : chkAll (chkS S (dCtx N33 (defScope s33) (gf 33)) 60) f33.body (defBody s33) = true := by decide +kernel
theorem sc34 : FnScope N34 P34 (defScope s34) := ⟨rfl, rfl, rfl, by decide +kernel, rfl, by decide +kernel, by decide +kernel⟩
theorem c34 : chkAll (chkS S (dCtx N34 (defScope s34) (gf 34)) 60) f34.body (defBody s34) = true := by decide +kernel
theorem sc35 : FnScope N35 P35 (defScope s35) := ⟨rfl, rfl, rfl, by decide +kernel, rfl, by decide +kernel, by decide +kernel⟩
theorem c35 : chkAll (chkS S (dCtx N35 (defScope s35) (gf 35)) 60) f35.body (defBody s35) = true := by decide +kernel
theorem sc36 : FnScope N36 P36 (defScope s36) := ⟨rfl, rfl, rfl, by decide +kernel, rfl, by decide +kernel, by decide +kernel⟩
theorem c36 : chkAll (chkS S (dCtx N36 (defScope s36) (gf 36)) 60) f36.body (defBody s36) = true := by decide +kernel
theorem sc37 : FnScope N37 P37 (defScope s37) := ⟨rfl, rfl, rfl, by decide +kernel, rfl, by decide +kernel, by decide +kernel⟩
theorem c37 : chkAll (chkS S (dCtx N37 (defScope s37) (gf 37)) 60) f37.body (defBody s37) = true := by decide +kernel
theorem sc38 : FnScope N38 P38 (defScope s38) := ⟨rfl, rfl, rfl, by decide +kernel, rfl, by decide +kernel, by decide +kernel⟩
theorem c38 : chkAll (chkS S (dCtx N38 (defScope s38) (gf 38)) 60) f38.body (defBody s38) = true := by decide +kernel
theorem sc39 : FnScope N39 P39 (defScope s39) := ⟨rfl, rfl, rfl, by decide +kernel, rfl, by decide +kernel, by decide +kernel⟩
theorem c39 : chkAll (chkS S (dCtx N39 (defScope s39) (gf 39)) 60) f39.body (defBody s39) = true := by decide +kernel
theorem sc40 : FnScope N40 P40 (defScope s40) := ⟨rfl, rfl, rfl, by decide +kernel, rfl, by decide +kernel, by decide +kernel⟩
theorem c40 : chkAll (chkS S (dCtx N40 (defScope s40) (gf 40)) 60) f40.body (defBody s40) = true := by decide +kernel
theorem sc41 : FnScope N41 P41 (defScope s41) := ⟨rfl, rfl, rfl, by decide +kernel, rfl, by decide +kernel, by decide +kernel⟩
theorem c41 : chkAll (chkS S (dCtx N41 (defScope s41) (gf 41)) 60) f41.body (defBody s41) = true := by decide +kernel
theorem sc42 : FnScope N42 P42 (defScope s42) := ⟨rfl, rfl, rfl, by decide +kernel, rfl, by decide +kernel, by decide +kernel⟩
theorem c42 : chkAll (chkS S (dCtx N42 (defScope s42) (gf 42)) 60) f42.body (defBody s42) = true := by decide +kernel
theorem sc43 : FnScope N43 P43 (defScope s43) := ⟨rfl, rfl, rfl, by decide +kernel, rfl, by decide +kernel, by decide +kernel⟩
theorem c43 : chkAll (chkS S (dCtx N43 (defScope s43) (gf 43)) 60) f43.body (defBody s43) = true := by decide +kernel
theorem sc44 : FnScope N44 P44 (defScope s44) := ⟨rfl, rfl, rfl, by decide +kernel, rfl, by decide +kernel, by decide +kernel⟩
theorem c44 : chkAll (chkS S (dCtx N44 (defScope s44) (gf 44)) 60) f44.body (defBody s44) = true := by decide +kernel
theorem sc45 : FnScope N45 P45 (defScope s45) := ⟨rfl, rfl, rfl, by decide +kernel, rfl, by decide +kernel, by decide +kernel⟩
theorem c45 : chkAll (chkS S (dCtx N45 (defScope s45) (gf 45)) 60) f45.body (defBody s45) = true := by decide +kernel
theorem sc46 : FnScope N46 P46 (defScope s46) := ⟨rfl, rfl, rfl, by decide +kernel, rfl, by decide +kernel, by decide +kernel⟩
theorem c46 : chkAll (chkS S (dCtx N46 (defScope s46) (gf 46)) 60) f46.body (defBody s46) = true := by decide +kernel
theorem sc47 : FnScope N47 P47 (defScope s47) := ⟨rfl, rfl, rfl, by decide +kernel, rfl, by decide +kernel, by decide +kernel⟩
theorem c47 : chkAll (chkS S (dCtx N47 (defScope s47) (gf 47)) 60) f47.body (defBody s47) = true := by decide +kernel
theorem sc48 : FnScope N48 P48 (defScope s48) := ⟨rfl, rfl, rfl, by decide +kernel, rfl, by decide +kernel, by decide +kernel⟩
theorem c48 : chkAll (chkS S (dCtx N48 (defScope s48) (gf 48)) 60) f48.body (defBody s48) = true := by decide +kernel
theorem sc49 : FnScope N49 P49 (defScope s49) := ⟨rfl, rfl, rfl, by decide +kernel, rfl, by decide +kernel, by decide +kernel⟩
theorem c49 : chkAll (chkS S (dCtx N49 (defScope s49) (gf 49)) 60) f49.body (defBody s49) = true := by decide +kernel
theorem sc50 : FnScope N50 P50 (defScope s50) := ⟨rfl, rfl, rfl, by decide +kernel, rfl, by decide +kernel, by decide +kernel⟩
theorem c50 : chkAll (chkS S (dCtx N50 (defScope s50) (gf 50)) 60) f50.body (defBody s50) = true := by decide +kernel
theorem sc51 : FnScope N51 P51 (defScope s51) := ⟨rfl, rfl, rfl, by decide +kernel, rfl, by decide +kernel, by decide +kernel⟩
theorem c51 : chkAll (chkS S (dCtx N51 (defScope s51) (gf 51)) 60) f51.body (defBody s51) = true := by decide +kernel
theorem sc52 : FnScope N52 P52 (defScope s52) := ⟨rfl, rfl, rfl, by decide +kernel, rfl, by decide +kernel, by decide +kernel⟩
theorem c52 : chkAll (chkS S (dCtx N52 (defScope s52) (gf 52)) 60) f52.body (defBody s52) = true := by decide +kernel
theorem sc53 : FnScope N53 P53 (defScope s53) := ⟨rfl, rfl, rfl, by decide +kernel, rfl, by decide +kernel, by decide +kernel⟩
theorem c53 : chkAll (chkS S (dCtx N53 (defScope s53) (gf 53)) 60) f53.body (defBody s53) = true := by decide +kernel
theorem sc54 : FnScope N54 P54 (defScope s54) := ⟨rfl, rfl, rfl, by decide +kernel, rfl, by decide +kernel, by decide +kernel⟩
theorem c54 : chkAll (chkS S (dCtx N54 (defScope s54) (gf 54)) 60) f54.body (defBody s54) = true := by decide +kernel
theorem sc55 : FnScope N55 P55 (defScope s55) := ⟨rfl, rfl, rfl, by decide +kernel, rfl, by decide +kernel, by decide +kernel⟩
theorem c55 : chkAll (chkS S (dCtx N55 (defScope s55) (gf 55)) 60) f55.body (defBody s55) = true := by decide +kernel
theorem sc56 : FnScope N56 P56 (defScope s56) := ⟨rfl, rfl, rfl, by decide +kernel, rfl, by decide +kernel, by decide +kernel⟩
theorem c56 : chkAll (chkS S (dCtx N56 (defScope s56) (gf 56)) 60) f56.body (defBody s56) = true := by decide +kernel
theorem sc57 : FnScope N57 P57 (defScope s57) := ⟨rfl, rfl, rfl, by decide +kernel, rfl, by decide +kernel, by decide +kernel⟩
theorem c57 : chkAll (chkS S (dCtx N57 (defScope s57) (gf 57)) 60) f57.body (defBody s57) = true := by decide +kernel
theorem sc58 : FnScope N58 P58 (defScope s58) := ⟨rfl, rfl, rfl, by decide +kernel, rfl, by decide +kernel, by decide +kernel⟩
theorem c58 : chkAll (chkS S (dCtx N58 (defScope s58) (gf 58)) 60) f58.body (defBody s58) = true := by decide +kernel
theorem sc59 : FnScope N59 P59 (defScope s59) := ⟨rfl, rfl, rfl, by decide +kernel, rfl, by decide +kernel, by decide +kernel⟩
theorem c59 : chkAll (chkS S (dCtx N59 (defScope s59) (gf 59)) 60) f59.body (defBody s59) = true := by decide +kernel
theorem sc60 : FnScope N60 P60 (defScope s60) := ⟨rfl, rfl, rfl, by decide +kernel, rfl, by decide +kernel, by decide +kernel⟩
theorem c60 : chkAll (chkS S (dCtx N60 (defScope s60) (gf 60)) 60) f60.body (defBody s60) = true := by decide +kernel
theorem sc61 : FnScope N61 P61 (defScope s61) := ⟨rfl, rfl, rfl, by decide +kernel, rfl, by decide +kernel, by decide +kernel⟩
theorem c61 : chkAll (chkS S (dCtx N61 (defScope s61) (gf 61)) 60) f61.body (defBody s61) = true := by decide +kernel
theorem sc64 : FnScope N64 P64 (defScope s64) := ⟨rfl, rfl, rfl, by decide +kernel, rfl, by decide +kernel, by decide +kernel⟩
theorem c64 : chkAll (chkS S (dCtx N64 (defScope s64) (gf 64)) 60) f64.body (defBody s64) = true := by decide +kernel
theorem sc65 : FnScope N65 P65 (defScope s65) := ⟨rfl, rfl, rfl, by decide +kernel, rfl, by decide +kernel, by decide +kernel⟩
theorem c65 : metB S N65 (PySem.Str.ofString "call") [.mk 1 none (.cst (.str [115, 112, 97, 99, 101])), .mk 2 none (.cst (.str [108, 111, 116])), .mk 3 none (.cst (.str [110, 97, 109, 105, 110, 103])), .mk 4 none (.cst (.str [111, 112, 101, 114, 97, 116, 105, 111, 110])), .mk 5 (some 1) (.bin .add (.cst (.str [110, 117, 109, 98, 101, 114, 32])) (.bi .repr [.xf 1 5]))] (.cst (.str [102, 105, 110, 101])) s65 = true := by decide +kernel
theorem sc66 : FnScope N66 P66 (defScope s66) := ⟨rfl, rfl, rfl, by decide +kernel, rfl, by decide +kernel, by decide +kernel⟩
theorem c66 : chkAll (chkS S (lCtx N66 (defScope s66)) 60) f66.body (defBody s66) = true := by decide +kernel
theorem sc67 : FnScope N67 P67 (defScope s67) := ⟨rfl, rfl, rfl, by decide +kernel, rfl, by decide +kernel, by decide +kernel⟩
theorem c67 : chkAll (chkS S (lCtx N67 (defScope s67)) 60) f67.body (defBody s67) = true := by decide +kernel
theorem sc68 : FnScope N68 P68 (defScope s68) := ⟨rfl, rfl, rfl, by decide +kernel, rfl, by decide +kernel, by decide +kernel⟩
theorem c68 : chkAll (chkS S (lCtx N68 (defScope s68)) 60) f68.body (defBody s68) = true := by decide +kernel
end EV

set_option Elab.async false
set_option linter.all false
set_option maxRecDepth 100000
set_option maxHeartbeats 0
namespace EV
open PySem PySem.Spec PyProof.Rows L2
def prim : Nat → Option Mean
  | 62 => some F_dice
  | 63 => some F_roll
  | _ => none
def Lw : Nat → Mean := lvl gf fns sups prim 60 12
def cMet : Nat → (Hea → Res D) → Hea → Res D
  | 65 => fun act h => (metR gf sups 60 f65 act h).noexc
  | _ => fun _ _ => .bad
def call0 : Nat → Mean := Lw
def ok0 : Nat → Bool := okL fns prim 12
def cf0 : Cfg := ⟨call0, ok0, gf, cMet, true⟩
def R66 : Mean := runB ⟨fun _ => none, sups⟩ 61 cf0 (cfg0 gf) (fun _ => .bad) f66
def M66 : Mean := R66
def call1 : Nat → Mean
  | 66 => M66
  | i => call0 i
def ok1 : Nat → Bool
  | 66 => true
  | i => ok0 i
def cf1 : Cfg := ⟨call1, ok1, gf, cMet, true⟩
def R67 : Mean := runB ⟨fun _ => none, sups⟩ 61 cf1 (cfg0 gf) (fun _ => .bad) f67
def e67_0 : Ent := ⟨[.ref 0], [.dice], .a (.bl true), [.dice]⟩
theorem r67_0 : ((callL R67 e67_0.ds e67_0.h).at 0).chk (fun d h => D.same d e67_0.d && sameH h e67_0.h') = true := by kernel_rfl
theorem r67_1 : ((callL R67 e67_0.ds e67_0.h).at 1).chk (fun d h => D.same d e67_0.d && sameH h e67_0.h') = true := by kernel_rfl
theorem r67_2 : ((callL R67 e67_0.ds e67_0.h).at 2).chk (fun d h => D.same d e67_0.d && sameH h e67_0.h') = true := by kernel_rfl
theorem r67_3 : ((callL R67 e67_0.ds e67_0.h).at 3).chk (fun d h => D.same d e67_0.d && sameH h e67_0.h') = true := by kernel_rfl
theorem r67_4 : ((callL R67 e67_0.ds e67_0.h).at 4).chk (fun d h => D.same d e67_0.d && sameH h e67_0.h') = true := by kernel_rfl
theorem r67_5 : ((callL R67 e67_0.ds e67_0.h).at 5).chk (fun d h => D.same d e67_0.d && sameH h e67_0.h') = true := by kernel_rfl
theorem r67_6 : ((callL R67 e67_0.ds e67_0.h).at 6).chk (fun d h => D.same d e67_0.d && sameH h e67_0.h') = true := by kernel_rfl
theorem ok67_0 : EntOk R67 e67_0 := by
  refine Res.chk_at (n := 6) (by decide +kernel) fun i hi => ?_
  match i, hi with
  | 0, _ => exact r67_0
  | 1, _ => exact r67_1
  | 2, _ => exact r67_2
  | 3, _ => exact r67_3
  | 4, _ => exact r67_4
  | 5, _ => exact r67_5
  | 6, _ => exact r67_6
  | n + 7, h => exact absurd h (by omega)
def T67 : Tab := .lf [e67_0]
theorem al67 : T67.Al (EntOk R67) := ⟨ok67_0, trivial⟩
def M67 : Mean := memoT T67
def call2 : Nat → Mean
  | 67 => M67
  | i => call1 i
def ok2 : Nat → Bool
  | 67 => true
  | i => ok1 i
def cf2 : Cfg := ⟨call2, ok2, gf, cMet, true⟩
def R68 : Mean := runB ⟨fun _ => none, sups⟩ 61 cf2 (cfg0 gf) (fun _ => .bad) f68
def M68 : Mean := R68
theorem law_all : (M68 [.scr] []).all (fun d _ => d = .bl true) (fun _ _ => False) := by
  have q : (M68 [.scr] []).chk (fun d _ => D.same d (.a (.bl true))) = true := by decide +kernel
  exact Res.all_mono (fun d h e => D.same_eq _ _ e) (fun _ _ z => z) (Res.chk_all q)
end EV

set_option Elab.async false
set_option linter.all false
set_option maxRecDepth 100000
set_option maxHeartbeats 0
namespace EV
open PySem PySem.Spec PyProof.Rows L2
theorem mem_rng (x : Nat) (h : x < 6) : x ∈ ([0, 1, 2, 3, 4, 5] : List Nat) := by
  have : ∀ x, x < 6 → x ∈ ([0, 1, 2, 3, 4, 5] : List Nat) := by decide
  exact this x h
def glo (K : PySem.W.Frag) (w : World) (fas cas : List Addr) (scr : Option (Addr × List Int)) (T : List (Addr × Str)) : Glo := ⟨K, fun i => (fas[i]?).getD 0, fun i => (cas[i]?).getD 0, fun k => (fldL.lookup k).getD "", scr, none, 0, 6, T, gf, w⟩
theorem all_mk {l : PySem.W.OpenLaw} {w : World} {K : PySem.W.Frag} {h : Heap} {mg : Str → Option Value} {fa : Addr} {ts : List Addr} (X : K.In h) (Gn : h.Ns mainGlobals mg) (hfa : mg "law" = some (.ref fa)) (hts : ∀ P ∈ ts, h.get? P = some { cls := .none, data := .fields #[] }) {f0a f1a f2a f3a f4a f5a f6a f7a f8a f9a f10a f11a f12a f13a f14a f15a f16a f17a f18a f19a f20a f21a f22a f23a f24a f25a f26a f27a f28a f29a f30a f31a f32a f33a f34a f35a f36a f37a f38a f39a f40a f41a f42a f43a f44a f45a f46a f47a f48a f49a f50a f51a f52a f53a f54a f55a f56a f57a f58a f59a f60a f61a f62a f63a f64a f65a f66a cr66 pt66 f67a cr67 pt67 f68a cr68 pt68 c0a c1a c2a c3a c4a c5a i5a ic5 ik5 : Addr} {oc0 kV0 dc0 pm0 ct0 cd0 oc1 kV1 dc1 pm1 ct1 cd1 oc2 kV2 dc2 pm2 ct2 cd2 oc3 kV3 dc3 pm3 ct3 cd3 oc4 kV4 dc4 pm4 ct4 cd4 oc5 kV5 dc5 pm5 ct5 cd5 oc6 kV6 dc6 pm6 ct6 cd6 oc7 kV7 dc7 pm7 ct7 cd7 oc8 kV8 dc8 pm8 ct8 cd8 oc9 kV9 dc9 pm9 ct9 cd9 oc10 kV10 dc10 pm10 ct10 cd10 oc11 kV11 dc11 pm11 ct11 cd11 oc12 kV12 dc12 pm12 ct12 cd12 oc13 kV13 dc13 pm13 ct13 cd13 oc14 kV14 dc14 pm14 ct14 cd14 oc15 kV15 dc15 pm15 ct15 cd15 oc16 kV16 dc16 pm16 ct16 cd16 oc17 kV17 dc17 pm17 ct17 cd17 oc18 kV18 dc18 pm18 ct18 cd18 oc19 kV19 dc19 pm19 ct19 cd19 oc20 kV20 dc20 pm20 ct20 cd20 oc21 kV21 dc21 pm21 ct21 cd21 oc22 kV22 dc22 pm22 ct22 cd22 oc23 kV23 dc23 pm23 ct23 cd23 oc24 kV24 dc24 pm24 ct24 cd24 oc25 kV25 dc25 pm25 ct25 cd25 oc26 kV26 dc26 pm26 ct26 cd26 oc27 kV27 dc27 pm27 ct27 cd27 oc28 kV28 dc28 pm28 ct28 cd28 oc29 kV29 dc29 pm29 ct29 cd29 oc30 kV30 dc30 pm30 ct30 cd30 oc31 kV31 dc31 pm31 ct31 cd31 oc32 kV32 dc32 pm32 ct32 cd32 oc33 kV33 dc33 pm33 ct33 cd33 oc34 kV34 dc34 pm34 ct34 cd34 oc35 kV35 dc35 pm35 ct35 cd35 oc36 kV36 dc36 pm36 ct36 cd36 oc37 kV37 dc37 pm37 ct37 cd37 oc38 kV38 dc38 pm38 ct38 cd38 oc39 kV39 dc39 pm39 ct39 cd39 oc40 kV40 dc40 pm40 ct40 cd40 oc41 kV41 dc41 pm41 ct41 cd41 oc42 kV42 dc42 pm42 ct42 cd42 oc43 kV43 dc43 pm43 ct43 cd43 oc44 kV44 dc44 pm44 ct44 cd44 oc45 kV45 dc45 pm45 ct45 cd45 oc46 kV46 dc46 pm46 ct46 cd46 oc47 kV47 dc47 pm47 ct47 cd47 oc48 kV48 dc48 pm48 ct48 cd48 oc49 kV49 dc49 pm49 ct49 cd49 oc50 kV50 dc50 pm50 ct50 cd50 oc51 kV51 dc51 pm51 ct51 cd51 oc52 kV52 dc52 pm52 ct52 cd52 oc53 kV53 dc53 pm53 ct53 cd53 oc54 kV54 dc54 pm54 ct54 cd54 oc55 kV55 dc55 pm55 ct55 cd55 oc56 kV56 dc56 pm56 ct56 cd56 oc57 kV57 dc57 pm57 ct57 cd57 oc58 kV58 dc58 pm58 ct58 cd58 oc59 kV59 dc59 pm59 ct59 cd59 oc60 kV60 dc60 pm60 ct60 cd60 oc61 kV61 dc61 pm61 ct61 cd61 oc62 kV62 dc62 pm62 ct62 cd62 oc63 kV63 dc63 pm63 ct63 cd63 oc64 kV64 dc64 pm64 ct64 cd64 oc65 kV65 dc65 pm65 ct65 cd65 oc66 kV66 dc66 pm66 ct66 xv66 oc67 kV67 dc67 pm67 ct67 xv67 oc68 kV68 dc68 pm68 ct68 xv68 io5 idc5 ipm5 ict5 icl5 icx5 : Value} {od0 an0 od1 an1 od2 an2 od3 an3 od4 an4 od5 an5 od6 an6 od7 an7 od8 an8 od9 an9 od10 an10 od11 an11 od12 an12 od13 an13 od14 an14 od15 an15 od16 an16 od17 an17 od18 an18 od19 an19 od20 an20 od21 an21 od22 an22 od23 an23 od24 an24 od25 an25 od26 an26 od27 an27 od28 an28 od29 an29 od30 an30 od31 an31 od32 an32 od33 an33 od34 an34 od35 an35 od36 an36 od37 an37 od38 an38 od39 an39 od40 an40 od41 an41 od42 an42 od43 an43 od44 an44 od45 an45 od46 an46 od47 an47 od48 an48 od49 an49 od50 an50 od51 an51 od52 an52 od53 an53 od54 an54 od55 an55 od56 an56 od57 an57 od58 an58 od59 an59 od60 an60 od61 an61 od62 an62 od63 an63 od64 an64 od65 an65 od66 an66 yv66 od67 an67 yv67 od68 an68 yv68 iod5 ian5 icd5 icy5 : Option Addr} {sl0 sl1 sl2 sl3 sl4 sl5 sl6 sl7 sl8 sl9 sl10 sl11 sl12 sl13 sl14 sl15 sl16 sl17 sl18 sl19 sl20 sl21 sl22 sl23 sl24 sl25 sl26 sl27 sl28 sl29 sl30 sl31 sl32 sl33 sl34 sl35 sl36 sl37 sl38 sl39 sl40 sl41 sl42 sl43 sl44 sl45 sl46 sl47 sl48 sl49 sl50 sl51 sl52 sl53 sl54 sl55 sl56 sl57 sl58 sl59 sl60 sl61 sl62 sl63 sl64 sl65 sl66 zv66 sl67 zv67 sl68 zv68 isl5 ics5 icz5 : Array (Option Value)} {vs66 vs67 vs68 ivs5 : Array Value} {ifl5 : Str} {tk_FAR tk_PAIR_SIZE tk_MOST_POINTS tk_MOST_PAIRS tk_JOINED tk_IN_PIECES itf5 : Tok} {jj5 : Nat}
  (a0 : PySem.W.nsIn K mainGlobals (PySem.Str.ofString "is_whole") = some (some (.ref f0a)))
  (l0 : K.lookup f0a = some ⟨oc0, od0, .func (PySem.W.fnOf (PySem.Str.ofString "is_whole") (PySem.Str.ofString "is_whole") (defArgs s0) (defBody s0) (defScope s0) .none kV0 dc0 pm0 an0 cd0 ct0), sl0⟩)
  (cc0 : PySem.W.codeIn K cd0 (PySem.Str.ofString "is_whole") = true)
  (k0 : PySem.W.keepIn K (.ref f0a) = true)
  (a1 : PySem.W.nsIn K mainGlobals (PySem.Str.ofString "is_near") = some (some (.ref f1a)))
  (l1 : K.lookup f1a = some ⟨oc1, od1, .func (PySem.W.fnOf (PySem.Str.ofString "is_near") (PySem.Str.ofString "is_near") (defArgs s1) (defBody s1) (defScope s1) .none kV1 dc1 pm1 an1 cd1 ct1), sl1⟩)
  (cc1 : PySem.W.codeIn K cd1 (PySem.Str.ofString "is_near") = true)
  (k1 : PySem.W.keepIn K (.ref f1a) = true)
  (a2 : PySem.W.nsIn K mainGlobals (PySem.Str.ofString "is_within") = some (some (.ref f2a)))
  (l2 : K.lookup f2a = some ⟨oc2, od2, .func (PySem.W.fnOf (PySem.Str.ofString "is_within") (PySem.Str.ofString "is_within") (defArgs s2) (defBody s2) (defScope s2) .none kV2 dc2 pm2 an2 cd2 ct2), sl2⟩)
  (cc2 : PySem.W.codeIn K cd2 (PySem.Str.ofString "is_within") = true)
  (k2 : PySem.W.keepIn K (.ref f2a) = true)
  (a3 : PySem.W.nsIn K mainGlobals (PySem.Str.ofString "is_pair") = some (some (.ref f3a)))
  (l3 : K.lookup f3a = some ⟨oc3, od3, .func (PySem.W.fnOf (PySem.Str.ofString "is_pair") (PySem.Str.ofString "is_pair") (defArgs s3) (defBody s3) (defScope s3) .none kV3 dc3 pm3 an3 cd3 ct3), sl3⟩)
  (cc3 : PySem.W.codeIn K cd3 (PySem.Str.ofString "is_pair") = true)
  (k3 : PySem.W.keepIn K (.ref f3a) = true)
  (a4 : PySem.W.nsIn K mainGlobals (PySem.Str.ofString "is_ascending") = some (some (.ref f4a)))
  (l4 : K.lookup f4a = some ⟨oc4, od4, .func (PySem.W.fnOf (PySem.Str.ofString "is_ascending") (PySem.Str.ofString "is_ascending") (defArgs s4) (defBody s4) (defScope s4) .none kV4 dc4 pm4 an4 cd4 ct4), sl4⟩)
  (cc4 : PySem.W.codeIn K cd4 (PySem.Str.ofString "is_ascending") = true)
  (k4 : PySem.W.keepIn K (.ref f4a) = true)
  (a5 : PySem.W.nsIn K mainGlobals (PySem.Str.ofString "require_number") = some (some (.ref f5a)))
  (l5 : K.lookup f5a = some ⟨oc5, od5, .func (PySem.W.fnOf (PySem.Str.ofString "require_number") (PySem.Str.ofString "require_number") (defArgs s5) (defBody s5) (defScope s5) .none kV5 dc5 pm5 an5 cd5 ct5), sl5⟩)
  (cc5 : PySem.W.codeIn K cd5 (PySem.Str.ofString "require_number") = true)
  (k5 : PySem.W.keepIn K (.ref f5a) = true)
  (a6 : PySem.W.nsIn K mainGlobals (PySem.Str.ofString "key_kind") = some (some (.ref f6a)))
  (l6 : K.lookup f6a = some ⟨oc6, od6, .func (PySem.W.fnOf (PySem.Str.ofString "key_kind") (PySem.Str.ofString "key_kind") (defArgs s6) (defBody s6) (defScope s6) .none kV6 dc6 pm6 an6 cd6 ct6), sl6⟩)
  (cc6 : PySem.W.codeIn K cd6 (PySem.Str.ofString "key_kind") = true)
  (k6 : PySem.W.keepIn K (.ref f6a) = true)
  (a7 : PySem.W.nsIn K mainGlobals (PySem.Str.ofString "sorted_keys") = some (some (.ref f7a)))
  (l7 : K.lookup f7a = some ⟨oc7, od7, .func (PySem.W.fnOf (PySem.Str.ofString "sorted_keys") (PySem.Str.ofString "sorted_keys") (defArgs s7) (defBody s7) (defScope s7) .none kV7 dc7 pm7 an7 cd7 ct7), sl7⟩)
  (cc7 : PySem.W.codeIn K cd7 (PySem.Str.ofString "sorted_keys") = true)
  (k7 : PySem.W.keepIn K (.ref f7a) = true)
  (a8 : PySem.W.nsIn K mainGlobals (PySem.Str.ofString "copied") = some (some (.ref f8a)))
  (l8 : K.lookup f8a = some ⟨oc8, od8, .func (PySem.W.fnOf (PySem.Str.ofString "copied") (PySem.Str.ofString "copied") (defArgs s8) (defBody s8) (defScope s8) .none kV8 dc8 pm8 an8 cd8 ct8), sl8⟩)
  (cc8 : PySem.W.codeIn K cd8 (PySem.Str.ofString "copied") = true)
  (k8 : PySem.W.keepIn K (.ref f8a) = true)
  (a9 : PySem.W.nsIn K mainGlobals (PySem.Str.ofString "is_row_of") = some (some (.ref f9a)))
  (l9 : K.lookup f9a = some ⟨oc9, od9, .func (PySem.W.fnOf (PySem.Str.ofString "is_row_of") (PySem.Str.ofString "is_row_of") (defArgs s9) (defBody s9) (defScope s9) .none kV9 dc9 pm9 an9 cd9 ct9), sl9⟩)
  (cc9 : PySem.W.codeIn K cd9 (PySem.Str.ofString "is_row_of") = true)
  (k9 : PySem.W.keepIn K (.ref f9a) = true)
  (a10 : PySem.W.nsIn K mainGlobals (PySem.Str.ofString "is_rising_row") = some (some (.ref f10a)))
  (l10 : K.lookup f10a = some ⟨oc10, od10, .func (PySem.W.fnOf (PySem.Str.ofString "is_rising_row") (PySem.Str.ofString "is_rising_row") (defArgs s10) (defBody s10) (defScope s10) .none kV10 dc10 pm10 an10 cd10 ct10), sl10⟩)
  (cc10 : PySem.W.codeIn K cd10 (PySem.Str.ofString "is_rising_row") = true)
  (k10 : PySem.W.keepIn K (.ref f10a) = true)
  (a11 : PySem.W.nsIn K mainGlobals (PySem.Str.ofString "is_order_of") = some (some (.ref f11a)))
  (l11 : K.lookup f11a = some ⟨oc11, od11, .func (PySem.W.fnOf (PySem.Str.ofString "is_order_of") (PySem.Str.ofString "is_order_of") (defArgs s11) (defBody s11) (defScope s11) .none kV11 dc11 pm11 an11 cd11 ct11), sl11⟩)
  (cc11 : PySem.W.codeIn K cd11 (PySem.Str.ofString "is_order_of") = true)
  (k11 : PySem.W.keepIn K (.ref f11a) = true)
  (a12 : PySem.W.nsIn K mainGlobals (PySem.Str.ofString "is_space_in") = some (some (.ref f12a)))
  (l12 : K.lookup f12a = some ⟨oc12, od12, .func (PySem.W.fnOf (PySem.Str.ofString "is_space_in") (PySem.Str.ofString "is_space_in") (defArgs s12) (defBody s12) (defScope s12) .none kV12 dc12 pm12 an12 cd12 ct12), sl12⟩)
  (cc12 : PySem.W.codeIn K cd12 (PySem.Str.ofString "is_space_in") = true)
  (k12 : PySem.W.keepIn K (.ref f12a) = true)
  (a13 : PySem.W.nsIn K mainGlobals (PySem.Str.ofString "holds") = some (some (.ref f13a)))
  (l13 : K.lookup f13a = some ⟨oc13, od13, .func (PySem.W.fnOf (PySem.Str.ofString "holds") (PySem.Str.ofString "holds") (defArgs s13) (defBody s13) (defScope s13) .none kV13 dc13 pm13 an13 cd13 ct13), sl13⟩)
  (cc13 : PySem.W.codeIn K cd13 (PySem.Str.ofString "holds") = true)
  (k13 : PySem.W.keepIn K (.ref f13a) = true)
  (a14 : PySem.W.nsIn K mainGlobals (PySem.Str.ofString "is_lot_in") = some (some (.ref f14a)))
  (l14 : K.lookup f14a = some ⟨oc14, od14, .func (PySem.W.fnOf (PySem.Str.ofString "is_lot_in") (PySem.Str.ofString "is_lot_in") (defArgs s14) (defBody s14) (defScope s14) .none kV14 dc14 pm14 an14 cd14 ct14), sl14⟩)
  (cc14 : PySem.W.codeIn K cd14 (PySem.Str.ofString "is_lot_in") = true)
  (k14 : PySem.W.keepIn K (.ref f14a) = true)
  (a15 : PySem.W.nsIn K mainGlobals (PySem.Str.ofString "is_over_in") = some (some (.ref f15a)))
  (l15 : K.lookup f15a = some ⟨oc15, od15, .func (PySem.W.fnOf (PySem.Str.ofString "is_over_in") (PySem.Str.ofString "is_over_in") (defArgs s15) (defBody s15) (defScope s15) .none kV15 dc15 pm15 an15 cd15 ct15), sl15⟩)
  (cc15 : PySem.W.codeIn K cd15 (PySem.Str.ofString "is_over_in") = true)
  (k15 : PySem.W.keepIn K (.ref f15a) = true)
  (a16 : PySem.W.nsIn K mainGlobals (PySem.Str.ofString "is_strictly_in") = some (some (.ref f16a)))
  (l16 : K.lookup f16a = some ⟨oc16, od16, .func (PySem.W.fnOf (PySem.Str.ofString "is_strictly_in") (PySem.Str.ofString "is_strictly_in") (defArgs s16) (defBody s16) (defScope s16) .none kV16 dc16 pm16 an16 cd16 ct16), sl16⟩)
  (cc16 : PySem.W.codeIn K cd16 (PySem.Str.ofString "is_strictly_in") = true)
  (k16 : PySem.W.keepIn K (.ref f16a) = true)
  (a17 : PySem.W.nsIn K mainGlobals (PySem.Str.ofString "under_in") = some (some (.ref f17a)))
  (l17 : K.lookup f17a = some ⟨oc17, od17, .func (PySem.W.fnOf (PySem.Str.ofString "under_in") (PySem.Str.ofString "under_in") (defArgs s17) (defBody s17) (defScope s17) .none kV17 dc17 pm17 an17 cd17 ct17), sl17⟩)
  (cc17 : PySem.W.codeIn K cd17 (PySem.Str.ofString "under_in") = true)
  (k17 : PySem.W.keepIn K (.ref f17a) = true)
  (a18 : PySem.W.nsIn K mainGlobals (PySem.Str.ofString "over_in") = some (some (.ref f18a)))
  (l18 : K.lookup f18a = some ⟨oc18, od18, .func (PySem.W.fnOf (PySem.Str.ofString "over_in") (PySem.Str.ofString "over_in") (defArgs s18) (defBody s18) (defScope s18) .none kV18 dc18 pm18 an18 cd18 ct18), sl18⟩)
  (cc18 : PySem.W.codeIn K cd18 (PySem.Str.ofString "over_in") = true)
  (k18 : PySem.W.keepIn K (.ref f18a) = true)
  (a19 : PySem.W.nsIn K mainGlobals (PySem.Str.ofString "closed_of") = some (some (.ref f19a)))
  (l19 : K.lookup f19a = some ⟨oc19, od19, .func (PySem.W.fnOf (PySem.Str.ofString "closed_of") (PySem.Str.ofString "closed_of") (defArgs s19) (defBody s19) (defScope s19) .none kV19 dc19 pm19 an19 cd19 ct19), sl19⟩)
  (cc19 : PySem.W.codeIn K cd19 (PySem.Str.ofString "closed_of") = true)
  (k19 : PySem.W.keepIn K (.ref f19a) = true)
  (a20 : PySem.W.nsIn K mainGlobals (PySem.Str.ofString "neighbours_in") = some (some (.ref f20a)))
  (l20 : K.lookup f20a = some ⟨oc20, od20, .func (PySem.W.fnOf (PySem.Str.ofString "neighbours_in") (PySem.Str.ofString "neighbours_in") (defArgs s20) (defBody s20) (defScope s20) .none kV20 dc20 pm20 an20 cd20 ct20), sl20⟩)
  (cc20 : PySem.W.codeIn K cd20 (PySem.Str.ofString "neighbours_in") = true)
  (k20 : PySem.W.keepIn K (.ref f20a) = true)
  (a21 : PySem.W.nsIn K mainGlobals (PySem.Str.ofString "classes_in") = some (some (.ref f21a)))
  (l21 : K.lookup f21a = some ⟨oc21, od21, .func (PySem.W.fnOf (PySem.Str.ofString "classes_in") (PySem.Str.ofString "classes_in") (defArgs s21) (defBody s21) (defScope s21) .none kV21 dc21 pm21 an21 cd21 ct21), sl21⟩)
  (cc21 : PySem.W.codeIn K cd21 (PySem.Str.ofString "classes_in") = true)
  (k21 : PySem.W.keepIn K (.ref f21a) = true)
  (a22 : PySem.W.nsIn K mainGlobals (PySem.Str.ofString "plain_lot_in") = some (some (.ref f22a)))
  (l22 : K.lookup f22a = some ⟨oc22, od22, .func (PySem.W.fnOf (PySem.Str.ofString "plain_lot_in") (PySem.Str.ofString "plain_lot_in") (defArgs s22) (defBody s22) (defScope s22) .none kV22 dc22 pm22 an22 cd22 ct22), sl22⟩)
  (cc22 : PySem.W.codeIn K cd22 (PySem.Str.ofString "plain_lot_in") = true)
  (k22 : PySem.W.keepIn K (.ref f22a) = true)
  (a23 : PySem.W.nsIn K mainGlobals (PySem.Str.ofString "is_plain_in") = some (some (.ref f23a)))
  (l23 : K.lookup f23a = some ⟨oc23, od23, .func (PySem.W.fnOf (PySem.Str.ofString "is_plain_in") (PySem.Str.ofString "is_plain_in") (defArgs s23) (defBody s23) (defScope s23) .none kV23 dc23 pm23 an23 cd23 ct23), sl23⟩)
  (cc23 : PySem.W.codeIn K cd23 (PySem.Str.ofString "is_plain_in") = true)
  (k23 : PySem.W.keepIn K (.ref f23a) = true)
  (a24 : PySem.W.nsIn K mainGlobals (PySem.Str.ofString "part_in") = some (some (.ref f24a)))
  (l24 : K.lookup f24a = some ⟨oc24, od24, .func (PySem.W.fnOf (PySem.Str.ofString "part_in") (PySem.Str.ofString "part_in") (defArgs s24) (defBody s24) (defScope s24) .none kV24 dc24 pm24 an24 cd24 ct24), sl24⟩)
  (cc24 : PySem.W.codeIn K cd24 (PySem.Str.ofString "part_in") = true)
  (k24 : PySem.W.keepIn K (.ref f24a) = true)
  (a25 : PySem.W.nsIn K mainGlobals (PySem.Str.ofString "piece_in") = some (some (.ref f25a)))
  (l25 : K.lookup f25a = some ⟨oc25, od25, .func (PySem.W.fnOf (PySem.Str.ofString "piece_in") (PySem.Str.ofString "piece_in") (defArgs s25) (defBody s25) (defScope s25) .none kV25 dc25 pm25 an25 cd25 ct25), sl25⟩)
  (cc25 : PySem.W.codeIn K cd25 (PySem.Str.ofString "piece_in") = true)
  (k25 : PySem.W.keepIn K (.ref f25a) = true)
  (a26 : PySem.W.nsIn K mainGlobals (PySem.Str.ofString "pieces_in") = some (some (.ref f26a)))
  (l26 : K.lookup f26a = some ⟨oc26, od26, .func (PySem.W.fnOf (PySem.Str.ofString "pieces_in") (PySem.Str.ofString "pieces_in") (defArgs s26) (defBody s26) (defScope s26) .none kV26 dc26 pm26 an26 cd26 ct26), sl26⟩)
  (cc26 : PySem.W.codeIn K cd26 (PySem.Str.ofString "pieces_in") = true)
  (k26 : PySem.W.keepIn K (.ref f26a) = true)
  (a27 : PySem.W.nsIn K mainGlobals (PySem.Str.ofString "is_joined_in") = some (some (.ref f27a)))
  (l27 : K.lookup f27a = some ⟨oc27, od27, .func (PySem.W.fnOf (PySem.Str.ofString "is_joined_in") (PySem.Str.ofString "is_joined_in") (defArgs s27) (defBody s27) (defScope s27) .none kV27 dc27 pm27 an27 cd27 ct27), sl27⟩)
  (cc27 : PySem.W.codeIn K cd27 (PySem.Str.ofString "is_joined_in") = true)
  (k27 : PySem.W.keepIn K (.ref f27a) = true)
  (a28 : PySem.W.nsIn K mainGlobals (PySem.Str.ofString "joined_answer_in") = some (some (.ref f28a)))
  (l28 : K.lookup f28a = some ⟨oc28, od28, .func (PySem.W.fnOf (PySem.Str.ofString "joined_answer_in") (PySem.Str.ofString "joined_answer_in") (defArgs s28) (defBody s28) (defScope s28) .none kV28 dc28 pm28 an28 cd28 ct28), sl28⟩)
  (cc28 : PySem.W.codeIn K cd28 (PySem.Str.ofString "joined_answer_in") = true)
  (k28 : PySem.W.keepIn K (.ref f28a) = true)
  (a29 : PySem.W.nsIn K mainGlobals (PySem.Str.ofString "is_parting_in") = some (some (.ref f29a)))
  (l29 : K.lookup f29a = some ⟨oc29, od29, .func (PySem.W.fnOf (PySem.Str.ofString "is_parting_in") (PySem.Str.ofString "is_parting_in") (defArgs s29) (defBody s29) (defScope s29) .none kV29 dc29 pm29 an29 cd29 ct29), sl29⟩)
  (cc29 : PySem.W.codeIn K cd29 (PySem.Str.ofString "is_parting_in") = true)
  (k29 : PySem.W.keepIn K (.ref f29a) = true)
  (a30 : PySem.W.nsIn K mainGlobals (PySem.Str.ofString "opposite_in") = some (some (.ref f30a)))
  (l30 : K.lookup f30a = some ⟨oc30, od30, .func (PySem.W.fnOf (PySem.Str.ofString "opposite_in") (PySem.Str.ofString "opposite_in") (defArgs s30) (defBody s30) (defScope s30) .none kV30 dc30 pm30 an30 cd30 ct30), sl30⟩)
  (cc30 : PySem.W.codeIn K cd30 (PySem.Str.ofString "opposite_in") = true)
  (k30 : PySem.W.keepIn K (.ref f30a) = true)
  (a31 : PySem.W.nsIn K mainGlobals (PySem.Str.ofString "renamed_in") = some (some (.ref f31a)))
  (l31 : K.lookup f31a = some ⟨oc31, od31, .func (PySem.W.fnOf (PySem.Str.ofString "renamed_in") (PySem.Str.ofString "renamed_in") (defArgs s31) (defBody s31) (defScope s31) .none kV31 dc31 pm31 an31 cd31 ct31), sl31⟩)
  (cc31 : PySem.W.codeIn K cd31 (PySem.Str.ofString "renamed_in") = true)
  (k31 : PySem.W.keepIn K (.ref f31a) = true)
  (a32 : PySem.W.nsIn K mainGlobals (PySem.Str.ofString "is_alike_by_in") = some (some (.ref f32a)))
  (l32 : K.lookup f32a = some ⟨oc32, od32, .func (PySem.W.fnOf (PySem.Str.ofString "is_alike_by_in") (PySem.Str.ofString "is_alike_by_in") (defArgs s32) (defBody s32) (defScope s32) .none kV32 dc32 pm32 an32 cd32 ct32), sl32⟩)
  (cc32 : PySem.W.codeIn K cd32 (PySem.Str.ofString "is_alike_by_in") = true)
  (k32 : PySem.W.keepIn K (.ref f32a) = true)
  (a33 : PySem.W.nsIn K mainGlobals (PySem.Str.ofString "led_on") = some (some (.ref f33a)))
  (l33 : K.lookup f33a = some ⟨oc33, od33, .func (PySem.W.fnOf (PySem.Str.ofString "led_on") (PySem.Str.ofString "led_on") (defArgs s33) (defBody s33) (defScope s33) .none kV33 dc33 pm33 an33 cd33 ct33), sl33⟩)
  (cc33 : PySem.W.codeIn K cd33 (PySem.Str.ofString "led_on") = true)
  (k33 : PySem.W.keepIn K (.ref f33a) = true)
  (a34 : PySem.W.nsIn K mainGlobals (PySem.Str.ofString "require_space") = some (some (.ref f34a)))
  (l34 : K.lookup f34a = some ⟨oc34, od34, .func (PySem.W.fnOf (PySem.Str.ofString "require_space") (PySem.Str.ofString "require_space") (defArgs s34) (defBody s34) (defScope s34) .none kV34 dc34 pm34 an34 cd34 ct34), sl34⟩)
  (cc34 : PySem.W.codeIn K cd34 (PySem.Str.ofString "require_space") = true)
  (k34 : PySem.W.keepIn K (.ref f34a) = true)
  (a35 : PySem.W.nsIn K mainGlobals (PySem.Str.ofString "require_point") = some (some (.ref f35a)))
  (l35 : K.lookup f35a = some ⟨oc35, od35, .func (PySem.W.fnOf (PySem.Str.ofString "require_point") (PySem.Str.ofString "require_point") (defArgs s35) (defBody s35) (defScope s35) .none kV35 dc35 pm35 an35 cd35 ct35), sl35⟩)
  (cc35 : PySem.W.codeIn K cd35 (PySem.Str.ofString "require_point") = true)
  (k35 : PySem.W.keepIn K (.ref f35a) = true)
  (a36 : PySem.W.nsIn K mainGlobals (PySem.Str.ofString "require_space_and_point") = some (some (.ref f36a)))
  (l36 : K.lookup f36a = some ⟨oc36, od36, .func (PySem.W.fnOf (PySem.Str.ofString "require_space_and_point") (PySem.Str.ofString "require_space_and_point") (defArgs s36) (defBody s36) (defScope s36) .none kV36 dc36 pm36 an36 cd36 ct36), sl36⟩)
  (cc36 : PySem.W.codeIn K cd36 (PySem.Str.ofString "require_space_and_point") = true)
  (k36 : PySem.W.keepIn K (.ref f36a) = true)
  (a37 : PySem.W.nsIn K mainGlobals (PySem.Str.ofString "require_space_and_two") = some (some (.ref f37a)))
  (l37 : K.lookup f37a = some ⟨oc37, od37, .func (PySem.W.fnOf (PySem.Str.ofString "require_space_and_two") (PySem.Str.ofString "require_space_and_two") (defArgs s37) (defBody s37) (defScope s37) .none kV37 dc37 pm37 an37 cd37 ct37), sl37⟩)
  (cc37 : PySem.W.codeIn K cd37 (PySem.Str.ofString "require_space_and_two") = true)
  (k37 : PySem.W.keepIn K (.ref f37a) = true)
  (a38 : PySem.W.nsIn K mainGlobals (PySem.Str.ofString "require_lot") = some (some (.ref f38a)))
  (l38 : K.lookup f38a = some ⟨oc38, od38, .func (PySem.W.fnOf (PySem.Str.ofString "require_lot") (PySem.Str.ofString "require_lot") (defArgs s38) (defBody s38) (defScope s38) .none kV38 dc38 pm38 an38 cd38 ct38), sl38⟩)
  (cc38 : PySem.W.codeIn K cd38 (PySem.Str.ofString "require_lot") = true)
  (k38 : PySem.W.keepIn K (.ref f38a) = true)
  (a39 : PySem.W.nsIn K mainGlobals (PySem.Str.ofString "require_some_lot") = some (some (.ref f39a)))
  (l39 : K.lookup f39a = some ⟨oc39, od39, .func (PySem.W.fnOf (PySem.Str.ofString "require_some_lot") (PySem.Str.ofString "require_some_lot") (defArgs s39) (defBody s39) (defScope s39) .none kV39 dc39 pm39 an39 cd39 ct39), sl39⟩)
  (cc39 : PySem.W.codeIn K cd39 (PySem.Str.ofString "require_some_lot") = true)
  (k39 : PySem.W.keepIn K (.ref f39a) = true)
  (a40 : PySem.W.nsIn K mainGlobals (PySem.Str.ofString "is_plain") = some (some (.ref f40a)))
  (l40 : K.lookup f40a = some ⟨oc40, od40, .func (PySem.W.fnOf (PySem.Str.ofString "is_plain") (PySem.Str.ofString "is_plain") (defArgs s40) (defBody s40) (defScope s40) .none kV40 dc40 pm40 an40 cd40 ct40), sl40⟩)
  (cc40 : PySem.W.codeIn K cd40 (PySem.Str.ofString "is_plain") = true)
  (k40 : PySem.W.keepIn K (.ref f40a) = true)
  (a41 : PySem.W.nsIn K mainGlobals (PySem.Str.ofString "is_over") = some (some (.ref f41a)))
  (l41 : K.lookup f41a = some ⟨oc41, od41, .func (PySem.W.fnOf (PySem.Str.ofString "is_over") (PySem.Str.ofString "is_over") (defArgs s41) (defBody s41) (defScope s41) .none kV41 dc41 pm41 an41 cd41 ct41), sl41⟩)
  (cc41 : PySem.W.codeIn K cd41 (PySem.Str.ofString "is_over") = true)
  (k41 : PySem.W.keepIn K (.ref f41a) = true)
  (a42 : PySem.W.nsIn K mainGlobals (PySem.Str.ofString "is_strictly_over") = some (some (.ref f42a)))
  (l42 : K.lookup f42a = some ⟨oc42, od42, .func (PySem.W.fnOf (PySem.Str.ofString "is_strictly_over") (PySem.Str.ofString "is_strictly_over") (defArgs s42) (defBody s42) (defScope s42) .none kV42 dc42 pm42 an42 cd42 ct42), sl42⟩)
  (cc42 : PySem.W.codeIn K cd42 (PySem.Str.ofString "is_strictly_over") = true)
  (k42 : PySem.W.keepIn K (.ref f42a) = true)
  (a43 : PySem.W.nsIn K mainGlobals (PySem.Str.ofString "least_open") = some (some (.ref f43a)))
  (l43 : K.lookup f43a = some ⟨oc43, od43, .func (PySem.W.fnOf (PySem.Str.ofString "least_open") (PySem.Str.ofString "least_open") (defArgs s43) (defBody s43) (defScope s43) .none kV43 dc43 pm43 an43 cd43 ct43), sl43⟩)
  (cc43 : PySem.W.codeIn K cd43 (PySem.Str.ofString "least_open") = true)
  (k43 : PySem.W.keepIn K (.ref f43a) = true)
  (a44 : PySem.W.nsIn K mainGlobals (PySem.Str.ofString "least_closed") = some (some (.ref f44a)))
  (l44 : K.lookup f44a = some ⟨oc44, od44, .func (PySem.W.fnOf (PySem.Str.ofString "least_closed") (PySem.Str.ofString "least_closed") (defArgs s44) (defBody s44) (defScope s44) .none kV44 dc44 pm44 an44 cd44 ct44), sl44⟩)
  (cc44 : PySem.W.codeIn K cd44 (PySem.Str.ofString "least_closed") = true)
  (k44 : PySem.W.keepIn K (.ref f44a) = true)
  (a45 : PySem.W.nsIn K mainGlobals (PySem.Str.ofString "points_under") = some (some (.ref f45a)))
  (l45 : K.lookup f45a = some ⟨oc45, od45, .func (PySem.W.fnOf (PySem.Str.ofString "points_under") (PySem.Str.ofString "points_under") (defArgs s45) (defBody s45) (defScope s45) .none kV45 dc45 pm45 an45 cd45 ct45), sl45⟩)
  (cc45 : PySem.W.codeIn K cd45 (PySem.Str.ofString "points_under") = true)
  (k45 : PySem.W.keepIn K (.ref f45a) = true)
  (a46 : PySem.W.nsIn K mainGlobals (PySem.Str.ofString "points_over") = some (some (.ref f46a)))
  (l46 : K.lookup f46a = some ⟨oc46, od46, .func (PySem.W.fnOf (PySem.Str.ofString "points_over") (PySem.Str.ofString "points_over") (defArgs s46) (defBody s46) (defScope s46) .none kV46 dc46 pm46 an46 cd46 ct46), sl46⟩)
  (cc46 : PySem.W.codeIn K cd46 (PySem.Str.ofString "points_over") = true)
  (k46 : PySem.W.keepIn K (.ref f46a) = true)
  (a47 : PySem.W.nsIn K mainGlobals (PySem.Str.ofString "neighbours") = some (some (.ref f47a)))
  (l47 : K.lookup f47a = some ⟨oc47, od47, .func (PySem.W.fnOf (PySem.Str.ofString "neighbours") (PySem.Str.ofString "neighbours") (defArgs s47) (defBody s47) (defScope s47) .none kV47 dc47 pm47 an47 cd47 ct47), sl47⟩)
  (cc47 : PySem.W.codeIn K cd47 (PySem.Str.ofString "neighbours") = true)
  (k47 : PySem.W.keepIn K (.ref f47a) = true)
  (a48 : PySem.W.nsIn K mainGlobals (PySem.Str.ofString "neighbours_of") = some (some (.ref f48a)))
  (l48 : K.lookup f48a = some ⟨oc48, od48, .func (PySem.W.fnOf (PySem.Str.ofString "neighbours_of") (PySem.Str.ofString "neighbours_of") (defArgs s48) (defBody s48) (defScope s48) .none kV48 dc48 pm48 an48 cd48 ct48), sl48⟩)
  (cc48 : PySem.W.codeIn K cd48 (PySem.Str.ofString "neighbours_of") = true)
  (k48 : PySem.W.keepIn K (.ref f48a) = true)
  (a49 : PySem.W.nsIn K mainGlobals (PySem.Str.ofString "classes") = some (some (.ref f49a)))
  (l49 : K.lookup f49a = some ⟨oc49, od49, .func (PySem.W.fnOf (PySem.Str.ofString "classes") (PySem.Str.ofString "classes") (defArgs s49) (defBody s49) (defScope s49) .none kV49 dc49 pm49 an49 cd49 ct49), sl49⟩)
  (cc49 : PySem.W.codeIn K cd49 (PySem.Str.ofString "classes") = true)
  (k49 : PySem.W.keepIn K (.ref f49a) = true)
  (a50 : PySem.W.nsIn K mainGlobals (PySem.Str.ofString "plain_lot") = some (some (.ref f50a)))
  (l50 : K.lookup f50a = some ⟨oc50, od50, .func (PySem.W.fnOf (PySem.Str.ofString "plain_lot") (PySem.Str.ofString "plain_lot") (defArgs s50) (defBody s50) (defScope s50) .none kV50 dc50 pm50 an50 cd50 ct50), sl50⟩)
  (cc50 : PySem.W.codeIn K cd50 (PySem.Str.ofString "plain_lot") = true)
  (k50 : PySem.W.keepIn K (.ref f50a) = true)
  (a51 : PySem.W.nsIn K mainGlobals (PySem.Str.ofString "plain_part") = some (some (.ref f51a)))
  (l51 : K.lookup f51a = some ⟨oc51, od51, .func (PySem.W.fnOf (PySem.Str.ofString "plain_part") (PySem.Str.ofString "plain_part") (defArgs s51) (defBody s51) (defScope s51) .none kV51 dc51 pm51 an51 cd51 ct51), sl51⟩)
  (cc51 : PySem.W.codeIn K cd51 (PySem.Str.ofString "plain_part") = true)
  (k51 : PySem.W.keepIn K (.ref f51a) = true)
  (a52 : PySem.W.nsIn K mainGlobals (PySem.Str.ofString "part_of") = some (some (.ref f52a)))
  (l52 : K.lookup f52a = some ⟨oc52, od52, .func (PySem.W.fnOf (PySem.Str.ofString "part_of") (PySem.Str.ofString "part_of") (defArgs s52) (defBody s52) (defScope s52) .none kV52 dc52 pm52 an52 cd52 ct52), sl52⟩)
  (cc52 : PySem.W.codeIn K cd52 (PySem.Str.ofString "part_of") = true)
  (k52 : PySem.W.keepIn K (.ref f52a) = true)
  (a53 : PySem.W.nsIn K mainGlobals (PySem.Str.ofString "pieces") = some (some (.ref f53a)))
  (l53 : K.lookup f53a = some ⟨oc53, od53, .func (PySem.W.fnOf (PySem.Str.ofString "pieces") (PySem.Str.ofString "pieces") (defArgs s53) (defBody s53) (defScope s53) .none kV53 dc53 pm53 an53 cd53 ct53), sl53⟩)
  (cc53 : PySem.W.codeIn K cd53 (PySem.Str.ofString "pieces") = true)
  (k53 : PySem.W.keepIn K (.ref f53a) = true)
  (a54 : PySem.W.nsIn K mainGlobals (PySem.Str.ofString "piece_of") = some (some (.ref f54a)))
  (l54 : K.lookup f54a = some ⟨oc54, od54, .func (PySem.W.fnOf (PySem.Str.ofString "piece_of") (PySem.Str.ofString "piece_of") (defArgs s54) (defBody s54) (defScope s54) .none kV54 dc54 pm54 an54 cd54 ct54), sl54⟩)
  (cc54 : PySem.W.codeIn K cd54 (PySem.Str.ofString "piece_of") = true)
  (k54 : PySem.W.keepIn K (.ref f54a) = true)
  (a55 : PySem.W.nsIn K mainGlobals (PySem.Str.ofString "is_joined") = some (some (.ref f55a)))
  (l55 : K.lookup f55a = some ⟨oc55, od55, .func (PySem.W.fnOf (PySem.Str.ofString "is_joined") (PySem.Str.ofString "is_joined") (defArgs s55) (defBody s55) (defScope s55) .none kV55 dc55 pm55 an55 cd55 ct55), sl55⟩)
  (cc55 : PySem.W.codeIn K cd55 (PySem.Str.ofString "is_joined") = true)
  (k55 : PySem.W.keepIn K (.ref f55a) = true)
  (a56 : PySem.W.nsIn K mainGlobals (PySem.Str.ofString "joined_answer") = some (some (.ref f56a)))
  (l56 : K.lookup f56a = some ⟨oc56, od56, .func (PySem.W.fnOf (PySem.Str.ofString "joined_answer") (PySem.Str.ofString "joined_answer") (defArgs s56) (defBody s56) (defScope s56) .none kV56 dc56 pm56 an56 cd56 ct56), sl56⟩)
  (cc56 : PySem.W.codeIn K cd56 (PySem.Str.ofString "joined_answer") = true)
  (k56 : PySem.W.keepIn K (.ref f56a) = true)
  (a57 : PySem.W.nsIn K mainGlobals (PySem.Str.ofString "is_parting") = some (some (.ref f57a)))
  (l57 : K.lookup f57a = some ⟨oc57, od57, .func (PySem.W.fnOf (PySem.Str.ofString "is_parting") (PySem.Str.ofString "is_parting") (defArgs s57) (defBody s57) (defScope s57) .none kV57 dc57 pm57 an57 cd57 ct57), sl57⟩)
  (cc57 : PySem.W.codeIn K cd57 (PySem.Str.ofString "is_parting") = true)
  (k57 : PySem.W.keepIn K (.ref f57a) = true)
  (a58 : PySem.W.nsIn K mainGlobals (PySem.Str.ofString "opposite") = some (some (.ref f58a)))
  (l58 : K.lookup f58a = some ⟨oc58, od58, .func (PySem.W.fnOf (PySem.Str.ofString "opposite") (PySem.Str.ofString "opposite") (defArgs s58) (defBody s58) (defScope s58) .none kV58 dc58 pm58 an58 cd58 ct58), sl58⟩)
  (cc58 : PySem.W.codeIn K cd58 (PySem.Str.ofString "opposite") = true)
  (k58 : PySem.W.keepIn K (.ref f58a) = true)
  (a59 : PySem.W.nsIn K mainGlobals (PySem.Str.ofString "renamed") = some (some (.ref f59a)))
  (l59 : K.lookup f59a = some ⟨oc59, od59, .func (PySem.W.fnOf (PySem.Str.ofString "renamed") (PySem.Str.ofString "renamed") (defArgs s59) (defBody s59) (defScope s59) .none kV59 dc59 pm59 an59 cd59 ct59), sl59⟩)
  (cc59 : PySem.W.codeIn K cd59 (PySem.Str.ofString "renamed") = true)
  (k59 : PySem.W.keepIn K (.ref f59a) = true)
  (a60 : PySem.W.nsIn K mainGlobals (PySem.Str.ofString "space_of_pairs") = some (some (.ref f60a)))
  (l60 : K.lookup f60a = some ⟨oc60, od60, .func (PySem.W.fnOf (PySem.Str.ofString "space_of_pairs") (PySem.Str.ofString "space_of_pairs") (defArgs s60) (defBody s60) (defScope s60) .none kV60 dc60 pm60 an60 cd60 ct60), sl60⟩)
  (cc60 : PySem.W.codeIn K cd60 (PySem.Str.ofString "space_of_pairs") = true)
  (k60 : PySem.W.keepIn K (.ref f60a) = true)
  (a61 : PySem.W.nsIn K mainGlobals (PySem.Str.ofString "is_alike_by") = some (some (.ref f61a)))
  (l61 : K.lookup f61a = some ⟨oc61, od61, .func (PySem.W.fnOf (PySem.Str.ofString "is_alike_by") (PySem.Str.ofString "is_alike_by") (defArgs s61) (defBody s61) (defScope s61) .none kV61 dc61 pm61 an61 cd61 ct61), sl61⟩)
  (cc61 : PySem.W.codeIn K cd61 (PySem.Str.ofString "is_alike_by") = true)
  (k61 : PySem.W.keepIn K (.ref f61a) = true)
  (a62 : PySem.W.nsIn K mainGlobals (PySem.Str.ofString "_law_dice") = some (some (.ref f62a)))
  (l62 : K.lookup f62a = some ⟨oc62, od62, .func (PySem.W.fnOf (PySem.Str.ofString "_law_dice") (PySem.Str.ofString "_law_dice") (defArgs s62) (defBody s62) (defScope s62) .none kV62 dc62 pm62 an62 cd62 ct62), sl62⟩)
  (cc62 : PySem.W.codeIn K cd62 (PySem.Str.ofString "_law_dice") = true)
  (k62 : PySem.W.keepIn K (.ref f62a) = true)
  (a63 : PySem.W.nsIn K mainGlobals (PySem.Str.ofString "_law_roll") = some (some (.ref f63a)))
  (l63 : K.lookup f63a = some ⟨oc63, od63, .func (PySem.W.fnOf (PySem.Str.ofString "_law_roll") (PySem.Str.ofString "_law_roll") (defArgs s63) (defBody s63) (defScope s63) .none kV63 dc63 pm63 an63 cd63 ct63), sl63⟩)
  (cc63 : PySem.W.codeIn K cd63 (PySem.Str.ofString "_law_roll") = true)
  (k63 : PySem.W.keepIn K (.ref f63a) = true)
  (a64 : PySem.W.nsIn K mainGlobals (PySem.Str.ofString "_law_pick") = some (some (.ref f64a)))
  (l64 : K.lookup f64a = some ⟨oc64, od64, .func (PySem.W.fnOf (PySem.Str.ofString "_law_pick") (PySem.Str.ofString "_law_pick") (defArgs s64) (defBody s64) (defScope s64) .none kV64 dc64 pm64 an64 cd64 ct64), sl64⟩)
  (cc64 : PySem.W.codeIn K cd64 (PySem.Str.ofString "_law_pick") = true)
  (k64 : PySem.W.keepIn K (.ref f64a) = true)
  (a65 : PySem.W.nsIn K mainGlobals (PySem.Str.ofString "_law_word_of") = some (some (.ref f65a)))
  (l65 : K.lookup f65a = some ⟨oc65, od65, .func (PySem.W.fnOf (PySem.Str.ofString "_law_word_of") (PySem.Str.ofString "_law_word_of") (defArgs s65) (defBody s65) (defScope s65) .none kV65 dc65 pm65 an65 cd65 ct65), sl65⟩)
  (cc65 : PySem.W.codeIn K cd65 (PySem.Str.ofString "_law_word_of") = true)
  (k65 : PySem.W.keepIn K (.ref f65a) = true)
  (a66 : PySem.W.nsIn K mainGlobals (PySem.Str.ofString "_law_words") = some (some (.ref f66a)))
  (l66 : K.lookup f66a = some ⟨oc66, od66, .func (PySem.W.fnOf (PySem.Str.ofString "_law_words") (PySem.Str.ofString "_law_words") (defArgs s66) (defBody s66) (defScope s66) .none kV66 dc66 pm66 an66 (.ref cr66) ct66), sl66⟩)
  (cc66 : PySem.W.codeIn K (.ref cr66) (PySem.Str.ofString "_law_words") = true)
  (k66 : PySem.W.keepIn K (.ref f66a) = true)
  (lc66 : K.lookup cr66 = some ⟨xv66, yv66, .fields vs66, zv66⟩)
  (lt66 : vs66[11]? = some (.ref pt66))
  (ch66 : PySem.W.codeHdIn K cr66 pt66 = true)
  (ln66 : K.lookup pt66 = none)
  (tb66 : pt66 ∈ ts)
  (a67 : PySem.W.nsIn K mainGlobals (PySem.Str.ofString "_law_right") = some (some (.ref f67a)))
  (l67 : K.lookup f67a = some ⟨oc67, od67, .func (PySem.W.fnOf (PySem.Str.ofString "_law_right") (PySem.Str.ofString "_law_right") (defArgs s67) (defBody s67) (defScope s67) .none kV67 dc67 pm67 an67 (.ref cr67) ct67), sl67⟩)
  (cc67 : PySem.W.codeIn K (.ref cr67) (PySem.Str.ofString "_law_right") = true)
  (k67 : PySem.W.keepIn K (.ref f67a) = true)
  (lc67 : K.lookup cr67 = some ⟨xv67, yv67, .fields vs67, zv67⟩)
  (lt67 : vs67[11]? = some (.ref pt67))
  (ch67 : PySem.W.codeHdIn K cr67 pt67 = true)
  (ln67 : K.lookup pt67 = none)
  (tb67 : pt67 ∈ ts)
  (a68 : PySem.W.nsIn K mainGlobals (PySem.Str.ofString "law") = some (some (.ref f68a)))
  (l68 : K.lookup f68a = some ⟨oc68, od68, .func (PySem.W.fnOf (PySem.Str.ofString "law") (PySem.Str.ofString "law") (defArgs s68) (defBody s68) (defScope s68) .none kV68 dc68 pm68 an68 (.ref cr68) ct68), sl68⟩)
  (cc68 : PySem.W.codeIn K (.ref cr68) (PySem.Str.ofString "law") = true)
  (k68 : PySem.W.keepIn K (.ref f68a) = true)
  (lc68 : K.lookup cr68 = some ⟨xv68, yv68, .fields vs68, zv68⟩)
  (lt68 : vs68[11]? = some (.ref pt68))
  (ch68 : PySem.W.codeHdIn K cr68 pt68 = true)
  (ln68 : K.lookup pt68 = none)
  (tb68 : pt68 ∈ ts)
  (ne66_67 : (pt67 == pt66) = false)
  (ne66_68 : (pt68 == pt66) = false)
  (ne67_68 : (pt68 == pt67) = false)
  (b_abs : PySem.W.nsIn K mainGlobals (PySem.Str.ofString "abs") = some none)
  (b_all : PySem.W.nsIn K mainGlobals (PySem.Str.ofString "all") = some none)
  (b_any : PySem.W.nsIn K mainGlobals (PySem.Str.ofString "any") = some none)
  (b_bool : PySem.W.nsIn K mainGlobals (PySem.Str.ofString "bool") = some none)
  (b_dict : PySem.W.nsIn K mainGlobals (PySem.Str.ofString "dict") = some none)
  (b_enumerate : PySem.W.nsIn K mainGlobals (PySem.Str.ofString "enumerate") = some none)
  (b_int : PySem.W.nsIn K mainGlobals (PySem.Str.ofString "int") = some none)
  (b_isinstance : PySem.W.nsIn K mainGlobals (PySem.Str.ofString "isinstance") = some none)
  (b_len : PySem.W.nsIn K mainGlobals (PySem.Str.ofString "len") = some none)
  (b_list : PySem.W.nsIn K mainGlobals (PySem.Str.ofString "list") = some none)
  (b_max : PySem.W.nsIn K mainGlobals (PySem.Str.ofString "max") = some none)
  (b_min : PySem.W.nsIn K mainGlobals (PySem.Str.ofString "min") = some none)
  (b_range : PySem.W.nsIn K mainGlobals (PySem.Str.ofString "range") = some none)
  (b_repr : PySem.W.nsIn K mainGlobals (PySem.Str.ofString "repr") = some none)
  (b_sorted : PySem.W.nsIn K mainGlobals (PySem.Str.ofString "sorted") = some none)
  (b_str : PySem.W.nsIn K mainGlobals (PySem.Str.ofString "str") = some none)
  (b_super : PySem.W.nsIn K mainGlobals (PySem.Str.ofString "super") = some none)
  (b_tuple : PySem.W.nsIn K mainGlobals (PySem.Str.ofString "tuple") = some none)
  (b_zip : PySem.W.nsIn K mainGlobals (PySem.Str.ofString "zip") = some none)
  (k_FAR : PySem.W.nsIn K mainGlobals (PySem.Str.ofString "FAR") = some (some (.int 1000000000000000000000000000000000000000000000000000000000000 tk_FAR)))
  (k_PAIR_SIZE : PySem.W.nsIn K mainGlobals (PySem.Str.ofString "PAIR_SIZE") = some (some (.int 2 tk_PAIR_SIZE)))
  (k_MOST_POINTS : PySem.W.nsIn K mainGlobals (PySem.Str.ofString "MOST_POINTS") = some (some (.int 10 tk_MOST_POINTS)))
  (k_MOST_PAIRS : PySem.W.nsIn K mainGlobals (PySem.Str.ofString "MOST_PAIRS") = some (some (.int 90 tk_MOST_PAIRS)))
  (k_JOINED : PySem.W.nsIn K mainGlobals (PySem.Str.ofString "JOINED") = some (some (.str ⟨([106, 111, 105, 110, 101, 100] : List Nat).toArray⟩ tk_JOINED)))
  (k_IN_PIECES : PySem.W.nsIn K mainGlobals (PySem.Str.ofString "IN_PIECES") = some (some (.str ⟨([105, 110, 32, 112, 105, 101, 99, 101, 115] : List Nat).toArray⟩ tk_IN_PIECES)))
  (qa0 : PySem.W.nsIn K mainGlobals (PySem.Str.ofString "SpaceError") = some (some (.ref c0a)))
  (qs0 : PySem.W.subIn K (.ref c0a) (.type "BaseException") = some true)
  (qt0 : PySem.W.typeIn K (.ref c0a) = some (.type "type"))
  (qk0 : PySem.W.keepIn K (.ref c0a) = true)
  (qx0 : PySem.W.excIn K c0a [.type "ValueError", .type "Exception", .type "BaseException", .type "object"] "ValueError.__new__" = true)
  (qa1 : PySem.W.nsIn K mainGlobals (PySem.Str.ofString "InvalidSpace") = some (some (.ref c1a)))
  (qs1 : PySem.W.subIn K (.ref c1a) (.type "BaseException") = some true)
  (qt1 : PySem.W.typeIn K (.ref c1a) = some (.type "type"))
  (qk1 : PySem.W.keepIn K (.ref c1a) = true)
  (qx1 : PySem.W.excIn K c1a [.type "ValueError", .type "Exception", .type "BaseException", .type "object"] "ValueError.__new__" = true)
  (qa2 : PySem.W.nsIn K mainGlobals (PySem.Str.ofString "InvalidLot") = some (some (.ref c2a)))
  (qs2 : PySem.W.subIn K (.ref c2a) (.type "BaseException") = some true)
  (qt2 : PySem.W.typeIn K (.ref c2a) = some (.type "type"))
  (qk2 : PySem.W.keepIn K (.ref c2a) = true)
  (qx2 : PySem.W.excIn K c2a [.type "ValueError", .type "Exception", .type "BaseException", .type "object"] "ValueError.__new__" = true)
  (qa3 : PySem.W.nsIn K mainGlobals (PySem.Str.ofString "InvalidNaming") = some (some (.ref c3a)))
  (qs3 : PySem.W.subIn K (.ref c3a) (.type "BaseException") = some true)
  (qt3 : PySem.W.typeIn K (.ref c3a) = some (.type "type"))
  (qk3 : PySem.W.keepIn K (.ref c3a) = true)
  (qx3 : PySem.W.excIn K c3a [.type "ValueError", .type "Exception", .type "BaseException", .type "object"] "ValueError.__new__" = true)
  (qa4 : PySem.W.nsIn K mainGlobals (PySem.Str.ofString "InvalidOperation") = some (some (.ref c4a)))
  (qs4 : PySem.W.subIn K (.ref c4a) (.type "BaseException") = some true)
  (qt4 : PySem.W.typeIn K (.ref c4a) = some (.type "type"))
  (qk4 : PySem.W.keepIn K (.ref c4a) = true)
  (qx4 : PySem.W.excIn K c4a [.type "ValueError", .type "Exception", .type "BaseException", .type "object"] "ValueError.__new__" = true)
  (qa5 : PySem.W.nsIn K mainGlobals (PySem.Str.ofString "InvalidNumber") = some (some (.ref c5a)))
  (qs5 : PySem.W.subIn K (.ref c5a) (.type "BaseException") = some true)
  (qt5 : PySem.W.typeIn K (.ref c5a) = some (.type "type"))
  (qk5 : PySem.W.keepIn K (.ref c5a) = true)
  (qx5 : PySem.W.excInitIn K c5a [.type "IndexError", .type "LookupError", .type "Exception", .type "BaseException", .type "object"] "IndexError.__new__" = true)
  (qo5 : PySem.W.excOver K c5a [.type "IndexError", .type "LookupError", .type "Exception", .type "BaseException", .type "object"] = true)
  (qh5 : PySem.W.hasDictIn K c5a = true)
  (qe5 : PySem.W.findIn K (.ref c5a) "__setattr__" = some (some (.builtin "object.__setattr__")))
  (qf5 : PySem.W.takerIn K c5a (PySem.Str.ofString "value") = some none)
  (qi5 : PySem.W.findIn K (.ref c5a) "__init__" = some (some (.ref i5a)))
  (qj5 : PySem.W.typeIn K (.ref i5a) = some (.type "function"))
  (qu5 : PySem.W.ks_superIn K c5a c5a "__init__" = some (some (.builtin "IndexError.__init__")))
  (qb5 : PySem.W.subIn K (.ref c5a) (.type "IndexError") = some true)
  (qm5 : PySem.W.mroIn K c5a (.ref c5a) = some true)
  (qg5 : PySem.W.findIn K (.ref c5a) "__getattribute__" = some (some (.builtin "BaseException.__getattribute__")))
  (qd5 : PySem.W.findIn K (.ref c5a) "__getattr__" = some none)
  (qn5 : PySem.W.findIn K (.ref c5a) (PySem.Str.ofString "value") = some none)
  (il5 : K.lookup i5a = some ⟨io5, iod5, .func (PySem.W.ksFn "__init__" (PySem.Str.ofString "InvalidNumber.__init__") (PySem.XI.iA (PySem.Str.ofString "value") ⟨14, 17, 14, 21⟩ ⟨14, 23, 14, 28⟩) (PySem.XI.iB (PySem.Str.ofString "value") (PySem.Str.ofString "value") (PySem.Str.ofString "a number within the told bounds is expected") jj5 ⟨15, 8, 15, 13⟩ ⟨15, 8, 15, 15⟩ ⟨15, 8, 15, 24⟩ ⟨15, 25, 15, 70⟩ ⟨15, 8, 15, 71⟩ ⟨15, 8, 15, 71⟩ ⟨16, 8, 16, 12⟩ ⟨16, 8, 16, 18⟩ ⟨16, 21, 16, 26⟩ ⟨16, 8, 16, 26⟩) (PySem.XI.iS (PySem.Str.ofString "value")) .none .none idc5 ipm5 ian5 (.ref ic5) ict5 ik5), isl5⟩)
  (ii5 : PySem.W.codeIn K (.ref ic5) (PySem.Str.ofString "InvalidNumber.__init__") = true)
  (im5 : K.lookup ic5 = some ⟨icl5, icd5, .fields ivs5, ics5⟩)
  (in5 : ivs5[2]? = some (.str ifl5 itf5))
  (ip5 : ((l.prog.main.file : Str) == ifl5) = true)
  (iq5 : K.lookup ik5 = some ⟨icx5, icy5, .cell (some (.ref c5a)), icz5⟩)
  (qop : PySem.W.nsIn K PySem.cStatics "thirdparty.any" = some none)
  (qtop : (l.prog.main.scope.names.lookup ("super" : Str)).isSome = false)
  (e0_0 : PySem.W.exmOne K (.ref c0a) (.ref c0a) = some (hasN 0 (sups 0)))
  (e0_1 : PySem.W.exmOne K (.ref c0a) (.ref c1a) = some (hasN 1 (sups 0)))
  (e0_2 : PySem.W.exmOne K (.ref c0a) (.ref c2a) = some (hasN 2 (sups 0)))
  (e0_3 : PySem.W.exmOne K (.ref c0a) (.ref c3a) = some (hasN 3 (sups 0)))
  (e0_4 : PySem.W.exmOne K (.ref c0a) (.ref c4a) = some (hasN 4 (sups 0)))
  (e0_5 : PySem.W.exmOne K (.ref c0a) (.ref c5a) = some (hasN 5 (sups 0)))
  (e1_0 : PySem.W.exmOne K (.ref c1a) (.ref c0a) = some (hasN 0 (sups 1)))
  (e1_1 : PySem.W.exmOne K (.ref c1a) (.ref c1a) = some (hasN 1 (sups 1)))
  (e1_2 : PySem.W.exmOne K (.ref c1a) (.ref c2a) = some (hasN 2 (sups 1)))
  (e1_3 : PySem.W.exmOne K (.ref c1a) (.ref c3a) = some (hasN 3 (sups 1)))
  (e1_4 : PySem.W.exmOne K (.ref c1a) (.ref c4a) = some (hasN 4 (sups 1)))
  (e1_5 : PySem.W.exmOne K (.ref c1a) (.ref c5a) = some (hasN 5 (sups 1)))
  (e2_0 : PySem.W.exmOne K (.ref c2a) (.ref c0a) = some (hasN 0 (sups 2)))
  (e2_1 : PySem.W.exmOne K (.ref c2a) (.ref c1a) = some (hasN 1 (sups 2)))
  (e2_2 : PySem.W.exmOne K (.ref c2a) (.ref c2a) = some (hasN 2 (sups 2)))
  (e2_3 : PySem.W.exmOne K (.ref c2a) (.ref c3a) = some (hasN 3 (sups 2)))
  (e2_4 : PySem.W.exmOne K (.ref c2a) (.ref c4a) = some (hasN 4 (sups 2)))
  (e2_5 : PySem.W.exmOne K (.ref c2a) (.ref c5a) = some (hasN 5 (sups 2)))
  (e3_0 : PySem.W.exmOne K (.ref c3a) (.ref c0a) = some (hasN 0 (sups 3)))
  (e3_1 : PySem.W.exmOne K (.ref c3a) (.ref c1a) = some (hasN 1 (sups 3)))
  (e3_2 : PySem.W.exmOne K (.ref c3a) (.ref c2a) = some (hasN 2 (sups 3)))
  (e3_3 : PySem.W.exmOne K (.ref c3a) (.ref c3a) = some (hasN 3 (sups 3)))
  (e3_4 : PySem.W.exmOne K (.ref c3a) (.ref c4a) = some (hasN 4 (sups 3)))
  (e3_5 : PySem.W.exmOne K (.ref c3a) (.ref c5a) = some (hasN 5 (sups 3)))
  (e4_0 : PySem.W.exmOne K (.ref c4a) (.ref c0a) = some (hasN 0 (sups 4)))
  (e4_1 : PySem.W.exmOne K (.ref c4a) (.ref c1a) = some (hasN 1 (sups 4)))
  (e4_2 : PySem.W.exmOne K (.ref c4a) (.ref c2a) = some (hasN 2 (sups 4)))
  (e4_3 : PySem.W.exmOne K (.ref c4a) (.ref c3a) = some (hasN 3 (sups 4)))
  (e4_4 : PySem.W.exmOne K (.ref c4a) (.ref c4a) = some (hasN 4 (sups 4)))
  (e4_5 : PySem.W.exmOne K (.ref c4a) (.ref c5a) = some (hasN 5 (sups 4)))
  (e5_0 : PySem.W.exmOne K (.ref c5a) (.ref c0a) = some (hasN 0 (sups 5)))
  (e5_1 : PySem.W.exmOne K (.ref c5a) (.ref c1a) = some (hasN 1 (sups 5)))
  (e5_2 : PySem.W.exmOne K (.ref c5a) (.ref c2a) = some (hasN 2 (sups 5)))
  (e5_3 : PySem.W.exmOne K (.ref c5a) (.ref c3a) = some (hasN 3 (sups 5)))
  (e5_4 : PySem.W.exmOne K (.ref c5a) (.ref c4a) = some (hasN 4 (sups 5)))
  (e5_5 : PySem.W.exmOne K (.ref c5a) (.ref c5a) = some (hasN 5 (sups 5))) :
  LawX l w K mg fa h := by
  have e : f68a = fa := by
    have e := (PySem.W.mg_of X Gn a68).symm.trans hfa
    injection e with e
    injection e
  subst e
  refine ⟨[(cr66, pt66), (cr67, pt67), (cr68, pt68)], ?_, ?_, ?_, fun a ns => ?_⟩
  · simp only [List.forall_mem_cons, List.not_mem_nil, false_imp_iff, implies_true, and_true]
    exact ⟨hts _ tb66, hts _ tb67, hts _ tb68⟩
  · simp only [List.forall_mem_cons, List.not_mem_nil, false_imp_iff, implies_true, and_true]
    exact ⟨ln66, ln67, ln68⟩
  · simp only [List.forall_mem_cons, List.not_mem_nil, false_imp_iff, implies_true, and_true]
    exact ⟨PySem.W.codeHd_of_K X ch66, PySem.W.codeHd_of_K X ch67, PySem.W.codeHd_of_K X ch68⟩
  have hW : ∀ a ns, WOk (glo K w [f0a, f1a, f2a, f3a, f4a, f5a, f6a, f7a, f8a, f9a, f10a, f11a, f12a, f13a, f14a, f15a, f16a, f17a, f18a, f19a, f20a, f21a, f22a, f23a, f24a, f25a, f26a, f27a, f28a, f29a, f30a, f31a, f32a, f33a, f34a, f35a, f36a, f37a, f38a, f39a, f40a, f41a, f42a, f43a, f44a, f45a, f46a, f47a, f48a, f49a, f50a, f51a, f52a, f53a, f54a, f55a, f56a, f57a, f58a, f59a, f60a, f61a, f62a, f63a, f64a, f65a, f66a, f67a, f68a] [c0a, c1a, c2a, c3a, c4a, c5a] (some (a, ns)) [(pt66, (PySem.Str.ofString "_law_words.<locals>.<lambda>")), (pt67, (PySem.Str.ofString "_law_right.<locals>.<lambda>")), (pt68, (PySem.Str.ofString "law.<locals>.<lambda>"))]) S sups l.prog w mg := fun a ns => {
      hw := rfl
      gf := fun x i h => AllP.mem (P := fun p : Str × Nat => mg p.1 = some (.ref (([f0a, f1a, f2a, f3a, f4a, f5a, f6a, f7a, f8a, f9a, f10a, f11a, f12a, f13a, f14a, f15a, f16a, f17a, f18a, f19a, f20a, f21a, f22a, f23a, f24a, f25a, f26a, f27a, f28a, f29a, f30a, f31a, f32a, f33a, f34a, f35a, f36a, f37a, f38a, f39a, f40a, f41a, f42a, f43a, f44a, f45a, f46a, f47a, f48a, f49a, f50a, f51a, f52a, f53a, f54a, f55a, f56a, f57a, f58a, f59a, f60a, f61a, f62a, f63a, f64a, f65a, f66a, f67a, f68a][p.2]?).getD 0))) (l := gfnL) ⟨PySem.W.mg_of X Gn a0, PySem.W.mg_of X Gn a1, PySem.W.mg_of X Gn a2, PySem.W.mg_of X Gn a3, PySem.W.mg_of X Gn a4, PySem.W.mg_of X Gn a5, PySem.W.mg_of X Gn a6, PySem.W.mg_of X Gn a7, PySem.W.mg_of X Gn a8, PySem.W.mg_of X Gn a9, PySem.W.mg_of X Gn a10, PySem.W.mg_of X Gn a11, PySem.W.mg_of X Gn a12, PySem.W.mg_of X Gn a13, PySem.W.mg_of X Gn a14, PySem.W.mg_of X Gn a15, PySem.W.mg_of X Gn a16, PySem.W.mg_of X Gn a17, PySem.W.mg_of X Gn a18, PySem.W.mg_of X Gn a19, PySem.W.mg_of X Gn a20, PySem.W.mg_of X Gn a21, PySem.W.mg_of X Gn a22, PySem.W.mg_of X Gn a23, PySem.W.mg_of X Gn a24, PySem.W.mg_of X Gn a25, PySem.W.mg_of X Gn a26, PySem.W.mg_of X Gn a27, PySem.W.mg_of X Gn a28, PySem.W.mg_of X Gn a29, PySem.W.mg_of X Gn a30, PySem.W.mg_of X Gn a31, PySem.W.mg_of X Gn a32, PySem.W.mg_of X Gn a33, PySem.W.mg_of X Gn a34, PySem.W.mg_of X Gn a35, PySem.W.mg_of X Gn a36, PySem.W.mg_of X Gn a37, PySem.W.mg_of X Gn a38, PySem.W.mg_of X Gn a39, PySem.W.mg_of X Gn a40, PySem.W.mg_of X Gn a41, PySem.W.mg_of X Gn a42, PySem.W.mg_of X Gn a43, PySem.W.mg_of X Gn a44, PySem.W.mg_of X Gn a45, PySem.W.mg_of X Gn a46, PySem.W.mg_of X Gn a47, PySem.W.mg_of X Gn a48, PySem.W.mg_of X Gn a49, PySem.W.mg_of X Gn a50, PySem.W.mg_of X Gn a51, PySem.W.mg_of X Gn a52, PySem.W.mg_of X Gn a53, PySem.W.mg_of X Gn a54, PySem.W.mg_of X Gn a55, PySem.W.mg_of X Gn a56, PySem.W.mg_of X Gn a57, PySem.W.mg_of X Gn a58, PySem.W.mg_of X Gn a59, PySem.W.mg_of X Gn a60, PySem.W.mg_of X Gn a61, PySem.W.mg_of X Gn a62, PySem.W.mg_of X Gn a63, PySem.W.mg_of X Gn a64, PySem.W.mg_of X Gn a65, PySem.W.mg_of X Gn a66, PySem.W.mg_of X Gn a67, PySem.W.mg_of X Gn a68, trivial⟩ (lookup_mem h)
      gc := fun x d h => by
        obtain ⟨u, q1, q2⟩ := AllP.mem (P := fun p : Str × A => ∃ u, mg p.1 = some u ∧ CstV p.2 u) (l := gcstL) ⟨⟨_, PySem.W.mg_of X Gn k_FAR, .int _ _⟩, ⟨_, PySem.W.mg_of X Gn k_PAIR_SIZE, .int _ _⟩, ⟨_, PySem.W.mg_of X Gn k_MOST_POINTS, .int _ _⟩, ⟨_, PySem.W.mg_of X Gn k_MOST_PAIRS, .int _ _⟩, ⟨_, PySem.W.mg_of X Gn k_JOINED, .str _ _⟩, ⟨_, PySem.W.mg_of X Gn k_IN_PIECES, .str _ _⟩, trivial⟩ (lookup_mem h)
        obtain ⟨v, q3, q4⟩ := q2.rel (G := glo K w [f0a, f1a, f2a, f3a, f4a, f5a, f6a, f7a, f8a, f9a, f10a, f11a, f12a, f13a, f14a, f15a, f16a, f17a, f18a, f19a, f20a, f21a, f22a, f23a, f24a, f25a, f26a, f27a, f28a, f29a, f30a, f31a, f32a, f33a, f34a, f35a, f36a, f37a, f38a, f39a, f40a, f41a, f42a, f43a, f44a, f45a, f46a, f47a, f48a, f49a, f50a, f51a, f52a, f53a, f54a, f55a, f56a, f57a, f58a, f59a, f60a, f61a, f62a, f63a, f64a, f65a, f66a, f67a, f68a] [c0a, c1a, c2a, c3a, c4a, c5a] (some (a, ns)) [(pt66, (PySem.Str.ofString "_law_words.<locals>.<lambda>")), (pt67, (PySem.Str.ofString "_law_right.<locals>.<lambda>")), (pt68, (PySem.Str.ofString "law.<locals>.<lambda>"))])
        exact ⟨v, u, q1, q3, q4⟩
      bi := fun x h => AllP.mem (P := fun x : Str => mg x = none) (l := biL) ⟨PySem.W.mg_none_of X Gn b_abs, PySem.W.mg_none_of X Gn b_all, PySem.W.mg_none_of X Gn b_any, PySem.W.mg_none_of X Gn b_bool, PySem.W.mg_none_of X Gn b_dict, PySem.W.mg_none_of X Gn b_enumerate, PySem.W.mg_none_of X Gn b_int, PySem.W.mg_none_of X Gn b_isinstance, PySem.W.mg_none_of X Gn b_len, PySem.W.mg_none_of X Gn b_list, PySem.W.mg_none_of X Gn b_max, PySem.W.mg_none_of X Gn b_min, PySem.W.mg_none_of X Gn b_range, PySem.W.mg_none_of X Gn b_repr, PySem.W.mg_none_of X Gn b_sorted, PySem.W.mg_none_of X Gn b_str, PySem.W.mg_none_of X Gn b_super, PySem.W.mg_none_of X Gn b_tuple, PySem.W.mg_none_of X Gn b_zip, trivial⟩ (contains_mem h)
      ex := rfl
      gds := rfl
      sup := fun x k hx hk => AllP.mem (P := fun k => PySem.W.exmOne K (.ref (([c0a, c1a, c2a, c3a, c4a, c5a][x]?).getD 0)) (.ref (([c0a, c1a, c2a, c3a, c4a, c5a][k]?).getD 0)) = some (hasN k (sups x))) (l := [0, 1, 2, 3, 4, 5]) (AllP.mem (P := fun x => AllP (fun k => PySem.W.exmOne K (.ref (([c0a, c1a, c2a, c3a, c4a, c5a][x]?).getD 0)) (.ref (([c0a, c1a, c2a, c3a, c4a, c5a][k]?).getD 0)) = some (hasN k (sups x))) [0, 1, 2, 3, 4, 5]) (l := [0, 1, 2, 3, 4, 5]) ⟨⟨e0_0, e0_1, e0_2, e0_3, e0_4, e0_5, trivial⟩, ⟨e1_0, e1_1, e1_2, e1_3, e1_4, e1_5, trivial⟩, ⟨e2_0, e2_1, e2_2, e2_3, e2_4, e2_5, trivial⟩, ⟨e3_0, e3_1, e3_2, e3_3, e3_4, e3_5, trivial⟩, ⟨e4_0, e4_1, e4_2, e4_3, e4_4, e4_5, trivial⟩, ⟨e5_0, e5_1, e5_2, e5_3, e5_4, e5_5, trivial⟩, trivial⟩ (mem_rng x hx)) (mem_rng k hk)
      gk := fun x k h => AllP.mem (P := fun p : Str × Nat => mg p.1 = some (.ref (([c0a, c1a, c2a, c3a, c4a, c5a][p.2]?).getD 0)) ∧ p.2 < 6) (l := gclsL) ⟨⟨PySem.W.mg_of X Gn qa0, by decide⟩, ⟨PySem.W.mg_of X Gn qa1, by decide⟩, ⟨PySem.W.mg_of X Gn qa2, by decide⟩, ⟨PySem.W.mg_of X Gn qa3, by decide⟩, ⟨PySem.W.mg_of X Gn qa4, by decide⟩, ⟨PySem.W.mg_of X Gn qa5, by decide⟩, trivial⟩ (lookup_mem h)
      mk0 := fun k hk => AllP.mem (P := fun k => S.ini k = false → ∃ B newId initId bmB, ExcBaseFacts B newId initId bmB ∧ PySem.W.excIn K (([c0a, c1a, c2a, c3a, c4a, c5a][k]?).getD 0) bmB newId = true ∧ PySem.W.keepIn K (.ref (([c0a, c1a, c2a, c3a, c4a, c5a][k]?).getD 0)) = true ∧ PySem.W.subIn K (.ref (([c0a, c1a, c2a, c3a, c4a, c5a][k]?).getD 0)) (.type "BaseException") = some true ∧ PySem.W.typeIn K (.ref (([c0a, c1a, c2a, c3a, c4a, c5a][k]?).getD 0)) = some (.type "type")) (l := [0, 1, 2, 3, 4, 5]) ⟨fun _ => ⟨_, _, _, _, PySem.F.excBase_ValueError, qx0, qk0, qs0, qt0⟩,
        fun _ => ⟨_, _, _, _, PySem.F.excBase_ValueError, qx1, qk1, qs1, qt1⟩,
        fun _ => ⟨_, _, _, _, PySem.F.excBase_ValueError, qx2, qk2, qs2, qt2⟩,
        fun _ => ⟨_, _, _, _, PySem.F.excBase_ValueError, qx3, qk3, qs3, qt3⟩,
        fun _ => ⟨_, _, _, _, PySem.F.excBase_ValueError, qx4, qk4, qs4, qt4⟩,
        fun z => absurd z (by decide +kernel),
        trivial⟩ (mem_rng k hk)
      mk1 := fun k hk => AllP.mem (P := fun k => S.ini k = true → ∃ fI B i newId bmB, PySem.XI.Txt l.prog K mg (([c0a, c1a, c2a, c3a, c4a, c5a][k]?).getD 0) fI B i newId bmB ((fldL.lookup k).getD "")) (l := [0, 1, 2, 3, 4, 5]) ⟨fun z => absurd z (by decide +kernel),
        fun z => absurd z (by decide +kernel),
        fun z => absurd z (by decide +kernel),
        fun z => absurd z (by decide +kernel),
        fun z => absurd z (by decide +kernel),
        fun _ => ⟨i5a, _, _, _, _, { FB := PySem.F.excBase_IndexError, KF := PySem.W.kxs_IndexError, SF := PySem.F.store_IndexError, ex := qx5, ov := qo5, hd := qh5, sa := qe5, tk := qf5, iC := qi5, tC := qj5, su := qu5, sb := qb5, ms := qm5, op := qop, sg := PySem.W.mg_none_of X Gn b_super, top := qtop, exC := qs5, tyC := qt5, kC := qk5, fn := ⟨io5, iod5, _, idc5, ipm5, ian5, ic5, ik5, ict5, isl5, (PySem.Str.ofString "value"), (PySem.Str.ofString "a number within the told bounds is expected"), jj5, ⟨14, 17, 14, 21⟩, ⟨14, 23, 14, 28⟩, ⟨15, 8, 15, 13⟩, ⟨15, 8, 15, 15⟩, ⟨15, 8, 15, 24⟩, ⟨15, 25, 15, 70⟩, ⟨15, 8, 15, 71⟩, ⟨15, 8, 15, 71⟩, ⟨16, 8, 16, 12⟩, ⟨16, 8, 16, 18⟩, ⟨16, 21, 16, 26⟩, ⟨16, 8, 16, 26⟩, icl5, icd5, ivs5, ics5, ifl5, itf5, icx5, icy5, icz5, il5, ii5, im5, in5, ip5, iq5, by decide +kernel, by decide +kernel, by decide +kernel, by decide +kernel, by decide +kernel, by decide +kernel, fun _ _ => rfl⟩ }⟩,
        trivial⟩ (mem_rng k hk)
      fx := fun k n h => AllP.mem (P := fun p : Nat × Str => XfC K (([c0a, c1a, c2a, c3a, c4a, c5a][p.1]?).getD 0) ∧ PySem.W.findIn K (.ref (([c0a, c1a, c2a, c3a, c4a, c5a][p.1]?).getD 0)) p.2 = some none ∧ (fldL.lookup p.1).getD "" = p.2) (l := fldL) ⟨⟨⟨qg5, qd5, qs5, qh5⟩, qn5, by decide +kernel⟩, trivial⟩ (lookup_mem h) }
  have F0 := fun_mk (st := s0) l0 cc0 k0
  have B0 := F0.binds (ps := P0) fun _ _ _ _ _ _ us hl => match us, hl with | [_], _ => rfl
  have F1 := fun_mk (st := s1) l1 cc1 k1
  have B1 := F1.binds (ps := P1) fun _ _ _ _ _ _ us hl => match us, hl with | [_], _ => rfl
  have F2 := fun_mk (st := s2) l2 cc2 k2
  have B2 := F2.binds (ps := P2) fun _ _ _ _ _ _ us hl => match us, hl with | [_, _, _], _ => rfl
  have F3 := fun_mk (st := s3) l3 cc3 k3
  have B3 := F3.binds (ps := P3) fun _ _ _ _ _ _ us hl => match us, hl with | [_], _ => rfl
  have F4 := fun_mk (st := s4) l4 cc4 k4
  have B4 := F4.binds (ps := P4) fun _ _ _ _ _ _ us hl => match us, hl with | [_], _ => rfl
  have F5 := fun_mk (st := s5) l5 cc5 k5
  have B5 := F5.binds (ps := P5) fun _ _ _ _ _ _ us hl => match us, hl with | [_, _, _], _ => rfl
  have F6 := fun_mk (st := s6) l6 cc6 k6
  have B6 := F6.binds (ps := P6) fun _ _ _ _ _ _ us hl => match us, hl with | [_], _ => rfl
  have F7 := fun_mk (st := s7) l7 cc7 k7
  have B7 := F7.binds (ps := P7) fun _ _ _ _ _ _ us hl => match us, hl with | [_], _ => rfl
  have F8 := fun_mk (st := s8) l8 cc8 k8
  have B8 := F8.binds (ps := P8) fun _ _ _ _ _ _ us hl => match us, hl with | [_], _ => rfl
  have F9 := fun_mk (st := s9) l9 cc9 k9
  have B9 := F9.binds (ps := P9) fun _ _ _ _ _ _ us hl => match us, hl with | [_, _, _], _ => rfl
  have F10 := fun_mk (st := s10) l10 cc10 k10
  have B10 := F10.binds (ps := P10) fun _ _ _ _ _ _ us hl => match us, hl with | [_, _], _ => rfl
  have F11 := fun_mk (st := s11) l11 cc11 k11
  have B11 := F11.binds (ps := P11) fun _ _ _ _ _ _ us hl => match us, hl with | [_, _], _ => rfl
  have F12 := fun_mk (st := s12) l12 cc12 k12
  have B12 := F12.binds (ps := P12) fun _ _ _ _ _ _ us hl => match us, hl with | [_], _ => rfl
  have F13 := fun_mk (st := s13) l13 cc13 k13
  have B13 := F13.binds (ps := P13) fun _ _ _ _ _ _ us hl => match us, hl with | [_, _], _ => rfl
  have F14 := fun_mk (st := s14) l14 cc14 k14
  have B14 := F14.binds (ps := P14) fun _ _ _ _ _ _ us hl => match us, hl with | [_, _], _ => rfl
  have F15 := fun_mk (st := s15) l15 cc15 k15
  have B15 := F15.binds (ps := P15) fun _ _ _ _ _ _ us hl => match us, hl with | [_, _, _], _ => rfl
  have F16 := fun_mk (st := s16) l16 cc16 k16
  have B16 := F16.binds (ps := P16) fun _ _ _ _ _ _ us hl => match us, hl with | [_, _, _], _ => rfl
  have F17 := fun_mk (st := s17) l17 cc17 k17
  have B17 := F17.binds (ps := P17) fun _ _ _ _ _ _ us hl => match us, hl with | [_, _], _ => rfl
  have F18 := fun_mk (st := s18) l18 cc18 k18
  have B18 := F18.binds (ps := P18) fun _ _ _ _ _ _ us hl => match us, hl with | [_, _], _ => rfl
  have F19 := fun_mk (st := s19) l19 cc19 k19
  have B19 := F19.binds (ps := P19) fun _ _ _ _ _ _ us hl => match us, hl with | [_, _], _ => rfl
  have F20 := fun_mk (st := s20) l20 cc20 k20
  have B20 := F20.binds (ps := P20) fun _ _ _ _ _ _ us hl => match us, hl with | [_], _ => rfl
  have F21 := fun_mk (st := s21) l21 cc21 k21
  have B21 := F21.binds (ps := P21) fun _ _ _ _ _ _ us hl => match us, hl with | [_], _ => rfl
  have F22 := fun_mk (st := s22) l22 cc22 k22
  have B22 := F22.binds (ps := P22) fun _ _ _ _ _ _ us hl => match us, hl with | [_], _ => rfl
  have F23 := fun_mk (st := s23) l23 cc23 k23
  have B23 := F23.binds (ps := P23) fun _ _ _ _ _ _ us hl => match us, hl with | [_], _ => rfl
  have F24 := fun_mk (st := s24) l24 cc24 k24
  have B24 := F24.binds (ps := P24) fun _ _ _ _ _ _ us hl => match us, hl with | [_, _], _ => rfl
  have F25 := fun_mk (st := s25) l25 cc25 k25
  have B25 := F25.binds (ps := P25) fun _ _ _ _ _ _ us hl => match us, hl with | [_, _], _ => rfl
  have F26 := fun_mk (st := s26) l26 cc26 k26
  have B26 := F26.binds (ps := P26) fun _ _ _ _ _ _ us hl => match us, hl with | [_], _ => rfl
  have F27 := fun_mk (st := s27) l27 cc27 k27
  have B27 := F27.binds (ps := P27) fun _ _ _ _ _ _ us hl => match us, hl with | [_], _ => rfl
  have F28 := fun_mk (st := s28) l28 cc28 k28
  have B28 := F28.binds (ps := P28) fun _ _ _ _ _ _ us hl => match us, hl with | [_], _ => rfl
  have F29 := fun_mk (st := s29) l29 cc29 k29
  have B29 := F29.binds (ps := P29) fun _ _ _ _ _ _ us hl => match us, hl with | [_, _], _ => rfl
  have F30 := fun_mk (st := s30) l30 cc30 k30
  have B30 := F30.binds (ps := P30) fun _ _ _ _ _ _ us hl => match us, hl with | [_], _ => rfl
  have F31 := fun_mk (st := s31) l31 cc31 k31
  have B31 := F31.binds (ps := P31) fun _ _ _ _ _ _ us hl => match us, hl with | [_, _], _ => rfl
  have F32 := fun_mk (st := s32) l32 cc32 k32
  have B32 := F32.binds (ps := P32) fun _ _ _ _ _ _ us hl => match us, hl with | [_, _, _], _ => rfl
  have F33 := fun_mk (st := s33) l33 cc33 k33
  have B33 := F33.binds (ps := P33) fun _ _ _ _ _ _ us hl => match us, hl with | [_, _], _ => rfl
  have F34 := fun_mk (st := s34) l34 cc34 k34
  have B34 := F34.binds (ps := P34) fun _ _ _ _ _ _ us hl => match us, hl with | [_], _ => rfl
  have F35 := fun_mk (st := s35) l35 cc35 k35
  have B35 := F35.binds (ps := P35) fun _ _ _ _ _ _ us hl => match us, hl with | [_, _], _ => rfl
  have F36 := fun_mk (st := s36) l36 cc36 k36
  have B36 := F36.binds (ps := P36) fun _ _ _ _ _ _ us hl => match us, hl with | [_, _], _ => rfl
  have F37 := fun_mk (st := s37) l37 cc37 k37
  have B37 := F37.binds (ps := P37) fun _ _ _ _ _ _ us hl => match us, hl with | [_, _, _], _ => rfl
  have F38 := fun_mk (st := s38) l38 cc38 k38
  have B38 := F38.binds (ps := P38) fun _ _ _ _ _ _ us hl => match us, hl with | [_, _], _ => rfl
  have F39 := fun_mk (st := s39) l39 cc39 k39
  have B39 := F39.binds (ps := P39) fun _ _ _ _ _ _ us hl => match us, hl with | [_, _], _ => rfl
  have F40 := fun_mk (st := s40) l40 cc40 k40
  have B40 := F40.binds (ps := P40) fun _ _ _ _ _ _ us hl => match us, hl with | [_], _ => rfl
  have F41 := fun_mk (st := s41) l41 cc41 k41
  have B41 := F41.binds (ps := P41) fun _ _ _ _ _ _ us hl => match us, hl with | [_, _, _], _ => rfl
  have F42 := fun_mk (st := s42) l42 cc42 k42
  have B42 := F42.binds (ps := P42) fun _ _ _ _ _ _ us hl => match us, hl with | [_, _, _], _ => rfl
  have F43 := fun_mk (st := s43) l43 cc43 k43
  have B43 := F43.binds (ps := P43) fun _ _ _ _ _ _ us hl => match us, hl with | [_, _], _ => rfl
  have F44 := fun_mk (st := s44) l44 cc44 k44
  have B44 := F44.binds (ps := P44) fun _ _ _ _ _ _ us hl => match us, hl with | [_, _], _ => rfl
  have F45 := fun_mk (st := s45) l45 cc45 k45
  have B45 := F45.binds (ps := P45) fun _ _ _ _ _ _ us hl => match us, hl with | [_, _], _ => rfl
  have F46 := fun_mk (st := s46) l46 cc46 k46
  have B46 := F46.binds (ps := P46) fun _ _ _ _ _ _ us hl => match us, hl with | [_, _], _ => rfl
  have F47 := fun_mk (st := s47) l47 cc47 k47
  have B47 := F47.binds (ps := P47) fun _ _ _ _ _ _ us hl => match us, hl with | [_], _ => rfl
  have F48 := fun_mk (st := s48) l48 cc48 k48
  have B48 := F48.binds (ps := P48) fun _ _ _ _ _ _ us hl => match us, hl with | [_, _], _ => rfl
  have F49 := fun_mk (st := s49) l49 cc49 k49
  have B49 := F49.binds (ps := P49) fun _ _ _ _ _ _ us hl => match us, hl with | [_], _ => rfl
  have F50 := fun_mk (st := s50) l50 cc50 k50
  have B50 := F50.binds (ps := P50) fun _ _ _ _ _ _ us hl => match us, hl with | [_], _ => rfl
  have F51 := fun_mk (st := s51) l51 cc51 k51
  have B51 := F51.binds (ps := P51) fun _ _ _ _ _ _ us hl => match us, hl with | [_], _ => rfl
  have F52 := fun_mk (st := s52) l52 cc52 k52
  have B52 := F52.binds (ps := P52) fun _ _ _ _ _ _ us hl => match us, hl with | [_, _], _ => rfl
  have F53 := fun_mk (st := s53) l53 cc53 k53
  have B53 := F53.binds (ps := P53) fun _ _ _ _ _ _ us hl => match us, hl with | [_], _ => rfl
  have F54 := fun_mk (st := s54) l54 cc54 k54
  have B54 := F54.binds (ps := P54) fun _ _ _ _ _ _ us hl => match us, hl with | [_, _], _ => rfl
  have F55 := fun_mk (st := s55) l55 cc55 k55
  have B55 := F55.binds (ps := P55) fun _ _ _ _ _ _ us hl => match us, hl with | [_], _ => rfl
  have F56 := fun_mk (st := s56) l56 cc56 k56
  have B56 := F56.binds (ps := P56) fun _ _ _ _ _ _ us hl => match us, hl with | [_], _ => rfl
  have F57 := fun_mk (st := s57) l57 cc57 k57
  have B57 := F57.binds (ps := P57) fun _ _ _ _ _ _ us hl => match us, hl with | [_, _], _ => rfl
  have F58 := fun_mk (st := s58) l58 cc58 k58
  have B58 := F58.binds (ps := P58) fun _ _ _ _ _ _ us hl => match us, hl with | [_], _ => rfl
  have F59 := fun_mk (st := s59) l59 cc59 k59
  have B59 := F59.binds (ps := P59) fun _ _ _ _ _ _ us hl => match us, hl with | [_, _], _ => rfl
  have F60 := fun_mk (st := s60) l60 cc60 k60
  have B60 := F60.binds (ps := P60) fun _ _ _ _ _ _ us hl => match us, hl with | [_, _], _ => rfl
  have F61 := fun_mk (st := s61) l61 cc61 k61
  have B61 := F61.binds (ps := P61) fun _ _ _ _ _ _ us hl => match us, hl with | [_, _, _], _ => rfl
  have F62 := fun_mk (st := s62) l62 cc62 k62
  have B62 := F62.binds (ps := P62) fun _ _ _ _ _ _ us hl => match us, hl with | [_, _], _ => rfl
  have F63 := fun_mk (st := s63) l63 cc63 k63
  have B63 := F63.binds (ps := P63) fun _ _ _ _ _ _ us hl => match us, hl with | [_, _], _ => rfl
  have F64 := fun_mk (st := s64) l64 cc64 k64
  have B64 := F64.binds (ps := P64) fun _ _ _ _ _ _ us hl => match us, hl with | [_, _], _ => rfl
  have F65 := fun_mk (st := s65) l65 cc65 k65
  have B65 := F65.binds (ps := P65) fun _ _ _ _ _ _ us hl => match us, hl with | [_], _ => rfl
  have F66 := fun_mk (st := s66) l66 cc66 k66
  have B66 := F66.binds (ps := P66) fun _ _ _ _ _ _ us hl => match us, hl with | [_, _, _, _], _ => rfl
  have F67 := fun_mk (st := s67) l67 cc67 k67
  have B67 := F67.binds (ps := P67) fun _ _ _ _ _ _ us hl => match us, hl with | [_], _ => rfl
  have F68 := fun_mk (st := s68) l68 cc68 k68
  have B68 := F68.binds (ps := P68) fun _ _ _ _ _ _ us hl => match us, hl with | [_], _ => rfl
  have hp : ∀ i F, prim i = some F → ∀ base, DefOk (glo K w [f0a, f1a, f2a, f3a, f4a, f5a, f6a, f7a, f8a, f9a, f10a, f11a, f12a, f13a, f14a, f15a, f16a, f17a, f18a, f19a, f20a, f21a, f22a, f23a, f24a, f25a, f26a, f27a, f28a, f29a, f30a, f31a, f32a, f33a, f34a, f35a, f36a, f37a, f38a, f39a, f40a, f41a, f42a, f43a, f44a, f45a, f46a, f47a, f48a, f49a, f50a, f51a, f52a, f53a, f54a, f55a, f56a, f57a, f58a, f59a, f60a, f61a, f62a, f63a, f64a, f65a, f66a, f67a, f68a] [c0a, c1a, c2a, c3a, c4a, c5a] (some (a, ns)) [(pt66, (PySem.Str.ofString "_law_words.<locals>.<lambda>")), (pt67, (PySem.Str.ofString "_law_right.<locals>.<lambda>")), (pt68, (PySem.Str.ofString "law.<locals>.<lambda>"))]) l.prog w mg base 1 F i := fun i F e base => by
    unfold prim at e
    split at e
    · cases e; exact dice_ok F62 B62 (PySem.W.mg_none_of X Gn b_int) (PySem.W.mg_none_of X Gn b_len) (PySem.W.mg_none_of X Gn b_max) (PySem.W.mg_none_of X Gn b_abs)
    · cases e; exact roll_ok F63 B63 (PySem.W.mg_none_of X Gn b_int)
    · cases e
  have hf : ∀ i f, fns i = some f → prim i = none → TxtOk (glo K w [f0a, f1a, f2a, f3a, f4a, f5a, f6a, f7a, f8a, f9a, f10a, f11a, f12a, f13a, f14a, f15a, f16a, f17a, f18a, f19a, f20a, f21a, f22a, f23a, f24a, f25a, f26a, f27a, f28a, f29a, f30a, f31a, f32a, f33a, f34a, f35a, f36a, f37a, f38a, f39a, f40a, f41a, f42a, f43a, f44a, f45a, f46a, f47a, f48a, f49a, f50a, f51a, f52a, f53a, f54a, f55a, f56a, f57a, f58a, f59a, f60a, f61a, f62a, f63a, f64a, f65a, f66a, f67a, f68a] [c0a, c1a, c2a, c3a, c4a, c5a] (some (a, ns)) [(pt66, (PySem.Str.ofString "_law_words.<locals>.<lambda>")), (pt67, (PySem.Str.ofString "_law_right.<locals>.<lambda>")), (pt68, (PySem.Str.ofString "law.<locals>.<lambda>"))]) S i f := fun i f e _ => by
    unfold fns at e
    split at e
    · cases e; exact ⟨_, s0, _, N0, P0, 60, F0, B0, sc0, rfl, rfl, c0⟩
    · cases e; exact ⟨_, s1, _, N1, P1, 60, F1, B1, sc1, rfl, rfl, c1⟩
    · cases e; exact ⟨_, s2, _, N2, P2, 60, F2, B2, sc2, rfl, rfl, c2⟩
    · cases e; exact ⟨_, s3, _, N3, P3, 60, F3, B3, sc3, rfl, rfl, c3⟩
    · cases e; exact ⟨_, s4, _, N4, P4, 60, F4, B4, sc4, rfl, rfl, c4⟩
    · cases e; exact ⟨_, s5, _, N5, P5, 60, F5, B5, sc5, rfl, rfl, c5⟩
    · cases e; exact ⟨_, s6, _, N6, P6, 60, F6, B6, sc6, rfl, rfl, c6⟩
    · cases e; exact ⟨_, s7, _, N7, P7, 60, F7, B7, sc7, rfl, rfl, c7⟩
    · cases e; exact ⟨_, s8, _, N8, P8, 60, F8, B8, sc8, rfl, rfl, c8⟩
    · cases e; exact ⟨_, s9, _, N9, P9, 60, F9, B9, sc9, rfl, rfl, c9⟩
    · cases e; exact ⟨_, s10, _, N10, P10, 60, F10, B10, sc10, rfl, rfl, c10⟩
    · cases e; exact ⟨_, s11, _, N11, P11, 60, F11, B11, sc11, rfl, rfl, c11⟩
    · cases e; exact ⟨_, s12, _, N12, P12, 60, F12, B12, sc12, rfl, rfl, c12⟩
    · cases e; exact ⟨_, s13, _, N13, P13, 60, F13, B13, sc13, rfl, rfl, c13⟩
    · cases e; exact ⟨_, s14, _, N14, P14, 60, F14, B14, sc14, rfl, rfl, c14⟩
    · cases e; exact ⟨_, s15, _, N15, P15, 60, F15, B15, sc15, rfl, rfl, c15⟩
    · cases e; exact ⟨_, s16, _, N16, P16, 60, F16, B16, sc16, rfl, rfl, c16⟩
    · cases e; exact ⟨_, s17, _, N17, P17, 60, F17, B17, sc17, rfl, rfl, c17⟩
    · cases e; exact ⟨_, s18, _, N18, P18, 60, F18, B18, sc18, rfl, rfl, c18⟩
    · cases e; exact ⟨_, s19, _, N19, P19, 60, F19, B19, sc19, rfl, rfl, c19⟩
    · cases e; exact ⟨_, s20, _, N20, P20, 60, F20, B20, sc20, rfl, rfl, c20⟩
    · cases e; exact ⟨_, s21, _, N21, P21, 60, F21, B21, sc21, rfl, rfl, c21⟩
    · cases e; exact ⟨_, s22, _, N22, P22, 60, F22, B22, sc22, rfl, rfl, c22⟩
    · cases e; exact ⟨_, s23, _, N23, P23, 60, F23, B23, sc23, rfl, rfl, c23⟩
    · cases e; exact ⟨_, s24, _, N24, P24, 60, F24, B24, sc24, rfl, rfl, c24⟩
    · cases e; exact ⟨_, s25, _, N25, P25, 60, F25, B25, sc25, rfl, rfl, c25⟩
    · cases e; exact ⟨_, s26, _, N26, P26, 60, F26, B26, sc26, rfl, rfl, c26⟩
    · cases e; exact ⟨_, s27, _, N27, P27, 60, F27, B27, sc27, rfl, rfl, c27⟩
    · cases e; exact ⟨_, s28, _, N28, P28, 60, F28, B28, sc28, rfl, rfl, c28⟩
    · cases e; exact ⟨_, s29, _, N29, P29, 60, F29, B29, sc29, rfl, rfl, c29⟩
    · cases e; exact ⟨_, s30, _, N30, P30, 60, F30, B30, sc30, rfl, rfl, c30⟩
    · cases e; exact ⟨_, s31, _, N31, P31, 60, F31, B31, sc31, rfl, rfl, c31⟩
    · cases e; exact ⟨_, s32, _, N32, P32, 60, F32, B32, sc32, rfl, rfl, c32⟩
    · cases e; exact ⟨_, s33, _, N33, P33, 60, F33, B33, sc33, rfl, rfl, c33⟩
    · cases e; exact ⟨_, s34, _, N34, P34, 60, F34, B34, sc34, rfl, rfl, c34⟩
    · cases e; exact ⟨_, s35, _, N35, P35, 60, F35, B35, sc35, rfl, rfl, c35⟩
    · cases e; exact ⟨_, s36, _, N36, P36, 60, F36, B36, sc36, rfl, rfl, c36⟩
    · cases e; exact ⟨_, s37, _, N37, P37, 60, F37, B37, sc37, rfl, rfl, c37⟩
    · cases e; exact ⟨_, s38, _, N38, P38, 60, F38, B38, sc38, rfl, rfl, c38⟩
    · cases e; exact ⟨_, s39, _, N39, P39, 60, F39, B39, sc39, rfl, rfl, c39⟩
    · cases e; exact ⟨_, s40, _, N40, P40, 60, F40, B40, sc40, rfl, rfl, c40⟩
    · cases e; exact ⟨_, s41, _, N41, P41, 60, F41, B41, sc41, rfl, rfl, c41⟩
    · cases e; exact ⟨_, s42, _, N42, P42, 60, F42, B42, sc42, rfl, rfl, c42⟩
    · cases e; exact ⟨_, s43, _, N43, P43, 60, F43, B43, sc43, rfl, rfl, c43⟩
    · cases e; exact ⟨_, s44, _, N44, P44, 60, F44, B44, sc44, rfl, rfl, c44⟩
    · cases e; exact ⟨_, s45, _, N45, P45, 60, F45, B45, sc45, rfl, rfl, c45⟩
    · cases e; exact ⟨_, s46, _, N46, P46, 60, F46, B46, sc46, rfl, rfl, c46⟩
    · cases e; exact ⟨_, s47, _, N47, P47, 60, F47, B47, sc47, rfl, rfl, c47⟩
    · cases e; exact ⟨_, s48, _, N48, P48, 60, F48, B48, sc48, rfl, rfl, c48⟩
    · cases e; exact ⟨_, s49, _, N49, P49, 60, F49, B49, sc49, rfl, rfl, c49⟩
    · cases e; exact ⟨_, s50, _, N50, P50, 60, F50, B50, sc50, rfl, rfl, c50⟩
    · cases e; exact ⟨_, s51, _, N51, P51, 60, F51, B51, sc51, rfl, rfl, c51⟩
    · cases e; exact ⟨_, s52, _, N52, P52, 60, F52, B52, sc52, rfl, rfl, c52⟩
    · cases e; exact ⟨_, s53, _, N53, P53, 60, F53, B53, sc53, rfl, rfl, c53⟩
    · cases e; exact ⟨_, s54, _, N54, P54, 60, F54, B54, sc54, rfl, rfl, c54⟩
    · cases e; exact ⟨_, s55, _, N55, P55, 60, F55, B55, sc55, rfl, rfl, c55⟩
    · cases e; exact ⟨_, s56, _, N56, P56, 60, F56, B56, sc56, rfl, rfl, c56⟩
    · cases e; exact ⟨_, s57, _, N57, P57, 60, F57, B57, sc57, rfl, rfl, c57⟩
    · cases e; exact ⟨_, s58, _, N58, P58, 60, F58, B58, sc58, rfl, rfl, c58⟩
    · cases e; exact ⟨_, s59, _, N59, P59, 60, F59, B59, sc59, rfl, rfl, c59⟩
    · cases e; exact ⟨_, s60, _, N60, P60, 60, F60, B60, sc60, rfl, rfl, c60⟩
    · cases e; exact ⟨_, s61, _, N61, P61, 60, F61, B61, sc61, rfl, rfl, c61⟩
    · cases e; exact ⟨_, s64, _, N64, P64, 60, F64, B64, sc64, rfl, rfl, c64⟩
    · cases e
  have MT65 : MetTxt (glo K w [f0a, f1a, f2a, f3a, f4a, f5a, f6a, f7a, f8a, f9a, f10a, f11a, f12a, f13a, f14a, f15a, f16a, f17a, f18a, f19a, f20a, f21a, f22a, f23a, f24a, f25a, f26a, f27a, f28a, f29a, f30a, f31a, f32a, f33a, f34a, f35a, f36a, f37a, f38a, f39a, f40a, f41a, f42a, f43a, f44a, f45a, f46a, f47a, f48a, f49a, f50a, f51a, f52a, f53a, f54a, f55a, f56a, f57a, f58a, f59a, f60a, f61a, f62a, f63a, f64a, f65a, f66a, f67a, f68a] [c0a, c1a, c2a, c3a, c4a, c5a] (some (a, ns)) [(pt66, (PySem.Str.ofString "_law_words.<locals>.<lambda>")), (pt67, (PySem.Str.ofString "_law_right.<locals>.<lambda>")), (pt68, (PySem.Str.ofString "law.<locals>.<lambda>"))]) S sups mg 60 (PySem.Str.ofString "_law_word_of") f65 := met_txt (PySem.W.mg_of X Gn a65) F65 B65 sc65 rfl (by decide +kernel) (by decide +kernel) (by decide +kernel) rfl rfl c65
  have hm : ∀ x g, S.gmet x = some g → ∃ fg ng, MetTxt (glo K w [f0a, f1a, f2a, f3a, f4a, f5a, f6a, f7a, f8a, f9a, f10a, f11a, f12a, f13a, f14a, f15a, f16a, f17a, f18a, f19a, f20a, f21a, f22a, f23a, f24a, f25a, f26a, f27a, f28a, f29a, f30a, f31a, f32a, f33a, f34a, f35a, f36a, f37a, f38a, f39a, f40a, f41a, f42a, f43a, f44a, f45a, f46a, f47a, f48a, f49a, f50a, f51a, f52a, f53a, f54a, f55a, f56a, f57a, f58a, f59a, f60a, f61a, f62a, f63a, f64a, f65a, f66a, f67a, f68a] [c0a, c1a, c2a, c3a, c4a, c5a] (some (a, ns)) [(pt66, (PySem.Str.ofString "_law_words.<locals>.<lambda>")), (pt67, (PySem.Str.ofString "_law_right.<locals>.<lambda>")), (pt68, (PySem.Str.ofString "law.<locals>.<lambda>"))]) S sups mg ng x fg ∧ ∀ act h, cMet g act h = (metR gf sups ng fg act h).noexc := fun x g h => AllP.mem (P := fun p : Str × Nat => ∃ fg ng, MetTxt (glo K w [f0a, f1a, f2a, f3a, f4a, f5a, f6a, f7a, f8a, f9a, f10a, f11a, f12a, f13a, f14a, f15a, f16a, f17a, f18a, f19a, f20a, f21a, f22a, f23a, f24a, f25a, f26a, f27a, f28a, f29a, f30a, f31a, f32a, f33a, f34a, f35a, f36a, f37a, f38a, f39a, f40a, f41a, f42a, f43a, f44a, f45a, f46a, f47a, f48a, f49a, f50a, f51a, f52a, f53a, f54a, f55a, f56a, f57a, f58a, f59a, f60a, f61a, f62a, f63a, f64a, f65a, f66a, f67a, f68a] [c0a, c1a, c2a, c3a, c4a, c5a] (some (a, ns)) [(pt66, (PySem.Str.ofString "_law_words.<locals>.<lambda>")), (pt67, (PySem.Str.ofString "_law_right.<locals>.<lambda>")), (pt68, (PySem.Str.ofString "law.<locals>.<lambda>"))]) S sups mg ng p.1 fg ∧ ∀ act h, cMet p.2 act h = (metR gf sups ng fg act h).noexc) (l := metL) ⟨⟨f65, 60, MT65, fun _ _ => rfl⟩, trivial⟩ (lookup_mem h)
  have hd0 : ∀ base : Heap, ∀ i, ok0 i = true → DefOk (glo K w [f0a, f1a, f2a, f3a, f4a, f5a, f6a, f7a, f8a, f9a, f10a, f11a, f12a, f13a, f14a, f15a, f16a, f17a, f18a, f19a, f20a, f21a, f22a, f23a, f24a, f25a, f26a, f27a, f28a, f29a, f30a, f31a, f32a, f33a, f34a, f35a, f36a, f37a, f38a, f39a, f40a, f41a, f42a, f43a, f44a, f45a, f46a, f47a, f48a, f49a, f50a, f51a, f52a, f53a, f54a, f55a, f56a, f57a, f58a, f59a, f60a, f61a, f62a, f63a, f64a, f65a, f66a, f67a, f68a] [c0a, c1a, c2a, c3a, c4a, c5a] (some (a, ns)) [(pt66, (PySem.Str.ofString "_law_words.<locals>.<lambda>")), (pt67, (PySem.Str.ofString "_law_right.<locals>.<lambda>")), (pt68, (PySem.Str.ofString "law.<locals>.<lambda>"))]) l.prog w mg base 13 (call0 i) i := fun base i h => lvl_ok (G := (glo K w [f0a, f1a, f2a, f3a, f4a, f5a, f6a, f7a, f8a, f9a, f10a, f11a, f12a, f13a, f14a, f15a, f16a, f17a, f18a, f19a, f20a, f21a, f22a, f23a, f24a, f25a, f26a, f27a, f28a, f29a, f30a, f31a, f32a, f33a, f34a, f35a, f36a, f37a, f38a, f39a, f40a, f41a, f42a, f43a, f44a, f45a, f46a, f47a, f48a, f49a, f50a, f51a, f52a, f53a, f54a, f55a, f56a, f57a, f58a, f59a, f60a, f61a, f62a, f63a, f64a, f65a, f66a, f67a, f68a] [c0a, c1a, c2a, c3a, c4a, c5a] (some (a, ns)) [(pt66, (PySem.Str.ofString "_law_words.<locals>.<lambda>")), (pt67, (PySem.Str.ofString "_law_right.<locals>.<lambda>")), (pt68, (PySem.Str.ofString "law.<locals>.<lambda>"))])) (hW a ns) (fun i F e => hp i F e base) hf 12 i h
  have D66' : ∀ base : Heap, K.In base → base.Ns mainGlobals mg → (∀ p ∈ [(cr66, pt66), (cr67, pt67), (cr68, pt68)], LamX.TabB base mg p.1 p.2) → DefOk (glo K w [f0a, f1a, f2a, f3a, f4a, f5a, f6a, f7a, f8a, f9a, f10a, f11a, f12a, f13a, f14a, f15a, f16a, f17a, f18a, f19a, f20a, f21a, f22a, f23a, f24a, f25a, f26a, f27a, f28a, f29a, f30a, f31a, f32a, f33a, f34a, f35a, f36a, f37a, f38a, f39a, f40a, f41a, f42a, f43a, f44a, f45a, f46a, f47a, f48a, f49a, f50a, f51a, f52a, f53a, f54a, f55a, f56a, f57a, f58a, f59a, f60a, f61a, f62a, f63a, f64a, f65a, f66a, f67a, f68a] [c0a, c1a, c2a, c3a, c4a, c5a] (some (a, ns)) [(pt66, (PySem.Str.ofString "_law_words.<locals>.<lambda>")), (pt67, (PySem.Str.ofString "_law_right.<locals>.<lambda>")), (pt68, (PySem.Str.ofString "law.<locals>.<lambda>"))]) l.prog w mg base 16 R66 66 := fun base b1 b2 b3 => by
      refine lam_ok (G := (glo K w [f0a, f1a, f2a, f3a, f4a, f5a, f6a, f7a, f8a, f9a, f10a, f11a, f12a, f13a, f14a, f15a, f16a, f17a, f18a, f19a, f20a, f21a, f22a, f23a, f24a, f25a, f26a, f27a, f28a, f29a, f30a, f31a, f32a, f33a, f34a, f35a, f36a, f37a, f38a, f39a, f40a, f41a, f42a, f43a, f44a, f45a, f46a, f47a, f48a, f49a, f50a, f51a, f52a, f53a, f54a, f55a, f56a, f57a, f58a, f59a, f60a, f61a, f62a, f63a, f64a, f65a, f66a, f67a, f68a] [c0a, c1a, c2a, c3a, c4a, c5a] (some (a, ns)) [(pt66, (PySem.Str.ofString "_law_words.<locals>.<lambda>")), (pt67, (PySem.Str.ofString "_law_right.<locals>.<lambda>")), (pt68, (PySem.Str.ofString "law.<locals>.<lambda>"))])) (c := cf0) (n := 60) (q := (PySem.Str.ofString "_law_words.<locals>.<lambda>")) (hW a ns) rfl rfl (hd0 base) hm l66 cc66 k66 sc66 B66 rfl rfl (KS := 60) c66 rfl (b3 (cr66, pt66) (by simp)) (fun _ => rfl) (by simp [glo]) ?_
      exact fun p hp e => by
        simp only [glo, List.mem_cons, List.not_mem_nil, or_false] at hp
        rcases hp with rfl | rfl | rfl
        · rfl
        · exact absurd e (by have := ne66_67; rw [beq_eq_false_iff_ne] at this; exact this)
        · exact absurd e (by have := ne66_68; rw [beq_eq_false_iff_ne] at this; exact this)
  have D66 := D66'
  have hd1 : ∀ base : Heap, K.In base → base.Ns mainGlobals mg → (∀ p ∈ [(cr66, pt66), (cr67, pt67), (cr68, pt68)], LamX.TabB base mg p.1 p.2) → ∀ i, ok1 i = true → DefOk (glo K w [f0a, f1a, f2a, f3a, f4a, f5a, f6a, f7a, f8a, f9a, f10a, f11a, f12a, f13a, f14a, f15a, f16a, f17a, f18a, f19a, f20a, f21a, f22a, f23a, f24a, f25a, f26a, f27a, f28a, f29a, f30a, f31a, f32a, f33a, f34a, f35a, f36a, f37a, f38a, f39a, f40a, f41a, f42a, f43a, f44a, f45a, f46a, f47a, f48a, f49a, f50a, f51a, f52a, f53a, f54a, f55a, f56a, f57a, f58a, f59a, f60a, f61a, f62a, f63a, f64a, f65a, f66a, f67a, f68a] [c0a, c1a, c2a, c3a, c4a, c5a] (some (a, ns)) [(pt66, (PySem.Str.ofString "_law_words.<locals>.<lambda>")), (pt67, (PySem.Str.ofString "_law_right.<locals>.<lambda>")), (pt68, (PySem.Str.ofString "law.<locals>.<lambda>"))]) l.prog w mg base 16 (call1 i) i := fun base b1 b2 b3 i h => by
    unfold ok1 at h
    unfold call1
    split
    · exact D66 base b1 b2 b3
    · rename_i z
      split at h
      · exact absurd rfl z
      · exact (hd0 base i h).mono (by omega)
  have D67' : ∀ base : Heap, K.In base → base.Ns mainGlobals mg → (∀ p ∈ [(cr66, pt66), (cr67, pt67), (cr68, pt68)], LamX.TabB base mg p.1 p.2) → DefOk (glo K w [f0a, f1a, f2a, f3a, f4a, f5a, f6a, f7a, f8a, f9a, f10a, f11a, f12a, f13a, f14a, f15a, f16a, f17a, f18a, f19a, f20a, f21a, f22a, f23a, f24a, f25a, f26a, f27a, f28a, f29a, f30a, f31a, f32a, f33a, f34a, f35a, f36a, f37a, f38a, f39a, f40a, f41a, f42a, f43a, f44a, f45a, f46a, f47a, f48a, f49a, f50a, f51a, f52a, f53a, f54a, f55a, f56a, f57a, f58a, f59a, f60a, f61a, f62a, f63a, f64a, f65a, f66a, f67a, f68a] [c0a, c1a, c2a, c3a, c4a, c5a] (some (a, ns)) [(pt66, (PySem.Str.ofString "_law_words.<locals>.<lambda>")), (pt67, (PySem.Str.ofString "_law_right.<locals>.<lambda>")), (pt68, (PySem.Str.ofString "law.<locals>.<lambda>"))]) l.prog w mg base 19 R67 67 := fun base b1 b2 b3 => by
      refine lam_ok (G := (glo K w [f0a, f1a, f2a, f3a, f4a, f5a, f6a, f7a, f8a, f9a, f10a, f11a, f12a, f13a, f14a, f15a, f16a, f17a, f18a, f19a, f20a, f21a, f22a, f23a, f24a, f25a, f26a, f27a, f28a, f29a, f30a, f31a, f32a, f33a, f34a, f35a, f36a, f37a, f38a, f39a, f40a, f41a, f42a, f43a, f44a, f45a, f46a, f47a, f48a, f49a, f50a, f51a, f52a, f53a, f54a, f55a, f56a, f57a, f58a, f59a, f60a, f61a, f62a, f63a, f64a, f65a, f66a, f67a, f68a] [c0a, c1a, c2a, c3a, c4a, c5a] (some (a, ns)) [(pt66, (PySem.Str.ofString "_law_words.<locals>.<lambda>")), (pt67, (PySem.Str.ofString "_law_right.<locals>.<lambda>")), (pt68, (PySem.Str.ofString "law.<locals>.<lambda>"))])) (c := cf1) (n := 60) (q := (PySem.Str.ofString "_law_right.<locals>.<lambda>")) (hW a ns) rfl rfl (hd1 base b1 b2 b3) hm l67 cc67 k67 sc67 B67 rfl rfl (KS := 60) c67 rfl (b3 (cr67, pt67) (by simp)) (fun _ => rfl) (by simp [glo]) ?_
      exact fun p hp e => by
        simp only [glo, List.mem_cons, List.not_mem_nil, or_false] at hp
        rcases hp with rfl | rfl | rfl
        · exact absurd e (by have := ne66_67; rw [beq_eq_false_iff_ne] at this; exact fun z => this z.symm)
        · rfl
        · exact absurd e (by have := ne67_68; rw [beq_eq_false_iff_ne] at this; exact this)
  have D67 : ∀ base : Heap, K.In base → base.Ns mainGlobals mg → (∀ p ∈ [(cr66, pt66), (cr67, pt67), (cr68, pt68)], LamX.TabB base mg p.1 p.2) → DefOk (glo K w [f0a, f1a, f2a, f3a, f4a, f5a, f6a, f7a, f8a, f9a, f10a, f11a, f12a, f13a, f14a, f15a, f16a, f17a, f18a, f19a, f20a, f21a, f22a, f23a, f24a, f25a, f26a, f27a, f28a, f29a, f30a, f31a, f32a, f33a, f34a, f35a, f36a, f37a, f38a, f39a, f40a, f41a, f42a, f43a, f44a, f45a, f46a, f47a, f48a, f49a, f50a, f51a, f52a, f53a, f54a, f55a, f56a, f57a, f58a, f59a, f60a, f61a, f62a, f63a, f64a, f65a, f66a, f67a, f68a] [c0a, c1a, c2a, c3a, c4a, c5a] (some (a, ns)) [(pt66, (PySem.Str.ofString "_law_words.<locals>.<lambda>")), (pt67, (PySem.Str.ofString "_law_right.<locals>.<lambda>")), (pt68, (PySem.Str.ofString "law.<locals>.<lambda>"))]) l.prog w mg base 19 M67 67 := fun base b1 b2 b3 => (D67' base b1 b2 b3).memoT al67
  have hd2 : ∀ base : Heap, K.In base → base.Ns mainGlobals mg → (∀ p ∈ [(cr66, pt66), (cr67, pt67), (cr68, pt68)], LamX.TabB base mg p.1 p.2) → ∀ i, ok2 i = true → DefOk (glo K w [f0a, f1a, f2a, f3a, f4a, f5a, f6a, f7a, f8a, f9a, f10a, f11a, f12a, f13a, f14a, f15a, f16a, f17a, f18a, f19a, f20a, f21a, f22a, f23a, f24a, f25a, f26a, f27a, f28a, f29a, f30a, f31a, f32a, f33a, f34a, f35a, f36a, f37a, f38a, f39a, f40a, f41a, f42a, f43a, f44a, f45a, f46a, f47a, f48a, f49a, f50a, f51a, f52a, f53a, f54a, f55a, f56a, f57a, f58a, f59a, f60a, f61a, f62a, f63a, f64a, f65a, f66a, f67a, f68a] [c0a, c1a, c2a, c3a, c4a, c5a] (some (a, ns)) [(pt66, (PySem.Str.ofString "_law_words.<locals>.<lambda>")), (pt67, (PySem.Str.ofString "_law_right.<locals>.<lambda>")), (pt68, (PySem.Str.ofString "law.<locals>.<lambda>"))]) l.prog w mg base 19 (call2 i) i := fun base b1 b2 b3 i h => by
    unfold ok2 at h
    unfold call2
    split
    · exact D67 base b1 b2 b3
    · rename_i z
      split at h
      · exact absurd rfl z
      · exact (hd1 base b1 b2 b3 i h).mono (by omega)
  have D68' : ∀ base : Heap, K.In base → base.Ns mainGlobals mg → (∀ p ∈ [(cr66, pt66), (cr67, pt67), (cr68, pt68)], LamX.TabB base mg p.1 p.2) → DefOk (glo K w [f0a, f1a, f2a, f3a, f4a, f5a, f6a, f7a, f8a, f9a, f10a, f11a, f12a, f13a, f14a, f15a, f16a, f17a, f18a, f19a, f20a, f21a, f22a, f23a, f24a, f25a, f26a, f27a, f28a, f29a, f30a, f31a, f32a, f33a, f34a, f35a, f36a, f37a, f38a, f39a, f40a, f41a, f42a, f43a, f44a, f45a, f46a, f47a, f48a, f49a, f50a, f51a, f52a, f53a, f54a, f55a, f56a, f57a, f58a, f59a, f60a, f61a, f62a, f63a, f64a, f65a, f66a, f67a, f68a] [c0a, c1a, c2a, c3a, c4a, c5a] (some (a, ns)) [(pt66, (PySem.Str.ofString "_law_words.<locals>.<lambda>")), (pt67, (PySem.Str.ofString "_law_right.<locals>.<lambda>")), (pt68, (PySem.Str.ofString "law.<locals>.<lambda>"))]) l.prog w mg base 22 R68 68 := fun base b1 b2 b3 => by
      refine lam_ok (G := (glo K w [f0a, f1a, f2a, f3a, f4a, f5a, f6a, f7a, f8a, f9a, f10a, f11a, f12a, f13a, f14a, f15a, f16a, f17a, f18a, f19a, f20a, f21a, f22a, f23a, f24a, f25a, f26a, f27a, f28a, f29a, f30a, f31a, f32a, f33a, f34a, f35a, f36a, f37a, f38a, f39a, f40a, f41a, f42a, f43a, f44a, f45a, f46a, f47a, f48a, f49a, f50a, f51a, f52a, f53a, f54a, f55a, f56a, f57a, f58a, f59a, f60a, f61a, f62a, f63a, f64a, f65a, f66a, f67a, f68a] [c0a, c1a, c2a, c3a, c4a, c5a] (some (a, ns)) [(pt66, (PySem.Str.ofString "_law_words.<locals>.<lambda>")), (pt67, (PySem.Str.ofString "_law_right.<locals>.<lambda>")), (pt68, (PySem.Str.ofString "law.<locals>.<lambda>"))])) (c := cf2) (n := 60) (q := (PySem.Str.ofString "law.<locals>.<lambda>")) (hW a ns) rfl rfl (hd2 base b1 b2 b3) hm l68 cc68 k68 sc68 B68 rfl rfl (KS := 60) c68 rfl (b3 (cr68, pt68) (by simp)) (fun _ => rfl) (by simp [glo]) ?_
      exact fun p hp e => by
        simp only [glo, List.mem_cons, List.not_mem_nil, or_false] at hp
        rcases hp with rfl | rfl | rfl
        · exact absurd e (by have := ne66_68; rw [beq_eq_false_iff_ne] at this; exact fun z => this z.symm)
        · exact absurd e (by have := ne67_68; rw [beq_eq_false_iff_ne] at this; exact fun z => this z.symm)
        · rfl
  have D68 := D68'
  exact ⟨(glo K w [f0a, f1a, f2a, f3a, f4a, f5a, f6a, f7a, f8a, f9a, f10a, f11a, f12a, f13a, f14a, f15a, f16a, f17a, f18a, f19a, f20a, f21a, f22a, f23a, f24a, f25a, f26a, f27a, f28a, f29a, f30a, f31a, f32a, f33a, f34a, f35a, f36a, f37a, f38a, f39a, f40a, f41a, f42a, f43a, f44a, f45a, f46a, f47a, f48a, f49a, f50a, f51a, f52a, f53a, f54a, f55a, f56a, f57a, f58a, f59a, f60a, f61a, f62a, f63a, f64a, f65a, f66a, f67a, f68a] [c0a, c1a, c2a, c3a, c4a, c5a] (some (a, ns)) [(pt66, (PySem.Str.ofString "_law_words.<locals>.<lambda>")), (pt67, (PySem.Str.ofString "_law_right.<locals>.<lambda>")), (pt68, (PySem.Str.ofString "law.<locals>.<lambda>"))]), 68, 22, M68, rfl, rfl, rfl, by
    simp only [glo, List.forall_mem_cons, List.not_mem_nil, false_imp_iff, implies_true, and_true, List.map_cons, List.map_nil]
    simp, ⟨rfl, by decide, by decide⟩, law_all, D68⟩
end EV

set_option Elab.async false
set_option linter.all false
set_option maxRecDepth 100000
set_option maxHeartbeats 0
namespace EV
end EV
open PySem PySem.W PyProof.Rows
set_option maxRecDepth 100000 in
set_option maxHeartbeats 0 in
theorem PySem.Challenge.cw_beatpoints_k04_errors_of_spaces_holds : PySem.Challenge.rw_beatpoints_k04_errors_of_spaces.Holds := by
  w_on; o_law; k_head; (case hw => w_witness2)
  k_fill
  refine EV.walk_ofX (l := PySem.Challenge.rw_beatpoints_k04_errors_of_spaces) rfl rfl (fun w h Y => PySem.W.km_in_of Y) ?F
  case F =>
    intro w mg fa h Y KX Gn hmg
    refine' EV.all_mk KX Gn hmg (PySem.W.km_tabs_of Y) ?a0 ?l0 ?cc0 ?k0 ?a1 ?l1 ?cc1 ?k1 ?a2 ?l2 ?cc2 ?k2 ?a3 ?l3 ?cc3 ?k3 ?a4 ?l4 ?cc4 ?k4 ?a5 ?l5 ?cc5 ?k5 ?a6 ?l6 ?cc6 ?k6 ?a7 ?l7 ?cc7 ?k7 ?a8 ?l8 ?cc8 ?k8 ?a9 ?l9 ?cc9 ?k9 ?a10 ?l10 ?cc10 ?k10 ?a11 ?l11 ?cc11 ?k11 ?a12 ?l12 ?cc12 ?k12 ?a13 ?l13 ?cc13 ?k13 ?a14 ?l14 ?cc14 ?k14 ?a15 ?l15 ?cc15 ?k15 ?a16 ?l16 ?cc16 ?k16 ?a17 ?l17 ?cc17 ?k17 ?a18 ?l18 ?cc18 ?k18 ?a19 ?l19 ?cc19 ?k19 ?a20 ?l20 ?cc20 ?k20 ?a21 ?l21 ?cc21 ?k21 ?a22 ?l22 ?cc22 ?k22 ?a23 ?l23 ?cc23 ?k23 ?a24 ?l24 ?cc24 ?k24 ?a25 ?l25 ?cc25 ?k25 ?a26 ?l26 ?cc26 ?k26 ?a27 ?l27 ?cc27 ?k27 ?a28 ?l28 ?cc28 ?k28 ?a29 ?l29 ?cc29 ?k29 ?a30 ?l30 ?cc30 ?k30 ?a31 ?l31 ?cc31 ?k31 ?a32 ?l32 ?cc32 ?k32 ?a33 ?l33 ?cc33 ?k33 ?a34 ?l34 ?cc34 ?k34 ?a35 ?l35 ?cc35 ?k35 ?a36 ?l36 ?cc36 ?k36 ?a37 ?l37 ?cc37 ?k37 ?a38 ?l38 ?cc38 ?k38 ?a39 ?l39 ?cc39 ?k39 ?a40 ?l40 ?cc40 ?k40 ?a41 ?l41 ?cc41 ?k41 ?a42 ?l42 ?cc42 ?k42 ?a43 ?l43 ?cc43 ?k43 ?a44 ?l44 ?cc44 ?k44 ?a45 ?l45 ?cc45 ?k45 ?a46 ?l46 ?cc46 ?k46 ?a47 ?l47 ?cc47 ?k47 ?a48 ?l48 ?cc48 ?k48 ?a49 ?l49 ?cc49 ?k49 ?a50 ?l50 ?cc50 ?k50 ?a51 ?l51 ?cc51 ?k51 ?a52 ?l52 ?cc52 ?k52 ?a53 ?l53 ?cc53 ?k53 ?a54 ?l54 ?cc54 ?k54 ?a55 ?l55 ?cc55 ?k55 ?a56 ?l56 ?cc56 ?k56 ?a57 ?l57 ?cc57 ?k57 ?a58 ?l58 ?cc58 ?k58 ?a59 ?l59 ?cc59 ?k59 ?a60 ?l60 ?cc60 ?k60 ?a61 ?l61 ?cc61 ?k61 ?a62 ?l62 ?cc62 ?k62 ?a63 ?l63 ?cc63 ?k63 ?a64 ?l64 ?cc64 ?k64 ?a65 ?l65 ?cc65 ?k65 ?a66 ?l66 ?cc66 ?k66 ?lc66 ?lt66 ?ch66 ?ln66 ?tb66 ?a67 ?l67 ?cc67 ?k67 ?lc67 ?lt67 ?ch67 ?ln67 ?tb67 ?a68 ?l68 ?cc68 ?k68 ?lc68 ?lt68 ?ch68 ?ln68 ?tb68 ?ne66_67 ?ne66_68 ?ne67_68 ?b_abs ?b_all ?b_any ?b_bool ?b_dict ?b_enumerate ?b_int ?b_isinstance ?b_len ?b_list ?b_max ?b_min ?b_range ?b_repr ?b_sorted ?b_str ?b_super ?b_tuple ?b_zip ?k_FAR ?k_PAIR_SIZE ?k_MOST_POINTS ?k_MOST_PAIRS ?k_JOINED ?k_IN_PIECES ?qa0 ?qs0 ?qt0 ?qk0 ?qx0 ?qa1 ?qs1 ?qt1 ?qk1 ?qx1 ?qa2 ?qs2 ?qt2 ?qk2 ?qx2 ?qa3 ?qs3 ?qt3 ?qk3 ?qx3 ?qa4 ?qs4 ?qt4 ?qk4 ?qx4 ?qa5 ?qs5 ?qt5 ?qk5 ?qx5 ?qo5 ?qh5 ?qe5 ?qf5 ?qi5 ?qj5 ?qu5 ?qb5 ?qm5 ?qg5 ?qd5 ?qn5 ?il5 ?ii5 ?im5 ?in5 ?ip5 ?iq5 ?qop ?qtop ?e0_0 ?e0_1 ?e0_2 ?e0_3 ?e0_4 ?e0_5 ?e1_0 ?e1_1 ?e1_2 ?e1_3 ?e1_4 ?e1_5 ?e2_0 ?e2_1 ?e2_2 ?e2_3 ?e2_4 ?e2_5 ?e3_0 ?e3_1 ?e3_2 ?e3_3 ?e3_4 ?e3_5 ?e4_0 ?e4_1 ?e4_2 ?e4_3 ?e4_4 ?e4_5 ?e5_0 ?e5_1 ?e5_2 ?e5_3 ?e5_4 ?e5_5
    (case a0 => first | k_is | kernel_rfl | rfl | decide)
    (case l0 => first | k_is | kernel_rfl | rfl | decide)
    (case cc0 => first | k_is | kernel_rfl | rfl | decide)
    (case k0 => first | k_is | kernel_rfl | rfl | decide)
    (case a1 => first | k_is | kernel_rfl | rfl | decide)
    (case l1 => first | k_is | kernel_rfl | rfl | decide)
    (case cc1 => first | k_is | kernel_rfl | rfl | decide)
    (case k1 => first | k_is | kernel_rfl | rfl | decide)
    (case a2 => first | k_is | kernel_rfl | rfl | decide)
    (case l2 => first | k_is | kernel_rfl | rfl | decide)
    (case cc2 => first | k_is | kernel_rfl | rfl | decide)
    (case k2 => first | k_is | kernel_rfl | rfl | decide)
    (case a3 => first | k_is | kernel_rfl | rfl | decide)
    (case l3 => first | k_is | kernel_rfl | rfl | decide)
    (case cc3 => first | k_is | kernel_rfl | rfl | decide)
    (case k3 => first | k_is | kernel_rfl | rfl | decide)
    (case a4 => first | k_is | kernel_rfl | rfl | decide)
    (case l4 => first | k_is | kernel_rfl | rfl | decide)
    (case cc4 => first | k_is | kernel_rfl | rfl | decide)
    (case k4 => first | k_is | kernel_rfl | rfl | decide)
    (case a5 => first | k_is | kernel_rfl | rfl | decide)
    (case l5 => first | k_is | kernel_rfl | rfl | decide)
    (case cc5 => first | k_is | kernel_rfl | rfl | decide)
    (case k5 => first | k_is | kernel_rfl | rfl | decide)
    (case a6 => first | k_is | kernel_rfl | rfl | decide)
    (case l6 => first | k_is | kernel_rfl | rfl | decide)
    (case cc6 => first | k_is | kernel_rfl | rfl | decide)
    (case k6 => first | k_is | kernel_rfl | rfl | decide)
    (case a7 => first | k_is | kernel_rfl | rfl | decide)
    (case l7 => first | k_is | kernel_rfl | rfl | decide)
    (case cc7 => first | k_is | kernel_rfl | rfl | decide)
    (case k7 => first | k_is | kernel_rfl | rfl | decide)
    (case a8 => first | k_is | kernel_rfl | rfl | decide)
    (case l8 => first | k_is | kernel_rfl | rfl | decide)
    (case cc8 => first | k_is | kernel_rfl | rfl | decide)
    (case k8 => first | k_is | kernel_rfl | rfl | decide)
    (case a9 => first | k_is | kernel_rfl | rfl | decide)
    (case l9 => first | k_is | kernel_rfl | rfl | decide)
    (case cc9 => first | k_is | kernel_rfl | rfl | decide)
    (case k9 => first | k_is | kernel_rfl | rfl | decide)
    (case a10 => first | k_is | kernel_rfl | rfl | decide)
    (case l10 => first | k_is | kernel_rfl | rfl | decide)
    (case cc10 => first | k_is | kernel_rfl | rfl | decide)
    (case k10 => first | k_is | kernel_rfl | rfl | decide)
    (case a11 => first | k_is | kernel_rfl | rfl | decide)
    (case l11 => first | k_is | kernel_rfl | rfl | decide)
    (case cc11 => first | k_is | kernel_rfl | rfl | decide)
    (case k11 => first | k_is | kernel_rfl | rfl | decide)
    (case a12 => first | k_is | kernel_rfl | rfl | decide)
    (case l12 => first | k_is | kernel_rfl | rfl | decide)
    (case cc12 => first | k_is | kernel_rfl | rfl | decide)
    (case k12 => first | k_is | kernel_rfl | rfl | decide)
    (case a13 => first | k_is | kernel_rfl | rfl | decide)
    (case l13 => first | k_is | kernel_rfl | rfl | decide)
    (case cc13 => first | k_is | kernel_rfl | rfl | decide)
    (case k13 => first | k_is | kernel_rfl | rfl | decide)
    (case a14 => first | k_is | kernel_rfl | rfl | decide)
    (case l14 => first | k_is | kernel_rfl | rfl | decide)
    (case cc14 => first | k_is | kernel_rfl | rfl | decide)
    (case k14 => first | k_is | kernel_rfl | rfl | decide)
    (case a15 => first | k_is | kernel_rfl | rfl | decide)
    (case l15 => first | k_is | kernel_rfl | rfl | decide)
    (case cc15 => first | k_is | kernel_rfl | rfl | decide)
    (case k15 => first | k_is | kernel_rfl | rfl | decide)
    (case a16 => first | k_is | kernel_rfl | rfl | decide)
    (case l16 => first | k_is | kernel_rfl | rfl | decide)
    (case cc16 => first | k_is | kernel_rfl | rfl | decide)
    (case k16 => first | k_is | kernel_rfl | rfl | decide)
    (case a17 => first | k_is | kernel_rfl | rfl | decide)
    (case l17 => first | k_is | kernel_rfl | rfl | decide)
    (case cc17 => first | k_is | kernel_rfl | rfl | decide)
    (case k17 => first | k_is | kernel_rfl | rfl | decide)
    (case a18 => first | k_is | kernel_rfl | rfl | decide)
    (case l18 => first | k_is | kernel_rfl | rfl | decide)
    (case cc18 => first | k_is | kernel_rfl | rfl | decide)
    (case k18 => first | k_is | kernel_rfl | rfl | decide)
    (case a19 => first | k_is | kernel_rfl | rfl | decide)
    (case l19 => first | k_is | kernel_rfl | rfl | decide)
    (case cc19 => first | k_is | kernel_rfl | rfl | decide)
    (case k19 => first | k_is | kernel_rfl | rfl | decide)
    (case a20 => first | k_is | kernel_rfl | rfl | decide)
    (case l20 => first | k_is | kernel_rfl | rfl | decide)
    (case cc20 => first | k_is | kernel_rfl | rfl | decide)
    (case k20 => first | k_is | kernel_rfl | rfl | decide)
    (case a21 => first | k_is | kernel_rfl | rfl | decide)
    (case l21 => first | k_is | kernel_rfl | rfl | decide)
    (case cc21 => first | k_is | kernel_rfl | rfl | decide)
    (case k21 => first | k_is | kernel_rfl | rfl | decide)
    (case a22 => first | k_is | kernel_rfl | rfl | decide)
    (case l22 => first | k_is | kernel_rfl | rfl | decide)
    (case cc22 => first | k_is | kernel_rfl | rfl | decide)
    (case k22 => first | k_is | kernel_rfl | rfl | decide)
    (case a23 => first | k_is | kernel_rfl | rfl | decide)
    (case l23 => first | k_is | kernel_rfl | rfl | decide)
    (case cc23 => first | k_is | kernel_rfl | rfl | decide)
    (case k23 => first | k_is | kernel_rfl | rfl | decide)
    (case a24 => first | k_is | kernel_rfl | rfl | decide)
    (case l24 => first | k_is | kernel_rfl | rfl | decide)
    (case cc24 => first | k_is | kernel_rfl | rfl | decide)
    (case k24 => first | k_is | kernel_rfl | rfl | decide)
    (case a25 => first | k_is | kernel_rfl | rfl | decide)
    (case l25 => first | k_is | kernel_rfl | rfl | decide)
    (case cc25 => first | k_is | kernel_rfl | rfl | decide)
    (case k25 => first | k_is | kernel_rfl | rfl | decide)
    (case a26 => first | k_is | kernel_rfl | rfl | decide)
    (case l26 => first | k_is | kernel_rfl | rfl | decide)
    (case cc26 => first | k_is | kernel_rfl | rfl | decide)
    (case k26 => first | k_is | kernel_rfl | rfl | decide)
    (case a27 => first | k_is | kernel_rfl | rfl | decide)
    (case l27 => first | k_is | kernel_rfl | rfl | decide)
    (case cc27 => first | k_is | kernel_rfl | rfl | decide)
    (case k27 => first | k_is | kernel_rfl | rfl | decide)
    (case a28 => first | k_is | kernel_rfl | rfl | decide)
    (case l28 => first | k_is | kernel_rfl | rfl | decide)
    (case cc28 => first | k_is | kernel_rfl | rfl | decide)
    (case k28 => first | k_is | kernel_rfl | rfl | decide)
    (case a29 => first | k_is | kernel_rfl | rfl | decide)
    (case l29 => first | k_is | kernel_rfl | rfl | decide)
    (case cc29 => first | k_is | kernel_rfl | rfl | decide)
    (case k29 => first | k_is | kernel_rfl | rfl | decide)
    (case a30 => first | k_is | kernel_rfl | rfl | decide)
    (case l30 => first | k_is | kernel_rfl | rfl | decide)
    (case cc30 => first | k_is | kernel_rfl | rfl | decide)
    (case k30 => first | k_is | kernel_rfl | rfl | decide)
    (case a31 => first | k_is | kernel_rfl | rfl | decide)
    (case l31 => first | k_is | kernel_rfl | rfl | decide)
    (case cc31 => first | k_is | kernel_rfl | rfl | decide)
    (case k31 => first | k_is | kernel_rfl | rfl | decide)
    (case a32 => first | k_is | kernel_rfl | rfl | decide)
    (case l32 => first | k_is | kernel_rfl | rfl | decide)
    (case cc32 => first | k_is | kernel_rfl | rfl | decide)
    (case k32 => first | k_is | kernel_rfl | rfl | decide)
    (case a33 => first | k_is | kernel_rfl | rfl | decide)
    (case l33 => first | k_is | kernel_rfl | rfl | decide)
    (case cc33 => first | k_is | kernel_rfl | rfl | decide)
    (case k33 => first | k_is | kernel_rfl | rfl | decide)
    (case a34 => first | k_is | kernel_rfl | rfl | decide)
    (case l34 => first | k_is | kernel_rfl | rfl | decide)
    (case cc34 => first | k_is | kernel_rfl | rfl | decide)
    (case k34 => first | k_is | kernel_rfl | rfl | decide)
    (case a35 => first | k_is | kernel_rfl | rfl | decide)
    (case l35 => first | k_is | kernel_rfl | rfl | decide)
    (case cc35 => first | k_is | kernel_rfl | rfl | decide)
    (case k35 => first | k_is | kernel_rfl | rfl | decide)
    (case a36 => first | k_is | kernel_rfl | rfl | decide)
    (case l36 => first | k_is | kernel_rfl | rfl | decide)
    (case cc36 => first | k_is | kernel_rfl | rfl | decide)
    (case k36 => first | k_is | kernel_rfl | rfl | decide)
    (case a37 => first | k_is | kernel_rfl | rfl | decide)
    (case l37 => first | k_is | kernel_rfl | rfl | decide)
    (case cc37 => first | k_is | kernel_rfl | rfl | decide)
    (case k37 => first | k_is | kernel_rfl | rfl | decide)
    (case a38 => first | k_is | kernel_rfl | rfl | decide)
    (case l38 => first | k_is | kernel_rfl | rfl | decide)
    (case cc38 => first | k_is | kernel_rfl | rfl | decide)
    (case k38 => first | k_is | kernel_rfl | rfl | decide)
    (case a39 => first | k_is | kernel_rfl | rfl | decide)
    (case l39 => first | k_is | kernel_rfl | rfl | decide)
    (case cc39 => first | k_is | kernel_rfl | rfl | decide)
    (case k39 => first | k_is | kernel_rfl | rfl | decide)
    (case a40 => first | k_is | kernel_rfl | rfl | decide)
    (case l40 => first | k_is | kernel_rfl | rfl | decide)
    (case cc40 => first | k_is | kernel_rfl | rfl | decide)
    (case k40 => first | k_is | kernel_rfl | rfl | decide)
    (case a41 => first | k_is | kernel_rfl | rfl | decide)
    (case l41 => first | k_is | kernel_rfl | rfl | decide)
    (case cc41 => first | k_is | kernel_rfl | rfl | decide)
    (case k41 => first | k_is | kernel_rfl | rfl | decide)
    (case a42 => first | k_is | kernel_rfl | rfl | decide)
    (case l42 => first | k_is | kernel_rfl | rfl | decide)
    (case cc42 => first | k_is | kernel_rfl | rfl | decide)
    (case k42 => first | k_is | kernel_rfl | rfl | decide)
    (case a43 => first | k_is | kernel_rfl | rfl | decide)
    (case l43 => first | k_is | kernel_rfl | rfl | decide)
    (case cc43 => first | k_is | kernel_rfl | rfl | decide)
    (case k43 => first | k_is | kernel_rfl | rfl | decide)
    (case a44 => first | k_is | kernel_rfl | rfl | decide)
    (case l44 => first | k_is | kernel_rfl | rfl | decide)
    (case cc44 => first | k_is | kernel_rfl | rfl | decide)
    (case k44 => first | k_is | kernel_rfl | rfl | decide)
    (case a45 => first | k_is | kernel_rfl | rfl | decide)
    (case l45 => first | k_is | kernel_rfl | rfl | decide)
    (case cc45 => first | k_is | kernel_rfl | rfl | decide)
    (case k45 => first | k_is | kernel_rfl | rfl | decide)
    (case a46 => first | k_is | kernel_rfl | rfl | decide)
    (case l46 => first | k_is | kernel_rfl | rfl | decide)
    (case cc46 => first | k_is | kernel_rfl | rfl | decide)
    (case k46 => first | k_is | kernel_rfl | rfl | decide)
    (case a47 => first | k_is | kernel_rfl | rfl | decide)
    (case l47 => first | k_is | kernel_rfl | rfl | decide)
    (case cc47 => first | k_is | kernel_rfl | rfl | decide)
    (case k47 => first | k_is | kernel_rfl | rfl | decide)
    (case a48 => first | k_is | kernel_rfl | rfl | decide)
    (case l48 => first | k_is | kernel_rfl | rfl | decide)
    (case cc48 => first | k_is | kernel_rfl | rfl | decide)
    (case k48 => first | k_is | kernel_rfl | rfl | decide)
    (case a49 => first | k_is | kernel_rfl | rfl | decide)
    (case l49 => first | k_is | kernel_rfl | rfl | decide)
    (case cc49 => first | k_is | kernel_rfl | rfl | decide)
    (case k49 => first | k_is | kernel_rfl | rfl | decide)
    (case a50 => first | k_is | kernel_rfl | rfl | decide)
    (case l50 => first | k_is | kernel_rfl | rfl | decide)
    (case cc50 => first | k_is | kernel_rfl | rfl | decide)
    (case k50 => first | k_is | kernel_rfl | rfl | decide)
    (case a51 => first | k_is | kernel_rfl | rfl | decide)
    (case l51 => first | k_is | kernel_rfl | rfl | decide)
    (case cc51 => first | k_is | kernel_rfl | rfl | decide)
    (case k51 => first | k_is | kernel_rfl | rfl | decide)
    (case a52 => first | k_is | kernel_rfl | rfl | decide)
    (case l52 => first | k_is | kernel_rfl | rfl | decide)
    (case cc52 => first | k_is | kernel_rfl | rfl | decide)
    (case k52 => first | k_is | kernel_rfl | rfl | decide)
    (case a53 => first | k_is | kernel_rfl | rfl | decide)
    (case l53 => first | k_is | kernel_rfl | rfl | decide)
    (case cc53 => first | k_is | kernel_rfl | rfl | decide)
    (case k53 => first | k_is | kernel_rfl | rfl | decide)
    (case a54 => first | k_is | kernel_rfl | rfl | decide)
    (case l54 => first | k_is | kernel_rfl | rfl | decide)
    (case cc54 => first | k_is | kernel_rfl | rfl | decide)
    (case k54 => first | k_is | kernel_rfl | rfl | decide)
    (case a55 => first | k_is | kernel_rfl | rfl | decide)
    (case l55 => first | k_is | kernel_rfl | rfl | decide)
    (case cc55 => first | k_is | kernel_rfl | rfl | decide)
    (case k55 => first | k_is | kernel_rfl | rfl | decide)
    (case a56 => first | k_is | kernel_rfl | rfl | decide)
    (case l56 => first | k_is | kernel_rfl | rfl | decide)
    (case cc56 => first | k_is | kernel_rfl | rfl | decide)
    (case k56 => first | k_is | kernel_rfl | rfl | decide)
    (case a57 => first | k_is | kernel_rfl | rfl | decide)
    (case l57 => first | k_is | kernel_rfl | rfl | decide)
    (case cc57 => first | k_is | kernel_rfl | rfl | decide)
    (case k57 => first | k_is | kernel_rfl | rfl | decide)
    (case a58 => first | k_is | kernel_rfl | rfl | decide)
    (case l58 => first | k_is | kernel_rfl | rfl | decide)
    (case cc58 => first | k_is | kernel_rfl | rfl | decide)
    (case k58 => first | k_is | kernel_rfl | rfl | decide)
    (case a59 => first | k_is | kernel_rfl | rfl | decide)
    (case l59 => first | k_is | kernel_rfl | rfl | decide)
    (case cc59 => first | k_is | kernel_rfl | rfl | decide)
    (case k59 => first | k_is | kernel_rfl | rfl | decide)
    (case a60 => first | k_is | kernel_rfl | rfl | decide)
    (case l60 => first | k_is | kernel_rfl | rfl | decide)
    (case cc60 => first | k_is | kernel_rfl | rfl | decide)
    (case k60 => first | k_is | kernel_rfl | rfl | decide)
    (case a61 => first | k_is | kernel_rfl | rfl | decide)
    (case l61 => first | k_is | kernel_rfl | rfl | decide)
    (case cc61 => first | k_is | kernel_rfl | rfl | decide)
    (case k61 => first | k_is | kernel_rfl | rfl | decide)
    (case a62 => first | k_is | kernel_rfl | rfl | decide)
    (case l62 => first | k_is | kernel_rfl | rfl | decide)
    (case cc62 => first | k_is | kernel_rfl | rfl | decide)
    (case k62 => first | k_is | kernel_rfl | rfl | decide)
    (case a63 => first | k_is | kernel_rfl | rfl | decide)
    (case l63 => first | k_is | kernel_rfl | rfl | decide)
    (case cc63 => first | k_is | kernel_rfl | rfl | decide)
    (case k63 => first | k_is | kernel_rfl | rfl | decide)
    (case a64 => first | k_is | kernel_rfl | rfl | decide)
    (case l64 => first | k_is | kernel_rfl | rfl | decide)
    (case cc64 => first | k_is | kernel_rfl | rfl | decide)
    (case k64 => first | k_is | kernel_rfl | rfl | decide)
    (case a65 => first | k_is | kernel_rfl | rfl | decide)
    (case l65 => first | k_is | kernel_rfl | rfl | decide)
    (case cc65 => first | k_is | kernel_rfl | rfl | decide)
    (case k65 => first | k_is | kernel_rfl | rfl | decide)
    (case a66 => first | k_is | kernel_rfl | rfl | decide)
    (case l66 => first | k_is | kernel_rfl | rfl | decide)
    (case cc66 => first | k_is | kernel_rfl | rfl | decide)
    (case k66 => first | k_is | kernel_rfl | rfl | decide)
    (case lc66 => first | k_is | kernel_rfl | rfl | decide)
    (case lt66 => first | rfl | kernel_rfl | decide +kernel)
    (case ch66 => first | k_is | kernel_rfl | rfl | decide)
    (case ln66 => first | rfl | kernel_rfl | decide +kernel)
    (case tb66 => decide)
    (case a67 => first | k_is | kernel_rfl | rfl | decide)
    (case l67 => first | k_is | kernel_rfl | rfl | decide)
    (case cc67 => first | k_is | kernel_rfl | rfl | decide)
    (case k67 => first | k_is | kernel_rfl | rfl | decide)
    (case lc67 => first | k_is | kernel_rfl | rfl | decide)
    (case lt67 => first | rfl | kernel_rfl | decide +kernel)
    (case ch67 => first | k_is | kernel_rfl | rfl | decide)
    (case ln67 => first | rfl | kernel_rfl | decide +kernel)
    (case tb67 => decide)
    (case a68 => first | k_is | kernel_rfl | rfl | decide)
    (case l68 => first | k_is | kernel_rfl | rfl | decide)
    (case cc68 => first | k_is | kernel_rfl | rfl | decide)
    (case k68 => first | k_is | kernel_rfl | rfl | decide)
    (case lc68 => first | k_is | kernel_rfl | rfl | decide)
    (case lt68 => first | rfl | kernel_rfl | decide +kernel)
    (case ch68 => first | k_is | kernel_rfl | rfl | decide)
    (case ln68 => first | rfl | kernel_rfl | decide +kernel)
    (case tb68 => decide)
    (case ne66_67 => first | rfl | decide)
    (case ne66_68 => first | rfl | decide)
    (case ne67_68 => first | rfl | decide)
    (case b_abs => first | k_is | kernel_rfl | rfl | decide)
    (case b_all => first | k_is | kernel_rfl | rfl | decide)
    (case b_any => first | k_is | kernel_rfl | rfl | decide)
    (case b_bool => first | k_is | kernel_rfl | rfl | decide)
    (case b_dict => first | k_is | kernel_rfl | rfl | decide)
    (case b_enumerate => first | k_is | kernel_rfl | rfl | decide)
    (case b_int => first | k_is | kernel_rfl | rfl | decide)
    (case b_isinstance => first | k_is | kernel_rfl | rfl | decide)
    (case b_len => first | k_is | kernel_rfl | rfl | decide)
    (case b_list => first | k_is | kernel_rfl | rfl | decide)
    (case b_max => first | k_is | kernel_rfl | rfl | decide)
    (case b_min => first | k_is | kernel_rfl | rfl | decide)
    (case b_range => first | k_is | kernel_rfl | rfl | decide)
    (case b_repr => first | k_is | kernel_rfl | rfl | decide)
    (case b_sorted => first | k_is | kernel_rfl | rfl | decide)
    (case b_str => first | k_is | kernel_rfl | rfl | decide)
    (case b_super => first | k_is | kernel_rfl | rfl | decide)
    (case b_tuple => first | k_is | kernel_rfl | rfl | decide)
    (case b_zip => first | k_is | kernel_rfl | rfl | decide)
    (case k_FAR => first | k_is | kernel_rfl | rfl | decide)
    (case k_PAIR_SIZE => first | k_is | kernel_rfl | rfl | decide)
    (case k_MOST_POINTS => first | k_is | kernel_rfl | rfl | decide)
    (case k_MOST_PAIRS => first | k_is | kernel_rfl | rfl | decide)
    (case k_JOINED => first | k_is | kernel_rfl | rfl | decide)
    (case k_IN_PIECES => first | k_is | kernel_rfl | rfl | decide)
    (case qa0 => first | k_is | kernel_rfl | rfl | decide)
    (case qs0 => first | k_is | kernel_rfl | rfl | decide)
    (case qt0 => first | k_is | kernel_rfl | rfl | decide)
    (case qk0 => first | k_is | kernel_rfl | rfl | decide)
    (case qx0 => first | k_is | kernel_rfl | rfl | decide)
    (case qa1 => first | k_is | kernel_rfl | rfl | decide)
    (case qs1 => first | k_is | kernel_rfl | rfl | decide)
    (case qt1 => first | k_is | kernel_rfl | rfl | decide)
    (case qk1 => first | k_is | kernel_rfl | rfl | decide)
    (case qx1 => first | k_is | kernel_rfl | rfl | decide)
    (case qa2 => first | k_is | kernel_rfl | rfl | decide)
    (case qs2 => first | k_is | kernel_rfl | rfl | decide)
    (case qt2 => first | k_is | kernel_rfl | rfl | decide)
    (case qk2 => first | k_is | kernel_rfl | rfl | decide)
    (case qx2 => first | k_is | kernel_rfl | rfl | decide)
    (case qa3 => first | k_is | kernel_rfl | rfl | decide)
    (case qs3 => first | k_is | kernel_rfl | rfl | decide)
    (case qt3 => first | k_is | kernel_rfl | rfl | decide)
    (case qk3 => first | k_is | kernel_rfl | rfl | decide)
    (case qx3 => first | k_is | kernel_rfl | rfl | decide)
    (case qa4 => first | k_is | kernel_rfl | rfl | decide)
    (case qs4 => first | k_is | kernel_rfl | rfl | decide)
    (case qt4 => first | k_is | kernel_rfl | rfl | decide)
    (case qk4 => first | k_is | kernel_rfl | rfl | decide)
    (case qx4 => first | k_is | kernel_rfl | rfl | decide)
    (case qa5 => first | k_is | kernel_rfl | rfl | decide)
    (case qs5 => first | k_is | kernel_rfl | rfl | decide)
    (case qt5 => first | k_is | kernel_rfl | rfl | decide)
    (case qk5 => first | k_is | kernel_rfl | rfl | decide)
    (case qx5 => first | k_is | kernel_rfl | rfl | decide)
    (case qo5 => first | k_is | kernel_rfl | rfl | decide)
    (case qh5 => first | k_is | kernel_rfl | rfl | decide)
    (case qe5 => first | k_is | kernel_rfl | rfl | decide)
    (case qf5 => first | k_is | kernel_rfl | rfl | decide)
    (case qi5 => first | k_is | kernel_rfl | rfl | decide)
    (case qj5 => first | k_is | kernel_rfl | rfl | decide)
    (case qu5 => first | k_is | kernel_rfl | rfl | decide)
    (case qb5 => first | k_is | kernel_rfl | rfl | decide)
    (case qm5 => first | k_is | kernel_rfl | rfl | decide)
    (case qg5 => first | k_is | kernel_rfl | rfl | decide)
    (case qd5 => first | k_is | kernel_rfl | rfl | decide)
    (case qn5 => first | k_is | kernel_rfl | rfl | decide)
    (case il5 => first | k_is | kernel_rfl | rfl | decide)
    (case ii5 => first | k_is | kernel_rfl | rfl | decide)
    (case im5 => first | k_is | kernel_rfl | rfl | decide)
    (case in5 => first | rfl | kernel_rfl | decide +kernel)
    (case ip5 => first | rfl | kernel_rfl | decide +kernel)
    (case iq5 => first | k_is | kernel_rfl | rfl | decide)
    (case qop => first | k_is | kernel_rfl | rfl | decide)
    (case qtop => first | rfl | kernel_rfl | decide +kernel)
    (case e0_0 => first | k_is | kernel_rfl | rfl | decide)
    (case e0_1 => first | k_is | kernel_rfl | rfl | decide)
    (case e0_2 => first | k_is | kernel_rfl | rfl | decide)
    (case e0_3 => first | k_is | kernel_rfl | rfl | decide)
    (case e0_4 => first | k_is | kernel_rfl | rfl | decide)
    (case e0_5 => first | k_is | kernel_rfl | rfl | decide)
    (case e1_0 => first | k_is | kernel_rfl | rfl | decide)
    (case e1_1 => first | k_is | kernel_rfl | rfl | decide)
    (case e1_2 => first | k_is | kernel_rfl | rfl | decide)
    (case e1_3 => first | k_is | kernel_rfl | rfl | decide)
    (case e1_4 => first | k_is | kernel_rfl | rfl | decide)
    (case e1_5 => first | k_is | kernel_rfl | rfl | decide)
    (case e2_0 => first | k_is | kernel_rfl | rfl | decide)
    (case e2_1 => first | k_is | kernel_rfl | rfl | decide)
    (case e2_2 => first | k_is | kernel_rfl | rfl | decide)
    (case e2_3 => first | k_is | kernel_rfl | rfl | decide)
    (case e2_4 => first | k_is | kernel_rfl | rfl | decide)
    (case e2_5 => first | k_is | kernel_rfl | rfl | decide)
    (case e3_0 => first | k_is | kernel_rfl | rfl | decide)
    (case e3_1 => first | k_is | kernel_rfl | rfl | decide)
    (case e3_2 => first | k_is | kernel_rfl | rfl | decide)
    (case e3_3 => first | k_is | kernel_rfl | rfl | decide)
    (case e3_4 => first | k_is | kernel_rfl | rfl | decide)
    (case e3_5 => first | k_is | kernel_rfl | rfl | decide)
    (case e4_0 => first | k_is | kernel_rfl | rfl | decide)
    (case e4_1 => first | k_is | kernel_rfl | rfl | decide)
    (case e4_2 => first | k_is | kernel_rfl | rfl | decide)
    (case e4_3 => first | k_is | kernel_rfl | rfl | decide)
    (case e4_4 => first | k_is | kernel_rfl | rfl | decide)
    (case e4_5 => first | k_is | kernel_rfl | rfl | decide)
    (case e5_0 => first | k_is | kernel_rfl | rfl | decide)
    (case e5_1 => first | k_is | kernel_rfl | rfl | decide)
    (case e5_2 => first | k_is | kernel_rfl | rfl | decide)
    (case e5_3 => first | k_is | kernel_rfl | rfl | decide)
    (case e5_4 => first | k_is | kernel_rfl | rfl | decide)
    (case e5_5 => first | k_is | kernel_rfl | rfl | decide)
#print axioms PySem.Challenge.cw_beatpoints_k04_errors_of_spaces_holds

