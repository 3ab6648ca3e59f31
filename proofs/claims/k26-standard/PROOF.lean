import PyProof.Rows.All
import Wide.All
import OpenK.AllK
import Wide.FinOn
import HandS.ForMost
import HandS.ForExc
import HandS.Deep
import HandS.Walk
import HandS.Zip
import HandS.Conv
import HandS.CallLocal
import HandS.IsInst
import HandS.TupAny
import HandS.TupMul
import HandS.TupLe
import HandS.Wide
import HandS.Lambda
import HandS.ExcIs
import KE.KDictKeyed
import KE.SortData
import KE.DataCmp
import KE.DataMinMax
import KE.GoesMore
import KE.GoesEnum
import KE.GoesZip
import KE.KItemsList
import HandS.Zip0
import KE.KDictDisplayH
import PyProof.DictTable
import HandS.Small
import KE.KDictPairs
import HandS.Style
import KE.KDictLaws
import HandS.TryOnly
import HandS.TupSets
import HandS.EndTab
import KE.KNestM
import PySem.Challenge.RW_eventlocks_k26_standard
set_option Elab.async false
set_option linter.all false
set_option maxRecDepth 100000
/-! Mn: plain data, a small language of expressions and statements, and what they compute. -/
namespace Mn
open PySem

/-! ### data -/
inductive D where
  | non | bl (b : Bool) | int (i : Int) | str (s : Str) | tup (xs : List D) | lst (xs : List D) | dct (n : Bool) (kvs : List (D × D)) | tok (n : Nat)

mutual
/-- Python's == -/
def D.eqb : D → D → Bool
  | .non, .non => true
  | .bl a, .bl b => a == b
  | .bl a, .int j => (if a then 1 else 0) == j
  | .int i, .bl b => i == (if b then 1 else 0)
  | .int i, .int j => i == j
  | .str x, .str y => x == y
  | .lst xs, .lst ys => D.eqbs xs ys
  | .tup xs, .tup ys => D.eqbs xs ys
  | _, _ => false
def D.eqbs : List D → List D → Bool
  | [], [] => true
  | x :: xs, y :: ys => D.eqb x y && D.eqbs xs ys
  | _, _ => false
end
mutual
def D.py : D → PyData
  | .non => .none
  | .bl b => .bool b
  | .int i => .int i
  | .str x => .str x
  | .lst xs => .list (D.pys xs)
  | .tup xs => .tuple (D.pys xs)
  | .dct _ _ => .dict []
  | .tok _ => .dict []
def D.pys : List D → List PyData
  | [] => []
  | x :: xs => D.py x :: D.pys xs
end
/-- no dict within, texts in form, nested less than n deep -/
def D.okb : Nat → D → Bool
  | 0, _ => false
  | n + 1, d => match d with
    | .non => true
    | .bl _ => true
    | .int _ => true
    | .str x => PyData.strOk x
    | .lst xs => xs.all (D.okb n)
    | .tup xs => xs.all (D.okb n)
    | .dct _ _ => false
    | .tok _ => false
/-- the order of intsD, texts, bools, tuples of such -/
def D.ltb : Nat → D → D → Bool
  | 0, _, _ => false
  | n + 1, a, b => match a, b with
    | .int i, .int j => decide (i < j)
    | .bl a, .bl b => !a && b
    | .tup xs, .tup ys => lts n xs ys
    | _, _ => false
where lts (n : Nat) : List D → List D → Bool
  | [], [] => false
  | [], _ :: _ => true
  | _ :: _, [] => false
  | x :: xs, y :: ys => if D.eqb x y then lts n xs ys else D.ltb n x y

mutual
/-- the same datum -/
def D.same : D → D → Bool
  | .non, .non => true
  | .bl a, .bl b => a == b
  | .int i, .int j => i == j
  | .str x, .str y => x == y
  | .lst xs, .lst ys => D.sames xs ys
  | .tup xs, .tup ys => D.sames xs ys
  | .dct n xs, .dct m ys => n == m && D.sameP xs ys
  | .tok i, .tok j => i == j
  | _, _ => false
def D.sames : List D → List D → Bool
  | [], [] => true
  | x :: xs, y :: ys => D.same x y && D.sames xs ys
  | _, _ => false
def D.sameP : List (D × D) → List (D × D) → Bool
  | [], [] => true
  | (a, b) :: xs, (c, d) :: ys => D.same a c && D.same b d && D.sameP xs ys
  | _, _ => false
end
mutual
theorem D.same_eq : ∀ (a b : D), D.same a b = true → a = b
  | a, b, h => by
    cases a <;> cases b <;> first
      | rfl
      | (simp [D.same] at h; done)
      | (simp [D.same] at h; simp [h]; done)
      | skip
    · simp only [D.same] at h; rw [D.sames_eq _ _ h]
    · simp only [D.same] at h; rw [D.sames_eq _ _ h]
    · simp only [D.same, Bool.and_eq_true, beq_iff_eq] at h; rw [h.1, D.sameP_eq _ _ h.2]
theorem D.sames_eq : ∀ (a b : List D), D.sames a b = true → a = b
  | [], [], _ => rfl
  | [], _ :: _, h => by simp [D.sames] at h
  | _ :: _, [], h => by simp [D.sames] at h
  | x :: xs, y :: ys, h => by
    simp only [D.sames, Bool.and_eq_true] at h
    rw [D.same_eq x y h.1, D.sames_eq xs ys h.2]
theorem D.sameP_eq : ∀ (a b : List (D × D)), D.sameP a b = true → a = b
  | [], [], _ => rfl
  | [], _ :: _, h => by simp [D.sameP] at h
  | _ :: _, [], h => by simp [D.sameP] at h
  | (a, b) :: xs, (c, d) :: ys, h => by
    simp only [D.sameP, Bool.and_eq_true] at h
    rw [D.same_eq a c h.1.1, D.same_eq b d h.1.2, D.sameP_eq xs ys h.2]
end
mutual
theorem D.same_refl : ∀ a : D, D.same a a = true
  | .non => by simp [D.same]
  | .bl _ => by simp [D.same]
  | .int _ => by simp [D.same]
  | .str _ => by simp [D.same]
  | .tok _ => by simp [D.same]
  | .lst xs => by simp only [D.same]; exact D.sames_refl xs
  | .tup xs => by simp only [D.same]; exact D.sames_refl xs
  | .dct n xs => by simp only [D.same, beq_self_eq_true, Bool.true_and]; exact D.sameP_refl xs
theorem D.sames_refl : ∀ a : List D, D.sames a a = true
  | [] => by simp [D.sames]
  | x :: xs => by simp only [D.sames, Bool.and_eq_true]; exact ⟨D.same_refl x, D.sames_refl xs⟩
theorem D.sameP_refl : ∀ a : List (D × D), D.sameP a a = true
  | [] => by simp [D.sameP]
  | (a, b) :: xs => by simp only [D.sameP, Bool.and_eq_true]; exact ⟨⟨D.same_refl a, D.same_refl b⟩, D.sameP_refl xs⟩
end
def DEP : Nat := 30
def LIM : Nat := 16777216

/-! ### the state -/
inductive Slot where
  | emp | val (d : D) | lst (ds : List D) | dct (n : Bool) (kvs : List (D × D))
/-- a thing of a class: the class's number, its fields in their order -/
structure Ob where
  k : Nat
  fs : List (Str × Slot)
structure Town where
  count : Int
  rests : List (Int × Int)
  scr : List Int
  ob : List Ob
/-- the script is short, a rest for each of its places at most -/
structure Town.Fit (τ : Town) : Prop where
  len : τ.scr.length ≤ 63
  nd : (τ.rests.map (·.1)).Nodup
  key : ∀ p ∈ τ.rests, 0 ≤ p.1 ∧ p.1 < 63
structure S where
  ρ : List Slot
  τ : Town
inductive Out (α : Type) where
  | ok (a : α) (s : S) | exc (c : Nat) (τ : Town) | bad
def Out.bind {α β : Type} (o : Out α) (f : α → S → Out β) : Out β := match o with
  | .ok a s => f a s
  | .exc c τ => .exc c τ
  | .bad => .bad
def Out.of {α : Type} (o : Option α) (s : S) : Out α := match o with
  | some a => .ok a s
  | none => .bad
/-- what a def gives -/
inductive Rs where
  | ok (d : D) (τ : Town) | exc (c : Nat) (τ : Town) | bad
abbrev Fn := List D → Town → Rs

/-- the slot's value, read and kept (an owned one is frozen from then on) -/
def Slot.dat : Slot → Option D
  | .emp => none
  | .val d => some d
  | .lst ds => some (.lst ds)
  | .dct n kvs => some (.dct n kvs)
def peek (i : Nat) (s : S) : Out D := Out.of (s.ρ[i]?.bind Slot.dat) s
def take (i : Nat) (s : S) : Out D := match s.ρ[i]? with
  | some (.val d) => .ok d s
  | some (.lst ds) => .ok (.lst ds) { s with ρ := s.ρ.set i (.val (.lst ds)) }
  | some (.dct n kvs) => .ok (.dct n kvs) { s with ρ := s.ρ.set i (.val (.dct n kvs)) }
  | _ => .bad

/-! ### targets -/
inductive Pat where
  | nm (i : Nat) | pn | pc (p q : Pat) | tp (p : Pat)
def bindP : Pat → List D → List Slot → Option (List Slot)
  | .nm i, [d], ρ => if i < ρ.length then some (ρ.set i (.val d)) else none
  | .pn, [], ρ => some ρ
  | .pc p q, d :: ds, ρ => (bindP p [d] ρ).bind (bindP q ds)
  | .tp p, [.tup ds], ρ => bindP p ds ρ
  | _, _, _ => none
def Pat.slots : Pat → List Nat
  | .nm i => [i]
  | .pn => []
  | .pc p q => p.slots ++ q.slots
  | .tp p => p.slots
def setW {α : Type} (f : Nat → α) (l : List α) : List Nat → List α
  | [] => l
  | v :: vs => (setW f l vs).set v (f v)
def wipeS (ρ : List Slot) (w : List Nat) : List Slot := setW (fun _ => .emp) ρ w
def backS (ρ ρ0 : List Slot) (w : List Nat) : List Slot := setW (fun v => ρ0.getD v .emp) ρ w
def Slot.plain : Slot → Bool
  | .emp => true
  | .val _ => true
  | _ => false

/-! ### operators -/
mutual
/-- data of one shape: ints, bools, or tuples whose places are alike as far as they go -/
def D.alk : D → D → Bool
  | .int _, .int _ => true
  | .bl _, .bl _ => true
  | .tup xs, .tup ys => D.alks xs ys
  | _, _ => false
def D.alks : List D → List D → Bool
  | x :: xs, y :: ys => D.alk x y && D.alks xs ys
  | _, _ => true
end
inductive BO where
  | add | sub | mul | fdiv | mod
inductive CO where
  | eq | ne | lt | le | gt | ge | in_ | nin
def cut {α : Type} (xs : List α) (lo hi : Option Int) : List α := (xs.drop (HT.sIx xs.length 0 lo)).take (HT.sIx xs.length xs.length hi - HT.sIx xs.length 0 lo)
def rep {α : Type} (xs : List α) : Nat → List α
  | 0 => []
  | n + 1 => xs ++ rep xs n
def smallI (i : Int) : Bool := decide (i.natAbs ≤ 1000000000000)
def binD : BO → D → D → Option D
  | .add, .int i, .int j => some (.int (i + j))
  | .add, .tup a, .tup b => if a.length + b.length ≤ LIM then some (.tup (a ++ b)) else none
  | .add, .lst a, .lst b => if a.length + b.length ≤ LIM then some (.lst (a ++ b)) else none
  | .add, .str a, .str b => if a.length + b.length ≤ LIM then some (.str (a ++ b)) else none
  | .sub, .int i, .int j => some (.int (i - j))
  | .mul, .int i, .int j => if smallI i then some (.int (i * j)) else none
  | .mul, .tup a, .int k => if 2 ≤ k ∧ k ≤ 1000 ∧ 0 < a.length ∧ a.length ≤ 1000 then some (.tup (List.replicate k.toNat a).flatten) else none
  | .mul, .lst a, .int k => if 0 ≤ k ∧ k ≤ 1000 ∧ a.length ≤ 1000 then some (.lst (List.replicate k.toNat a).flatten) else none
  | .fdiv, .int i, .int j => if 0 < j ∧ j.natAbs < 1073741824 then some (.int (i / j)) else none
  | .mod, .int i, .int j => if 0 < j then some (.int (i % j)) else none
  | _, _, _ => none
def look (kvs : List (D × D)) (k : D) : Option D := (kvs.find? fun p => D.eqb p.1 k).map (·.2)
def store (kvs : List (D × D)) (k v : D) : List (D × D) :=
  if (kvs.any fun p => D.eqb p.1 k) then kvs.map fun p => if D.eqb p.1 k then (p.1, v) else p else kvs ++ [(k, v)]
/-- what may be a key -/
def keyK : D → Bool
  | .int _ => true
  | .str _ => true
  | _ => false
def D.kyb : Nat → D → Bool
  | 0, _ => false
  | n + 1, d => match d with
    | .non => true
    | .bl _ => true
    | .int _ => true
    | .str x => PyData.strOk x
    | .tup xs => xs.all (D.kyb n)
    | _ => false
def keyN (d : D) : Bool := match d with
  | .tup _ => D.kyb 8 d
  | _ => false
def keyOf (n : Bool) (k : D) : Bool := if n then keyN k else keyK k
def isIn (a : D) : D → Option Bool
  | .lst ds => if D.okb DEP a && ds.all (D.okb DEP) then some (ds.any fun z => D.eqb z a) else none
  | .tup ds => if D.okb DEP a && ds.all (D.okb DEP) then some (ds.any fun z => D.eqb z a) else none
  | .dct n kvs => if keyOf n a then some (look kvs a).isSome else none
  | .str y => match a with
    | .str x => some (!(Builtin.Str.occurrences y x 0 y.length 1).isEmpty)
    | _ => none
  | _ => none
def cmpD : CO → D → D → Option Bool
  | .eq, a, b => if D.okb DEP a && D.okb DEP b then some (D.eqb a b) else none
  | .ne, a, b => if D.okb DEP a && D.okb DEP b then some (!D.eqb a b) else none
  | .lt, .int i, .int j => some (decide (i < j))
  | .lt, .tup a, .tup b => if D.okb DEP (.tup a) && D.okb DEP (.tup b) && D.alk (.tup a) (.tup b) then some (D.ltb DEP (.tup a) (.tup b)) else none
  | .le, .int i, .int j => some (decide (i ≤ j))
  | .gt, .int i, .int j => some (decide (j < i))
  | .ge, .int i, .int j => some (decide (j ≤ i))
  | .in_, a, b => isIn a b
  | .nin, a, b => (isIn a b).map (!·)
  | _, _, _ => none
def idxD : D → D → Option D
  | .tup xs, .int i => L2.atI xs i
  | .lst xs, .int i => L2.atI xs i
  | .str x, .int i => if x.length ≤ LIM then (L2.atI x.cps.toList i).map fun c => .str ⟨#[c]⟩ else none
  | .dct n kvs, k => if keyOf n k then look kvs k else none
  | _, _ => none
def slcD (a : D) (l h : Option Int) : Option D := match a with
  | .tup xs => some (.tup (cut xs l h))
  | .lst xs => some (.lst (cut xs l h))
  | _ => none
def truth : D → Option Bool
  | .bl b => some b
  | .lst xs => some (!xs.isEmpty)
  | .tup xs => some (!xs.isEmpty)
  | .int i => some (i != 0)
  | .non => some false
  | _ => none
/-- built-in classes that isinstance asks of -/
inductive Ty where
  | int_ | bool_ | tuple_ | str_ | list_
def isTy : Ty → D → Option Bool
  | t, .int _ => some (match t with | .int_ => true | _ => false)
  | t, .bl _ => some (match t with | .int_ => true | .bool_ => true | _ => false)
  | t, .non => some false
  | t, .str _ => some (match t with | .str_ => true | _ => false)
  | t, .tup _ => some (match t with | .tuple_ => true | _ => false)
  | t, .lst _ => some (match t with | .list_ => true | _ => false)
  | _, _ => none
def bools : List D → Option (List Bool)
  | [] => some []
  | .bl b :: r => (bools r).map (b :: ·)
  | _ => none
def intsD : List D → Option (List Int)
  | [] => some []
  | .int b :: r => (intsD r).map (b :: ·)
  | _ => none
/-- built-ins of one argument -/
inductive P1 where
  | len | tuple | list | all | any | sorted | min | sum | lenset | sortset | dict | dictN | neg | rev | lrng | tzip | str
/-- stable insertion -/
def insD (x : D) : List D → List D
  | [] => [x]
  | y :: ys => if D.ltb DEP y x then y :: insD x ys else x :: y :: ys
def sortL : List D → List D
  | [] => []
  | x :: xs => insD x (sortL xs)
def dedup : List D → List D
  | [] => []
  | x :: xs => if (dedup xs).any fun y => D.eqb y x then dedup xs else x :: dedup xs
/-- ints, and tuples of such -/
def D.numb : Nat → D → Bool
  | 0, _ => false
  | n + 1, d => match d with
    | .int _ => true
    | .tup xs => xs.all (D.numb n)
    | _ => false
def tupNE : D → Bool
  | .tup (_ :: _) => true
  | _ => false
def isI : D → Bool
  | .int _ => true
  | _ => false
def sortable (xs : List D) : Bool := (xs.all (D.okb DEP)) && (xs.all fun x => xs.all fun y => D.alk x y) && (xs.all tupNE || xs.all isI)
def minL : D → List D → D
  | x, [] => x
  | x, y :: ys => minL (if D.ltb DEP y x then y else x) ys
def pairsD : List D → Option (List (D × D))
  | [] => some []
  | .tup [k, v] :: r => (pairsD r).map ((k, v) :: ·)
  | _ => none
/-- one digit -/
def dig1 (n : Nat) : Str := ⟨#[48 + n]⟩
def zipL : List D → List D → List D
  | x :: xs, y :: ys => .tup [x, y] :: zipL xs ys
  | _, _ => []
def rngL (a : Int) : Nat → List D
  | 0 => []
  | n + 1 => .int a :: rngL (a + 1) n
def prim1 : P1 → D → Option D
  | .len, .lst xs => some (.int xs.length)
  | .len, .tup xs => some (.int xs.length)
  | .len, .str x => if x.length ≤ LIM then some (.int x.length) else none
  | .tuple, .lst xs => some (.tup xs)
  | .tuple, .tup xs => some (.tup xs)
  | .list, .lst xs => some (.lst xs)
  | .list, .tup xs => some (.lst xs)
  | .list, .dct _ kvs => some (.lst (kvs.map (·.1)))
  | .all, .lst xs => (bools xs).map fun bs => .bl (bs.all id)
  | .any, .lst xs => (bools xs).map fun bs => .bl (bs.any id)
  | .sorted, .lst xs => if sortable xs then some (.lst (sortL xs)) else none
  | .sorted, .tup xs => if sortable xs then some (.lst (sortL xs)) else none
  | .sorted, .dct _ kvs => if sortable (kvs.map (·.1)) then some (.lst (sortL (kvs.map (·.1)))) else none
  | .min, .lst (x :: xs) => if sortable (x :: xs) then some (minL x xs) else none
  | .sum, .lst xs => (intsD xs).map fun ns => .int ns.sum
  | .lenset, .lst xs => (intsD xs).bind fun ns => if ns.length ≤ 1000 then some (.int (dedup xs).length) else none
  | .sortset, .lst xs => if decide (xs.length < 19) && (xs.all fun x => keyN x && D.numb 9 x) && sortable xs then some (.lst (sortL (dedup xs))) else (intsD xs).bind fun ns => if ns.length < 64 then some (.lst (sortL (dedup xs))) else none
  | .dict, .lst xs => (pairsD xs).bind fun ps => if (ps.all fun p => keyK p.1) then some (.dct false (ps.foldl (fun a p => store a p.1 p.2) [])) else none
  | .dictN, .lst xs => (pairsD xs).bind fun ps => if (ps.all fun p => keyN p.1) then some (.dct true (ps.foldl (fun a p => store a p.1 p.2) [])) else none
  | .neg, .int i => some (.int (-i))
  | .rev, .tup xs => some (.tup xs.reverse)
  | .lrng, .int n => if n.natAbs ≤ LIM then some (.lst (rngL 0 n.toNat)) else none
  | .tzip, .tup [.tup xs, .tup ys] => some (.tup (zipL xs ys))
  | .str, .int i => if i.natAbs ≤ LIM then some (.str (toString i)) else none
  | _, _ => none
/-- the items of a list or a tuple -/
def seqD : D → Option (List D)
  | .lst es => some es
  | .tup es => some es
  | _ => none
def isL : D → Bool
  | .lst _ => true
  | _ => false
def isDc : D → Bool
  | .dct _ _ => true
  | _ => false
def indexOf (k : D) : List D → Nat → Option Nat
  | [], _ => none
  | x :: xs, i => if D.eqb x k then some i else indexOf k xs (i + 1)

/-- whether it is this bool -/
def isBD (yes b : Bool) (d : D) : Bool := match d with
  | .bl c => if yes then c == b else !(c == b)
  | _ => !yes
/-! ### expressions -/
inductive Ex where
  | var (i : Nat) | cst (d : D) | gcs (k : Nat)
  | anil | acons (e a : Ex) | tup (a : Ex) | lst (a : Ex) | dnew (n : Bool) | dsp (n : Bool) (k v : Ex) | dspC (l : List (D × D))
  | bin (o : BO) (a b : Ex) | cmp (o : CO) (a b : Ex) | chn (o o' : CO) (a b c : Ex) | isN (yes : Bool) (a : Ex) | isB (yes b : Bool) (a : Ex)
  | and_ (a b : Ex) | or_ (a b : Ex) | not_ (a : Ex) | ite (c a b : Ex)
  | idx (a i : Ex) | slc (a lo hi : Ex)
  | prm (p : P1) (a : Ex) | isi (t : Ty) (a : Ex) | index (o k : Ex) | get (o k d : Ex)
  | cal (f : Nat) (a : Ex)
  | lc (w : List Nat) (e : Ex) (p : Pat) (it c : Ex) | lcp (w : List Nat) (e : Ex) (p : Pat) (i : Nat) (c : Ex)
  | rng (a : Ex) | rng2 (a b : Ex) | enm (a : Ex) | zip (a b : Ex) | enmzip (a b : Ex)
  | res (rs : List Nat) (e : Ex) | bad | calv (i : Nat) (fs : List (Nat × Nat)) (a : Ex)
def Ex.isV : Ex → Bool
  | .var _ => true
  | _ => false
def Ex.isNil : Ex → Bool
  | .anil => true
  | _ => false
def Ex.vix : Ex → Nat
  | .var i => i
  | _ => 0

/-- the names that the laws give to errors -/
def errN : List Str := ["model", "operations", "state", "kind", "event", "block", "word", "places", "table", "groups", "number", "method", "run", "transaction", "text", "compare", "reducible", "large", "many", "undo"]
def Slot.lend : Slot → Slot
  | .lst _ => .emp
  | .dct _ _ => .emp
  | x => x
def items : D → Option (List D)
  | .lst xs => some xs
  | .tup xs => some xs
  | .dct _ kvs => some (kvs.map (·.1))
  | _ => none
def enumL : Nat → List D → List D
  | _, [] => []
  | i, x :: xs => .tup [.int i, x] :: enumL (i + 1) xs
def zipD : D → D → Option D
  | .lst xs, .lst ys => some (.lst (zipL xs ys))
  | .tup xs, .tup ys => some (.lst (zipL xs ys))
  | _, _ => none
def ezipD : D → D → Option D
  | .tup xs, .tup ys => some (.lst (enumL 0 (zipL xs ys)))
  | _, _ => none
def rngD : D → D → Option D
  | .int a, .int b => if a.natAbs ≤ LIM ∧ b.natAbs ≤ LIM ∧ (b - a).toNat ≤ LIM then some (.lst (rngL a (b - a).toNat)) else none
  | _, _ => none
/-- the slot still owns this list -/
def keepL (i : Nat) (ds : List D) (s : S) : Bool := match s.ρ[i]? with
  | some (.lst es) => D.sames es ds
  | _ => false
theorem keepL_eq {i : Nat} {ds : List D} {s : S} (h : keepL i ds s = true) : s.ρ[i]? = some (.lst ds) := by
  unfold keepL at h
  split at h
  · rename_i es e
    rw [e, D.sames_eq _ _ h]
  · cases h
/-- the turns of a comprehension -/
def lcL (f : D → S → Out (Option D)) (g : S → S) : List D → List D → S → Out (List D)
  | [], acc, s => .ok acc s
  | x :: xs, acc, s => (f x (g s)).bind fun o s1 => match o with
    | some d => lcL f g xs (acc ++ [d]) s1
    | none => lcL f g xs acc s1
def Out.quiet {α : Type} : Out α → Out α
  | .exc _ _ => .bad
  | o => o

section
variable (Φ : Nat → Fn) (gc : Nat → D)
def callD (f : Nat) (d : D) (s : S) : Out D := match d with
  | .tup ds => match Φ f ds s.τ with
    | .ok r τ => .ok r { s with τ := τ }
    | .exc c τ => .exc c τ
    | .bad => .bad
  | _ => .bad
def reread (a : Ex) (d : D) (s : S) : Out D := if a.isV then peek a.vix s else .ok d s
def asBl (d : D) (s : S) : Out D := match d with
  | .bl b => .ok (.bl b) s
  | _ => .bad
/-- an end of a slice -/
def part (e : Ex) (o : Out D) (s : S) : Out (Option Int) := if e.isNil then .ok none s else o.bind fun d s1 => match d with
  | .int i => .ok (some i) s1
  | _ => .bad
def asTest (d : D) (s : S) : Out Bool := Out.of (truth d) s
def ev : Ex → S → Out D
  | .var i, s => take i s
  | .cst d, s => .ok d s
  | .gcs k, s => .ok (gc k) s
  | .anil, s => .ok (.tup []) s
  | .acons e a, s => (ev e s).bind fun d s1 => (ev a s1).bind fun r s2 => match r with
    | .tup ds => .ok (.tup (d :: ds)) s2
    | _ => .bad
  | .tup a, s => ev a s
  | .lst a, s => (ev a s).bind fun r s1 => match r with
    | .tup ds => .ok (.lst ds) s1
    | _ => .bad
  | .dnew n, s => .ok (.dct n []) s
  | .dsp n k v, s => (ev k s).bind fun x s1 => (ev v s1).bind fun y s2 => if keyOf n x then .ok (.dct n [(x, y)]) s2 else .bad
  | .dspC l, s => if (l.all fun p => keyN p.1) then .ok (.dct true (l.foldl (fun a p => store a p.1 p.2) [])) s else .bad
  | .bin o a b, s => (if a.isV then peek a.vix s else ev a s).bind fun x s1 => (if b.isV then peek b.vix s1 else ev b s1).bind fun y s2 => (reread a x s2).bind fun x' s3 => Out.of (binD o x' y) s3
  | .cmp o a b, s => (if a.isV then peek a.vix s else ev a s).bind fun x s1 => (if b.isV then peek b.vix s1 else ev b s1).bind fun y s2 => (reread a x s2).bind fun x' s3 => Out.of ((cmpD o x' y).map .bl) s3
  | .chn o o' a b c, s => (ev a s).bind fun x s1 => (ev b s1).bind fun y s2 => match cmpD o x y with
    | some true => (ev c s2).bind fun z s3 => Out.of ((cmpD o' y z).map .bl) s3
    | some false => .ok (.bl false) s2
    | none => .bad
  | .isB yes b a, s => (ev a s).bind fun x s1 => .ok (.bl (isBD yes b x)) s1
  | .isN yes a, s => (ev a s).bind fun x s1 => .ok (.bl (match x with | .non => yes | _ => !yes)) s1
  | .and_ a b, s => (ev a s).bind fun x s1 => match x with
    | .bl true => (ev b s1).bind asBl
    | .bl false => .ok (.bl false) s1
    | _ => .bad
  | .or_ a b, s => (ev a s).bind fun x s1 => match x with
    | .bl true => .ok (.bl true) s1
    | .bl false => (ev b s1).bind asBl
    | _ => .bad
  | .not_ a, s => (ev a s).bind fun x s1 => match x with
    | .bl k => .ok (.bl (!k)) s1
    | _ => .bad
  | .ite c a b, s => ((if c.isV then peek c.vix s else ev c s).bind asTest).bind fun k s1 => if k then ev a s1 else ev b s1
  | .idx a i, s => (if a.isV then peek a.vix s else ev a s).bind fun x s1 => (ev i s1).bind fun y s2 => (reread a x s2).bind fun x' s3 => Out.of (idxD x' y) s3
  | .slc a lo hi, s => (ev a s).bind fun x s1 => (part lo (ev lo s1) s1).bind fun y s2 => (part hi (ev hi s2) s2).bind fun z s3 => Out.of (slcD x y z) s3
  | .prm p a, s => (if a.isV then peek a.vix s else ev a s).bind fun x s1 => Out.of (prim1 p x) s1
  | .isi t a, s => (if a.isV then peek a.vix s else ev a s).bind fun x s1 => Out.of ((isTy t x).map .bl) s1
  | .index o k, s => (if o.isV then peek o.vix s else ev o s).bind fun x s1 => if isL x then (ev k s1).bind fun y s2 => (reread o x s2).bind fun x' s3 => match x' with
    | .lst xs => if xs.all (D.okb DEP) && D.okb DEP y then Out.of ((indexOf y xs 0).map fun n => .int n) s3 else .bad
    | _ => .bad
    else .bad
  | .get o k d, s => (if o.isV then peek o.vix s else ev o s).bind fun x s1 => if isDc x then (ev k s1).bind fun y s2 => (ev d s2).bind fun z s3 => (reread o x s3).bind fun x' s4 => match x' with
    | .dct n kvs => if keyOf n y then .ok ((look kvs y).getD z) s4 else .bad
    | _ => .bad
    else .bad
  | .cal f a, s => (ev a s).bind (callD Φ f)
  | .lc w e p it c, s => (ev it s).bind fun x s1 => match items x with
    | none => .bad
    | some xs => if w.all (fun i => (s1.ρ.getD i .emp).plain) then
        (lcL (fun d s2 => match bindP p [d] s2.ρ with
          | none => .bad
          | some ρ => Out.quiet (((if c.isV then peek c.vix { s2 with ρ := ρ } else ev c { s2 with ρ := ρ }).bind asTest).bind fun k s3 => if k then (ev e s3).bind fun r s4 => .ok (some r) s4 else .ok none s3))
          (fun s2 => { s2 with ρ := wipeS s2.ρ w }) xs [] s1).bind fun ys s5 => .ok (.lst ys) { s5 with ρ := backS s5.ρ s1.ρ w }
      else .bad
  | .lcp w e p i c, s => match s.ρ[i]? with
    | some (.lst xs) => if w.all (fun i => (s.ρ.getD i .emp).plain) && !w.contains i then
        (lcL (fun d s2 => Out.bind (match bindP p [d] s2.ρ with
          | none => (Out.bad : Out (Option D))
          | some ρ => Out.quiet (((if c.isV then peek c.vix { s2 with ρ := ρ } else ev c { s2 with ρ := ρ }).bind asTest).bind fun k s3 => if k then (ev e s3).bind fun r s4 => .ok (some r) s4 else .ok none s3))
            fun o s4 => if keepL i xs s4 then .ok o s4 else .bad)
          (fun s2 => { s2 with ρ := wipeS s2.ρ w }) xs [] s).bind fun ys s5 => .ok (.lst ys) { s5 with ρ := backS s5.ρ s.ρ w }
      else .bad
    | _ => .bad
  | .rng a, s => (ev a s).bind fun x s1 => Out.of (rngD (.int 0) x) s1
  | .rng2 a b, s => (ev a s).bind fun x s1 => (ev b s1).bind fun y s2 => Out.of (rngD x y) s2
  | .enm a, s => (ev a s).bind fun x s1 => Out.of ((seqD x).map fun xs => .lst (enumL 0 xs)) s1
  | .zip a b, s => (ev a s).bind fun x s1 => (ev b s1).bind fun y s2 => Out.of (zipD x y) s2
  | .enmzip a b, s => (ev a s).bind fun x s1 => (ev b s1).bind fun y s2 => Out.of (ezipD x y) s2
  | .res rs e, s => match ev e { s with ρ := s.ρ.map Slot.lend } with
    | .ok d s1 => .ok (.tup [.str "returns", d]) { s with τ := s1.τ }
    | .exc c τ => if rs.contains c then .ok (.tup [.str (errN.getD c "")]) { s with τ := τ } else .bad
    | .bad => .bad
  | .bad, _ => .bad
  | .calv i fs a, s => match s.ρ[i]? with
    | some (.val (.tok (n + 2))) => match (if n < 900 then fs.lookup n else none) with
      | some f => (ev a s).bind (callD Φ f)
      | none => .bad
    | _ => .bad
def evT (e : Ex) (s : S) : Out Bool := (if e.isV then peek e.vix s else ev Φ gc e s).bind asTest
end

/-! ### statements -/
inductive Sm where
  | nop | seq (a b : Sm) | set (i : Nat) (e : Ex) | own (i : Nat) (e : Ex) | unp (p : Pat) (e : Ex) | par (ts : List (Nat × Bool)) (e : Ex)
  | app (i : Nat) (e : Ex) | ext (i : Nat) (e : Ex) | sti (i : Nat) (k e : Ex) | aug (i : Nat) (e : Ex) | pop (i j : Nat) | exp (e : Ex)
  | ret (e : Ex) | ife (c : Ex) (a b : Sm) | whl (n : Nat) (c : Ex) (b : Sm) | for_ (p : Pat) (it : Ex) (b : Sm) | rse (c : Nat) | cnt | brk
inductive SO where
  | next (s : S) | brk (s : S) | cnt (s : S) | ret (d : D) (s : S) | exc (c : Nat) (τ : Town) | bad
def SO.bind (o : SO) (f : S → SO) : SO := match o with
  | .next s => f s
  | o => o
def Out.so {α : Type} (o : Out α) (f : α → S → SO) : SO := match o with
  | .ok a s => f a s
  | .exc c τ => .exc c τ
  | .bad => .bad
def setS (i : Nat) (v : Slot) (s : S) : SO := if i < s.ρ.length then .next { s with ρ := s.ρ.set i v } else .bad
def ownOf : D → Option Slot
  | .lst ds => some (.lst ds)
  | .dct n kvs => some (.dct n kvs)
  | _ => none
def parS : List (Nat × Bool) → List D → List Slot → Option (List Slot)
  | [], [], ρ => some ρ
  | (i, o) :: ts, d :: ds, ρ => if i < ρ.length then (if o then ownOf d else some (.val d)).bind fun v => parS ts ds (ρ.set i v) else none
  | _, _, _ => none
/-- the turns of a for -/
def forL (f : D → S → SO) : List D → S → SO
  | [], s => .next s
  | x :: xs, s => match f x s with
    | .next s1 => forL f xs s1
    | .cnt s1 => forL f xs s1
    | .brk s1 => .next s1
    | o => o
def whlL (c : S → Out Bool) (f : S → SO) : Nat → S → SO
  | 0, _ => .bad
  | n + 1, s => (c s).so fun k s1 => if k then (match f s1 with
    | .next s2 => whlL c f n s2
    | .cnt s2 => whlL c f n s2
    | .brk s2 => .next s2
    | o => o) else .next s1
section
variable (Φ : Nat → Fn) (gc : Nat → D)
def ex : Sm → S → SO
  | .nop, s => .next s
  | .seq a b, s => (ex a s).bind (ex b)
  | .set i e, s => (ev Φ gc e s).so fun d s1 => setS i (.val d) s1
  | .own i e, s => (ev Φ gc e s).so fun d s1 => match ownOf d with
    | some v => setS i v s1
    | none => .bad
  | .unp p e, s => (ev Φ gc e s).so fun d s1 => match bindP p [d] s1.ρ with
    | some ρ => .next { s1 with ρ := ρ }
    | none => .bad
  | .par ts e, s => (ev Φ gc e s).so fun r s1 => match r with
    | .tup ds => match parS ts ds s1.ρ with
      | some ρ => .next { s1 with ρ := ρ }
      | none => .bad
    | _ => .bad
  | .app i e, s => match s.ρ[i]? with
    | some (.lst _) => (ev Φ gc e s).so fun d s1 => match s1.ρ[i]? with
      | some (.lst ds) => if ds.length < LIM then .next { s1 with ρ := s1.ρ.set i (.lst (ds ++ [d])) } else .bad
      | _ => .bad
    | _ => .bad
  | .ext i e, s => match s.ρ[i]? with
    | some (.lst _) => (ev Φ gc e s).so fun d s1 => match s1.ρ[i]?, seqD d with
      | some (.lst ds), some es => if ds.length + es.length ≤ LIM then .next { s1 with ρ := s1.ρ.set i (.lst (ds ++ es)) } else .bad
      | _, _ => .bad
    | _ => .bad
  | .sti i k e, s => (ev Φ gc e s).so fun d s1 => if (s1.ρ.getD i .emp).plain then .bad else (ev Φ gc k s1).so fun y s2 => match s2.ρ[i]? with
    | some (.dct n kvs) => if keyOf n y && decide (kvs.length < LIM) then .next { s2 with ρ := s2.ρ.set i (.dct n (store kvs y d)) } else .bad
    | some (.lst ds) => match y with
      | .int n => match L2.ixN ds.length n with
        | some j => .next { s2 with ρ := s2.ρ.set i (.lst (ds.set j d)) }
        | none => .bad
      | _ => .bad
    | _ => .bad
  | .aug i e, s => match s.ρ[i]? with
    | some (.val (.int n)) => (ev Φ gc e s).so fun d s1 => match d with
      | .int m => setS i (.val (.int (n + m))) s1
      | _ => .bad
    | _ => .bad
  | .pop i j, s => match s.ρ[j]? with
    | some (.lst ds) => match ds.getLast? with
      | some d => if i ≠ j then setS i (.val d) { s with ρ := s.ρ.set j (.lst ds.dropLast) } else .bad
      | none => .bad
    | _ => .bad
  | .exp e, s => (ev Φ gc e s).so fun _ s1 => .next s1
  | .ret e, s => (ev Φ gc e s).so fun d s1 => .ret d s1
  | .ife c a b, s => (evT Φ gc c s).so fun k s1 => if k then ex a s1 else ex b s1
  | .whl n c b, s => whlL (evT Φ gc c) (ex b) n s
  | .for_ p it b, s => (ev Φ gc it s).so fun x s1 => match items x with
    | some xs => forL (fun d s2 => match bindP p [d] s2.ρ with
      | some ρ => ex b { s2 with ρ := ρ }
      | none => .bad) xs s1
    | none => .bad
  | .rse c, s => .exc c s.τ
  | .cnt, s => .cnt s
  | .brk, s => .brk s
/-- a def's body -/
def runB (n : Nat) (b : Sm) : Fn := fun ds τ => match ex Φ gc b ⟨ds.map .val ++ List.replicate (n - ds.length) .emp, τ⟩ with
  | .next s => .ok .non s.τ
  | .ret d s => .ok d s.τ
  | .exc c τ => .exc c τ
  | _ => .bad
end
end Mn

set_option Elab.async false
set_option linter.all false
set_option maxRecDepth 100000
set_option maxHeartbeats 1000000
/-! Mn: how data stand in the heap. -/
namespace Mn
open PySem L2

/-- what is fixed while a law runs: the program, the world, the written part; the town's dict, its dict of rests, the script -/
structure Cf where
  P : Program
  w : World
  K : PySem.W.Frag
  tw : Addr
  rs : Addr
  sc : Addr
  scr : List Int
  tbs : List (Addr × Str)
  cls : Nat → Addr
mutual
def D.nk : D → NestedKey
  | .non => .none
  | .bl b => .num (if b then 1 else 0)
  | .int i => .num i
  | .str x => .text x
  | .tup xs => .tup (D.nks xs)
  | .lst _ => .none
  | .dct _ _ => .none
  | .tok _ => .none
def D.nks : List D → List NestedKey
  | [] => []
  | x :: xs => D.nk x :: D.nks xs
end
/-- a dict with tuple keys: keys, the places of their tuples, values -/
def ND (P : Program) (w : World) (a : Addr) (xs : List (NestedKey × Addr × V)) : HO :=
  .ext fun h => (a == sysModules) = false ∧ xs.length ≤ sizeLine ∧ (xs.map (·.1)).Nodup ∧ ∃ ys : List (NestedKey × Addr × Value), Paired (fun (x : NestedKey × Addr × V) (y : NestedKey × Addr × Value) => x.1 = y.1 ∧ x.2.1 = y.2.1 ∧ RelV x.2.2 y.2.2) xs ys ∧
    ∃ (o : Obj) (es : Array DictEntry) (ep : Nat), h.get? a = some o ∧ o.ExactDict ∧ o.data = .dict es ep ∧ es.toList = ys.map (entryOfKey (nestedKind P w))

def kD : Key → D
  | .inl i => .int i
  | .inr x => .str x
/-! ### marks: a thing of a class stands for a number, and so do the lists that its fields own -/
def mkO (n : Nat) : HO := .ins 0 0 [(("" : Str), .int n)]
def mkF (n j : Nat) : HO := .ins 0 1 [(("" : Str), .int n), (("" : Str), .int j)]
theorem mkO_inj {n m : Nat} (h : mkO n = mkO m) : n = m := by
  unfold mkO at h
  simp at h
  omega
theorem mkF_inj {n m i j : Nat} (h : mkF n i = mkF m j) : n = m ∧ i = j := by
  unfold mkF at h
  simp at h
  omega
theorem mkO_ne {n m j : Nat} (h : mkO n = mkF m j) : False := by
  unfold mkO mkF at h
  simp at h
/-- no thing of a class -/
def nm : HO → Bool
  | .ins _ _ _ => false
  | _ => true
mutual
inductive Rep (C : Cf) (G : Hp) : V → D → Prop
  | non : Rep C G .non .non
  | bl (b : Bool) : Rep C G (.bl b) (.bl b)
  | int (i : Int) : Rep C G (.int i) (.int i)
  | str (x : Str) : Rep C G (.str x) (.str x)
  | tup {a : Addr} {vs : List V} {ds : List D} : SqT C.K G a vs → RepA C G vs ds → ds.length ≤ LIM → Rep C G (.ref a) (.tup ds)
  | lst {a : Addr} {vs : List V} {ds : List D} : G a = some (.lst vs) → RepA C G vs ds → ds.length ≤ LIM → Rep C G (.ref a) (.lst ds)
  | dK {a : Addr} {o : Obj} {kvs : List (Key × V)} {ds : List D} : G a = some (.frz o (.dK kvs)) → RepA C G (kvs.map (·.2)) ds → ds.length ≤ LIM → Rep C G (.ref a) (.dct false ((kvs.map fun p => kD p.1).zip ds))
  | dN {a : Addr} {o : Obj} {xs : List (NestedKey × Addr × V)} {kds ds : List D} : G a = some (.frz o (ND C.P C.w a xs)) → RepA C G (xs.map fun x => .ref x.2.1) kds → xs.map (·.1) = D.nks kds → kds.all keyN = true → RepA C G (xs.map fun x => x.2.2) ds → ds.length ≤ LIM →
      Rep C G (.ref a) (.dct true (kds.zip ds))
  | town : Rep C G (.ref C.tw) (.tok 0)
  | script : SqL C.K G C.sc (C.scr.map V.int) → Rep C G (.ref C.sc) (.tok 1)
  | fnv (n : Nat) : n < 900 → Rep C G (.ref (C.cls (20 + n))) (.tok (n + 2))
  | obj {a : Addr} (n : Nat) : G a = some (mkO n) → Rep C G (.ref a) (.tok (n + 1000))
inductive RepA (C : Cf) (G : Hp) : List V → List D → Prop
  | nil : RepA C G [] []
  | cons {v : V} {vs : List V} {d : D} {ds : List D} : Rep C G v d → RepA C G vs ds → RepA C G (v :: vs) (d :: ds)
end

/-- not a table of code objects -/
def nt : HO → Bool
  | .tbl _ => false
  | _ => true
/-- all but tables stays -/
def Sm' (G G' : Hp) : Prop := ∀ b o, G b = some o → nt o = true → G' b = some o
theorem Sm'.refl (G : Hp) : Sm' G G := fun _ _ h _ => h
theorem Sm'.trans {G G1 G2 : Hp} (a : Sm' G G1) (b : Sm' G1 G2) : Sm' G G2 := fun c o h n => b c o (a c o h n) n
theorem Sm'.of {G G' : Hp} (e : Same G G') : Sm' G G' := fun b o h _ => e b o h
theorem Sm'.rd {G G' : Hp} (e : Sm' G G') {a : Addr} {u : HO} (n : nt u = true) (h : Rd G a u) : Rd G' a u := by
  rcases h with h | ⟨o, h⟩
  · exact .inl (e _ _ h n)
  · exact .inr ⟨o, e _ _ h rfl⟩
theorem Sm'.sqT {K : PySem.W.Frag} {G G' : Hp} {a : Addr} {xs : List V} (e : Sm' G G') (h : SqT K G a xs) : SqT K G' a xs := by
  rcases h with h | h
  · exact .inl (e.rd rfl h)
  · exact .inr h
theorem Sm'.sqL {K : PySem.W.Frag} {G G' : Hp} {a : Addr} {xs : List V} (e : Sm' G G') (h : SqL K G a xs) : SqL K G' a xs := by
  rcases h with h | h
  · exact .inl (e.rd rfl h)
  · exact .inr h
section
variable {C : Cf} {G G' : Hp}
mutual
theorem Rep.mono (e : Sm' G G') : ∀ {v : V} {d : D}, Rep C G v d → Rep C G' v d
  | _, _, .non => .non
  | _, _, .bl b => .bl b
  | _, _, .int i => .int i
  | _, _, .str x => .str x
  | _, _, .tup h r l => .tup (e.sqT h) (RepA.mono e r) l
  | _, _, .lst h r l => .lst (e _ _ h rfl) (RepA.mono e r) l
  | _, _, .dK h r l => .dK (e _ _ h rfl) (RepA.mono e r) l
  | _, _, .dN h r k y q l => .dN (e _ _ h rfl) (RepA.mono e r) k y (RepA.mono e q) l
  | _, _, .town => .town
  | _, _, .script h => .script (e.sqL h)
  | _, _, .fnv n l => .fnv n l
  | _, _, .obj n h => .obj n (e _ _ h rfl)
theorem RepA.mono (e : Sm' G G') : ∀ {vs : List V} {ds : List D}, RepA C G vs ds → RepA C G' vs ds
  | _, _, .nil => .nil
  | _, _, .cons h t => .cons (Rep.mono e h) (RepA.mono e t)
end
theorem RepA.length : ∀ {vs : List V} {ds : List D}, RepA C G vs ds → vs.length = ds.length
  | _, _, .nil => rfl
  | _, _, .cons _ t => by simp [RepA.length t]
theorem RepA.get : ∀ {vs : List V} {ds : List D} {i : Nat} {d : D}, RepA C G vs ds → ds[i]? = some d → ∃ v, vs[i]? = some v ∧ Rep C G v d
  | _, _, _, _, .nil, e => by simp at e
  | _, _, 0, _, .cons h _, e => by simp at e; subst e; exact ⟨_, rfl, h⟩
  | _, _, i + 1, _, .cons _ t, e => by
    obtain ⟨v, h1, h2⟩ := RepA.get (i := i) t (by simpa using e)
    exact ⟨v, by simpa using h1, h2⟩
theorem RepA.getV : ∀ {vs : List V} {ds : List D} {i : Nat} {v : V}, RepA C G vs ds → vs[i]? = some v → ∃ d, ds[i]? = some d ∧ Rep C G v d
  | _, _, _, _, .nil, e => by simp at e
  | _, _, 0, _, .cons h _, e => by simp at e; subst e; exact ⟨_, rfl, h⟩
  | _, _, i + 1, _, .cons _ t, e => by
    obtain ⟨v, h1, h2⟩ := RepA.getV (i := i) t (by simpa using e)
    exact ⟨v, by simpa using h1, h2⟩
theorem RepA.app : ∀ {vs us : List V} {ds es : List D}, RepA C G vs ds → RepA C G us es → RepA C G (vs ++ us) (ds ++ es)
  | _, _, _, _, .nil, s => s
  | _, _, _, _, .cons r t, s => .cons r (RepA.app t s)
theorem RepA.take : ∀ {vs : List V} {ds : List D} (n : Nat), RepA C G vs ds → RepA C G (vs.take n) (ds.take n)
  | _, _, 0, _ => .nil
  | _, _, _ + 1, .nil => .nil
  | _, _, n + 1, .cons r t => .cons r (RepA.take n t)
theorem RepA.drop : ∀ {vs : List V} {ds : List D} (n : Nat), RepA C G vs ds → RepA C G (vs.drop n) (ds.drop n)
  | _, _, 0, r => r
  | _, _, _ + 1, .nil => .nil
  | _, _, n + 1, .cons _ t => RepA.drop n t
theorem RepA.set : ∀ {vs : List V} {ds : List D} (i : Nat) {v : V} {d : D}, RepA C G vs ds → Rep C G v d → RepA C G (vs.set i v) (ds.set i d)
  | _, _, _, _, _, .nil, _ => .nil
  | _, _, 0, _, _, .cons _ t, h => .cons h t
  | _, _, i + 1, _, _, .cons q t, h => .cons q (RepA.set i t h)
theorem RepA.rep {vs : List V} {ds : List D} (r : RepA C G vs ds) : ∀ n : Nat, RepA C G (List.replicate n vs).flatten (List.replicate n ds).flatten
  | 0 => by simpa using RepA.nil
  | n + 1 => by
    rw [List.replicate_succ, List.replicate_succ, List.flatten_cons, List.flatten_cons]
    exact r.app (RepA.rep r n)
theorem RepA.dropLast : ∀ {vs : List V} {ds : List D}, RepA C G vs ds → RepA C G vs.dropLast ds.dropLast
  | _, _, .nil => .nil
  | _, _, .cons _ .nil => .nil
  | _, _, .cons r (.cons r' t) => .cons r (RepA.dropLast (.cons r' t))
end

/-! ### what is hidden: the addresses B, and those that slots own -/
/-- a thing of a class: its address, those of what its fields own -/
structure OA where
  a : Addr
  ps : List (Option Addr)
structure Ow where
  sl : List (Option Addr)
  ob : List OA
/-- the field of this number may be bound anew -/
def FREE : Nat := 2
instance : Membership (Option Addr) Ow := ⟨fun ow x => x ∈ ow.sl ∨ ∃ oa ∈ ow.ob, ∃ p, x = some p ∧ oa.ps[FREE]? = some (some p)⟩
instance : GetElem? Ow Nat (Option Addr) (fun ow i => i < ow.sl.length) where
  getElem ow i h := ow.sl[i]
  getElem? ow i := ow.sl[i]?
def Ow.set (ow : Ow) (i : Nat) (x : Option Addr) : Ow := ⟨ow.sl.set i x, ow.ob⟩
def Ow.length (ow : Ow) : Nat := ow.sl.length
/-- no slot -/
def Ow.z (ob : List OA) : Ow := ⟨[], ob⟩
/-- n slots that own nothing -/
def Ow.bare (n : Nat) (ob : List OA) : Ow := ⟨List.replicate n none, ob⟩
theorem Ow.mem_iff {ow : Ow} {p : Addr} : some p ∈ ow ↔ (some p ∈ ow.sl ∨ ∃ oa ∈ ow.ob, oa.ps[FREE]? = some (some p)) := by
  constructor
  · rintro (h | ⟨oa, h1, q, h2, h3⟩)
    · exact .inl h
    · cases h2; exact .inr ⟨oa, h1, h3⟩
  · rintro (h | ⟨oa, h1, h3⟩)
    · exact .inl h
    · exact .inr ⟨oa, h1, p, rfl, h3⟩
def MarkAt (ob : List OA) (b : Addr) (m : HO) : Prop := ∃ n oa, ob[n]? = some oa ∧ ((b = oa.a ∧ m = mkO n) ∨ ∃ j, j ≠ FREE ∧ oa.ps[j]? = some (some b) ∧ m = mkF n j)
open Classical in
/-- the heap with marks -/
noncomputable def shw (ob : List OA) (H : Hp) : Hp := fun b => if h : ∃ m, MarkAt ob b m then some (Classical.choose h) else (H b).filter nm
open Classical in
noncomputable def hid (B : Addr → Bool) (ow : Ow) (H : Hp) : Hp := fun b => if B b = true ∨ some b ∈ ow then none else shw ow.ob H b
theorem hid_some {B : Addr → Bool} {ow : Ow} {H : Hp} {b : Addr} {o : HO} : hid B ow H b = some o ↔ (B b = false ∧ some b ∉ ow ∧ shw ow.ob H b = some o) := by
  unfold hid
  split
  · rename_i h
    constructor
    · intro z; cases z
    · rintro ⟨h1, h2, _⟩
      rcases h with h | h
      · rw [h1] at h; cases h
      · exact absurd h h2
  · rename_i h
    simp only [not_or, Bool.not_eq_true] at h
    exact ⟨fun z => ⟨h.1, h.2, z⟩, fun z => z.2.2⟩
theorem mark_nm {ob : List OA} {b : Addr} {m : HO} (h : MarkAt ob b m) : nm m = false := by
  obtain ⟨n, oa, _, ⟨_, rfl⟩ | ⟨j, _, _, rfl⟩⟩ := h <;> rfl
/-- what is shown is there, or a mark -/
theorem shw_some {ob : List OA} {H : Hp} {b : Addr} {o : HO} (h : shw ob H b = some o) : (nm o = true ∧ H b = some o ∧ ¬ ∃ m, MarkAt ob b m) ∨ (nm o = false ∧ MarkAt ob b o) := by
  unfold shw at h
  split at h
  · rename_i q
    cases h
    exact .inr ⟨mark_nm (Classical.choose_spec q), Classical.choose_spec q⟩
  · rename_i q
    cases e : H b with
    | none => rw [e] at h; cases h
    | some u =>
      rw [e] at h
      simp only [Option.filter] at h
      split at h
      · rename_i hn
        cases h
        exact .inl ⟨hn, rfl, q⟩
      · cases h
theorem shw_nm {ob : List OA} {H : Hp} {b : Addr} {o : HO} (h : shw ob H b = some o) (n : nm o = true) : H b = some o := by
  rcases shw_some h with ⟨_, h, _⟩ | ⟨h, _⟩
  · exact h
  · rw [n] at h; cases h
theorem shw_of {ob : List OA} {H : Hp} {b : Addr} {o : HO} (h : H b = some o) (n : nm o = true) (q : ¬ ∃ m, MarkAt ob b m) : shw ob H b = some o := by
  unfold shw
  rw [dif_neg q, h]
  simp [Option.filter, n]
theorem hid_le {B : Addr → Bool} {ow : Ow} {H : Hp} {b : Addr} {o : HO} (h : hid B ow H b = some o) (n : nm o = true := by rfl) : H b = some o := shw_nm (hid_some.mp h).2.2 n
theorem hid_rd {B : Addr → Bool} {ow : Ow} {H : Hp} {a : Addr} {u : HO} (n : nm u = true) (h : Rd (hid B ow H) a u) : Rd H a u := by
  rcases h with h | ⟨o, h⟩
  · exact .inl (hid_le h n)
  · exact .inr ⟨o, hid_le h rfl⟩
theorem hid_sqT {K : PySem.W.Frag} {B : Addr → Bool} {ow : Ow} {H : Hp} {a : Addr} {xs : List V} (h : SqT K (hid B ow H) a xs) : SqT K H a xs := by
  rcases h with h | h
  · exact .inl (hid_rd rfl h)
  · exact .inr h
theorem hid_sqL {K : PySem.W.Frag} {B : Addr → Bool} {ow : Ow} {H : Hp} {a : Addr} {xs : List V} (h : SqL K (hid B ow H) a xs) : SqL K H a xs := by
  rcases h with h | h
  · exact .inl (hid_rd rfl h)
  · exact .inr h
/-- all but things of classes -/
def Sn (G H : Hp) : Prop := ∀ b o, G b = some o → nm o = true → H b = some o
theorem hid_sn {B : Addr → Bool} {ow : Ow} {H : Hp} : Sn (hid B ow H) H := fun _ _ h n => hid_le h n
theorem Sn.sqT {K : PySem.W.Frag} {G H : Hp} {a : Addr} {xs : List V} (e : Sn G H) (h : SqT K G a xs) : SqT K H a xs := by
  rcases h with (h | ⟨o, h⟩) | h
  · exact .inl (.inl (e _ _ h rfl))
  · exact .inl (.inr ⟨o, e _ _ h rfl⟩)
  · exact .inr h
theorem Sn.sqL {K : PySem.W.Frag} {G H : Hp} {a : Addr} {xs : List V} (e : Sn G H) (h : SqL K G a xs) : SqL K H a xs := by
  rcases h with (h | ⟨o, h⟩) | h
  · exact .inl (.inl (e _ _ h rfl))
  · exact .inl (.inr ⟨o, e _ _ h rfl⟩)
  · exact .inr h
/-- one heap shows what the other shows -/
theorem shw_le {ob : List OA} {H H' : Hp} {b : Addr} {o : HO} (e : ∀ o, H b = some o → nm o = true → nt o = true → H' b = some o) (n : nt o = true) (h : shw ob H b = some o) : shw ob H' b = some o := by
  unfold shw at h ⊢
  split at h
  · rename_i q
    rw [dif_pos q]; exact h
  · rename_i q
    rw [dif_neg q]
    cases z : H b with
    | none => rw [z] at h; cases h
    | some u =>
      rw [z] at h
      simp only [Option.filter] at h
      split at h
      · rename_i hn
        cases h
        rw [e _ z hn n]
        simp [Option.filter, hn]
      · cases h
/-- the town's dicts -/
def TownAt (C : Cf) (H : Hp) (τ : Town) : Prop :=
  H C.tw = some (.dK [(.inr "count", .int τ.count), (.inr "rests", .ref C.rs)]) ∧ H C.rs = some (.dK (τ.rests.map fun p => (.inl p.1, .int p.2))) ∧ (C.tw ≠ C.rs ∧ τ.scr = C.scr ∧ τ.Fit) ∧ LamX.Tabs C.tbs H

/-- what a slot may own, or a law's own objects may be -/
def Oh (C : Cf) (p : Addr) (o : HO) : Prop := (∃ vs, o = .lst vs) ∨ (∃ ks, o = .dK ks) ∨ (∃ xs, o = ND C.P C.w p xs) ∨ ∃ c d fs, o = .ins c d fs
theorem nd_ne_code {P : Program} {w : World} {p : Addr} {xs : List (NestedKey × Addr × V)} {q : Str} (h : LamX.CodeO p q = ND P w p xs) : False := by
  unfold LamX.CodeO ND at h
  have h := HO.ext.inj h
  let ob : Obj := { cls := .none, data := .fields #[.none, .str q 0] }
  have e := congrFun h ⟨Array.replicate (p + 1) ob, {}⟩
  have g : (⟨Array.replicate (p + 1) ob, {}⟩ : Heap).get? p = some ob := by
    unfold Heap.get?
    simp [ob]
  have l : (∃ (oc : Obj) (vs : Array Value) (t : Tok), (⟨Array.replicate (p + 1) ob, {}⟩ : Heap).get? p = some oc ∧ oc.data = .fields vs ∧ vs[1]? = some (.str q t)) := ⟨ob, _, 0, g, rfl, rfl⟩
  have l : _ := (cast e l)
  obtain ⟨_, _, _, _, _, o, es, ep, g', _, d, _⟩ := l
  rw [g] at g'
  cases g'
  cases d
theorem TownAt.same {C : Cf} {H H' : Hp} {τ : Town} (t : TownAt C H τ) (e : ∀ b o, H b = some o → H' b = some o) : TownAt C H' τ := ⟨e _ _ t.1, e _ _ t.2.1, t.2.2.1, t.2.2.2.ext e⟩
theorem TownAt.upd {C : Cf} {H : Hp} {τ : Town} {p : Addr} {o : HO} (t : TownAt C H τ) (hp : ∀ u, H p = some u → Oh C p u) (h1 : C.tw ≠ p) (h2 : C.rs ≠ p) : TownAt C (upd H p o) τ := by
  refine ⟨by rw [upd_ne h1]; exact t.1, by rw [upd_ne h2]; exact t.2.1, t.2.2.1, fun x hx => ?_⟩
  obtain ⟨ps, k1, k2, k3⟩ := t.2.2.2 x hx
  refine ⟨ps, ?_, k2, fun pos cv hc => ?_⟩
  · rw [upd_ne]
    · exact k1
    · intro z
      rcases hp _ (z ▸ k1) with ⟨_, e⟩ | ⟨_, e⟩ | ⟨_, e⟩ | ⟨_, _, _, e⟩ <;> cases e
  · obtain ⟨c, e1, e2⟩ := k3 pos cv hc
    refine ⟨c, e1, ?_⟩
    rw [upd_ne]
    · exact e2
    · intro z
      subst z
      rcases hp _ e2 with ⟨_, e⟩ | ⟨_, e⟩ | ⟨_, e⟩ | ⟨_, _, _, e⟩
      · unfold LamX.CodeO at e; cases e
      · unfold LamX.CodeO at e; cases e
      · exact nd_ne_code e
      · unfold LamX.CodeO at e; cases e
/-- one slot -/
def SlotOk (C : Cf) (G H : Hp) : Slot → Option V → Option Addr → Prop
  | .emp, _, none => True
  | .val d, some v, none => Rep C G v d
  | .lst ds, some v, some p => v = .ref p ∧ ∃ vs, H p = some (.lst vs) ∧ RepA C G vs ds ∧ ds.length ≤ LIM
  | .dct n kvs, some v, some p => v = .ref p ∧ ((∃ (ks : List (Key × V)) (ds : List D), n = false ∧ H p = some (.dK ks) ∧ RepA C G (ks.map (·.2)) ds ∧ ds.length ≤ LIM ∧ kvs = (ks.map fun p => kD p.1).zip ds) ∨
      ∃ (xs : List (NestedKey × Addr × V)) (kds ds : List D), n = true ∧ H p = some (ND C.P C.w p xs) ∧ RepA C G (xs.map fun x => .ref x.2.1) kds ∧ xs.map (·.1) = D.nks kds ∧ kds.all keyN = true ∧ RepA C G (xs.map fun x => x.2.2) ds ∧ ds.length ≤ LIM ∧ kvs = kds.zip ds)
  | _, _, _ => False
/-! ### things of classes -/
structure ObOk (C : Cf) (G H : Hp) (oa : OA) (o : Ob) : Prop where
  ex : ∃ dx vs, H oa.a = some (.ins (C.cls (30 + o.k)) dx ((o.fs.map (·.1)).zip vs)) ∧ vs.length = o.fs.length ∧ oa.ps.length = o.fs.length ∧
    ∀ (j : Nat) (f : Str) (x : Slot) (v : V) (p : Option Addr), o.fs[j]? = some (f, x) → vs[j]? = some v → oa.ps[j]? = some p → SlotOk C G H x (some v) p
  sm : o.fs.length ≤ 20
  nd : (o.fs.map (·.1)).Nodup
/-- all that is owned is apart -/
def Tags (ow : Ow) : Prop := ∃ f : Addr → Nat × Nat, (∀ i p, ow.sl[i]? = some (some p) → f p = (0, i)) ∧ ∀ n oa, ow.ob[n]? = some oa → f oa.a = (n + 1, 0) ∧ ∀ j p, oa.ps[j]? = some (some p) → f p = (n + 1, j + 1)
structure StoreOk (C : Cf) (B : Addr → Bool) (ow : Ow) (H : Hp) (obs : List Ob) : Prop where
  len : ow.ob.length = obs.length
  ok : ∀ (n : Nat) (oa : OA) (o : Ob), ow.ob[n]? = some oa → obs[n]? = some o → ObOk C (hid B ow H) H oa o
  nB : ∀ oa ∈ ow.ob, B oa.a = false ∧ ∀ p, some p ∈ oa.ps → B p = false
  tag : Tags ow
structure SR (C : Cf) (B : Addr → Bool) (ow : Ow) (s : S) (σ : St) (H : Hp) : Prop where
  len : s.ρ.length = σ.length
  lenO : ow.length = σ.length
  slot : ∀ (i : Nat) (x : Slot) (v : Option V) (p : Option Addr), s.ρ[i]? = some x → σ[i]? = some v → ow[i]? = some p → SlotOk C (hid B ow H) H x v p
  st : StoreOk C B ow H s.τ.ob
  nB : ∀ p, some p ∈ ow → B p = false
  tB : ∀ b, B b = true → ∃ o, H b = some o ∧ nt o = true
  twB : B C.tw = true
  rsB : B C.rs = true
  town : TownAt C H s.τ
/-- how the heap may go on -/
structure Stp (C : Cf) (B : Addr → Bool) (ow : Ow) (H : Hp) (ow' : Ow) (H' : Hp) : Prop where
  fr : Sm' (hid B ow H) (hid B ow' H')
  hd : ∀ b o, B b = true → b ≠ C.tw → b ≠ C.rs → H b = some o → nt o = true → H' b = some o
theorem Stp.refl {C : Cf} {B : Addr → Bool} {ow : Ow} {H : Hp} : Stp C B ow H ow H := ⟨Sm'.refl _, fun _ _ _ _ _ h _ => h⟩
theorem Stp.trans {C : Cf} {B : Addr → Bool} {ow ow1 ow2 : Ow} {H H1 H2 : Hp} (a : Stp C B ow H ow1 H1) (b : Stp C B ow1 H1 ow2 H2) : Stp C B ow H ow2 H2 :=
  ⟨a.fr.trans b.fr, fun c o h1 h2 h3 h4 h5 => b.hd c o h1 h2 h3 (a.hd c o h1 h2 h3 h4 h5) h5⟩

/-- the end by an exception -/
structure Fin (C : Cf) (B : Addr → Bool) (ow : Ow) (H : Hp) (τ : Town) (H' : Hp) : Prop where
  town : TownAt C H' τ
  fr : ∃ ob, Sm' (hid B ow H) (hid B (.z ob) H') ∧ StoreOk C B (.z ob) H' τ.ob
  hd : ∀ b o, B b = true → b ≠ C.tw → b ≠ C.rs → H b = some o → nt o = true → H' b = some o
theorem Fin.step {C : Cf} {B : Addr → Bool} {ow ow1 : Ow} {H H1 H' : Hp} {τ : Town} (a : Stp C B ow H ow1 H1) (b : Fin C B ow1 H1 τ H') : Fin C B ow H τ H' :=
  ⟨b.town, b.fr.imp fun _ h => ⟨a.fr.trans h.1, h.2⟩, fun c o h1 h2 h3 h4 h5 => b.hd c o h1 h2 h3 (a.hd c o h1 h2 h3 h4 h5) h5⟩
/-- a value that may be an owned one, read in passing -/
def RepB (C : Cf) (B : Addr → Bool) (ow : Ow) (H : Hp) (v : V) (d : D) : Prop :=
  Rep C (hid B ow H) v d ∨ ∃ p x, v = .ref p ∧ True ∧ SlotOk C (hid B ow H) H x (some v) (some p) ∧ x.dat = some d
/-- what is wanted of an expression's answer -/
def wpE (C : Cf) (E : XK) (B : Addr → Bool) (ow : Ow) (H : Hp) (σ : St) (o : Out D) (Q : VK) : Prop := match o with
  | .ok d s' => ∀ ow' v H', SR C B ow' s' σ H' → Stp C B ow H ow' H' → Rep C (hid B ow' H') v d → Q v H'
  | .exc c τ => ∀ H', Fin C B ow H τ H' → E (.ref (C.cls c)) none H'
  | .bad => False
theorem wpE.step {C : Cf} {E : XK} {B : Addr → Bool} {ow ow1 : Ow} {H H1 : Hp} {σ : St} {o : Out D} {Q : VK} (a : Stp C B ow H ow1 H1) (h : wpE C E B ow H σ o Q) : wpE C E B ow1 H1 σ o Q := by
  cases o with
  | ok d s' => exact fun ow' v H' R st r => h ow' v H' R (a.trans st) r
  | exc c τ => exact fun H' f => h H' (f.step a)
  | bad => exact h
/-- a reading serves an answer -/
def Ok (C : Cf) (E : XK) (t : TE) (f : S → Out D) : Prop := ∀ (B : Addr → Bool) (ow : Ow) (s : S) (σ : St) (H : Hp) (Q : VK), SR C B ow s σ H → wpE C E B ow H σ (f s) Q → t σ H Q
end Mn

set_option Elab.async false
set_option linter.all false
set_option maxRecDepth 100000
set_option maxHeartbeats 1000000
namespace Mn
open PySem L2

section
variable {C : Cf} {B : Addr → Bool} {ow ow' : Ow} {s : S} {σ : St} {H H' : Hp}

theorem SlotOk.mono {G G' : Hp} {x : Slot} {v : Option V} {p : Option Addr} (h : SlotOk C G H x v p) (e : Sm' G G') (k : ∀ q o, p = some q → H q = some o → nt o = true → H' q = some o) : SlotOk C G' H' x v p := by
  cases x with
  | emp => cases p <;> first | trivial | exact h
  | val d =>
    cases v with
    | none => exact h
    | some v => cases p with
      | none => exact Rep.mono e h
      | some p => exact h
  | lst ds =>
    cases v with
    | none => exact h
    | some v => cases p with
      | none => exact h
      | some p =>
        obtain ⟨h1, vs, h2, h3, h4⟩ := h
        exact ⟨h1, vs, k p _ rfl h2 rfl, RepA.mono e h3, h4⟩
  | dct n kvs =>
    cases v with
    | none => exact h
    | some v => cases p with
      | none => exact h
      | some p =>
        obtain ⟨h1, ⟨ks, ds, h0, h2, h3, h4, h5⟩ | ⟨ks, kds, ds, h0, h2, h3, h4, h5, h6, h7, h8⟩⟩ := h
        · exact ⟨h1, .inl ⟨ks, ds, h0, k p _ rfl h2 rfl, RepA.mono e h3, h4, h5⟩⟩
        · exact ⟨h1, .inr ⟨ks, kds, ds, h0, k p _ rfl h2 rfl, RepA.mono e h3, h4, h5, RepA.mono e h6, h7, h8⟩⟩

theorem hid_ow_le {B' : Addr → Bool} (hB : ∀ b, B' b = true → B b = true ∨ some b ∈ ow) (ho : ∀ p, some p ∈ ow' → some p ∈ ow ∨ B p = true) (e : Sm' H H') (hob : ow'.ob = ow.ob := by rfl) : Sm' (hid B ow H) (hid B' ow' H') := fun b o h n => by
  obtain ⟨h1, h2, h3⟩ := hid_some.mp h
  refine hid_some.mpr ⟨?_, ?_, by rw [hob]; exact shw_le (fun u hu _ n => e b u hu n) n h3⟩
  · cases q : B' b with
    | false => rfl
    | true =>
      rcases hB b q with z | z
      · rw [h1] at z; cases z
      · exact absurd z h2
  · intro z
    rcases ho b z with z | z
    · exact h2 z
    · rw [h1] at z; cases z
theorem shw_upd_ne {ob : List OA} {b p : Addr} {o : HO} (h : b ≠ p) : shw ob (upd H p o) b = shw ob H b := by
  unfold shw
  split
  · rfl
  · rw [upd_ne h]

theorem mem_set_iff {p : Addr} {i : Nat} {x : Option Addr} (h : some p ∈ ow.set i x) : some p ∈ ow ∨ some p = x := by
  rcases Ow.mem_iff.mp h with h | h
  · rcases List.mem_or_eq_of_mem_set h with h | h
    · exact .inl (Ow.mem_iff.mpr (.inl h))
    · exact .inr h
  · exact .inl (Ow.mem_iff.mpr (.inr h))
theorem mem_set_none {p : Addr} {i : Nat} (h : some p ∈ ow.set i none) : some p ∈ ow := by
  rcases mem_set_iff h with h | h
  · exact h
  · cases h
theorem get_mem {i : Nat} {p : Addr} (h : ow[i]? = some (some p)) : some p ∈ ow := Ow.mem_iff.mpr (.inl (List.mem_of_getElem? h))
theorem Ow.set_set {i : Nat} {x y : Option Addr} : (ow.set i x).set i y = ow.set i y := by
  show (⟨(ow.sl.set i x).set i y, ow.ob⟩ : Ow) = _
  rw [List.set_set]; rfl
theorem set_length {i : Nat} {x : Option Addr} : (ow.set i x).length = ow.length := List.length_set ..

/-! ### the store -/
/-- a thing, or what a field of one owns -/
def Ow.Has (ow : Ow) (q : Addr) : Prop := ∃ oa ∈ ow.ob, q = oa.a ∨ some q ∈ oa.ps
theorem mark_has {b : Addr} {m : HO} (h : MarkAt ow.ob b m) : ow.Has b := by
  obtain ⟨n, oa, h1, ⟨h2, _⟩ | ⟨j, _, h2, _⟩⟩ := h
  · exact ⟨oa, List.mem_of_getElem? h1, .inl h2⟩
  · exact ⟨oa, List.mem_of_getElem? h1, .inr (List.mem_of_getElem? h2)⟩
theorem mem_has {q : Addr} (h : some q ∈ ow) : some q ∈ ow.sl ∨ ow.Has q := by
  rcases Ow.mem_iff.mp h with h | ⟨oa, h1, h2⟩
  · exact .inl h
  · exact .inr ⟨oa, h1, .inr (List.mem_of_getElem? h2)⟩
theorem SlotOk.own {G : Hp} {x : Slot} {v : Option V} {p : Addr} (h : SlotOk C G H x v (some p)) : ∃ o, H p = some o ∧ nt o = true ∧ nm o = true ∧ Oh C p o := by
  cases x with
  | emp => cases v <;> exact h.elim
  | val d => cases v <;> exact h.elim
  | lst ds => cases v with
    | none => exact h.elim
    | some v => obtain ⟨_, vs, h, _⟩ := h; exact ⟨_, h, rfl, rfl, .inl ⟨_, rfl⟩⟩
  | dct n kvs => cases v with
    | none => exact h.elim
    | some v =>
      obtain ⟨_, ⟨_, _, _, h, _⟩ | ⟨_, _, _, _, h, _⟩⟩ := h
      · exact ⟨_, h, rfl, rfl, .inr (.inl ⟨_, rfl⟩)⟩
      · exact ⟨_, h, rfl, rfl, .inr (.inr (.inl ⟨_, rfl⟩))⟩
theorem StoreOk.at {obs : List Ob} (st : StoreOk C B ow H obs) {n : Nat} {oa : OA} (h : ow.ob[n]? = some oa) : ∃ o, obs[n]? = some o ∧ ObOk C (hid B ow H) H oa o := by
  have hl : n < obs.length := by rw [← st.len]; exact (List.getElem?_eq_some_iff.mp h).1
  exact ⟨obs[n], List.getElem?_eq_getElem hl, st.ok n oa _ h (List.getElem?_eq_getElem hl)⟩
theorem StoreOk.atO {obs : List Ob} (st : StoreOk C B ow H obs) {n : Nat} {o : Ob} (h : obs[n]? = some o) : ∃ oa, ow.ob[n]? = some oa ∧ ObOk C (hid B ow H) H oa o := by
  have hl : n < ow.ob.length := by rw [st.len]; exact (List.getElem?_eq_some_iff.mp h).1
  exact ⟨ow.ob[n], List.getElem?_eq_getElem hl, st.ok n _ o (List.getElem?_eq_getElem hl) h⟩
theorem ObOk.inner {G : Hp} {oa : OA} {o : Ob} (h : ObOk C G H oa o) {j : Nat} {p : Addr} (hp : oa.ps[j]? = some (some p)) : ∃ f x v, o.fs[j]? = some (f, x) ∧ SlotOk C G H x (some v) (some p) := by
  obtain ⟨dx, vs, h1, h2, h3, h4⟩ := h.ex
  have hl : j < oa.ps.length := (List.getElem?_eq_some_iff.mp hp).1
  have e1 : o.fs[j]? = some (o.fs[j]'(by omega)) := List.getElem?_eq_getElem _
  have e2 : vs[j]? = some (vs[j]'(by omega)) := List.getElem?_eq_getElem _
  exact ⟨_, _, _, e1, h4 j _ _ _ _ e1 e2 hp⟩
theorem StoreOk.there {obs : List Ob} (st : StoreOk C B ow H obs) {q : Addr} (h : ow.Has q) : ∃ o, H q = some o ∧ nt o = true ∧ Oh C q o := by
  obtain ⟨oa, h1, h2⟩ := h
  obtain ⟨n, hn⟩ := List.getElem?_of_mem h1
  obtain ⟨o, ho, k⟩ := st.at hn
  rcases h2 with rfl | h2
  · obtain ⟨dx, vs, k1, _⟩ := k.ex
    exact ⟨_, k1, rfl, .inr (.inr (.inr ⟨_, _, _, rfl⟩))⟩
  · obtain ⟨j, hj⟩ := List.getElem?_of_mem h2
    obtain ⟨f, x, v, _, so⟩ := k.inner hj
    obtain ⟨u, z1, z2, _, z4⟩ := so.own
    exact ⟨u, z1, z2, z4⟩
theorem StoreOk.hasB {obs : List Ob} (st : StoreOk C B ow H obs) {q : Addr} (h : ow.Has q) : B q = false := by
  obtain ⟨oa, h1, rfl | h2⟩ := h
  · exact (st.nB oa h1).1
  · exact (st.nB oa h1).2 q h2
theorem Tags.inj (t : Tags ow) {i j : Nat} {p : Addr} (h1 : ow[i]? = some (some p)) (h2 : ow[j]? = some (some p)) : i = j := by
  obtain ⟨f, k, _⟩ := t
  have a := k i p h1
  have b := k j p h2
  rw [a] at b
  exact congrArg Prod.snd b
theorem Tags.has_ne (t : Tags ow) {q p : Addr} (h : ow.Has q) (hp : some p ∈ ow.sl) : q ≠ p := by
  obtain ⟨f, k1, k2⟩ := t
  obtain ⟨i, hi⟩ := List.getElem?_of_mem hp
  have a := k1 i p hi
  rintro rfl
  obtain ⟨oa, h1, h2⟩ := h
  obtain ⟨n, hn⟩ := List.getElem?_of_mem h1
  obtain ⟨k3, k4⟩ := k2 n oa hn
  rcases h2 with rfl | h2
  · rw [k3] at a; cases a
  · obtain ⟨j, hj⟩ := List.getElem?_of_mem h2
    rw [k4 j q hj] at a; cases a
theorem SR.inj (R : SR C B ow s σ H) : ∀ (i j : Nat) (p : Addr), ow[i]? = some (some p) → ow[j]? = some (some p) → i = j := fun _ _ _ h1 h2 => R.st.tag.inj h1 h2
theorem set_get {α : Type} {l : List α} {i j : Nat} {x y : α} (h : (l.set i x)[j]? = some y) : (j = i ∧ y = x) ∨ (j ≠ i ∧ l[j]? = some y) := by
  by_cases e : j = i
  · subst e
    by_cases q : j < l.length
    · rw [List.getElem?_set_self q] at h
      exact .inl ⟨rfl, (Option.some.inj h).symm⟩
    · rw [List.getElem?_eq_none (by simpa using q)] at h; cases h
  · rw [List.getElem?_set_ne (Ne.symm e)] at h
    exact .inr ⟨e, h⟩
theorem set_getO {i j : Nat} {x y : Option Addr} (h : (ow.set i x)[j]? = some y) : (j = i ∧ y = x) ∨ (j ≠ i ∧ ow[j]? = some y) := set_get (l := ow.sl) h
theorem Tags.setNone (t : Tags ow) {i : Nat} : Tags (ow.set i none) := by
  obtain ⟨f, k1, k2⟩ := t
  refine ⟨f, fun j p h => ?_, k2⟩
  rcases set_get (l := ow.sl) h with ⟨_, z⟩ | ⟨_, z⟩
  · cases z
  · exact k1 j p z
theorem Tags.bare {n : Nat} (t : Tags ow) : Tags (.bare n ow.ob) := by
  obtain ⟨f, _, k2⟩ := t
  refine ⟨f, fun j p h => ?_, k2⟩
  have := List.eq_of_mem_replicate (List.mem_of_getElem? h)
  cases this
theorem Tags.setOwn (t : Tags ow) {i : Nat} {p : Addr} (h1 : some p ∉ ow.sl) (h2 : ¬ ow.Has p) : Tags (ow.set i (some p)) := by
  obtain ⟨f, k1, k2⟩ := t
  refine ⟨fun q => if q = p then (0, i) else f q, fun j q h => ?_, fun n oa h => ⟨?_, fun j q hq => ?_⟩⟩
  · rcases set_get (l := ow.sl) h with ⟨rfl, z⟩ | ⟨e, z⟩
    · cases z; simp
    · have : q ≠ p := fun y => by subst y; exact h1 (List.mem_of_getElem? z)
      simp only [if_neg this]; exact k1 j q z
  · have : oa.a ≠ p := fun y => h2 ⟨oa, List.mem_of_getElem? h, .inl y.symm⟩
    simp only [if_neg this]; exact (k2 n oa h).1
  · have : q ≠ p := fun y => by subst y; exact h2 ⟨oa, List.mem_of_getElem? h, .inr (List.mem_of_getElem? hq)⟩
    simp only [if_neg this]; exact (k2 n oa h).2 j q hq
theorem ObOk.mono {G G' : Hp} {oa : OA} {o : Ob} (h : ObOk C G H oa o) (e : Sm' G G') (k1 : ∀ o, H oa.a = some o → nt o = true → H' oa.a = some o) (k2 : ∀ p, some p ∈ oa.ps → ∀ o, H p = some o → nt o = true → H' p = some o) : ObOk C G' H' oa o := by
  obtain ⟨dx, vs, h1, h2, h3, h4⟩ := h.ex
  exact ⟨⟨dx, vs, k1 _ h1 rfl, h2, h3, fun j f x v p a b c => (h4 j f x v p a b c).mono e fun q u z hq n => k2 q (by rw [← z]; exact List.mem_of_getElem? c) u hq n⟩, h.sm, h.nd⟩
/-- the store stays -/
theorem StoreOk.mono {obs : List Ob} (st : StoreOk C B ow H obs) {B' : Addr → Bool} (e : Sm' (hid B ow H) (hid B' ow' H')) (k : ∀ q, ow.Has q → ∀ o, H q = some o → nt o = true → H' q = some o) (nB : ∀ q, ow.Has q → B' q = false) (t : Tags ow') (hob : ow'.ob = ow.ob := by rfl) : StoreOk C B' ow' H' obs where
  len := by rw [hob]; exact st.len
  ok := fun n oa o h1 h2 => by
    rw [hob] at h1
    exact (st.ok n oa o h1 h2).mono e (fun u hu n => k _ ⟨oa, List.mem_of_getElem? h1, .inl rfl⟩ u hu n) fun p hp u hu n => k _ ⟨oa, List.mem_of_getElem? h1, .inr hp⟩ u hu n
  nB := fun oa h => by
    rw [hob] at h
    exact ⟨nB _ ⟨oa, h, .inl rfl⟩, fun p hp => nB _ ⟨oa, h, .inr hp⟩⟩
  tag := t
theorem SR.there (R : SR C B ow s σ H) {p : Addr} (h : some p ∈ ow.sl) : ∃ o, H p = some o ∧ nt o = true ∧ Oh C p o := by
  obtain ⟨i, hi⟩ := List.getElem?_of_mem h
  have hl : i < σ.length := by
    have := (List.getElem?_eq_some_iff.mp hi).1
    have e := R.lenO
    unfold Ow.length at e
    omega
  have hs : i < s.ρ.length := by rw [R.len]; exact hl
  have h1 : s.ρ[i]? = some s.ρ[i] := List.getElem?_eq_getElem hs
  have h2 : σ[i]? = some σ[i] := List.getElem?_eq_getElem hl
  obtain ⟨u, z1, z2, _, z4⟩ := (R.slot i _ _ _ h1 h2 hi).own
  exact ⟨u, z1, z2, z4⟩
theorem SR.freeS (R : SR C B ow s σ H) {p : Addr} (hp : H p = none) : some p ∉ ow.sl := fun z => by
  obtain ⟨o, h, _⟩ := R.there z
  rw [hp] at h; cases h
theorem SR.freeH (R : SR C B ow s σ H) {p : Addr} (hp : H p = none) : ¬ ow.Has p := fun z => by
  obtain ⟨o, h, _⟩ := R.st.there z
  rw [hp] at h; cases h
theorem SR.freeO (R : SR C B ow s σ H) {p : Addr} (hp : H p = none) : some p ∉ ow := fun z => by
  rcases mem_has z with z | z
  · exact R.freeS hp z
  · exact R.freeH hp z
theorem SR.freeM (R : SR C B ow s σ H) {p : Addr} (hp : H p = none) : ¬ ∃ m, MarkAt ow.ob p m := fun ⟨m, z⟩ => R.freeH hp (mark_has z)
theorem SR.vis_ne (R : SR C B ow s σ H) {p b : Addr} {u : HO} (hp : H p = none) (h : shw ow.ob H b = some u) : b ≠ p := by
  rintro rfl
  rcases shw_some h with ⟨_, z, _⟩ | ⟨_, z⟩
  · rw [hp] at z; cases z
  · exact R.freeM hp ⟨_, z⟩

/-- the heap grows -/
theorem SR.grow (R : SR C B ow s σ H) (e0 : ∀ b o, H b = some o → H' b = some o) (e : Sm' H H' := fun b o h _ => e0 b o h) : SR C B ow s σ H' where
  len := R.len
  lenO := R.lenO
  slot := fun i x v p h1 h2 h3 => (R.slot i x v p h1 h2 h3).mono (hid_ow_le (fun b q => .inl q) (fun p q => .inl q) e) fun q o _ h n => e q o h n
  st := R.st.mono (hid_ow_le (fun b q => .inl q) (fun p q => .inl q) e) (fun q _ o h n => e q o h n) (fun q h => R.st.hasB h) R.st.tag
  nB := R.nB
  tB := fun b hb => by
    obtain ⟨o, h1, h2⟩ := R.tB b hb
    exact ⟨o, e b o h1 h2, h2⟩
  twB := R.twB
  rsB := R.rsB
  town := R.town.same e0

/-- slot i takes a plain value -/
theorem SR.setVal (R : SR C B ow s σ H) {i : Nat} {v : V} {d : D} (r : Rep C (hid B ow H) v d) : SR C B (ow.set i none) { s with ρ := s.ρ.set i (.val d) } (σ.set i (some v)) H where
  len := by simpa using R.len
  lenO := by rw [set_length]; simpa using R.lenO
  slot := fun j x w p h1 h2 h3 => by
    have le : Sm' (hid B ow H) (hid B (ow.set i none) H) := hid_ow_le (fun b q => .inl q) (fun p q => .inl (mem_set_none q)) (Sm'.refl _)
    rcases set_get h1 with ⟨e1, q1⟩ | ⟨e1, q1⟩
    · subst e1
      rcases set_get h2 with ⟨_, q2⟩ | ⟨e2, _⟩
      · rcases set_getO h3 with ⟨_, q3⟩ | ⟨e3, _⟩
        · subst q1 q2 q3
          exact Rep.mono le r
        · exact absurd rfl e3
      · exact absurd rfl e2
    · rcases set_get h2 with ⟨e2, _⟩ | ⟨_, q2⟩
      · exact absurd e2 e1
      · rcases set_getO h3 with ⟨e3, _⟩ | ⟨_, q3⟩
        · exact absurd e3 e1
        · exact (R.slot j x w p q1 q2 q3).mono le fun q o _ h _ => h
  st := R.st.mono (hid_ow_le (fun b q => .inl q) (fun p q => .inl (mem_set_none q)) (Sm'.refl _)) (fun q _ o h _ => h) (fun q h => R.st.hasB h) R.st.tag.setNone
  nB := fun p h => R.nB p (mem_set_none h)
  tB := R.tB
  twB := R.twB
  rsB := R.rsB
  town := R.town
theorem Stp.drop {i : Nat} : Stp C B ow H (ow.set i none) H := ⟨hid_ow_le (fun b q => .inl q) (fun p q => .inl (mem_set_none q)) (Sm'.refl _), fun _ _ _ _ _ h _ => h⟩
/-- slot i is emptied -/
theorem SR.setEmp (R : SR C B ow s σ H) {i : Nat} {v : Option V} : SR C B (ow.set i none) { s with ρ := s.ρ.set i .emp } (σ.set i v) H where
  len := by simpa using R.len
  lenO := by rw [set_length]; simpa using R.lenO
  slot := fun j x w p h1 h2 h3 => by
    have le : Sm' (hid B ow H) (hid B (ow.set i none) H) := hid_ow_le (fun b q => .inl q) (fun p q => .inl (mem_set_none q)) (Sm'.refl _)
    rcases set_get h1 with ⟨e1, q1⟩ | ⟨e1, q1⟩
    · subst e1
      rcases set_getO h3 with ⟨_, q3⟩ | ⟨e3, _⟩
      · subst q1 q3
        trivial
      · exact absurd rfl e3
    · rcases set_get h2 with ⟨e2, _⟩ | ⟨_, q2⟩
      · exact absurd e2 e1
      · rcases set_getO h3 with ⟨e3, _⟩ | ⟨_, q3⟩
        · exact absurd e3 e1
        · exact (R.slot j x w p q1 q2 q3).mono le fun q o _ h _ => h
  st := R.st.mono (hid_ow_le (fun b q => .inl q) (fun p q => .inl (mem_set_none q)) (Sm'.refl _)) (fun q _ o h _ => h) (fun q h => R.st.hasB h) R.st.tag.setNone
  nB := fun p h => R.nB p (mem_set_none h)
  tB := R.tB
  twB := R.twB
  rsB := R.rsB
  town := R.town

/-! ### one more hidden address -/
def addB (B : Addr → Bool) (p : Addr) : Addr → Bool := fun b => B b || decide (b = p)
theorem addB_iff {p b : Addr} : addB B p b = true ↔ B b = true ∨ b = p := by simp [addB]
theorem SR.unB {p : Addr} (R : SR C (addB B p) ow s σ H) (twB : B C.tw = true) (rsB : B C.rs = true) : SR C B ow s σ H where
  len := R.len
  lenO := R.lenO
  slot := fun i x v q h1 h2 h3 => (R.slot i x v q h1 h2 h3).mono (hid_ow_le (fun b z => .inl (addB_iff.mpr (.inl z))) (fun _ z => .inl z) (Sm'.refl _)) fun _ _ _ h _ => h
  st := R.st.mono (hid_ow_le (fun b z => .inl (addB_iff.mpr (.inl z))) (fun _ z => .inl z) (Sm'.refl _)) (fun q _ o h _ => h) (fun q h => by
    have := R.st.hasB h
    cases z : B q with
    | false => rfl
    | true => rw [addB_iff.mpr (.inl z)] at this; cases this) R.st.tag
  nB := fun q h => by
    have := R.nB q h
    cases z : B q with
    | false => rfl
    | true => rw [addB_iff.mpr (.inl z)] at this; cases this
  tB := fun b h => R.tB b (addB_iff.mpr (.inl h))
  twB := twB
  rsB := rsB
  town := R.town
theorem SR.pNow {p : Addr} (R : SR C (addB B p) ow s σ H) : some p ∉ ow := fun h => by
  have := R.nB p h
  rw [addB_iff.mpr (.inr rfl)] at this; cases this
theorem hid_unB {p : Addr} : Sm' (hid (addB B p) ow H) (hid B ow H) := hid_ow_le (fun b z => .inl (addB_iff.mpr (.inl z))) (fun _ z => .inl z) (Sm'.refl _)
/-- a new object is hidden -/
theorem SR.newB (R : SR C B ow s σ H) {p : Addr} {o : HO} (hp : H p = none) (hn : nt o = true) : SR C (addB B p) ow s σ (upd H p o) := by
  have e : Sm' H (upd H p o) := fun b u h _ => by rw [upd_ne (ne_of_none h hp)]; exact h
  have np : some p ∉ ow := R.freeO hp
  have le : Sm' (hid B ow H) (hid (addB B p) ow (upd H p o)) := fun b u h n => by
    obtain ⟨h1, h2, h3⟩ := hid_some.mp h
    have : b ≠ p := R.vis_ne hp h3
    refine hid_some.mpr ⟨?_, h2, by rw [shw_upd_ne this]; exact h3⟩
    simp [addB, h1, this]
  refine ⟨R.len, R.lenO, fun i x v q h1 h2 h3 => (R.slot i x v q h1 h2 h3).mono le fun q o _ h n => e q o h n, ?_, fun q h => ?_, fun b h => ?_, addB_iff.mpr (.inl R.twB), addB_iff.mpr (.inl R.rsB), ?_⟩
  · refine R.st.mono le (fun q _ o h n => e q o h n) (fun q h => ?_) R.st.tag
    have h1 := R.st.hasB h
    have h2 : q ≠ p := fun z => by subst z; exact R.freeH hp h
    simp [addB, h1, h2]
  · have h1 := R.nB q h
    have h2 : q ≠ p := fun z => by subst z; exact np h
    simp [addB, h1, h2]
  · rcases addB_iff.mp h with h | h
    · obtain ⟨u, h1, h2⟩ := R.tB b h
      exact ⟨u, e b u h1 h2, h2⟩
    · subst h
      exact ⟨o, upd_same, hn⟩
  · exact R.town.same fun b u h => by rw [upd_ne (ne_of_none h hp)]; exact h
theorem SR.newLe (R : SR C B ow s σ H) {p : Addr} {o : HO} (hp : H p = none) : Sm' (hid B ow H) (hid (addB B p) ow (upd H p o)) := fun b u h n => by
  obtain ⟨h1, h2, h3⟩ := hid_some.mp h
  have : b ≠ p := R.vis_ne hp h3
  refine hid_some.mpr ⟨by simp [addB, h1, this], h2, by rw [shw_upd_ne this]; exact h3⟩
theorem SR.freeB (R : SR C B ow s σ H) {p : Addr} (hp : H p = none) : B p = false := by
  cases q : B p with
  | false => rfl
  | true => obtain ⟨o, h, _⟩ := R.tB p q; rw [hp] at h; cases h
theorem own_le {i : Nat} {p : Addr} : Sm' (hid (addB B p) ow H) (hid B (ow.set i (some p)) H) := hid_ow_le (fun b z => .inl (addB_iff.mpr (.inl z))) (fun q z => by
  rcases mem_set_iff z with z | z
  · exact .inl z
  · cases z; exact .inr (addB_iff.mpr (.inr rfl))) (Sm'.refl _)
/-- slot i comes to own the hidden object at p -/
theorem SR.setOwn {i : Nat} {p : Addr} {x : Slot} (R : SR C (addB B p) ow s σ H) (hB : B p = false) (twB : B C.tw = true) (rsB : B C.rs = true) (hx : SlotOk C (hid (addB B p) ow H) H x (some (.ref p)) (some p)) :
    SR C B (ow.set i (some p)) { s with ρ := s.ρ.set i x } (σ.set i (some (.ref p))) H where
  len := by simpa using R.len
  lenO := by rw [set_length]; simpa using R.lenO
  slot := fun j y w q h1 h2 h3 => by
    have le := own_le (i := i) (ow := ow) (B := B) (p := p) (H := H)
    rcases set_get h1 with ⟨e1, q1⟩ | ⟨e1, q1⟩
    · subst e1
      rcases set_get h2 with ⟨_, q2⟩ | ⟨e2, _⟩
      · rcases set_getO h3 with ⟨_, q3⟩ | ⟨e3, _⟩
        · subst q1 q2 q3
          exact hx.mono le fun _ _ _ h _ => h
        · exact absurd rfl e3
      · exact absurd rfl e2
    · rcases set_get h2 with ⟨e2, _⟩ | ⟨_, q2⟩
      · exact absurd e2 e1
      · rcases set_getO h3 with ⟨e3, _⟩ | ⟨_, q3⟩
        · exact absurd e3 e1
        · exact (R.slot j y w q q1 q2 q3).mono le fun q o _ h _ => h
  st := R.st.mono own_le (fun q _ o h _ => h) (fun q h => by
    have := R.st.hasB h
    cases z : B q with
    | false => rfl
    | true => rw [addB_iff.mpr (.inl z)] at this; cases this) (R.st.tag.setOwn (fun z => R.pNow (Ow.mem_iff.mpr (.inl z))) fun z => by
      have := R.st.hasB z
      rw [addB_iff.mpr (.inr rfl)] at this; cases this)
  nB := fun q h => by
    rcases mem_set_iff h with z | z
    · have := R.nB q z
      cases y : B q with
      | false => rfl
      | true => rw [addB_iff.mpr (.inl y)] at this; cases this
    · cases z; exact hB
  tB := fun b h => R.tB b (addB_iff.mpr (.inl h))
  twB := twB
  rsB := rsB
  town := R.town
theorem SR.ownOh (R : SR C B ow s σ H) {i : Nat} {p : Addr} {u : HO} (hi : ow[i]? = some (some p)) (hu : H p = some u) : Oh C p u := by
  obtain ⟨o, h1, _, h2⟩ := R.there (List.mem_of_getElem? hi)
  rw [hu] at h1; cases h1
  exact h2
/-- the object that slot i owns is changed -/
theorem SR.wrOwn {i : Nat} {p : Addr} {x : Slot} {o : HO} (R : SR C B ow s σ H) (hi : ow[i]? = some (some p)) (hσ : σ[i]? = some (some (.ref p))) (hx : SlotOk C (hid B ow H) (upd H p o) x (some (.ref p)) (some p)) :
    SR C B ow { s with ρ := s.ρ.set i x } σ (upd H p o) where
  len := by simpa using R.len
  lenO := R.lenO
  slot := fun j y w q h1 h2 h3 => by
    have hp : some p ∈ ow := get_mem hi
    have le : Sm' (hid B ow H) (hid B ow (upd H p o)) := fun b u h n => by
      obtain ⟨k1, k2, k3⟩ := hid_some.mp h
      exact hid_some.mpr ⟨k1, k2, by rw [shw_upd_ne (fun z => by subst z; exact k2 hp)]; exact k3⟩
    rcases set_get h1 with ⟨e1, q1⟩ | ⟨e1, q1⟩
    · subst e1 q1
      rw [hσ] at h2; cases h2
      rw [hi] at h3; cases h3
      exact hx.mono le fun _ _ _ h _ => h
    · refine (R.slot j y w q q1 h2 h3).mono le fun q' u e h n => ?_
      subst e
      rw [upd_ne (fun z => by subst z; exact e1 (R.inj _ _ _ h3 hi))]
      exact h
  st := by
    have hp : some p ∈ ow := get_mem hi
    refine R.st.mono (fun b u h n => ?_) (fun q hq u h n => ?_) (fun q h => R.st.hasB h) R.st.tag
    · obtain ⟨k1, k2, k3⟩ := hid_some.mp h
      exact hid_some.mpr ⟨k1, k2, by rw [shw_upd_ne (fun z => by subst z; exact k2 hp)]; exact k3⟩
    · rw [upd_ne (R.st.tag.has_ne hq (List.mem_of_getElem? hi))]; exact h
  nB := R.nB
  tB := fun b h => by
    obtain ⟨u, h1, h2⟩ := R.tB b h
    have : b ≠ p := fun z => by subst z; rw [R.nB b (get_mem hi)] at h; cases h
    exact ⟨u, by rw [upd_ne this]; exact h1, h2⟩
  twB := R.twB
  rsB := R.rsB
  town := by
    have n1 : C.tw ≠ p := fun z => by have := R.nB p (get_mem hi); rw [← z, R.twB] at this; cases this
    have n2 : C.rs ≠ p := fun z => by have := R.nB p (get_mem hi); rw [← z, R.rsB] at this; cases this
    exact R.town.upd (fun u hu => R.ownOh hi hu) n1 n2
theorem SR.wrStp {i : Nat} {p : Addr} {o : HO} (R : SR C B ow s σ H) (hi : ow[i]? = some (some p)) : Stp C B ow H ow (upd H p o) := by
  have hp : some p ∈ ow := get_mem hi
  refine ⟨fun b u h n => ?_, fun b u h _ _ k _ => ?_⟩
  · obtain ⟨k1, k2, k3⟩ := hid_some.mp h
    exact hid_some.mpr ⟨k1, k2, by rw [shw_upd_ne (fun z => by subst z; exact k2 hp)]; exact k3⟩
  · rw [upd_ne (fun z => by subst z; rw [R.nB b hp] at h; cases h)]
    exact k
/-- the object that slot i owns is let go, and locked -/
theorem SR.freeze {i : Nat} {p : Addr} {o : HO} (R : SR C B ow s σ H) (hi : ow[i]? = some (some p)) :
    Sm' (hid B ow H) (hid B (ow.set i none) (upd H p o)) ∧ Stp C B ow H (ow.set i none) (upd H p o) ∧ SR C B (ow.set i none) { s with ρ := s.ρ.set i .emp } σ (upd H p o) := by
  have hp : some p ∈ ow := get_mem hi
  have le : Sm' (hid B ow H) (hid B (ow.set i none) (upd H p o)) := fun b u h n => by
    obtain ⟨k1, k2, k3⟩ := hid_some.mp h
    exact hid_some.mpr ⟨k1, fun z => k2 (mem_set_none z), by rw [shw_upd_ne (fun z => by subst z; exact k2 hp)]; exact k3⟩
  have nB : ∀ b, B b = true → b ≠ p := fun b h z => by subst z; rw [R.nB b hp] at h; cases h
  refine ⟨le, ⟨le, fun b u h _ _ k _ => by rw [upd_ne (nB b h)]; exact k⟩, ?_⟩
  exact {
    len := by simpa using R.len
    lenO := by rw [set_length]; simpa using R.lenO
    slot := fun j x w q h1 h2 h3 => by
      rcases set_get h1 with ⟨e1, q1⟩ | ⟨e1, q1⟩
      · subst e1
        rcases set_getO h3 with ⟨_, q3⟩ | ⟨e3, _⟩
        · subst q1 q3
          trivial
        · exact absurd rfl e3
      · rcases set_getO h3 with ⟨e3, _⟩ | ⟨_, q3⟩
        · exact absurd e3 e1
        · refine (R.slot j x w q q1 h2 q3).mono le fun q' u e h n => ?_
          subst e
          rw [upd_ne (fun z => by subst z; exact e1 (R.inj _ _ _ q3 hi))]
          exact h
    st := R.st.mono le (fun q hq u h n => by rw [upd_ne (R.st.tag.has_ne hq (List.mem_of_getElem? hi))]; exact h) (fun q h => R.st.hasB h) R.st.tag.setNone
    nB := fun p h => R.nB p (mem_set_none h)
    tB := fun b h => by
      obtain ⟨u, h1, h2⟩ := R.tB b h
      exact ⟨u, by rw [upd_ne (nB b h)]; exact h1, h2⟩
    twB := R.twB
    rsB := R.rsB
    town := R.town.upd (fun u hu => R.ownOh hi hu) (nB _ R.twB) (nB _ R.rsB) }
/-- what a slot holds -/
theorem SR.at (R : SR C B ow s σ H) {i : Nat} {x : Slot} (h : s.ρ[i]? = some x) : ∃ v p, σ[i]? = some v ∧ ow[i]? = some p ∧ SlotOk C (hid B ow H) H x v p := by
  have hl : i < s.ρ.length := (List.getElem?_eq_some_iff.mp h).1
  have h2 : σ[i]? = some (σ[i]'(by rw [← R.len]; exact hl)) := List.getElem?_eq_getElem _
  have h3 : ow[i]? = some (ow.sl[i]'(by have := R.lenO; have := R.len; unfold Ow.length at *; omega)) := List.getElem?_eq_getElem (l := ow.sl) _
  exact ⟨_, _, h2, h3, R.slot i _ _ _ h h2 h3⟩
/-- a slot lets go -/
theorem SR.dropNot (R : SR C B ow s σ H) {i : Nat} {p : Addr} (h2 : ow[i]? = some (some p)) : some p ∉ ow.set i none := fun z => by
  rcases Ow.mem_iff.mp z with z | ⟨oa, k1, k2⟩
  · obtain ⟨j, hj⟩ := List.getElem?_of_mem z
    rcases set_get (l := ow.sl) hj with ⟨_, q⟩ | ⟨e, q⟩
    · cases q
    · exact e (R.inj _ _ _ q h2)
  · exact R.st.tag.has_ne ⟨oa, k1, .inr (List.mem_of_getElem? k2)⟩ (List.mem_of_getElem? h2) rfl
theorem SR.noMark (R : SR C B ow s σ H) {i : Nat} {p : Addr} (h2 : ow[i]? = some (some p)) : ¬ ∃ m, MarkAt ow.ob p m := fun ⟨m, z⟩ => R.st.tag.has_ne (mark_has z) (List.mem_of_getElem? h2) rfl
theorem SR.noMarkB (R : SR C B ow s σ H) {p : Addr} (h : B p = true) : ¬ ∃ m, MarkAt ow.ob p m := fun ⟨m, z⟩ => by
  have := R.st.hasB (mark_has z)
  rw [h] at this; cases this
theorem Tags.z (t : Tags ow) : Tags (.z ow.ob) := by
  obtain ⟨f, _, k2⟩ := t
  refine ⟨f, fun j p h => ?_, k2⟩
  simp [Ow.z] at h
theorem z_mem {ob : List OA} {p : Addr} (h : some p ∈ Ow.z ob) {sl : List (Option Addr)} : some p ∈ (⟨sl, ob⟩ : Ow) := by
  rcases Ow.mem_iff.mp h with h | h
  · cases h
  · exact Ow.mem_iff.mpr (.inr h)
theorem hid_z {B' : Addr → Bool} (hB : ∀ b, B b = true → B' b = true) : Sm' (hid B' ow H) (hid B (.z ow.ob) H) := hid_ow_le (fun b q => .inl (hB b q)) (fun p q => .inl (z_mem q)) (Sm'.refl _)
theorem StoreOk.z {obs : List Ob} {B' : Addr → Bool} (st : StoreOk C B' ow H obs) (hB : ∀ b, B b = true → B' b = true) : StoreOk C B (.z ow.ob) H obs :=
  st.mono (hid_z hB) (fun _ _ _ h _ => h) (fun q h => by
    have := st.hasB h
    cases z : B q with
    | false => rfl
    | true => rw [hB q z] at this; cases this) st.tag.z
theorem SR.fin (R : SR C B ow s σ H) : Fin C B ow H s.τ H := ⟨R.town, ⟨ow.ob, hid_z fun _ h => h, R.st.z fun _ h => h⟩, fun _ _ _ _ _ h _ => h⟩
theorem Fin.of {B' : Addr → Bool} {ow1 : Ow} {H1 : Hp} {τ : Town} (f : Fin C B' ow1 H1 τ H') (hle : ∀ b, B b = true → B' b = true) (fr : Sm' (hid B ow H) (hid B' ow1 H1)) (hd : ∀ b o, B b = true → b ≠ C.tw → b ≠ C.rs → H b = some o → nt o = true → H' b = some o) : Fin C B ow H τ H' := by
  obtain ⟨ob, h1, h2⟩ := f.fr
  exact ⟨f.town, ⟨ob, (fr.trans h1).trans (hid_z (ow := .z ob) hle), h2.z (ow := .z ob) hle⟩, hd⟩
end
end Mn

set_option Elab.async false
set_option linter.all false
set_option maxRecDepth 100000
set_option maxHeartbeats 1000000
namespace Mn
open PySem L2

section
variable {C : Cf} {E : XK} {B : Addr → Bool} {ow : Ow} {s : S} {σ : St} {H : Hp} {Q : VK}
theorem bindE {ta : TE} {fa : S → Out D} {g : D → S → Out D} {k : VK} (ha : Ok C E ta fa) (R : SR C B ow s σ H) (h : wpE C E B ow H σ ((fa s).bind g) Q)
    (hk : ∀ d s1 ow1 v H1, SR C B ow1 s1 σ H1 → Stp C B ow H ow1 H1 → Rep C (hid B ow1 H1) v d → wpE C E B ow1 H1 σ (g d s1) Q → k v H1) : ta σ H k := by
  refine ha B ow s σ H k R ?_
  cases q : fa s with
  | ok d s1 =>
    intro ow1 v H1 R1 st r
    refine hk d s1 ow1 v H1 R1 st r ?_
    rw [q] at h
    exact wpE.step st h
  | exc c τ => rw [q] at h; exact h
  | bad => rw [q] at h; exact h
theorem SR.peek (R : SR C B ow s σ H) {i : Nat} {d : D} {s1 : S} (h : peek i s = .ok d s1) : s1 = s ∧ ∃ v, σ[i]? = some (some v) ∧ RepB C B ow H v d := by
  unfold Mn.peek Out.of at h
  cases q : s.ρ[i]? with
  | none => rw [q] at h; cases h
  | some x =>
    rw [q] at h
    obtain ⟨v, p, h1, h2, h3⟩ := R.at q
    cases x with
    | emp => cases h
    | val e =>
      cases h
      cases v with
      | none => exact h3.elim
      | some v => cases p with
        | none => exact ⟨rfl, v, h1, .inl h3⟩
        | some p => exact h3.elim
    | lst ds =>
      cases h
      cases v with
      | none => exact h3.elim
      | some v => cases p with
        | none => exact h3.elim
        | some p => exact ⟨rfl, v, h1, .inr ⟨p, .lst ds, h3.1, trivial, h3, rfl⟩⟩
    | dct n ds =>
      cases h
      cases v with
      | none => exact h3.elim
      | some v => cases p with
        | none => exact h3.elim
        | some p => exact ⟨rfl, v, h1, .inr ⟨p, .dct n ds, h3.1, trivial, h3, rfl⟩⟩
end

section
variable (Φ : Nat → Fn) (gc : Nat → D)
/-- a name's value; a dict that it holds may be locked -/
def tVarF (i : Nat) : TE := fun σ H Q => ∃ v, σ[i]? = some (some v) ∧ (Q v H ∨ ∃ p u, v = .ref p ∧ H p = some u ∧ Mut (some u) ∧ ∀ od, Q v (upd H p (.frz od u)))
theorem pe_varF {X : Cx} {e : Expr} {i : Nat} (h : PE X e (tVar i)) : PE X e (tVarF i) := by
  refine ⟨fun pins s σ H Q I hw => ?_⟩
  obtain ⟨v, hv, hw⟩ := hw
  refine thn (h.run pins s σ H (fun v' H' => v' = v ∧ H' = H) I ⟨v, hv, rfl, rfl⟩) fun u s1 ⟨x, H1, I1, r, q⟩ => ?_
  obtain ⟨rfl, rfl⟩ := q
  rcases hw with hw | ⟨p, u', rfl, hp, mu, hw⟩
  · exact ⟨x, H1, I1, r, hw⟩
  · obtain ⟨od, I2⟩ := I1.lock hp mu
    exact ⟨_, _, I2, r, hw od⟩
/-- what is given is locked -/
def tFrz (t : TE) : TE := fun σ H Q => t σ H fun v H1 => ∃ p u, v = .ref p ∧ H1 p = some u ∧ Mut (some u) ∧ ∀ od, Q v (upd H1 p (.frz od u))
theorem pe_frz {X : Cx} {e : Expr} {t : TE} (h : PE X e t) : PE X e (tFrz t) := by
  refine ⟨fun pins s σ H Q I hw => ?_⟩
  refine thn (h.run pins s σ H _ I hw) fun u s1 ⟨x, H1, I1, r, q⟩ => ?_
  obtain ⟨p, u', rfl, hp, mu, hw⟩ := q
  obtain ⟨od, I2⟩ := I1.lock hp mu
  exact ⟨_, _, I2, r, hw od⟩
/-- an expression of the text, its IR, its reading -/
structure Sd (C : Cf) (E : XK) (X : Cx) (a : Ex) (e : Expr) (t : TE) : Prop where
  pe : PE X e t
  ok : Ok C E t (ev Φ gc a)
  vr : a.isV = true → t = tVarF a.vix
end

section
variable {Φ : Nat → Fn} {gc : Nat → D} {C : Cf} {E : XK} {X : Cx} {B : Addr → Bool} {ow : Ow} {s : S} {σ : St} {H : Hp} {Q : VK}
/-- an operand that is only read -/
theorem bindB {a : Ex} {e : Expr} {ta : TE} {g : D → S → Out D} {k : VK} (ha : Sd Φ gc C E X a e ta) (R : SR C B ow s σ H) (h : wpE C E B ow H σ ((if a.isV then peek a.vix s else ev Φ gc a s).bind g) Q)
    (hk : ∀ d s1 ow1 v H1, SR C B ow1 s1 σ H1 → Stp C B ow H ow1 H1 → RepB C B ow1 H1 v d → wpE C E B ow1 H1 σ (g d s1) Q → k v H1) : ta σ H k := by
  cases hv : a.isV with
  | true =>
    rw [ha.vr hv]
    rw [hv, if_pos rfl] at h
    cases q : peek a.vix s with
    | ok d s1 =>
      rw [q] at h
      obtain ⟨rfl, v, h1, h2⟩ := R.peek q
      exact ⟨v, h1, .inl (hk d s1 ow v H R Stp.refl h2 h)⟩
    | exc c τ => unfold Mn.peek Out.of at q; split at q <;> cases q
    | bad => rw [q] at h; exact h.elim
  | false =>
    rw [hv, if_neg (by decide)] at h
    exact bindE ha.ok R h fun d s1 ow1 v H1 R1 st r => hk d s1 ow1 v H1 R1 st (.inl r)
theorem RepB.step {ow1 : Ow} {H1 : Hp} {v : V} {d : D} (h : Rep C (hid B ow H) v d) (st : Stp C B ow H ow1 H1) : Rep C (hid B ow1 H1) v d := h.mono st.fr
/-- the first of two operands, read again behind the second -/
theorem reread_ok {a : Ex} {e : Expr} {ta : TE} {g : D → S → Out D} {ow1 : Ow} {s1 : S} {H1 : Hp} {v : V} {x : D} (ha : Sd Φ gc C E X a e ta) (hv : a.isV = true → σ[a.vix]? = some (some v)) (hn : a.isV = false → Rep C (hid B ow H) v x)
    (R1 : SR C B ow1 s1 σ H1) (st : Stp C B ow H ow1 H1) (h : wpE C E B ow1 H1 σ ((reread a x s1).bind g) Q) : ∃ x', RepB C B ow1 H1 v x' ∧ wpE C E B ow1 H1 σ (g x' s1) Q := by
  cases q : a.isV with
  | true =>
    unfold reread at h
    rw [q, if_pos rfl] at h
    cases p : peek a.vix s1 with
    | ok d s2 =>
      rw [p] at h
      obtain ⟨rfl, v', h1, h2⟩ := R1.peek p
      rw [hv q] at h1
      cases h1
      exact ⟨d, h2, h⟩
    | exc c τ => unfold Mn.peek Out.of at p; split at p <;> cases p
    | bad => rw [p] at h; exact h.elim
  | false =>
    unfold reread at h
    rw [q, if_neg (by decide)] at h
    exact ⟨x, .inl ((hn q).mono st.fr), h⟩
/-- two operands that are only read -/
theorem bind2 {a b : Ex} {e e' : Expr} {ta tb : TE} {g : D → D → S → Out D} {k : V → V → Hp → Prop} (ha : Sd Φ gc C E X a e ta) (hb : Sd Φ gc C E X b e' tb) (R : SR C B ow s σ H)
    (h : wpE C E B ow H σ ((if a.isV then peek a.vix s else ev Φ gc a s).bind fun x s1 => (if b.isV then peek b.vix s1 else ev Φ gc b s1).bind fun y s2 => (reread a x s2).bind fun x' s3 => g x' y s3) Q)
    (hk : ∀ x y s2 ow2 v u H2, SR C B ow2 s2 σ H2 → Stp C B ow H ow2 H2 → RepB C B ow2 H2 v x → RepB C B ow2 H2 u y → wpE C E B ow2 H2 σ (g x y s2) Q → k v u H2) : ta σ H fun v H1 => tb σ H1 fun u H2 => k v u H2 := by
  cases hv : a.isV with
  | true =>
    rw [ha.vr hv]
    rw [hv, if_pos rfl] at h
    cases q : peek a.vix s with
    | ok d s1 =>
      rw [q] at h
      obtain ⟨rfl, v, h1, h2⟩ := R.peek q
      refine ⟨v, h1, .inl (bindB hb R h fun y s2 ow2 u H2 R2 st r2 h3 => ?_)⟩
      obtain ⟨x', r1, h4⟩ := reread_ok ha (fun _ => h1) (fun z => by rw [hv] at z; cases z) R2 st h3
      exact hk x' y s2 ow2 v u H2 R2 st r1 r2 h4
    | exc c τ => unfold Mn.peek Out.of at q; split at q <;> cases q
    | bad => rw [q] at h; exact h.elim
  | false =>
    rw [hv, if_neg (by decide)] at h
    refine bindE ha.ok R h fun x s1 ow1 v H1 R1 st1 r1 h1 => ?_
    refine bindB hb R1 h1 fun y s2 ow2 u H2 R2 st r2 h3 => ?_
    obtain ⟨x', r1', h4⟩ := reread_ok ha (fun z => by rw [hv] at z; cases z) (fun _ => r1) R2 st h3
    exact hk x' y s2 ow2 v u H2 R2 (st1.trans st) r1' r2 h4
/-- an answer that leaves the state -/
theorem wpE.give {o : Option D} {d : D} {v : V} (h : wpE C E B ow H σ (Out.of o s) Q) (e : o = some d) (R : SR C B ow s σ H) (r : Rep C (hid B ow H) v d) : Q v H := by
  subst e
  exact h ow v H R Stp.refl r
/-- .. by a new object -/
theorem wpE.giveNew {d : D} {p : Addr} {o : HO} (h : wpE C E B ow H σ (.ok d s) Q) (R : SR C B ow s σ H) (hp : H p = none) (r : Rep C (hid B ow (upd H p o)) (.ref p) d) : Q (.ref p) (upd H p o) := by
  have e0 : ∀ b u, H b = some u → upd H p o b = some u := fun b u h => by rw [upd_ne (ne_of_none h hp)]; exact h
  have e : Sm' H (upd H p o) := fun b u h _ => e0 b u h
  exact h ow (.ref p) _ (R.grow e0) ⟨hid_ow_le (fun b q => .inl q) (fun p q => .inl q) e, fun b u _ _ _ h n => e b u h n⟩ r
theorem SR.visNew (R : SR C B ow s σ H) {p : Addr} {o : HO} (hp : H p = none) (hn : nm o = true := by rfl) : hid B ow (upd H p o) p = some o := hid_some.mpr ⟨R.freeB hp, R.freeO hp, shw_of upd_same hn (R.freeM hp)⟩
theorem SR.growNew (R : SR C B ow s σ H) {p : Addr} {o : HO} (hp : H p = none) : Sm' (hid B ow H) (hid B ow (upd H p o)) :=
  hid_ow_le (fun b q => .inl q) (fun p q => .inl q) fun b u h _ => by rw [upd_ne (ne_of_none h hp)]; exact h
/-- lists and tuples that are read -/
theorem RepB.list {v : V} {ds : List D} (r : RepB C B ow H v (.lst ds)) : ∃ a vs, v = .ref a ∧ H a = some (.lst vs) ∧ RepA C (hid B ow H) vs ds := by
  rcases r with r | ⟨p, x, rfl, hp, hx, hd⟩
  · cases r with
    | lst h q _ => exact ⟨_, _, rfl, (hid_le h), q⟩
  · cases x with
    | emp => cases hd
    | val d => exact hx.elim
    | lst es =>
      cases hd
      obtain ⟨_, vs, h, q, _⟩ := hx
      exact ⟨p, vs, rfl, h, q⟩
    | dct _ _ => cases hd
theorem RepB.tuple {v : V} {ds : List D} (r : RepB C B ow H v (.tup ds)) : ∃ a vs, v = .ref a ∧ SqT C.K H a vs ∧ RepA C (hid B ow H) vs ds ∧ Rep C (hid B ow H) (.ref a) (.tup ds) := by
  rcases r with r | ⟨p, x, rfl, hp, hx, hd⟩
  · cases r with
    | tup h q l => exact ⟨_, _, rfl, hid_sqT h, q, .tup h q l⟩
  · cases x <;> first | exact hx.elim | cases hd
theorem RepB.lenL {v : V} {ds : List D} (r : RepB C B ow H v (.lst ds)) : ds.length ≤ LIM := by
  rcases r with r | ⟨p, x, rfl, hp, hx, hd⟩
  · cases r with
    | lst h q l => exact l
  · cases x with
    | emp => cases hd
    | val d => exact hx.elim
    | lst es =>
      cases hd
      obtain ⟨_, vs, h, q, l⟩ := hx
      exact l
    | dct _ _ => cases hd
theorem RepB.lenT {v : V} {ds : List D} (r : RepB C B ow H v (.tup ds)) : ds.length ≤ LIM := by
  rcases r with r | ⟨p, x, rfl, hp, hx, hd⟩
  · cases r with
    | tup h q l => exact l
  · cases x <;> first | exact hx.elim | cases hd
theorem RepB.int {v : V} {i : Int} (r : RepB C B ow H v (.int i)) : v = .int i := by
  rcases r with r | ⟨p, x, rfl, hp, hx, hd⟩
  · cases r; rfl
  · cases x <;> first | exact hx.elim | cases hd
theorem RepB.str {v : V} {i : Str} (r : RepB C B ow H v (.str i)) : v = .str i := by
  rcases r with r | ⟨p, x, rfl, hp, hx, hd⟩
  · cases r; rfl
  · cases x <;> first | exact hx.elim | cases hd
theorem RepB.bl {v : V} {i : Bool} (r : RepB C B ow H v (.bl i)) : v = .bl i := by
  rcases r with r | ⟨p, x, rfl, hp, hx, hd⟩
  · cases r; rfl
  · cases x <;> first | exact hx.elim | cases hd
theorem RepB.non {v : V} (r : RepB C B ow H v .non) : v = .non := by
  rcases r with r | ⟨p, x, rfl, hp, hx, hd⟩
  · cases r; rfl
  · cases x <;> first | exact hx.elim | cases hd
mutual
theorem Rep.dp {G : Hp} (e : Sn G H) : ∀ (n : Nat) {v : V} {d : D}, Rep C G v d → D.okb n d = true → Dp C.K H v d.py
  | 0, _, _, _, h => by simp [D.okb] at h
  | _ + 1, _, _, .non, _ => .non
  | _ + 1, _, _, .bl b, _ => .bl b
  | _ + 1, _, _, .int i, _ => .int i
  | _ + 1, _, _, .str x, _ => .str x
  | n + 1, _, _, .tup h r _, k => .tup (e.sqT h) (RepA.dp e n r (by simpa [D.okb] using k))
  | n + 1, _, _, .lst h r _, k => .lst (.inl (.inl (e _ _ h rfl))) (RepA.dp e n r (by simpa [D.okb] using k))
  | _ + 1, _, _, .dK _ _ _, k => by simp [D.okb] at k
  | _ + 1, _, _, .dN _ _ _ _ _ _, k => by simp [D.okb] at k
  | _ + 1, _, _, .town, k => by simp [D.okb] at k
  | _ + 1, _, _, .script _, k => by simp [D.okb] at k
  | _ + 1, _, _, .fnv _ _, k => by simp [D.okb] at k
  | _ + 1, _, _, .obj _ _, k => by simp [D.okb] at k
theorem RepA.dp {G : Hp} (e : Sn G H) : ∀ (n : Nat) {vs : List V} {ds : List D}, RepA C G vs ds → (∀ d ∈ ds, D.okb n d = true) → DpAll C.K H vs (D.pys ds)
  | _, _, _, .nil, _ => .nil
  | n, _, _, .cons r t, h => .cons (Rep.dp e n r (h _ (by simp))) (RepA.dp e n t fun d hd => h d (by simp [hd]))
end
theorem RepB.dp {v : V} {d : D} {n : Nat} (r : RepB C B ow H v d) (k : D.okb n d = true) : Dp C.K H v d.py := by
  rcases r with r | ⟨p, x, rfl, hp, hx, hd⟩
  · exact Rep.dp hid_sn n r k
  · cases x with
    | emp => cases hd
    | val d => exact hx.elim
    | lst es =>
      cases hd
      obtain ⟨_, vs, h, q, _⟩ := hx
      cases n with
      | zero => simp [D.okb] at k
      | succ n => exact .lst (.inl (.inl h)) (RepA.dp hid_sn n q (by simpa [D.okb] using k))
    | dct _ _ =>
      cases hd
      cases n <;> simp [D.okb] at k
end
mutual
theorem D.eqv_py : ∀ (n m : Nat) (a b : D), D.okb n a = true → D.okb m b = true → PyData.eqv a.py b.py = D.eqb a b
  | 0, _, _, _, h, _ => by simp [D.okb] at h
  | _, 0, _, _, _, h => by simp [D.okb] at h
  | n + 1, m + 1, a, b, h, k => by
    cases a with
    | dct _ _ => simp [D.okb] at h
    | tok _ => simp [D.okb] at h
    | tup xs =>
      cases b with
      | tup ys =>
        simp only [D.py, PyData.eqv, D.eqb]
        exact D.eqvs_py n m xs ys (by simpa [D.okb] using h) (by simpa [D.okb] using k)
      | dct _ _ => simp [D.okb] at k
      | tok _ => simp [D.okb] at k
      | _ => simp [D.py, PyData.eqv, D.eqb]
    | lst xs =>
      cases b with
      | lst ys =>
        simp only [D.py, PyData.eqv, D.eqb]
        exact D.eqvs_py n m xs ys (by simpa [D.okb] using h) (by simpa [D.okb] using k)
      | dct _ _ => simp [D.okb] at k
      | tok _ => simp [D.okb] at k
      | _ => simp [D.py, PyData.eqv, D.eqb]
    | non => cases b <;> first | (simp [D.okb] at k; done) | simp [D.py, PyData.eqv, D.eqb]
    | bl x => cases b <;> first | (simp [D.okb] at k; done) | simp [D.py, PyData.eqv, D.eqb]
    | int x => cases b <;> first | (simp [D.okb] at k; done) | simp [D.py, PyData.eqv, D.eqb]
    | str x => cases b <;> first | (simp [D.okb] at k; done) | simp [D.py, PyData.eqv, D.eqb]
theorem D.eqvs_py : ∀ (n m : Nat) (a b : List D), (∀ d ∈ a, D.okb n d = true) → (∀ d ∈ b, D.okb m d = true) → PyData.eqvAll (D.pys a) (D.pys b) = D.eqbs a b
  | _, _, [], [], _, _ => by simp [D.pys, PyData.eqvAll, D.eqbs]
  | _, _, [], _ :: _, _, _ => by simp [D.pys, PyData.eqvAll, D.eqbs]
  | _, _, _ :: _, [], _, _ => by simp [D.pys, PyData.eqvAll, D.eqbs]
  | n, m, x :: xs, y :: ys, h, k => by
    simp only [D.pys, PyData.eqvAll, D.eqbs]
    rw [D.eqv_py n m x y (h x (by simp)) (k y (by simp)), D.eqvs_py n m xs ys (fun d hd => h d (by simp [hd])) (fun d hd => k d (by simp [hd]))]
end
mutual
theorem D.lay_py : ∀ (n : Nat) (a : D), D.okb n a = true → PyData.canLay0 a.py = true ∧ PyData.depth a.py ≤ n
  | 0, _, h => by simp [D.okb] at h
  | n + 1, a, h => by
    cases a with
    | dct _ _ => simp [D.okb] at h
    | tok _ => simp [D.okb] at h
    | tup xs =>
      obtain ⟨h1, h2⟩ := D.lays_py n xs (by simpa [D.okb] using h)
      simp only [D.py, PyData.canLay0, PyData.depth]
      exact ⟨h1, by omega⟩
    | lst xs =>
      obtain ⟨h1, h2⟩ := D.lays_py n xs (by simpa [D.okb] using h)
      simp only [D.py, PyData.canLay0, PyData.depth]
      exact ⟨h1, by omega⟩
    | str x => exact ⟨by simpa [D.py, PyData.canLay0, D.okb] using h, by simp [D.py, PyData.depth]⟩
    | _ => simp [D.py, PyData.canLay0, PyData.depth]
theorem D.lays_py : ∀ (n : Nat) (a : List D), (∀ d ∈ a, D.okb n d = true) → PyData.canLayAll0 (D.pys a) = true ∧ PyData.depthAll (D.pys a) ≤ n
  | _, [], _ => by simp [D.pys, PyData.canLayAll0, PyData.depthAll]
  | n, x :: xs, h => by
    obtain ⟨h1, h2⟩ := D.lay_py n x (h x (by simp))
    obtain ⟨h3, h4⟩ := D.lays_py n xs fun d hd => h d (by simp [hd])
    simp only [D.pys, PyData.canLayAll0, PyData.depthAll, h1, h3, Bool.and_self, true_and]
    omega
end
theorem D.shaped {n : Nat} {a : D} (h : D.okb n a = true) (hn : n ≤ 64) : SeqAt.shaped a.py = true := by
  obtain ⟨h1, h2⟩ := D.lay_py n a h
  unfold SeqAt.shaped
  rw [h1, Bool.true_and]
  exact decide_eq_true (by omega)
theorem D.pys_map : ∀ xs : List D, D.pys xs = xs.map D.py
  | [] => rfl
  | x :: xs => by simp [D.pys, D.pys_map xs]
theorem LIM_eq : LIM = sizeLine := by rw [sizeLine_eq]; rfl
end Mn

set_option Elab.async false
set_option linter.all false
set_option maxRecDepth 100000
set_option maxHeartbeats 1000000
namespace Mn
open PySem L2

/-! ### forms of the text -/
def plainE : Expr → Bool
  | .Starred .. => false
  | .Set .. => false
  | .Slice .. => false
  | _ => true
theorem starEach_plain {e : Expr} {es : List Expr} {env : Env} (h : plainE e = true) : starEach (e :: es) env = (false, eval e env) :: starEach es env := by
  cases e <;> first | rfl | (simp [plainE] at h)
theorem marks_plain {op : CmpOp} {e : Expr} (h : plainE e = true) : behindInMarks op e = false := by
  cases e <;> first | rfl | (simp [plainE] at h)
theorem ix_plain {e : Expr} (h : plainE e = true) : PlainIx e := fun o i => by
  cases e <;> first | rfl | (simp [plainE] at h)
theorem fset_plain {e : Expr} {env : Env} (h : plainE e = true) : ∀ x, foldedSetIterable e env x = pure x := fun x => by
  cases e <;> first | rfl | (simp [plainE] at h)
theorem noStar : ∀ {es : List Expr} {env : Env} {pos : Pos}, es.all plainE = true → (backTo pos (starEach es env)).any (·.1) = false
  | [], _, _, _ => rfl
  | e :: es, env, pos, h => by
    simp only [List.all_cons, Bool.and_eq_true] at h
    rw [starEach_plain h.1]
    have := noStar (env := env) (pos := pos) h.2
    unfold backTo at this ⊢
    simp only [List.map_cons, List.any_cons, this, Bool.or_self]

/-! ### where one stands -/
/-- built-ins that the program does not bind itself -/
def bnames : List Str := ["len", "tuple", "list", "all", "any", "sorted", "min", "sum", "set", "dict", "isinstance", "int", "bool", "str", "range", "enumerate", "zip"]
structure Gd (C : Cf) (E : XK) (X : Cx) (k : Nat) : Prop where
  hP : X.prog = C.P
  hw : X.w = C.w
  hK : X.K = C.K
  calm : X.calm = true
  nd : X.N.Nodup
  room : Room k X.A
  pass : Passes (L2.CX X.prog X.w) X E
  blt : ∀ x ∈ bnames, X.mg x = none
theorem Gd.u64 {C : Cf} {E : XK} {X : Cx} {k : Nat} (g : Gd C E X k) : X.A.units + 64 < cLine := g.room.units
theorem Gd.u65 {C : Cf} {E : XK} {X : Cx} {k : Nat} (g : Gd C E X k) : X.A.units + 65 < cLine := by have := g.room.un; omega
theorem Gd.u1 {C : Cf} {E : XK} {X : Cx} {k : Nat} (g : Gd C E X k) : X.A.units + 1 < cLine := hu_of g.room

section
variable {Φ : Nat → Fn} {gc : Nat → D} {C : Cf} {E : XK} {X : Cx} {k : Nat}

/-! ### names and constants -/
theorem visB {sc : Scope} {x : Str} (h : (sc.names.lookup x == some .local || sc.names.lookup x == some .cell || sc.names.lookup x == some .free) = true) : Vis sc x := by
  simp only [Bool.or_eq_true, beq_iff_eq] at h
  rcases h with (h | h) | h
  · exact .inl h
  · exact .inr (.inl h)
  · exact .inr (.inr h)
theorem ok_var {i : Nat} : Ok C E (tVarF i) (ev Φ gc (.var i)) := by
  intro B ow s σ H Q R h
  show ∃ v, _
  unfold ev take at h
  cases q : s.ρ[i]? with
  | none => rw [q] at h; exact h.elim
  | some x =>
    rw [q] at h
    obtain ⟨v, p, h1, h2, h3⟩ := R.at q
    cases x with
    | emp => exact h.elim
    | val e =>
      cases v with
      | none => exact h3.elim
      | some v => cases p with
        | none => exact ⟨v, h1, .inl (h ow v H R Stp.refl h3)⟩
        | some p => exact h3.elim
    | lst ds =>
      cases v with
      | none => exact h3.elim
      | some v => cases p with
        | none => exact h3.elim
        | some p =>
          obtain ⟨rfl, vs, h4, h5, h6⟩ := h3
          have np : some p ∉ ow.set i none := R.dropNot h2
          have le : Sm' (hid B ow H) (hid B (ow.set i none) H) := (Stp.drop (C := C)).fr
          have r : Rep C (hid B (ow.set i none) H) (.ref p) (.lst ds) := .lst (hid_some.mpr ⟨R.nB p (get_mem h2), np, shw_of h4 rfl (R.noMark h2)⟩) (h5.mono le) h6
          have R' := (R.setEmp (i := i) (v := some (V.ref p))).setVal (i := i) r
          have e1 : (σ.set i (some (.ref p))).set i (some (.ref p)) = σ := by
            rw [List.set_set]
            apply List.ext_getElem?
            intro j
            by_cases e : j = i
            · subst e; rw [List.getElem?_set_self (List.getElem?_eq_some_iff.mp h1).1, h1]
            · rw [List.getElem?_set_ne (Ne.symm e)]
          simp only [e1, List.set_set, Ow.set_set] at R'
          exact ⟨_, h1, .inl (h _ _ _ R' Stp.drop r)⟩
    | dct n ds =>
      cases v with
      | none => exact h3.elim
      | some v => cases p with
        | none => exact h3.elim
        | some p =>
          have np : some p ∉ ow.set i none := R.dropNot h2
          obtain ⟨rfl, h4⟩ := h3
          have go : ∀ u, H p = some u → Mut (some u) → (∀ od, Rep C (hid B (ow.set i none) (upd H p (.frz od u))) (.ref p) (.dct n ds)) → tVarF i σ H Q := fun u hu mu rr => by
            refine ⟨_, h1, .inr ⟨p, u, rfl, hu, mu, fun od => ?_⟩⟩
            obtain ⟨le, st, R0⟩ := R.freeze (o := .frz od u) h2
            have R' := R0.setVal (i := i) (rr od)
            have e1 : σ.set i (some (.ref p)) = σ := by
              apply List.ext_getElem?
              intro j
              by_cases e : j = i
              · subst e; rw [List.getElem?_set_self (List.getElem?_eq_some_iff.mp h1).1, h1]
              · rw [List.getElem?_set_ne (Ne.symm e)]
            simp only [e1, List.set_set, Ow.set_set] at R'
            exact h _ _ _ R' st (rr od)
          rcases h4 with ⟨ks, es, rfl, h4, h5, h9, rfl⟩ | ⟨ks, kds, es, rfl, h4, h5, h6, h7, h8, h9, rfl⟩
          · exact go _ h4 trivial fun od => .dK (hid_some.mpr ⟨R.nB p (get_mem h2), np, shw_of upd_same rfl (R.noMark h2)⟩) (h5.mono (R.freeze h2).1) h9
          · exact go _ h4 trivial fun od => .dN (hid_some.mpr ⟨R.nB p (get_mem h2), np, shw_of upd_same rfl (R.noMark h2)⟩) (h5.mono (R.freeze h2).1) h6 h7 (h8.mono (R.freeze h2).1) h9
theorem sd_var {i : Nat} {x : Str} {pos : Pos} (hN : X.N[i]? = some x) (hv : Vis X.env.scope x) (hd : (x == ("__debug__" : Str)) = false) (hcd : (x == ("__classdict__" : Str)) = false) : Sd Φ gc C E X (.var i) (.Name x pos) (tVarF i) :=
  ⟨pe_varF (pe_var hN hv hd hcd), ok_var, fun _ => rfl⟩
def cV : D → Option V
  | .non => some .non
  | .bl b => some (.bl b)
  | .int i => some (.int i)
  | .str x => some (.str x)
  | _ => none
theorem rep_cV {G : Hp} {d : D} {v : V} (h : cV d = some v) : Rep C G v d := by
  cases d <;> (first | (cases h; constructor) | cases h)
theorem ok_cst {d : D} {v : V} (h : cV d = some v) : Ok C E (tC v) (ev Φ gc (.cst d)) := fun B ow s σ H Q R w => w ow v H R Stp.refl (rep_cV h)
def cstOk : D → Const → Bool
  | .non, .none => true
  | .bl b, .bool c => b == c
  | .int i, .int j => i == j
  | .str x, .str y => x == y
  | _, _ => false
theorem sd_cst {d : D} {c : Const} {j : Nat} {pos : Pos} (h : cstOk d c = true) : ∃ t, Sd Φ gc C E X (.cst d) (.Constant c j pos) t := by
  cases d <;> cases c <;> simp [cstOk] at h
  · exact ⟨_, pe_non, ok_cst rfl, fun z => by cases z⟩
  · subst h; exact ⟨_, pe_bl, ok_cst rfl, fun z => by cases z⟩
  · subst h; exact ⟨_, pe_int, ok_cst rfl, fun z => by cases z⟩
  · subst h; exact ⟨_, pe_str, ok_cst rfl, fun z => by cases z⟩

/-! ### arguments, tuples, lists -/
def wpA (C : Cf) (E : XK) (B : Addr → Bool) (ow : Ow) (H : Hp) (σ : St) (o : Out D) (Q : List V → Hp → Prop) : Prop := match o with
  | .ok (.tup ds) s' => ∀ ow' vs H', SR C B ow' s' σ H' → Stp C B ow H ow' H' → RepA C (hid B ow' H') vs ds → Q vs H'
  | .ok _ _ => False
  | .exc c τ => ∀ H', Fin C B ow H τ H' → E (.ref (C.cls c)) none H'
  | .bad => False
theorem wpA.step {B : Addr → Bool} {ow ow1 : Ow} {H H1 : Hp} {σ : St} {o : Out D} {Q : List V → Hp → Prop} (a : Stp C B ow H ow1 H1) (h : wpA C E B ow H σ o Q) : wpA C E B ow1 H1 σ o Q := by
  cases o with
  | ok d s' => cases d <;> first | exact fun ow' v H' R st r => h ow' v H' R (a.trans st) r | exact h
  | exc c τ => exact fun H' f => h H' (f.step a)
  | bad => exact h
def OkA (C : Cf) (E : XK) (t : TA) (f : S → Out D) : Prop := ∀ (B : Addr → Bool) (ow : Ow) (s : S) (σ : St) (H : Hp) (Q : List V → Hp → Prop), SR C B ow s σ H → wpA C E B ow H σ (f s) Q → t σ H Q
structure SdA (Φ : Nat → Fn) (gc : Nat → D) (C : Cf) (E : XK) (X : Cx) (a : Ex) (es : List Expr) (t : TA) : Prop where
  pa : PA X es t
  ok : OkA C E t (ev Φ gc a)
  pl : es.all plainE = true
  len : ∀ s d s1, ev Φ gc a s = .ok d s1 → ∃ ds, d = .tup ds ∧ ds.length = es.length
theorem sda_nil : SdA Φ gc C E X .anil [] tNil := ⟨pa_nil, fun B ow s σ H Q R h => h ow [] H R Stp.refl .nil, rfl, fun s d s1 h => by cases h; exact ⟨[], rfl, rfl⟩⟩
theorem sda_cons {a b : Ex} {e : Expr} {es : List Expr} {t : TE} {u : TA} (ha : Sd Φ gc C E X a e t) (hr : SdA Φ gc C E X b es u) (hp : plainE e = true) : SdA Φ gc C E X (.acons a b) (e :: es) (tCons t u) := by
  refine ⟨pa_cons ha.pe hr.pa (starEach_plain hp), fun B ow s σ H Q R h => ?_, by simp [hp, hr.pl], fun s d s1 h => ?_⟩
  · show t σ H fun x H1 => u σ H1 fun xs H2 => Q (x :: xs) H2
    refine ha.ok B ow s σ H _ R ?_
    unfold ev at h
    cases q : ev Φ gc a s with
    | ok d s1 =>
      intro ow1 v H1 R1 st r
      refine hr.ok B ow1 s1 σ H1 _ R1 ?_
      rw [q] at h
      simp only [Out.bind] at h
      cases q2 : ev Φ gc b s1 with
      | ok d2 s2 =>
        rw [q2] at h
        cases d2 with
        | tup ds => exact fun ow2 vs H2 R2 st2 r2 => h ow2 _ H2 R2 (st.trans st2) (.cons (r.mono st2.fr) r2)
        | _ => exact h.elim
      | exc c τ =>
        rw [q2] at h
        exact fun H' f => h H' (f.step st)
      | bad => rw [q2] at h; exact h.elim
    | exc c τ => rw [q] at h; exact h
    | bad => rw [q] at h; exact h.elim
  · unfold ev at h
    cases q : ev Φ gc a s with
    | ok d1 s2 =>
      rw [q] at h
      simp only [Out.bind] at h
      cases q2 : ev Φ gc b s2 with
      | ok d2 s3 =>
        rw [q2] at h
        obtain ⟨ds, rfl, hl⟩ := hr.len _ _ _ q2
        cases h
        exact ⟨_, rfl, by simp [hl]⟩
      | exc c τ => rw [q2] at h; cases h
      | bad => rw [q2] at h; cases h
    | exc c τ => rw [q] at h; cases h
    | bad => rw [q] at h; cases h
theorem bindA {B : Addr → Bool} {ow : Ow} {s : S} {σ : St} {H : Hp} {Q : VK} {a : Ex} {es : List Expr} {t : TA} {g : D → S → Out D} {k : List V → Hp → Prop} (ha : SdA Φ gc C E X a es t) (R : SR C B ow s σ H) (h : wpE C E B ow H σ ((ev Φ gc a s).bind g) Q)
    (hk : ∀ ds s1 ow1 vs H1, ds.length = es.length → SR C B ow1 s1 σ H1 → Stp C B ow H ow1 H1 → RepA C (hid B ow1 H1) vs ds → wpE C E B ow1 H1 σ (g (.tup ds) s1) Q → k vs H1) : t σ H k := by
  refine ha.ok B ow s σ H k R ?_
  cases q : ev Φ gc a s with
  | ok d s1 =>
    obtain ⟨ds, rfl, hl⟩ := ha.len _ _ _ q
    intro ow1 v H1 R1 st r
    refine hk ds s1 ow1 v H1 hl R1 st r ?_
    rw [q] at h
    exact wpE.step st h
  | exc c τ => rw [q] at h; exact h
  | bad => rw [q] at h; exact h
theorem Rep.tupNew {B : Addr → Bool} {ow : Ow} {H : Hp} {s : S} {σ : St} {p : Addr} {vs : List V} {ds : List D} (R : SR C B ow s σ H) (hp : H p = none) (r : RepA C (hid B ow H) vs ds) (l : ds.length ≤ LIM) : Rep C (hid B ow (upd H p (.tup vs))) (.ref p) (.tup ds) :=
  .tup (.inl (.inl (R.visNew hp))) (r.mono (R.growNew hp)) l
theorem Rep.lstNew {B : Addr → Bool} {ow : Ow} {H : Hp} {s : S} {σ : St} {p : Addr} {vs : List V} {ds : List D} (R : SR C B ow s σ H) (hp : H p = none) (r : RepA C (hid B ow H) vs ds) (l : ds.length ≤ LIM) : Rep C (hid B ow (upd H p (.lst vs))) (.ref p) (.lst ds) :=
  .lst (R.visNew hp) (r.mono (R.growNew hp)) l
theorem small_line {n : Nat} (h : n ≤ 1000) : n ≤ sizeLine := by rw [sizeLine_eq]; omega
theorem bind_ok {f : S → Out D} {s : S} : (f s).bind (fun d s => .ok d s) = f s := by cases q : f s <;> rfl
theorem sd_tup {a : Ex} {es : List Expr} {t : TA} {x1} {pos : Pos} (h : SdA Φ gc C E X a es t) (hn : es.length ≤ 1000) : Sd Φ gc C E X (.tup a) (.Tuple es x1 pos) (tTup t) := by
  refine ⟨pe_tup h.pa, fun B ow s σ H Q R w => ?_, fun z => by cases z⟩
  unfold ev at w
  rw [← bind_ok (f := ev Φ gc a)] at w
  refine bindA h R w fun ds s1 ow1 vs H1 hl R1 st r w1 => ⟨small_line (by rw [r.length, hl]; exact hn), fun p hp => ?_⟩
  exact wpE.giveNew w1 R1 hp (Rep.tupNew R1 hp r (by rw [LIM_eq]; exact small_line (by omega)))
theorem sd_lst {a : Ex} {es : List Expr} {t : TA} {pos : Pos} (h : SdA Φ gc C E X a es t) (hn : es.length ≤ 1000) : Sd Φ gc C E X (.lst a) (.List es pos) (tLst t) := by
  refine ⟨pe_lst h.pa, fun B ow s σ H Q R w => ?_, fun z => by cases z⟩
  unfold ev at w
  refine bindA h R w fun ds s1 ow1 vs H1 hl R1 st r w1 => ⟨small_line (by rw [r.length, hl]; exact hn), fun p hp => ?_⟩
  exact wpE.giveNew w1 R1 hp (Rep.lstNew R1 hp r (by rw [LIM_eq]; exact small_line (by omega)))

/-! ### operators -/
def boA : BO → Operator
  | .add => .Add
  | .sub => .Sub
  | .mul => .Mult
  | .fdiv => .FloorDiv
  | .mod => .Mod
theorem OpR.or {f : Value → Value → Sem Value} {r r' : R2} (h : OpR X f r) (h' : OpR X f r') : OpR X f (fun x y H Q => r x y H Q ∨ r' x y H Q) := fun pins s σ H x y v u Q I rx ry q => by
  rcases q with q | q
  · exact h pins s σ H x y v u Q I rx ry q
  · exact h' pins s σ H x y v u Q I rx ry q
/-- an operator that serves data -/
def OpD (C : Cf) (r : R2) (f : D → D → Option D) : Prop := ∀ (B : Addr → Bool) (ow : Ow) (s : S) (σ : St) (H : Hp) (E : XK) (Q : VK) (v u : V) (x y : D), SR C B ow s σ H → RepB C B ow H v x → RepB C B ow H u y → wpE C E B ow H σ (Out.of (f x y) s) Q → r v u H Q
theorem sd_bin {o : BO} {a b : Ex} {e e' : Expr} {ta tb : TE} {r : R2} {pos : Pos} (ho : OpR X (binaryOp (boA o)) r) (hd : OpD C r (binD o)) (ha : Sd Φ gc C E X a e ta) (hb : Sd Φ gc C E X b e' tb) : Sd Φ gc C E X (.bin o a b) (.BinOp e (boA o) e' pos) (tOp r ta tb) := by
  refine ⟨pe_op ho ha.pe hb.pe, fun B ow s σ H Q R w => ?_, fun z => by cases z⟩
  unfold ev at w
  exact bind2 ha hb R w fun x y s2 ow2 v u H2 R2 st r1 r2 w2 => hd B ow2 s2 σ H2 E Q v u x y R2 r1 r2 w2
theorem opd_sub : OpD C (rI0 fun i j => .int (i - j)) (binD .sub) := by
  intro B ow s σ H E Q v u x y R r1 r2 w
  cases x <;> cases y <;> first | exact w.elim | skip
  exact ⟨_, _, r1.int, r2.int, wpE.give w rfl R (.int _)⟩
theorem opd_fdiv : OpD C (rI CDiv fun i j => .int (i / j)) (binD .fdiv) := by
  intro B ow s σ H E Q v u x y R r1 r2 w
  cases x <;> cases y <;> first | exact w.elim | skip
  simp only [binD] at w
  split at w
  · rename_i h
    exact ⟨_, _, r1.int, r2.int, ⟨h.1, by have := h.2; omega⟩, wpE.give w rfl R (.int _)⟩
  · exact w.elim
theorem opd_mod : OpD C (rI (fun _ j => 0 < j) fun i j => .int (i % j)) (binD .mod) := by
  intro B ow s σ H E Q v u x y R r1 r2 w
  cases x <;> cases y <;> first | exact w.elim | skip
  simp only [binD] at w
  split at w
  · rename_i h
    exact ⟨_, _, r1.int, r2.int, h, wpE.give w rfl R (.int _)⟩
  · exact w.elim
abbrev rAddD (K : PySem.W.Frag) : R2 := fun x y H Q => ((rI0 fun i j => .int (i + j)) x y H Q ∨ rCatA K x y H Q) ∨ (rCat x y H Q ∨ (∃ i j, x = .str i ∧ y = .str j ∧ i.length + j.length ≤ sizeLine ∧ Q (.str (i ++ j)) H))
theorem op_addD : OpR X (binaryOp .Add) (rAddD X.K) := OpR.or (OpR.or op_add op_catA) (OpR.or op_cat op_add_str)
theorem opd_add : OpD C (rAddD C.K) (binD .add) := by
  intro B ow s σ H E Q v u x y R r1 r2 w
  cases x <;> cases y <;> first | exact w.elim | skip
  · exact .inl (.inl ⟨_, _, r1.int, r2.int, wpE.give w rfl R (.int _)⟩)
  · simp only [binD] at w
    split at w
    · rename_i h
      rw [LIM_eq] at h
      exact .inr (.inr ⟨_, _, r1.str, r2.str, h, wpE.give w rfl R (.str _)⟩)
    · exact w.elim
  · simp only [binD] at w
    split at w
    · rename_i h
      rw [LIM_eq] at h
      obtain ⟨p, vs, rfl, h1, h2, h2'⟩ := r1.tuple
      obtain ⟨q, us, rfl, h3, h4, h4'⟩ := r2.tuple
      refine .inl (.inr ⟨p, q, vs, us, rfl, rfl, h1, h3, by rw [h2.length, h4.length]; exact h, fun e => ?_, fun _ e => ?_, fun _ _ a ha => wpE.giveNew w R ha (Rep.tupNew R ha (h2.app h4) (by rw [LIM_eq, List.length_append]; exact h))⟩)
      · subst e
        cases h2
        exact wpE.give w rfl R h4'
      · subst e
        cases h4
        exact wpE.give w (by rw [List.append_nil]) R h2'
    · exact w.elim
  · simp only [binD] at w
    split at w
    · rename_i h
      rw [LIM_eq] at h
      obtain ⟨p, vs, rfl, h1, h2⟩ := r1.list
      obtain ⟨q, us, rfl, h3, h4⟩ := r2.list
      exact .inr (.inl ⟨p, q, vs, us, rfl, rfl, h1, h3, by rw [h2.length, h4.length]; exact h, fun a ha => wpE.giveNew w R ha (Rep.lstNew R ha (h2.app h4) (by rw [LIM_eq, List.length_append]; exact h))⟩)
    · exact w.elim

theorem rep_len {xs : List D} {n : Nat} (h1 : xs.length ≤ 1000) (h2 : n ≤ 1000) : (List.replicate n xs).flatten.length ≤ LIM := by
  rw [List.length_flatten, List.map_replicate, List.sum_replicate_nat]
  exact Nat.le_trans (Nat.mul_le_mul h2 h1) (by decide)
abbrev rMulD (K : PySem.W.Frag) : R2 := fun x y H Q => ((rI CMul fun i j => .int (i * j)) x y H Q ∨ rRepT K x y H Q) ∨ rRep x y H Q
theorem op_mulD : OpR X (binaryOp .Mult) (rMulD X.K) := OpR.or (OpR.or op_mul op_repT) op_rep
theorem opd_mul : OpD C (rMulD C.K) (binD .mul) := by
  intro B ow s σ H E Q v u x y R r1 r2 w
  cases x <;> cases y <;> first | exact w.elim | skip
  · simp only [binD] at w
    split at w
    · rename_i h
      simp only [smallI, Bool.and_eq_true, decide_eq_true_eq] at h
      exact .inl (.inl ⟨_, _, r1.int, r2.int, .inl (by omega), wpE.give w rfl R (.int _)⟩)
    · exact w.elim
  · simp only [binD] at w
    split at w
    · rename_i h
      obtain ⟨p, vs, rfl, h1, h2, h2'⟩ := r1.tuple
      have hl := h2.length
      exact .inl (.inr ⟨p, _, vs, rfl, r2.int, h1, fun z => by subst z; simp at hl; omega, h.1, h.2.1, by omega, fun a ha => wpE.giveNew w R ha (Rep.tupNew R ha (h2.rep _) (rep_len (by omega) (by omega)))⟩)
    · exact w.elim
  · simp only [binD] at w
    split at w
    · rename_i h
      obtain ⟨p, vs, rfl, h1, h2⟩ := r1.list
      have hl := h2.length
      have hz := sizeLine_eq
      refine .inr ⟨p, _, vs, rfl, r2.int, h1, by omega, by omega, ?_, fun a ha => wpE.giveNew w R ha (Rep.lstNew R ha (h2.rep _) (rep_len (by omega) (by omega)))⟩
      rename_i _ k0
      have h3 : vs.length * k0.toNat ≤ 1000 * 1000 := Nat.mul_le_mul (show vs.length ≤ 1000 by omega) (show k0.toNat ≤ 1000 by omega)
      rw [hz]
      exact Nat.le_trans h3 (by decide)
    · exact w.elim
theorem sd_binop {o : BO} {a b : Ex} {e e' : Expr} {ta tb : TE} {pos : Pos} (hK : X.K = C.K) (ha : Sd Φ gc C E X a e ta) (hb : Sd Φ gc C E X b e' tb) : ∃ t, Sd Φ gc C E X (.bin o a b) (.BinOp e (boA o) e' pos) t := by
  cases o with
  | add => exact ⟨_, sd_bin (r := rAddD C.K) (by rw [← hK]; exact op_addD) opd_add ha hb⟩
  | sub => exact ⟨_, sd_bin op_sub opd_sub ha hb⟩
  | mul => exact ⟨_, sd_bin (r := rMulD C.K) (by rw [← hK]; exact op_mulD) opd_mul ha hb⟩
  | fdiv => exact ⟨_, sd_bin op_fdiv opd_fdiv ha hb⟩
  | mod => exact ⟨_, sd_bin op_mod opd_mod ha hb⟩
end
end Mn

set_option Elab.async false
set_option linter.all false
set_option maxRecDepth 100000
set_option maxHeartbeats 1000000
namespace Mn
open PySem L2

mutual
theorem D.alk_py : ∀ a b : D, D.alk a b = true → PySem.W.alike a.py b.py = true
  | a, b, h => by
    cases a <;> cases b <;> first
      | (simp [D.alk] at h; done)
      | (simp [D.py, PySem.W.alike]; done)
      | skip
    rename_i xs ys
    simp only [D.py, PySem.W.alike]
    exact D.alks_py xs ys (by simpa [D.alk] using h)
theorem D.alks_py : ∀ a b : List D, D.alks a b = true → PySem.W.alikeAll (D.pys a) (D.pys b) = true
  | [], _, _ => by simp [D.pys, PySem.W.alikeAll]
  | _ :: _, [], _ => by simp [D.pys, PySem.W.alikeAll]
  | x :: xs, y :: ys, h => by
    simp only [D.alks, Bool.and_eq_true] at h
    simp only [D.pys, PySem.W.alikeAll, Bool.and_eq_true]
    exact ⟨D.alk_py x y h.1, D.alks_py xs ys h.2⟩
end
mutual
theorem D.lt_py : ∀ (n : Nat) (a b : D), D.okb n a = true → D.okb n b = true → D.alk a b = true → PySem.W.dataLt a.py b.py = D.ltb n a b
  | 0, _, _, h, _, _ => by simp [D.okb] at h
  | n + 1, a, b, h, k, l => by
    cases a <;> cases b <;> first
      | (simp [D.alk] at l; done)
      | skip
    · rename_i x y
      cases x <;> cases y <;> simp [D.py, D.ltb, PySem.W.dataLt_bool, PyProof.Rows.b2i]
    · rename_i x y
      simp [D.py, D.ltb, PySem.W.dataLt_int]
    · rename_i xs ys
      simp only [D.py, D.ltb]
      rw [PySem.W.dataLt_tuple]
      exact D.lts_py n xs ys (by simpa [D.okb] using h) (by simpa [D.okb] using k) (by simpa [D.alk] using l)
theorem D.lts_py : ∀ (n : Nat) (a b : List D), (∀ d ∈ a, D.okb n d = true) → (∀ d ∈ b, D.okb n d = true) → D.alks a b = true → PyProof.Rows.lexLt PyProof.Rows.itemOrd (PySem.W.keyToksAll (D.pys a)) (PySem.W.keyToksAll (D.pys b)) = D.ltb.lts n a b
  | _, [], [], _, _, _ => by simp [D.pys, PySem.W.keyToksAll, D.ltb.lts, PyProof.Rows.lex_irrefl]
  | _, [], y :: ys, _, _, _ => by simp [D.pys, PySem.W.keyToksAll, D.ltb.lts, PyProof.Rows.lexLt, PyProof.Rows.itemOrd, PyProof.Rows.itemLt]
  | _, x :: xs, [], _, _, _ => by simp [D.pys, PySem.W.keyToksAll, D.ltb.lts, PyProof.Rows.lexLt, PyProof.Rows.itemOrd, PyProof.Rows.itemLt]
  | n, x :: xs, y :: ys, h, k, l => by
    simp only [D.alks, Bool.and_eq_true] at l
    have e := D.eqv_py n n x y (h x (by simp)) (k y (by simp))
    have al := D.alk_py x y l.1
    simp only [D.pys, D.ltb.lts]
    cases q : D.eqb x y with
    | true =>
      rw [PySem.W.dataLt_all_yes al (e.trans q), if_pos rfl]
      exact D.lts_py n xs ys (fun d hd => h d (by simp [hd])) (fun d hd => k d (by simp [hd])) l.2
    | false =>
      rw [PySem.W.dataLt_all_no al (e.trans q), if_neg (by decide)]
      exact D.lt_py n x y (h x (by simp)) (k y (by simp)) l.1
end
section
variable {Φ : Nat → Fn} {gc : Nat → D} {C : Cf} {E : XK} {X : Cx} {k : Nat}
/-! ### comparisons -/
def coA : CO → CmpOp
  | .eq => .Eq
  | .ne => .NotEq
  | .lt => .Lt
  | .le => .LtE
  | .gt => .Gt
  | .ge => .GtE
  | .in_ => .In
  | .nin => .NotIn
theorem opd_eq : OpD C (rEqD C.K) (fun x y => (cmpD .eq x y).map .bl) := by
  intro B ow s σ H E Q v u x y R r1 r2 w
  simp only [cmpD] at w
  split at w
  · rename_i h
    simp only [Bool.and_eq_true] at h
    refine ⟨x.py, y.py, r1.dp h.1, r2.dp h.2, D.shaped h.1 (by decide), D.shaped h.2 (by decide), ?_⟩
    rw [D.eqv_py _ _ x y h.1 h.2]
    exact wpE.give w rfl R (.bl _)
  · exact w.elim
theorem opd_ne : OpD C (rNeD C.K) (fun x y => (cmpD .ne x y).map .bl) := by
  intro B ow s σ H E Q v u x y R r1 r2 w
  simp only [cmpD] at w
  split at w
  · rename_i h
    simp only [Bool.and_eq_true] at h
    refine ⟨x.py, y.py, r1.dp h.1, r2.dp h.2, D.shaped h.1 (by decide), D.shaped h.2 (by decide), ?_⟩
    rw [D.eqv_py _ _ x y h.1 h.2]
    exact wpE.give w rfl R (.bl _)
  · exact w.elim
def rLtD (K : PySem.W.Frag) : R2 := fun x y H Q => ∃ d e, Dp K H x d ∧ Dp K H y e ∧ PySem.W.alike d e = true ∧ d ≠ .none ∧ d.depth ≤ 64 ∧ Q (.bl (PySem.W.dataLt d e)) H
theorem op_ltD (hu : X.A.units + 64 < cLine) : OpR X (compareOp .Lt) (rLtD X.K) := by
  intro pins s σ H x y v u Q I rx ry h
  obtain ⟨d, e, hd, he, al, nn, dp, q⟩ := h
  obtain ⟨as, r1⟩ := Dp.reads I d x v hd rx
  obtain ⟨bs, r2⟩ := Dp.reads I e y u he ry
  exact PySem.W.lt_data r1 r2 al nn (by have := Nat.min_le_left d.depth e.depth; omega) ⟨.bl _, H, I, rfl, q⟩
theorem opd_lt : OpD C (rLtD C.K) (fun x y => (cmpD .lt x y).map .bl) := by
  intro B ow s σ H E Q v u x y R r1 r2 w
  cases x <;> cases y <;> first | exact w.elim | skip
  · rename_i i j
    refine ⟨.int i, .int j, ?_, ?_, by simp [PySem.W.alike], by simp, by simp [PyData.depth], ?_⟩
    · rw [r1.int]; exact .int i
    · rw [r2.int]; exact .int j
    · rw [PySem.W.dataLt_int]
      exact wpE.give w rfl R (.bl _)
  · simp only [cmpD] at w
    split at w
    · rename_i h
      simp only [Bool.and_eq_true] at h
      refine ⟨_, _, r1.dp h.1.1, r2.dp h.1.2, D.alk_py _ _ h.2, by simp [D.py], Nat.le_trans (D.lay_py _ _ h.1.1).2 (by decide), ?_⟩
      rw [D.lt_py _ _ _ h.1.1 h.1.2 h.2]
      exact wpE.give w rfl R (.bl _)
    · exact w.elim
theorem opd_le : OpD C (rI0 fun i j => .bl (decide (i ≤ j))) (fun x y => (cmpD .le x y).map .bl) := by
  intro B ow s σ H E Q v u x y R r1 r2 w
  cases x <;> cases y <;> first | exact w.elim | skip
  exact ⟨_, _, r1.int, r2.int, wpE.give w rfl R (.bl _)⟩
theorem opd_gt : OpD C (rI0 fun i j => .bl (decide (j < i))) (fun x y => (cmpD .gt x y).map .bl) := by
  intro B ow s σ H E Q v u x y R r1 r2 w
  cases x <;> cases y <;> first | exact w.elim | skip
  exact ⟨_, _, r1.int, r2.int, wpE.give w rfl R (.bl _)⟩
theorem opd_ge : OpD C (rI0 fun i j => .bl (decide (j ≤ i))) (fun x y => (cmpD .ge x y).map .bl) := by
  intro B ow s σ H E Q v u x y R r1 r2 w
  cases x <;> cases y <;> first | exact w.elim | skip
  exact ⟨_, _, r1.int, r2.int, wpE.give w rfl R (.bl _)⟩
/-! in, over a tuple of data -/
def rInT (K : PySem.W.Frag) : R2 := fun x y H Q => ∃ d ds, Dp K H x d ∧ Dp K H y (.tuple ds) ∧ SeqAt.shaped d = true ∧ SeqAt.shaped (.tuple ds) = true ∧ Q (.bl (ds.any fun z => PyData.eqv z d)) H
def rNotInT (K : PySem.W.Frag) : R2 := fun x y H Q => ∃ d ds, Dp K H x d ∧ Dp K H y (.tuple ds) ∧ SeqAt.shaped d = true ∧ SeqAt.shaped (.tuple ds) = true ∧ Q (.bl (!ds.any fun z => PyData.eqv z d)) H
theorem op_inT (hu : X.A.units + 65 < cLine) : OpR X (compareOp .In) (rInT X.K) := by
  intro pins s σ H x y v u Q I rx ry h
  obtain ⟨d, ds, hd, he, sd, se, q⟩ := h
  obtain ⟨as, r1⟩ := Dp.reads I d x v hd rx
  obtain ⟨bs, r2⟩ := Dp.reads I (.tuple ds) y u he ry
  exact SeqAt.in_tuple_reads r2 r1 (SeqAt.canLay_of_shaped se) (SeqAt.canLay_of_shaped sd) (PyProof.Rows.room_in_shaped sd hu) ⟨.bl _, H, I, rfl, q⟩
theorem op_notInT (hu : X.A.units + 65 < cLine) : OpR X (compareOp .NotIn) (rNotInT X.K) := by
  intro pins s σ H x y v u Q I rx ry h
  obtain ⟨d, ds, hd, he, sd, se, q⟩ := h
  obtain ⟨as, r1⟩ := Dp.reads I d x v hd rx
  obtain ⟨bs, r2⟩ := Dp.reads I (.tuple ds) y u he ry
  exact SeqAt.notIn_tuple_reads r2 r1 (SeqAt.canLay_of_shaped se) (SeqAt.canLay_of_shaped sd) (PyProof.Rows.room_in_shaped sd hu) ⟨.bl _, H, I, rfl, q⟩
end
theorem any_py {n m : Nat} {d : D} (h : D.okb n d = true) : ∀ ds : List D, (∀ z ∈ ds, D.okb m z = true) → ((D.pys ds).any fun z => PyData.eqv z d.py) = ds.any fun z => D.eqb z d
  | [], _ => rfl
  | x :: xs, k => by
    simp only [D.pys, List.any_cons]
    rw [D.eqv_py m n x d (k x (by simp)) h, any_py h xs fun z hz => k z (by simp [hz])]
theorem shapedT {ds : List D} (h : ∀ z ∈ ds, D.okb DEP z = true) : SeqAt.shaped (.tuple (D.pys ds)) = true := by
  have : D.okb (DEP + 1) (.tup ds) = true := by simpa [D.okb] using h
  exact D.shaped this (by decide)
theorem shapedL {ds : List D} (h : ∀ z ∈ ds, D.okb DEP z = true) : SeqAt.shaped (.list (D.pys ds)) = true := by
  have : D.okb (DEP + 1) (.lst ds) = true := by simpa [D.okb] using h
  exact D.shaped this (by decide)
end Mn

set_option Elab.async false
set_option linter.all false
set_option maxRecDepth 100000
set_option maxHeartbeats 1000000
namespace Mn
open PySem L2

mutual
theorem D.ky_ok : ∀ (n : Nat) (a : D), D.kyb n a = true → D.okb n a = true
  | 0, _, h => by simp [D.kyb] at h
  | n + 1, a, h => by
    cases a <;> first
      | (simp [D.kyb] at h; done)
      | (simpa [D.kyb, D.okb] using h)
      | skip
    rename_i xs
    have := D.kys_ok n xs (by simpa [D.kyb] using h)
    simpa [D.okb] using this
theorem D.kys_ok : ∀ (n : Nat) (a : List D), (∀ d ∈ a, D.kyb n d = true) → ∀ d ∈ a, D.okb n d = true
  | _, [], _, d, hd => by simp at hd
  | n, x :: xs, h, d, hd => by
    rcases List.mem_cons.mp hd with e | e
    · rw [e]; exact D.ky_ok n x (h x (by simp))
    · exact D.kys_ok n xs (fun d hd => h d (by simp [hd])) d e
end
mutual
theorem D.eqb_nk : ∀ (n m : Nat) (a b : D), D.kyb n a = true → D.kyb m b = true → (D.eqb a b = true ↔ a.nk = b.nk)
  | 0, _, _, _, h, _ => by simp [D.kyb] at h
  | _, 0, _, _, _, h => by simp [D.kyb] at h
  | n + 1, m + 1, a, b, h, k => by
    cases a with
    | tup xs =>
      cases b with
      | tup ys =>
        simp only [D.eqb, D.nk, NestedKey.tup.injEq]
        exact D.eqbs_nk n m xs ys (by simpa [D.kyb] using h) (by simpa [D.kyb] using k)
      | lst _ => simp [D.kyb] at k
      | dct _ _ => simp [D.kyb] at k
      | tok _ => simp [D.kyb] at k
      | _ => simp [D.eqb, D.nk]
    | lst _ => simp [D.kyb] at h
    | dct _ _ => simp [D.kyb] at h
    | tok _ => simp [D.kyb] at h
    | non => cases b <;> first | (simp [D.kyb] at k; done) | simp [D.eqb, D.nk]
    | bl x => cases b <;> first | (simp [D.kyb] at k; done) | (rename_i y; cases x <;> cases y <;> simp [D.eqb, D.nk]; done) | (cases x <;> simp [D.eqb, D.nk])
    | int x => cases b <;> first | (simp [D.kyb] at k; done) | simp [D.eqb, D.nk]
    | str x => cases b <;> first | (simp [D.kyb] at k; done) | simp [D.eqb, D.nk]
theorem D.eqbs_nk : ∀ (n m : Nat) (a b : List D), (∀ d ∈ a, D.kyb n d = true) → (∀ d ∈ b, D.kyb m d = true) → (D.eqbs a b = true ↔ D.nks a = D.nks b)
  | _, _, [], [], _, _ => by simp [D.eqbs, D.nks]
  | _, _, [], _ :: _, _, _ => by simp [D.eqbs, D.nks]
  | _, _, _ :: _, [], _, _ => by simp [D.eqbs, D.nks]
  | n, m, x :: xs, y :: ys, h, k => by
    simp only [D.eqbs, D.nks, Bool.and_eq_true, List.cons.injEq]
    rw [D.eqb_nk n m x y (h x (by simp)) (k y (by simp)), D.eqbs_nk n m xs ys (fun d hd => h d (by simp [hd])) (fun d hd => k d (by simp [hd]))]
end
mutual
theorem D.nk_depth : ∀ (n : Nat) (a : D), D.kyb n a = true → a.nk.depth ≤ n
  | 0, _, h => by simp [D.kyb] at h
  | n + 1, a, h => by
    cases a <;> first
      | (simp [D.kyb] at h; done)
      | (simp [D.nk, NestedKey.depth]; done)
      | skip
    rename_i xs
    have := D.nks_depth n xs (by simpa [D.kyb] using h)
    simp only [D.nk, NestedKey.depth]
    omega
theorem D.nks_depth : ∀ (n : Nat) (a : List D), (∀ d ∈ a, D.kyb n d = true) → NestedKey.depthAll (D.nks a) ≤ n
  | _, [], _ => by simp [D.nks, NestedKey.depthAll]
  | n, x :: xs, h => by
    have h1 := D.nk_depth n x (h x (by simp))
    have h2 := D.nks_depth n xs fun d hd => h d (by simp [hd])
    simp only [D.nks, NestedKey.depthAll]
    omega
end
mutual
theorem nested_reads {h : Heap} : ∀ (n : Nat) (a : D) (u : Value) (as : List Addr), D.kyb n a = true → Reads h u a.py as → NestedIs h a.nk u
  | 0, _, _, _, k, _ => by simp [D.kyb] at k
  | n + 1, a, u, as, k, r => by
    cases a with
    | non => simp only [D.py] at r; cases r; exact .none
    | bl b => simp only [D.py] at r; cases r; exact .bool rfl
    | int i => simp only [D.py] at r; cases r; exact .int _ _
    | str x => simp only [D.py] at r; cases r; exact .text _ _
    | tup xs =>
      simp only [D.py] at r
      cases r with
      | tuple h1 h2 h3 h4 => exact .tup h1 h2 h3 (nesteds_reads n xs _ _ (by simpa [D.kyb] using k) h4)
    | lst _ => simp [D.kyb] at k
    | dct _ _ => simp [D.kyb] at k
    | tok _ => simp [D.kyb] at k
theorem nesteds_reads {h : Heap} : ∀ (n : Nat) (a : List D) (us : List Value) (as : List Addr), (∀ d ∈ a, D.kyb n d = true) → ReadsAll h us (D.pys a) as → NestedAll h (D.nks a) us
  | _, [], us, _, _, r => by
    simp only [D.pys] at r
    cases r
    exact .nil
  | n, x :: xs, us, as, k, r => by
    simp only [D.pys] at r
    cases r with
    | cons h1 h2 => exact .cons (nested_reads n x _ _ (k x (by simp)) h1) (nesteds_reads n xs _ _ (fun d hd => k d (by simp [hd])) h2)
end
/-- the tuple at b is the key k -/
def KeyAt (K : PySem.W.Frag) (H : Hp) (k : NestedKey) (b : Addr) : Prop := ∃ d : D, D.kyb 8 d = true ∧ Dp K H (.ref b) d.py ∧ d.nk = k
def NGet (X : Cx) (H : Hp) (a : Addr) (y : V) (r : Option V) : Prop := ∃ (xs : List (NestedKey × Addr × V)) (k : NestedKey) (b : Addr), Rd H a (ND X.prog X.w a xs) ∧ (∀ x ∈ xs, KeyAt X.K H x.1 x.2.1) ∧ y = .ref b ∧ KeyAt X.K H k b ∧ r = (xs.find? fun x => decide (x.1 = k)).map fun x => x.2.2
section
variable {X : Cx} {pins : List (Addr × Obj)} {σ : St} {H : Hp} {s : Shared} {a : Addr} {y v : V} {u r : Value} {A : Around} {E : Value → Shared → Prop}
theorem KeyAt.is {k : NestedKey} {b : Addr} (I : Inv X pins σ H s) (q : KeyAt X.K H k b) : (nestedKind X.prog X.w).is s.heap k b := by
  obtain ⟨d, h1, h2, rfl⟩ := q
  obtain ⟨as, r1⟩ := Dp.reads I d.py (.ref b) (.ref b) h2 rfl
  exact ⟨nested_reads 8 d _ _ h1 r1, D.nk_depth 8 d h1⟩
abbrev NPair : NestedKey × Addr × V → NestedKey × Addr × Value → Prop := fun x y => x.1 = y.1 ∧ x.2.1 = y.2.1 ∧ RelV x.2.2 y.2.2
theorem npair_keys {p : NestedKey → Addr → Prop} : ∀ {xs : List (NestedKey × Addr × V)} {ys : List (NestedKey × Addr × Value)}, Paired NPair xs ys → (∀ x ∈ xs, p x.1 x.2.1) → ∀ y ∈ ys, p y.1 y.2.1
  | _, _, .nil, _, y, hy => by simp at hy
  | x :: xs, z :: ys, .cons q t, h, y, hy => by
    rcases List.mem_cons.mp hy with e | e
    · subst e
      have := h x (by simp)
      rw [q.1, q.2.1] at this
      exact this
    · exact npair_keys t (fun x hx => h x (by simp [hx])) y e
theorem npair_fst : ∀ {xs : List (NestedKey × Addr × V)} {ys : List (NestedKey × Addr × Value)}, Paired NPair xs ys → xs.map (·.1) = ys.map (·.1)
  | _, _, .nil => rfl
  | _, _, .cons q t => by simp [q.1, npair_fst t]
theorem nd_at {xs : List (NestedKey × Addr × V)} (I : Inv X pins σ H s) (e : Rd H a (ND X.prog X.w a xs)) (hk : ∀ x ∈ xs, KeyAt X.K H x.1 x.2.1) : (a == sysModules) = false ∧ xs.length ≤ sizeLine ∧ ∃ ys, Paired NPair xs ys ∧ s.heap.DictOfH (nestedKind X.prog X.w) a ys := by
  obtain ⟨⟨h1, h2, h3, ys, h4, o, es, ep, h5, h6, h7, h8⟩, _⟩ := (e.ok I.hok : ObjOk X.prog X.w H s.heap a (ND X.prog X.w a xs))
  exact ⟨h1, h2, ys, h4, o, es, ep, h5, h6, h7, h8, npair_keys (p := fun k b => (nestedKind X.prog X.w).is s.heap k b) h4 (fun x hx => (hk x hx).is I), by rw [← npair_fst h4]; exact h3⟩
theorem npair_val {k : NestedKey} : ∀ {xs : List (NestedKey × Addr × V)} {ys : List (NestedKey × Addr × Value)}, Paired NPair xs ys → RelO ((xs.find? fun x => decide (x.1 = k)).map fun x => x.2.2) ((atKey ys k).map (·.2))
  | _, _, .nil => trivial
  | x :: xs, y :: ys, .cons q t => by
    obtain ⟨q1, q2, q3⟩ := q
    have ih := npair_val (k := k) t
    by_cases e : x.1 = k
    · have e' : y.1 = k := q1 ▸ e
      simp only [atKey, List.find?_cons, e, e', decide_true, Option.map_some]
      exact q3
    · have e' : ¬ y.1 = k := fun z => e (q1.trans z)
      simp only [atKey, List.find?_cons, e, e', decide_false]
      exact ih
theorem nd_in1 {A : Around} (hu : A.units + 65 < cLine) : (nestedKind X.prog X.w).room A.in1 := by show A.units + 1 + 8 < cLine; omega
theorem n_getItem {Q : Value → Shared → Prop} (hu : A.units + 65 < cLine) (I : Inv X pins σ H s) (g : NGet X H a y (some v)) (ry : RelV y u) (h : ∀ w' s', Inv X pins σ H s' → RelV v w' → Q w' s') :
    wpAny (model X.prog X.w) A (getItem (.ref a) u) Q E s := by
  obtain ⟨xs, k, b, e, hk, rfl, kb, l⟩ := g
  cases (show u = Value.ref b from ry)
  obtain ⟨hd, _, ys, rel, dd⟩ := nd_at I e hk
  obtain ⟨w', hw, rw'⟩ := RelO.some_of (v := v) (o := (atKey ys k).map (·.2)) (by rw [l]; exact npair_val rel)
  obtain ⟨p, hp, hp2⟩ := Option.map_eq_some_iff.mp hw
  refine wpAny_getItem_heap (nd_in1 hu) (kb.is I) dd hp ?_
  rw [hp2]
  exact h w' _ (I.tok _) rw'
theorem n_in {o : Option V} {Q : Value → Shared → Prop} (hu : A.units + 65 < cLine) (I : Inv X pins σ H s) (g : NGet X H a y o) (ry : RelV y u) (h : ∀ s', Inv X pins σ H s' → Q (.bool o.isSome) s') :
    wpAny (model X.prog X.w) A (compareOp .In u (.ref a)) Q E s := by
  obtain ⟨xs, k, b, e, hk, rfl, kb, l⟩ := g
  cases (show u = Value.ref b from ry)
  obtain ⟨hd, _, ys, rel, dd⟩ := nd_at I e hk
  refine wpAny_in_heap (nd_in1 hu) (kb.is I) hd dd ?_
  have q := (npair_val (k := k) rel).isSome_eq
  rw [Option.isSome_map] at q
  have q2 : o.isSome = (atKey ys k).isSome := by rw [l]; simpa using q
  rw [← q2]
  exact h _ (I.tok _)
theorem n_notIn {o : Option V} {Q : Value → Shared → Prop} (hu : A.units + 65 < cLine) (I : Inv X pins σ H s) (g : NGet X H a y o) (ry : RelV y u) (h : ∀ s', Inv X pins σ H s' → Q (.bool (!o.isSome)) s') :
    wpAny (model X.prog X.w) A (compareOp .NotIn u (.ref a)) Q E s := by
  obtain ⟨xs, k, b, e, hk, rfl, kb, l⟩ := g
  cases (show u = Value.ref b from ry)
  obtain ⟨hd, _, ys, rel, dd⟩ := nd_at I e hk
  refine PyProof.Rows.wpAny_notIn_heap (nd_in1 hu) (kb.is I) hd dd ?_
  have q := (npair_val (k := k) rel).isSome_eq
  rw [Option.isSome_map] at q
  have q2 : o.isSome = (atKey ys k).isSome := by rw [l]; simpa using q
  rw [← q2]
  exact h _ (I.tok _)
theorem n_get2 {d : V} {o : Option V} {Q : Value → Shared → Prop} (hu : A.units + 65 < cLine) (I : Inv X pins σ H s) (g : NGet X H a y o) (ry : RelV y u) (rd : RelV d r) (h : ∀ w' s', Inv X pins σ H s' → RelV (o.getD d) w' → Q w' s') :
    wpAny (model X.prog X.w) A (call (.builtin "dict.get") [.ref a, u, r]) Q E s := by
  obtain ⟨xs, k, b, e, hk, rfl, kb, l⟩ := g
  cases (show u = Value.ref b from ry)
  obtain ⟨hd, _, ys, rel, dd⟩ := nd_at I e hk
  refine call_meetsIn PySem.F.slot_dict_get dd.typeIs PySem.F.entry_dict_get (PySem.F.args_dict_get_3 _ _ _) (meetsH_dict_get_default (nestedKind X.prog X.w) a b hd r) ⟨nd_in1 hu, k, ys, kb.is I, dd, h _ _ (I.tok _) ?_⟩
  rw [l]
  exact (npair_val (k := k) rel).getD rd
/-- storing -/
def nput (xs : List (NestedKey × Addr × V)) (k : NestedKey) (b : Addr) (v : V) : List (NestedKey × Addr × V) :=
  if (xs.any fun x => decide (x.1 = k)) then xs.map fun x => if x.1 = k then (x.1, x.2.1, v) else x else xs ++ [(k, b, v)]
theorem npair_put {k : NestedKey} {b : Addr} {v : V} {u : Value} (rv : RelV v u) {xs : List (NestedKey × Addr × V)} {ys : List (NestedKey × Addr × Value)} (r : Paired NPair xs ys) : Paired NPair (nput xs k b v) (storedH ys k b u) := by
  have ha : (xs.any fun x => decide (x.1 = k)) = (atKey ys k).isSome := by
    induction r with
    | nil => rfl
    | @cons x y xs ys q _ ih =>
      by_cases e : x.1 = k
      · have e' : y.1 = k := q.1 ▸ e
        simp [atKey, List.find?_cons, e, e']
      · have e' : ¬ y.1 = k := fun z => e (q.1.trans z)
        simp only [List.any_cons, e, decide_false, Bool.false_or, ih]
        simp [atKey, List.find?_cons, e']
  unfold nput storedH
  rw [ha]
  split
  · rename_i hh
    clear ha hh
    induction r with
    | nil => exact .nil
    | @cons x y xs ys q _ ih =>
      refine .cons ?_ ih
      by_cases e : x.1 = k
      · have e' : y.1 = k := q.1 ▸ e
        simp only [putAt, e, e', if_pos]
        exact ⟨rfl, q.2.1, rv⟩
      · have e' : ¬ y.1 = k := fun z => e (q.1.trans z)
        simp only [putAt, e, e', if_neg, not_false_eq_true]
        exact q
  · rename_i hh
    clear ha hh
    induction r with
    | nil => exact .cons ⟨rfl, rfl, rv⟩ .nil
    | cons q _ ih => exact .cons q ih
theorem nput_len {xs : List (NestedKey × Addr × V)} {k : NestedKey} {b : Addr} {v : V} : (nput xs k b v).length ≤ xs.length + 1 := by
  unfold nput
  split <;> simp
theorem n_setItem {xs : List (NestedKey × Addr × V)} {k : NestedKey} {b : Addr} {Q : Unit → Shared → Prop} (hu : A.units + 65 < cLine) (I : Inv X pins σ H s) (e : H a = some (ND X.prog X.w a xs)) (hk : ∀ x ∈ xs, KeyAt X.K H x.1 x.2.1) (kb : KeyAt X.K H k b) (hl : xs.length < sizeLine) (rv : RelV v r)
    (h : ∀ s', Inv X pins σ (upd H a (ND X.prog X.w a (nput xs k b v))) s' → Q () s') : wpAny (model X.prog X.w) A (setItem (.ref a) (.ref b) r) Q E s := by
  obtain ⟨hd, z, ys, rel, dd⟩ := nd_at I (.inl e) hk
  have hz : ys.length ≤ sizeLine := by rw [← Paired.length rel]; exact z
  have hl' : (nput xs k b v).length ≤ sizeLine := by have := nput_len (xs := xs) (k := k) (b := b) (v := v); omega
  refine wpAny_setItem_heap (hsz := hz) (nd_in1 hu) (kb.is I) dd fun h' dd' hs => h _ ?_
  obtain ⟨q, es, ep, hq, h2, h3, h4, _, h5⟩ := dd'
  have rel' := npair_put (k := k) (b := b) rv rel
  have fst : (nput xs k b v).map (·.1) = (storedH ys k b r).map (·.1) := npair_fst rel'
  refine d_write I (by rw [e]; exact True.intro) hs ⟨q, hq⟩ ⟨⟨hd, hl', by rw [fst]; exact h5, _, rel', q, es, ep, hq, h2, h3, h4⟩, ⟨q, hq⟩, fun h1 h2' x hx => ?_⟩
  obtain ⟨x1, x2, x3, ys', x4, o', es', ep', x5, x6⟩ := x
  exact ⟨x1, x2, x3, ys', x4, o', es', ep', hx _ x5, x6⟩
theorem nd_typeIs {xs : List (NestedKey × Addr × V)} (I : Inv X pins σ H s) (e : Rd H a (ND X.prog X.w a xs)) : s.TypeIs (.ref a) "dict" ∧ (∀ b, Value.ref a = .ref b → ∃ ob, s.heap.get? b = some ob ∧ ob.dict = none) ∧ (a == sysModules) = false := by
  obtain ⟨⟨h1, h2, h3, ys, h4, o, es, ep, h5, h6, h7, h8⟩, _⟩ := (e.ok I.hok : ObjOk X.prog X.w H s.heap a (ND X.prog X.w a xs))
  refine ⟨⟨o, h5, h6.1⟩, fun b q => ?_, h1⟩
  cases q
  exact ⟨o, h5, h6.2.1⟩
def tDNewN (P : Program) (w : World) : TE := fun _ H Q => ∀ p, H p = none → Q (.ref p) (upd H p (ND P w p []))
theorem nd_empty {P : Program} {w : World} {H : Hp} (h : Heap) (hb : sysModules < h.objs.size) : ObjOk P w H (h.push { cls := .type "dict", data := .dict #[] }) h.objs.size (ND P w h.objs.size []) :=
  ⟨⟨beq_eq_false_iff_ne.mpr (Ne.symm (Nat.ne_of_lt hb)), Nat.zero_le _, List.nodup_nil, [], .nil, _, #[], 0, Heap.get?_push_size _ rfl, ⟨rfl, rfl, rfl⟩, rfl, rfl⟩, ⟨_, Heap.get?_push_size _ rfl⟩, fun h1 h2 x hx => by
    obtain ⟨x1, x2, x3, ys', x4, o', es', ep', x5, x6⟩ := x
    exact ⟨x1, x2, x3, ys', x4, o', es', ep', hx _ x5, x6⟩⟩
theorem pe_dnewN {pos : Pos} : PE X (.Dict [] [] pos) (tDNewN X.prog X.w) := ⟨fun pins s σ H Q I h =>
  wpAny_Dict_empty ⟨.ref s.heap.objs.size, _, I.laid (a := s.heap.objs.size) (o := ND X.prog X.w s.heap.objs.size []) (t' := s.toks) (fun _ _ q => Heap.get?_push_of_some _ q) (Nat.le_refl _) (nd_empty s.heap I.big), rfl, h _ (I.hok.fresh (Nat.le_refl _))⟩⟩
end

/-! ### dicts as data -/
/-- a dict that is read: by one of the two forms -/
inductive DictV (C : Cf) (G H : Hp) (a : Addr) : Bool → List (D × D) → Prop
  | k {kvs : List (Key × V)} {ds : List D} : Rd H a (.dK kvs) → RepA C G (kvs.map (·.2)) ds → ds.length ≤ LIM → DictV C G H a false ((kvs.map fun p => kD p.1).zip ds)
  | n {xs : List (NestedKey × Addr × V)} {kds ds : List D} : Rd H a (ND C.P C.w a xs) → RepA C G (xs.map fun x => .ref x.2.1) kds → xs.map (·.1) = D.nks kds → kds.all keyN = true → RepA C G (xs.map fun x => x.2.2) ds → ds.length ≤ LIM → DictV C G H a true (kds.zip ds)
theorem RepB.dict {C : Cf} {B : Addr → Bool} {ow : Ow} {H : Hp} {v : V} {n : Bool} {kvs : List (D × D)} (r : RepB C B ow H v (.dct n kvs)) : ∃ a, v = .ref a ∧ DictV C (hid B ow H) H a n kvs := by
  rcases r with r | ⟨p, x, rfl, hp, hx, hd⟩
  · generalize e : D.dct n kvs = d at r
    cases r with
    | dK h q l => cases e; exact ⟨_, rfl, .k (.inr ⟨_, (hid_le h)⟩) q l⟩
    | dN h r1 r2 r3 r4 l => cases e; exact ⟨_, rfl, .n (.inr ⟨_, (hid_le h)⟩) r1 r2 r3 r4 l⟩
    | _ => cases e
  · cases x with
    | emp => cases hd
    | val d => exact hx.elim
    | lst es => cases hd
    | dct m ds =>
      cases hd
      obtain ⟨_, ⟨ks, es, rfl, h4, h5, h9, rfl⟩ | ⟨xs, kds, es, rfl, h4, h5, h6, h7, h8, h9, rfl⟩⟩ := hx
      · exact ⟨p, rfl, .k (.inl h4) h5 h9⟩
      · exact ⟨p, rfl, .n (.inl h4) h5 h6 h7 h8 h9⟩
section
variable {C : Cf} {B : Addr → Bool} {ow : Ow} {H : Hp}
theorem RepA.keys {K : PySem.W.Frag} (hK : K = C.K) : ∀ {xs : List (NestedKey × Addr × V)} {kds : List D}, RepA C (hid B ow H) (xs.map fun x => .ref x.2.1) kds → xs.map (·.1) = D.nks kds → kds.all keyN = true → ∀ x ∈ xs, KeyAt K H x.1 x.2.1
  | [], _, _, _, _, x, hx => by simp at hx
  | y :: ys, [], r, _, _, x, hx => by cases r
  | y :: ys, d :: ds, r, e, k, x, hx => by
    simp only [List.map_cons, D.nks, List.cons.injEq] at e
    simp only [List.all_cons, Bool.and_eq_true] at k
    cases r with
    | cons r1 r2 =>
      rcases List.mem_cons.mp hx with q | q
      · subst q
        have hk : D.kyb 8 d = true := by
          have := k.1
          unfold keyN at this
          split at this
          · exact this
          · cases this
        refine ⟨d, hk, ?_, e.1.symm⟩
        rw [hK]
        exact Rep.dp hid_sn 8 r1 (D.ky_ok 8 d hk)
      · exact RepA.keys hK r2 e.2 k.2 x q
theorem keyN_kyb {d : D} (h : keyN d = true) : D.kyb 8 d = true := by
  unfold keyN at h
  split at h
  · exact h
  · cases h
theorem find_k {kd : D} {k : Key} (e : kd = kD k) : ∀ {kvs : List (Key × V)} {ds : List D}, RepA C (hid B ow H) (kvs.map (·.2)) ds → match look ((kvs.map fun p => kD p.1).zip ds) kd with | some d => ∃ v, valV kvs k = some v ∧ Rep C (hid B ow H) v d | none => valV kvs k = none
  | [], _, r => by cases r; rfl
  | p :: kvs, ds, r => by
    cases r with
    | @cons v vs d ds r1 r2 =>
      subst e
      have q : D.eqb (kD p.1) (kD k) = decide (p.1 = k) := by
        rcases p with ⟨a | a, v⟩ <;> rcases k with b | b <;> (rw [Bool.eq_iff_iff]; simp [kD, D.eqb])
      by_cases h : p.1 = k
      · have e : look (((p :: kvs).map fun p => kD p.1).zip (d :: ds)) (kD k) = some d := by
          have q' : (kD p.1).eqb (kD k) = true := by rw [q]; exact decide_eq_true h
          simp only [look, List.map_cons, List.zip_cons_cons, List.find?_cons, q', Option.map_some]
        rw [e]
        exact ⟨p.2, valV_pos h, r1⟩
      · have ih := find_k rfl r2 (k := k)
        have e : look (((p :: kvs).map fun p => kD p.1).zip (d :: ds)) (kD k) = look ((kvs.map fun p => kD p.1).zip ds) (kD k) := by
          simp only [look, List.map_cons, List.zip_cons_cons, List.find?_cons, q, h, decide_false]
        rw [valV_neg h, e]
        exact ih
theorem find_n {kd : D} (hk : D.kyb 8 kd = true) : ∀ {xs : List (NestedKey × Addr × V)} {kds ds : List D}, RepA C (hid B ow H) (xs.map fun x => x.2.2) ds → xs.map (·.1) = D.nks kds → kds.all keyN = true → match look (kds.zip ds) kd with
    | some d => ∃ v, ((xs.find? fun x => decide (x.1 = kd.nk)).map fun x => x.2.2) = some v ∧ Rep C (hid B ow H) v d
    | none => ((xs.find? fun x => decide (x.1 = kd.nk)).map fun x => x.2.2) = none
  | [], _, _, r, _, _ => by cases r; simp [look]
  | x :: xs, [], _, _, e, _ => by simp [D.nks] at e
  | x :: xs, k :: kds, ds, r, e, ka => by
    cases r with
    | @cons v vs d ds r1 r2 =>
      simp only [List.map_cons, D.nks, List.cons.injEq] at e
      simp only [List.all_cons, Bool.and_eq_true] at ka
      have q : D.eqb k kd = decide (x.1 = kd.nk) := by
        rw [e.1]
        have := D.eqb_nk 8 8 k kd (keyN_kyb ka.1) hk
        cases z : D.eqb k kd with
        | true => rw [decide_eq_true (this.mp z)]
        | false => rw [decide_eq_false fun y => by rw [this.mpr y] at z; cases z]
      by_cases h : x.1 = kd.nk
      · have e : look ((k :: kds).zip (d :: ds)) kd = some d := by
          have q' : D.eqb k kd = true := by rw [q]; exact decide_eq_true h
          simp only [look, List.zip_cons_cons, List.find?_cons, q', Option.map_some]
        rw [e]
        exact ⟨x.2.2, by simp [List.find?_cons, h], r1⟩
      · have ih := find_n hk r2 e.2 ka.2
        have e : look ((k :: kds).zip (d :: ds)) kd = look (kds.zip ds) kd := by
          simp only [look, List.zip_cons_cons, List.find?_cons, q, h, decide_false]
        have e2 : ((x :: xs).find? fun x => decide (x.1 = kd.nk)) = xs.find? fun x => decide (x.1 = kd.nk) := by simp [List.find?_cons, h]
        rw [e, e2]
        exact ih
end
/-- y may be looked up in the dict at a -/
def MGet (X : Cx) (H : Hp) (a : Addr) (y : V) (r : Option V) : Prop := DGet H a y r ∨ NGet X H a y r
section
variable {C : Cf} {B : Addr → Bool} {ow : Ow} {H : Hp} {X : Cx}
theorem keyAt_of {y : V} {kd : D} (hK : X.K = C.K) (ry : RepB C B ow H y kd) (hk : keyN kd = true) : ∃ b, y = .ref b ∧ KeyAt X.K H kd.nk b := by
  have h8 := keyN_kyb hk
  have dp := ry.dp (D.ky_ok 8 kd h8)
  cases kd with
  | tup ds =>
    obtain ⟨a, vs, rfl, _⟩ := ry.tuple
    exact ⟨a, rfl, _, h8, by rw [hK]; exact dp, rfl⟩
  | _ => simp [keyN] at hk
theorem mget_of {a : Addr} {n : Bool} {kvs : List (D × D)} {y : V} {kd : D} (hP : X.prog = C.P) (hw : X.w = C.w) (hK : X.K = C.K) (dv : DictV C (hid B ow H) H a n kvs) (ry : RepB C B ow H y kd) (hk : keyOf n kd = true) :
    match look kvs kd with | some d => ∃ v, MGet X H a y (some v) ∧ Rep C (hid B ow H) v d | none => MGet X H a y none := by
  cases dv with
  | @k kvs ds h r _ =>
    have hk : keyK kd = true := hk
    cases kd with
    | int i =>
      have := find_k (kd := .int i) (k := .inl i) rfl r
      have ey := ry.int
      subst ey
      split
      · rename_i d e; rw [e] at this; obtain ⟨v, h1, h2⟩ := this
        exact ⟨v, .inl (.inl ⟨kvs, .inl i, h, rfl, h1.symm⟩), h2⟩
      · rename_i e; rw [e] at this
        exact .inl (.inl ⟨kvs, .inl i, h, rfl, this.symm⟩)
    | str i =>
      have := find_k (kd := .str i) (k := .inr i) rfl r
      have ey := ry.str
      subst ey
      split
      · rename_i d e; rw [e] at this; obtain ⟨v, h1, h2⟩ := this
        exact ⟨v, .inl (.inl ⟨kvs, .inr i, h, rfl, h1.symm⟩), h2⟩
      · rename_i e; rw [e] at this
        exact .inl (.inl ⟨kvs, .inr i, h, rfl, this.symm⟩)
    | _ => simp [keyK] at hk
  | @n xs kds ds h r1 r2 r3 r4 _ =>
    have hk : keyN kd = true := hk
    obtain ⟨b, rfl, kb⟩ := keyAt_of hK ry hk
    have ks := RepA.keys hK r1 r2 r3
    rw [← hP, ← hw] at h
    have := find_n (keyN_kyb hk) r4 r2 r3
    split
    · rename_i d e; rw [e] at this; obtain ⟨v, h1, h2⟩ := this
      exact ⟨v, .inr ⟨xs, _, b, h, ks, rfl, kb, h1.symm⟩, h2⟩
    · rename_i e; rw [e] at this
      exact .inr ⟨xs, _, b, h, ks, rfl, kb, this.symm⟩
/-! value rules -/
theorem op_inM (hu : X.A.units + 65 < cLine) : OpR X (compareOp .In) (fun x y H Q => ∃ a o, y = .ref a ∧ MGet X H a x o ∧ Q (.bl o.isSome) H) := by
  intro pins s σ H x y v u Q I rx ry h
  obtain ⟨a, o, rfl, g, q⟩ := h
  cases (show u = Value.ref a from ry)
  rcases g with g | g
  · exact d_in (by omega) I g rx fun s' I' => ⟨.bl _, H, I', rfl, q⟩
  · exact n_in hu I g rx fun s' I' => ⟨.bl _, H, I', rfl, q⟩
theorem op_notInM (hu : X.A.units + 65 < cLine) : OpR X (compareOp .NotIn) (fun x y H Q => ∃ a o, y = .ref a ∧ MGet X H a x o ∧ Q (.bl (!o.isSome)) H) := by
  intro pins s σ H x y v u Q I rx ry h
  obtain ⟨a, o, rfl, g, q⟩ := h
  cases (show u = Value.ref a from ry)
  rcases g with g | g
  · exact d_notIn (by omega) I g rx fun s' I' => ⟨.bl _, H, I', rfl, q⟩
  · exact n_notIn hu I g rx fun s' I' => ⟨.bl _, H, I', rfl, q⟩
theorem mget_typeIs {pins : List (Addr × Obj)} {σ : St} {s : Shared} {a : Addr} {y : V} {o : Option V} (I : Inv X pins σ H s) (g : MGet X H a y o) : s.TypeIs (.ref a) "dict" := by
  rcases g with g | ⟨xs, k, b, e, _⟩
  · exact dict_typeIs I g
  · exact (nd_typeIs I e).1
theorem ix_M (hu : X.A.units + 65 < cLine) : IxR X (fun x y H Q => ∃ a v, x = .ref a ∧ MGet X H a y (some v) ∧ Q v H) := by
  intro value slice pins s σ H x y v u Q I rx ry h hs
  obtain ⟨a, w, rfl, g, q⟩ := h
  cases (show v = Value.ref a from rx)
  have hT := mget_typeIs I g
  have fin : wpAny (model X.prog X.w) X.A (getItem (.ref a) u) (EP X pins σ Q) X.xe s := by
    rcases g with g | g
    · exact d_getItem (by omega) I g ry fun w' s' I' rw' => ⟨w, H, I', rw', q⟩
    · exact n_getItem hu I g ry fun w' s' I' rw' => ⟨w, H, I', rw', q⟩
  unfold PyProof.Rows.subscriptTail
  refine wpAny_bind ?_
  rw [getitemInPython_of_ne hT.not_modules]
  refine wpAny_bind (wpAny_specialOf hT PySem.F.slot_dict_getitem.lookup ?_)
  have fin2 : wpAny (model X.prog X.w) X.A (subscripted slice false (.ref a) u) (fun r s₃ => wpAny (model X.prog X.w) X.A (letTemporaryGo value (.ref a) r >>= fun _ => pure r) (EP X pins σ Q) X.xe s₃) X.xe s := by
    rw [hs]
    exact wpAny_operating (wpAny_mono fin (fun r s₃ h₃ => wpAny_bind (wpAny_letTemporaryGo (wpAny_pure h₃))) fun _ _ x => x)
  first
    | exact wpAny_pure (wpAny_bind fin2)
    | exact wpAny_bind (wpAny_pure (wpAny_bind fin2))
    | exact wpAny_bind fin2
end
end Mn

set_option Elab.async false
set_option linter.all false
set_option maxRecDepth 100000
set_option maxHeartbeats 1000000
namespace Mn
open PySem L2
section
variable {Φ : Nat → Fn} {gc : Nat → D} {C : Cf} {E : XK} {X : Cx} {k : Nat}
abbrev rInA (X : Cx) : R2 := fun x y H Q => ((rInD X.K x y H Q) ∨ (rInT X.K x y H Q)) ∨ ((∃ a o, y = .ref a ∧ MGet X H a x o ∧ Q (.bl o.isSome) H) ∨ (∃ i j, x = .str i ∧ y = .str j ∧ Q (.bl (!(Builtin.Str.occurrences j i 0 j.length 1).isEmpty)) H))
abbrev rNotInA (X : Cx) : R2 := fun x y H Q => ((rNotInD X.K x y H Q) ∨ (rNotInT X.K x y H Q)) ∨ ((∃ a o, y = .ref a ∧ MGet X H a x o ∧ Q (.bl (!o.isSome)) H) ∨ (∃ i j, x = .str i ∧ y = .str j ∧ Q (.bl (!(!(Builtin.Str.occurrences j i 0 j.length 1).isEmpty))) H))
theorem op_inA (hu : X.A.units + 65 < cLine) : OpR X (compareOp .In) (rInA X) := OpR.or (OpR.or (op_inD hu) (op_inT hu)) (OpR.or (op_inM hu) op_in_str)
theorem op_notInA (hu : X.A.units + 65 < cLine) : OpR X (compareOp .NotIn) (rNotInA X) := OpR.or (OpR.or (op_notInD hu) (op_notInT hu)) (OpR.or (op_notInM hu) op_notin_str)
theorem opd_in (g : Gd C E X k) : OpD C (rInA X) (fun x y => (cmpD .in_ x y).map .bl) := by
  intro B ow s σ H E Q v u x y R r1 r2 w
  simp only [cmpD] at w
  cases y with
  | lst ds =>
    simp only [isIn] at w
    split at w
    · rename_i h
      simp only [Bool.and_eq_true, List.all_eq_true] at h
      refine .inl (.inl ⟨x.py, D.pys ds, ?_, ?_, D.shaped h.1 (by decide), shapedL h.2, ?_⟩)
      · rw [g.hK]; exact r1.dp h.1
      · rw [g.hK]; exact r2.dp (n := DEP + 1) (by simpa [D.okb] using h.2)
      · rw [any_py h.1 ds h.2]; exact wpE.give w rfl R (.bl _)
    · exact w.elim
  | tup ds =>
    simp only [isIn] at w
    split at w
    · rename_i h
      simp only [Bool.and_eq_true, List.all_eq_true] at h
      refine .inl (.inr ⟨x.py, D.pys ds, ?_, ?_, D.shaped h.1 (by decide), shapedT h.2, ?_⟩)
      · rw [g.hK]; exact r1.dp h.1
      · rw [g.hK]; exact r2.dp (n := DEP + 1) (by simpa [D.okb] using h.2)
      · rw [any_py h.1 ds h.2]; exact wpE.give w rfl R (.bl _)
    · exact w.elim
  | dct n kvs =>
    simp only [isIn] at w
    split at w
    · rename_i h
      obtain ⟨a, rfl, dv⟩ := r2.dict
      have := mget_of g.hP g.hw g.hK dv r1 h
      cases q : look kvs x with
      | none =>
        rw [q] at this w
        exact .inr (.inl ⟨a, none, rfl, this, wpE.give w rfl R (.bl _)⟩)
      | some d =>
        rw [q] at this w
        obtain ⟨v', h1, _⟩ := this
        exact .inr (.inl ⟨a, some v', rfl, h1, wpE.give w rfl R (.bl _)⟩)
    · exact w.elim
  | str y =>
    cases x with
    | str x =>
      simp only [isIn] at w
      exact .inr (.inr ⟨_, _, r1.str, r2.str, wpE.give w rfl R (.bl _)⟩)
    | _ => exact w.elim
  | _ => exact w.elim
theorem opd_nin (g : Gd C E X k) : OpD C (rNotInA X) (fun x y => (cmpD .nin x y).map .bl) := by
  intro B ow s σ H E Q v u x y R r1 r2 w
  simp only [cmpD] at w
  cases y with
  | lst ds =>
    simp only [isIn] at w
    split at w
    · rename_i h
      simp only [Bool.and_eq_true, List.all_eq_true] at h
      refine .inl (.inl ⟨x.py, D.pys ds, ?_, ?_, D.shaped h.1 (by decide), shapedL h.2, ?_⟩)
      · rw [g.hK]; exact r1.dp h.1
      · rw [g.hK]; exact r2.dp (n := DEP + 1) (by simpa [D.okb] using h.2)
      · rw [any_py h.1 ds h.2]; exact wpE.give w rfl R (.bl _)
    · exact w.elim
  | tup ds =>
    simp only [isIn] at w
    split at w
    · rename_i h
      simp only [Bool.and_eq_true, List.all_eq_true] at h
      refine .inl (.inr ⟨x.py, D.pys ds, ?_, ?_, D.shaped h.1 (by decide), shapedT h.2, ?_⟩)
      · rw [g.hK]; exact r1.dp h.1
      · rw [g.hK]; exact r2.dp (n := DEP + 1) (by simpa [D.okb] using h.2)
      · rw [any_py h.1 ds h.2]; exact wpE.give w rfl R (.bl _)
    · exact w.elim
  | dct n kvs =>
    simp only [isIn] at w
    split at w
    · rename_i h
      obtain ⟨a, rfl, dv⟩ := r2.dict
      have := mget_of g.hP g.hw g.hK dv r1 h
      cases q : look kvs x with
      | none =>
        rw [q] at this w
        exact .inr (.inl ⟨a, none, rfl, this, wpE.give w rfl R (.bl _)⟩)
      | some d =>
        rw [q] at this w
        obtain ⟨v', h1, _⟩ := this
        exact .inr (.inl ⟨a, some v', rfl, h1, wpE.give w rfl R (.bl _)⟩)
    · exact w.elim
  | str y =>
    cases x with
    | str x =>
      simp only [isIn] at w
      exact .inr (.inr ⟨_, _, r1.str, r2.str, wpE.give w rfl R (.bl _)⟩)
    | _ => exact w.elim
  | _ => exact w.elim
/-- each comparison has its rule -/
theorem op_cmp (g : Gd C E X k) (o : CO) : ∃ r, OpR X (compareOp (coA o)) r ∧ OpD C r (fun x y => (cmpD o x y).map .bl) := by
  have u64 := g.u64
  have u65 := g.u65
  cases o with
  | eq => exact ⟨rEqD C.K, by rw [← g.hK]; exact op_eqD u64, opd_eq⟩
  | ne => exact ⟨rNeD C.K, by rw [← g.hK]; exact op_neD u64, opd_ne⟩
  | lt => exact ⟨rLtD C.K, by rw [← g.hK]; exact op_ltD u64, opd_lt⟩
  | le => exact ⟨_, op_le, opd_le⟩
  | gt => exact ⟨_, op_gt, opd_gt⟩
  | ge => exact ⟨_, op_ge, opd_ge⟩
  | in_ => exact ⟨_, op_inA u65, opd_in g⟩
  | nin => exact ⟨_, op_notInA u65, opd_nin g⟩
theorem ok_cmp {o : CO} {a b : Ex} {e e' : Expr} {ta tb : TE} {r : R2} (hd : OpD C r (fun x y => (cmpD o x y).map .bl)) (ha : Sd Φ gc C E X a e ta) (hb : Sd Φ gc C E X b e' tb) : Ok C E (tOp r ta tb) (ev Φ gc (.cmp o a b)) := by
  intro B ow s σ H Q R w
  unfold ev at w
  exact bind2 ha hb R w fun x y s2 ow2 v u H2 R2 st r1 r2 w2 => hd B ow2 s2 σ H2 E Q v u x y R2 r1 r2 w2

/-! ### tests -/
def wpT (C : Cf) (E : XK) (B : Addr → Bool) (ow : Ow) (H : Hp) (σ : St) (o : Out Bool) (Q : Bool → Hp → Prop) : Prop := match o with
  | .ok b s' => ∀ ow' H', SR C B ow' s' σ H' → Stp C B ow H ow' H' → Q b H'
  | .exc c τ => ∀ H', Fin C B ow H τ H' → E (.ref (C.cls c)) none H'
  | .bad => False
def OkT (C : Cf) (E : XK) (t : TT) (f : S → Out Bool) : Prop := ∀ (B : Addr → Bool) (ow : Ow) (s : S) (σ : St) (H : Hp) (Q : Bool → Hp → Prop), SR C B ow s σ H → wpT C E B ow H σ (f s) Q → t σ H Q
theorem wpT.step {B : Addr → Bool} {ow ow1 : Ow} {H H1 : Hp} {σ : St} {o : Out Bool} {Q : Bool → Hp → Prop} (a : Stp C B ow H ow1 H1) (h : wpT C E B ow H σ o Q) : wpT C E B ow1 H1 σ o Q := by
  cases o with
  | ok d s' => exact fun ow' H' R st => h ow' H' R (a.trans st)
  | exc c τ => exact fun H' f => h H' (f.step a)
  | bad => exact h
/-- a test's rule and its answer -/
structure SdT (Φ : Nat → Fn) (gc : Nat → D) (C : Cf) (E : XK) (X : Cx) (a : Ex) (e : Expr) (t : TT) : Prop where
  pt : PT X e t
  ok : OkT C E t (evT Φ gc a)
def plainT : Expr → Bool
  | .UnaryOp .Not _ _ => false
  | .BoolOp _ _ _ => false
  | .IfExp _ _ _ _ => false
  | .Compare _ _ _ _ => false
  | _ => true
theorem isTrue_plainT {e : Expr} {env : Env} (h : plainT e = true) : ∀ whole, isTrue e env whole = (do let v ← whole; standAt e.pos; holding [v] (truthy v)) := fun whole => by
  cases e <;> first | rfl | (simp [plainT] at h; done) | skip
  rename_i op x p
  cases op <;> first | rfl | (simp [plainT] at h)
theorem truV_of {B : Addr → Bool} {ow : Ow} {H : Hp} {v : V} {d : D} {b : Bool} (r : RepB C B ow H v d) (h : truth d = some b) : TruV C.K v H b := by
  cases d with
  | bl x => cases h; rw [r.bl]; rfl
  | lst xs =>
    cases h
    obtain ⟨a, vs, rfl, h1, h2⟩ := r.list
    refine .inl ⟨vs, .inl (.inl h1), ?_⟩
    have := h2.length
    cases xs <;> cases vs <;> simp_all
  | tup xs =>
    cases h
    obtain ⟨a, vs, rfl, h1, h2, _⟩ := r.tuple
    refine .inr (.inl ⟨vs, h1, ?_⟩)
    have := h2.length
    cases xs <;> cases vs <;> simp_all
  | int i => cases h; rw [r.int]; rfl
  | non => cases h; rw [r.non]; rfl
  | _ => cases h
theorem sdT_plain {a : Ex} {e : Expr} {t : TE} (hK : X.K = C.K) (ha : Sd Φ gc C E X a e t) (hp : plainT e = true) : SdT Φ gc C E X a e (fun σ H Q => t σ H fun x H' => ∃ k, TruV X.K x H' k ∧ Q k H') := by
  refine ⟨pt_truth ha.pe (isTrue_plainT hp), fun B ow s σ H Q R w => ?_⟩
  unfold evT at w
  cases hv : a.isV with
  | true =>
    rw [ha.vr hv]
    rw [hv, if_pos rfl] at w
    cases q : peek a.vix s with
    | ok d s1 =>
      rw [q] at w
      obtain ⟨rfl, v, h1, h2⟩ := R.peek q
      simp only [Out.bind, asTest, Out.of] at w
      cases q2 : truth d with
      | none => rw [q2] at w; exact w.elim
      | some b =>
        rw [q2] at w
        exact ⟨v, h1, .inl ⟨b, by rw [hK]; exact truV_of h2 q2, w ow H R Stp.refl⟩⟩
    | exc c τ => unfold Mn.peek Out.of at q; split at q <;> cases q
    | bad => rw [q] at w; exact w.elim
  | false =>
    rw [hv, if_neg (by decide)] at w
    refine ha.ok B ow s σ H _ R ?_
    cases q : ev Φ gc a s with
    | ok d s1 =>
      rw [q] at w
      intro ow1 v H1 R1 st r
      simp only [Out.bind, asTest, Out.of] at w
      cases q2 : truth d with
      | none => rw [q2] at w; exact w.elim
      | some b =>
        rw [q2] at w
        exact ⟨b, by rw [hK]; exact truV_of (.inl r) q2, w ow1 H1 R1 st⟩
    | exc c τ => rw [q] at w; exact w
    | bad => rw [q] at w; exact w
/-- a value that is True or False, as a test -/
theorem okT_bool {a : Ex} {t : TE} (ha : Ok C E t (ev Φ gc a)) (hv : a.isV = false) (hb : ∀ s d s1, ev Φ gc a s = .ok d s1 → ∃ b, d = .bl b) : OkT C E (tB t) (evT Φ gc a) := by
  intro B ow s σ H Q R w
  unfold evT at w
  rw [hv, if_neg (by decide)] at w
  refine ha B ow s σ H _ R ?_
  cases q : ev Φ gc a s with
  | ok d s1 =>
    rw [q] at w
    obtain ⟨b, rfl⟩ := hb _ _ _ q
    intro ow1 v H1 R1 st r
    cases r
    exact ⟨b, rfl, w ow1 H1 R1 st⟩
  | exc c τ => rw [q] at w; exact w
  | bad => rw [q] at w; exact w
theorem ev_cmp_bl {o : CO} {a b : Ex} {s : S} {d : D} {s1 : S} (h : ev Φ gc (.cmp o a b) s = .ok d s1) : ∃ b, d = .bl b := by
  unfold ev at h
  cases q : (if a.isV then peek a.vix s else ev Φ gc a s) with
  | ok x s2 =>
    rw [q] at h
    simp only [Out.bind] at h
    cases q2 : (if b.isV then peek b.vix s2 else ev Φ gc b s2) with
    | ok y s3 =>
      rw [q2] at h
      simp only [Out.bind] at h
      cases q3 : reread a x s3 with
      | ok z s4 =>
        rw [q3] at h
        simp only [Out.bind, Out.of] at h
        cases q4 : cmpD o z y with
        | none => rw [q4] at h; cases h
        | some b => rw [q4] at h; cases h; exact ⟨b, rfl⟩
      | exc c τ => rw [q3] at h; cases h
      | bad => rw [q3] at h; cases h
    | exc c τ => rw [q2] at h; cases h
    | bad => rw [q2] at h; cases h
  | exc c τ => rw [q] at h; cases h
  | bad => rw [q] at h; cases h
theorem sd_cmp {o : CO} {a b : Ex} {e e' : Expr} {ta tb : TE} {pos : Pos} (g : Gd C E X k) (ha : Sd Φ gc C E X a e ta) (hb : Sd Φ gc C E X b e' tb) (hp : plainE e' = true) :
    ∃ t, Sd Φ gc C E X (.cmp o a b) (.Compare e [coA o] [e'] pos) t ∧ SdT Φ gc C E X (.cmp o a b) (.Compare e [coA o] [e'] pos) (tB t) := by
  obtain ⟨r, h1, h2⟩ := op_cmp g o
  exact ⟨_, ⟨pe_cmpR h1 ha.pe hb.pe (marks_plain hp), ok_cmp h2 ha hb, fun z => by cases z⟩, ⟨pt_cmpR h1 ha.pe hb.pe (marks_plain hp), okT_bool (ok_cmp h2 ha hb) rfl fun _ _ _ => ev_cmp_bl⟩⟩
end
end Mn

set_option Elab.async false
set_option linter.all false
set_option maxRecDepth 100000
set_option maxHeartbeats 1000000
namespace Mn
open PySem L2
section
variable {Φ : Nat → Fn} {gc : Nat → D} {C : Cf} {E : XK} {X : Cx} {k : Nat}
theorem last_plain {op op' : CmpOp} {b c : Expr} (h : plainE c = true) : lastMarks [op, op'] [b, c] = false := by
  show behindInMarks op' c = false
  exact marks_plain h
theorem ok_chn {o o' : CO} {a b c : Ex} {ta tb tc : TE} {r r' : R2} (hd : OpD C r (fun x y => (cmpD o x y).map .bl)) (hd' : OpD C r' (fun x y => (cmpD o' x y).map .bl)) (ha : Ok C E ta (ev Φ gc a)) (hb : Ok C E tb (ev Φ gc b)) (hc : Ok C E tc (ev Φ gc c)) :
    Ok C E (tChain r r' ta tb tc) (ev Φ gc (.chn o o' a b c)) := by
  intro B ow s σ H Q R w
  unfold ev at w
  refine bindE (ta := ta) ha R w fun x s1 ow1 v H1 R1 st1 r1 w1 => ?_
  refine bindE hb R1 w1 fun y s2 ow2 u H2 R2 st2 r2 w2 => ?_
  have r1' := r1.mono st2.fr
  refine hd B ow2 s2 σ H2 E _ v u x y R2 (.inl r1') (.inl r2) ?_
  show wpE C E B ow2 H2 σ (Out.of ((cmpD o x y).map .bl) s2) _
  cases q : cmpD o x y with
  | none => rw [q] at w2; exact w2
  | some b =>
    rw [q] at w2
    intro ow3 z H3 R3 st3 r3
    cases r3
    refine ⟨b, rfl, ?_⟩
    cases b with
    | false =>
      rw [if_neg (by decide)]
      exact (wpE.step st3 w2) ow3 _ H3 R3 Stp.refl (.bl _)
    | true =>
      rw [if_pos rfl]
      exact bindE hc R3 (wpE.step st3 w2) fun z s4 ow4 w' H4 R4 st4 r4 w4 => hd' B ow4 s4 σ H4 E Q u w' y z R4 (.inl ((r2.mono st3.fr).mono st4.fr)) (.inl r4) w4
theorem ev_chn_bl {o o' : CO} {a b c : Ex} {s : S} {d : D} {s1 : S} (h : ev Φ gc (.chn o o' a b c) s = .ok d s1) : ∃ b, d = .bl b := by
  unfold ev at h
  cases q : ev Φ gc a s with
  | ok x s2 =>
    rw [q] at h
    simp only [Out.bind] at h
    cases q2 : ev Φ gc b s2 with
    | ok y s3 =>
      rw [q2] at h
      simp only [Out.bind] at h
      cases q4 : cmpD o x y with
      | none => rw [q4] at h; cases h
      | some b =>
        rw [q4] at h
        cases b with
        | false => cases h; exact ⟨_, rfl⟩
        | true =>
          simp only at h
          cases q5 : ev Φ gc c s3 with
          | ok z s5 =>
            rw [q5] at h
            simp only [Out.of] at h
            cases q6 : cmpD o' y z with
            | none => rw [q6] at h; cases h
            | some b => rw [q6] at h; cases h; exact ⟨b, rfl⟩
          | exc c τ => rw [q5] at h; cases h
          | bad => rw [q5] at h; cases h
    | exc c τ => rw [q2] at h; cases h
    | bad => rw [q2] at h; cases h
  | exc c τ => rw [q] at h; cases h
  | bad => rw [q] at h; cases h
theorem sd_chn {o o' : CO} {a b c : Ex} {e e' e'' : Expr} {ta tb tc : TE} {pos : Pos} (g : Gd C E X k) (ha : Sd Φ gc C E X a e ta) (hb : Sd Φ gc C E X b e' tb) (hc : Sd Φ gc C E X c e'' tc) (hp : plainE e'' = true) :
    ∃ t, Sd Φ gc C E X (.chn o o' a b c) (.Compare e [coA o, coA o'] [e', e''] pos) t ∧ SdT Φ gc C E X (.chn o o' a b c) (.Compare e [coA o, coA o'] [e', e''] pos) (tB t) := by
  obtain ⟨r, h1, h2⟩ := op_cmp g o
  obtain ⟨r', h1', h2'⟩ := op_cmp g o'
  have k := ok_chn h2 h2' ha.ok hb.ok hc.ok
  exact ⟨_, ⟨pe_chain h1 h1' ha.pe hb.pe hc.pe (last_plain hp), k, fun z => by cases z⟩, ⟨pt_chain h1 h1' ha.pe hb.pe hc.pe (last_plain hp), okT_bool k rfl fun _ _ _ => ev_chn_bl⟩⟩

/-! ### is None -/
theorem rep_non {G : Hp} {v : V} {d : D} (r : Rep C G v d) : decide (v = .non) = (match d with | .non => true | _ => false) := by
  cases r <;> simp
theorem sd_isN {a : Ex} {e : Expr} {ta : TE} {pos pos' : Pos} {j : Nat} (yes : Bool) (ha : Sd Φ gc C E X a e ta) :
    ∃ t, Sd Φ gc C E X (.isN yes a) (.Compare e [if yes then .Is else .IsNot] [.Constant .none j pos'] pos) t ∧ SdT Φ gc C E X (.isN yes a) (.Compare e [if yes then .Is else .IsNot] [.Constant .none j pos'] pos) (tB t) := by
  have bl : ∀ s d s1, ev Φ gc (.isN yes a) s = .ok d s1 → ∃ b, d = .bl b := fun s d s1 h => by
    unfold ev at h
    cases q : ev Φ gc a s with
    | ok x s2 => rw [q] at h; cases h; exact ⟨_, rfl⟩
    | exc c τ => rw [q] at h; cases h
    | bad => rw [q] at h; cases h
  cases yes with
  | true =>
    have k : Ok C E (tIsN ta) (ev Φ gc (.isN true a)) := by
      intro B ow s σ H Q R w
      unfold ev at w
      refine bindE (ta := ta) ha.ok R w fun x s1 ow1 v H1 R1 st1 r1 w1 => ?_
      rw [rep_non r1]
      refine w1 ow1 _ H1 R1 Stp.refl ?_
      cases x <;> exact .bl _
    exact ⟨_, ⟨pe_cmp (pc_isN ha.pe), k, fun z => by cases z⟩, ⟨pt_cmp (pc_isN ha.pe), okT_bool k rfl bl⟩⟩
  | false =>
    have k : Ok C E (tNotN ta) (ev Φ gc (.isN false a)) := by
      intro B ow s σ H Q R w
      unfold ev at w
      refine bindE (ta := ta) ha.ok R w fun x s1 ow1 v H1 R1 st1 r1 w1 => ?_
      rw [rep_non r1]
      refine w1 ow1 _ H1 R1 Stp.refl ?_
      cases x <;> exact .bl _
    exact ⟨_, ⟨pe_cmp (pc_notN ha.pe), k, fun z => by cases z⟩, ⟨pt_cmp (pc_notN ha.pe), okT_bool k rfl bl⟩⟩

/-! ### is True, is not False -/
section
variable {prog : Program} {w : World} {A : Around} {E' : Value → Shared → Prop} {s : Shared} {Q : Value → Shared → Prop}
theorem is_bool_gen {x : V} {v : Value} {b : Bool} (r : RelV x v) (h : Q (.bool (v == .bool b)) s) : wpAny (model prog w) A (compareOp .Is v (.bool b)) Q E' s := by
  cases x <;> first
    | (cases r; exact wpAny_pure h)
    | (obtain ⟨t, rfl⟩ := r; exact wpAny_pure h)
theorem isnot_bool_gen {x : V} {v : Value} {b : Bool} (r : RelV x v) (h : Q (.bool (!(v == .bool b))) s) : wpAny (model prog w) A (compareOp .IsNot v (.bool b)) Q E' s := by
  cases x <;> first
    | (cases r; exact wpAny_pure h)
    | (obtain ⟨t, rfl⟩ := r; exact wpAny_pure h)
end
def vIsB (b : Bool) : V → Bool
  | .bl c => c == b
  | _ => false
theorem vIsB_rel {x : V} {v : Value} {b : Bool} (r : RelV x v) : (v == Value.bool b) = vIsB b x := by
  cases x with
  | non => cases r; rfl
  | bl c => cases r; cases c <;> cases b <;> rfl
  | int _ => obtain ⟨t, rfl⟩ := r; rfl
  | str _ => obtain ⟨t, rfl⟩ := r; rfl
  | byt _ => obtain ⟨t, rfl⟩ := r; rfl
  | flt _ => obtain ⟨t, rfl⟩ := r; rfl
  | ref _ => cases r; rfl
  | ty _ => cases r; rfl
def tIsB (yes b : Bool) (ta : TE) : TE := fun σ H Q => ta σ H fun x H1 => Q (.bl (if yes then vIsB b x else !vIsB b x)) H1
theorem pc_isB {e : Expr} {ta : TE} {j pos'} (yes b : Bool) (ha : PE X e ta) : PC X (if yes then .Is else .IsNot) e (.Constant (.bool b) j pos') (tIsB yes b ta) := by
  refine ⟨fun pins s σ H Q I h => ?_⟩
  refine thn (ha.run pins s σ H _ I h) fun v s1 ⟨x, H1, I1, r1, q1⟩ => ?_
  cases yes with
  | true => exact PyProof.Rows.Constant_bool (is_bool_gen r1 ⟨.bl _, H1, I1, by rw [vIsB_rel r1]; rfl, q1⟩)
  | false => exact PyProof.Rows.Constant_bool (isnot_bool_gen r1 ⟨.bl _, H1, I1, by rw [vIsB_rel r1]; rfl, q1⟩)
theorem sd_isB {a : Ex} {e : Expr} {ta : TE} {pos pos' : Pos} {j : Nat} (yes b : Bool) (ha : Sd Φ gc C E X a e ta) :
    ∃ t, Sd Φ gc C E X (.isB yes b a) (.Compare e [if yes then .Is else .IsNot] [.Constant (.bool b) j pos'] pos) t ∧ SdT Φ gc C E X (.isB yes b a) (.Compare e [if yes then .Is else .IsNot] [.Constant (.bool b) j pos'] pos) (tB t) := by
  have bl : ∀ s d s1, ev Φ gc (.isB yes b a) s = .ok d s1 → ∃ b, d = .bl b := fun s d s1 h => by
    unfold ev at h
    cases q : ev Φ gc a s with
    | ok x s2 => rw [q] at h; cases h; exact ⟨_, rfl⟩
    | exc c τ => rw [q] at h; cases h
    | bad => rw [q] at h; cases h
  have k : Ok C E (tIsB yes b ta) (ev Φ gc (.isB yes b a)) := by
    intro B ow s σ H Q R w
    unfold ev at w
    refine bindE (ta := ta) ha.ok R w fun x s1 ow1 v H1 R1 st1 r1 w1 => ?_
    have e : (if yes then vIsB b v else !vIsB b v) = isBD yes b x := by
      clear w1
      cases r1 <;> cases yes <;> rfl
    rw [e]
    exact w1 ow1 _ H1 R1 Stp.refl (.bl _)
  exact ⟨_, ⟨pe_cmp (pc_isB yes b ha.pe) (by cases yes <;> rfl), k, fun z => by cases z⟩, ⟨pt_cmp (pc_isB yes b ha.pe) (by cases yes <;> rfl), okT_bool k rfl bl⟩⟩

/-! ### and, or, not as values -/
theorem asBl_ok {b : Ex} {tb : TE} {B : Addr → Bool} {ow : Ow} {s : S} {σ : St} {H : Hp} {Q : VK} (hb : Ok C E tb (ev Φ gc b)) (R : SR C B ow s σ H) (w : wpE C E B ow H σ ((ev Φ gc b s).bind asBl) Q) : tb σ H Q := by
  refine bindE hb R w fun x s1 ow1 v H1 R1 st1 r1 w1 => ?_
  cases x with
  | bl c => exact w1 ow1 v H1 R1 Stp.refl r1
  | _ => exact w1.elim
theorem ok_and {a b : Ex} {ta tb : TE} (ha : Ok C E ta (ev Φ gc a)) (hb : Ok C E tb (ev Φ gc b)) : Ok C E (tAndV ta tb) (ev Φ gc (.and_ a b)) := by
  intro B ow s σ H Q R w
  unfold ev at w
  refine bindE (ta := ta) ha R w fun x s1 ow1 v H1 R1 st1 r1 w1 => ?_
  cases x with
  | bl c =>
    cases r1
    refine ⟨c, rfl, ?_⟩
    cases c with
    | true => rw [if_pos rfl]; exact asBl_ok hb R1 w1
    | false => rw [if_neg (by decide)]; exact w1 ow1 _ H1 R1 Stp.refl (.bl _)
  | _ => exact w1.elim
theorem ok_or {a b : Ex} {ta tb : TE} (ha : Ok C E ta (ev Φ gc a)) (hb : Ok C E tb (ev Φ gc b)) : Ok C E (tOrV ta tb) (ev Φ gc (.or_ a b)) := by
  intro B ow s σ H Q R w
  unfold ev at w
  refine bindE (ta := ta) ha R w fun x s1 ow1 v H1 R1 st1 r1 w1 => ?_
  cases x with
  | bl c =>
    cases r1
    refine ⟨c, rfl, ?_⟩
    cases c with
    | true => rw [if_pos rfl]; exact w1 ow1 _ H1 R1 Stp.refl (.bl _)
    | false => rw [if_neg (by decide)]; exact asBl_ok hb R1 w1
  | _ => exact w1.elim
theorem ok_not {a : Ex} {ta : TE} (ha : Ok C E ta (ev Φ gc a)) : Ok C E (tNotV ta) (ev Φ gc (.not_ a)) := by
  intro B ow s σ H Q R w
  unfold ev at w
  refine bindE (ta := ta) ha R w fun x s1 ow1 v H1 R1 st1 r1 w1 => ?_
  cases x with
  | bl c =>
    cases r1
    exact ⟨c, rfl, w1 ow1 _ H1 R1 Stp.refl (.bl _)⟩
  | _ => exact w1.elim
/-! .. as tests: only of bools -/
theorem evT_of {a : Ex} {s : S} (hv : a.isV = false) : evT Φ gc a s = (ev Φ gc a s).bind asTest := by unfold evT; rw [hv]; rfl
theorem take_bl {i : Nat} {s s1 : S} {d : D} (h : take i s = .ok d s1) (hd : ∀ ds, d ≠ .lst ds) (hd' : ∀ n ds, d ≠ .dct n ds) : peek i s = .ok d s1 := by
  unfold take at h
  unfold peek
  cases q : s.ρ[i]? with
  | none => rw [q] at h; cases h
  | some x =>
    rw [q] at h
    cases x with
    | emp => cases h
    | val e => cases h; rfl
    | lst ds => cases h; exact absurd rfl (hd ds)
    | dct n ds => cases h; exact absurd rfl (hd' n ds)
/-- where the value's reading wants a bool, the test gives the same -/
theorem evT_bl {a : Ex} {s s1 : S} {b : Bool} (h : ev Φ gc a s = .ok (.bl b) s1) : evT Φ gc a s = .ok b s1 := by
  cases hv : a.isV with
  | true =>
    cases a with
    | var i =>
      unfold ev at h
      unfold evT
      rw [if_pos hv]
      show (peek i s).bind asTest = _
      rw [take_bl h (fun _ z => by cases z) (fun _ _ z => by cases z)]
      rfl
    | _ => simp [Ex.isV] at hv
  | false => rw [evT_of hv, h]; rfl
/-- the bool of a value, where it is one -/
theorem evT_asBl {b : Ex} {s : S} : (ev Φ gc b s).bind asBl = .bad ∨ (∃ c τ, ev Φ gc b s = .exc c τ ∧ (b.isV = false)) ∨ ∃ c s1, ev Φ gc b s = .ok (.bl c) s1 := by
  cases q : ev Φ gc b s with
  | ok d s1 => cases d <;> first | exact .inl rfl | exact .inr (.inr ⟨_, _, rfl⟩)
  | exc c τ =>
    refine .inr (.inl ⟨c, τ, rfl, ?_⟩)
    cases b <;> first | rfl | skip
    unfold ev take at q
    split at q <;> cases q
  | bad => exact .inl rfl
theorem okT_use {b : Ex} {tb : TT} {B : Addr → Bool} {ow : Ow} {s : S} {σ : St} {H : Hp} {Q : Bool → Hp → Prop} (hb : OkT C E tb (evT Φ gc b)) (R : SR C B ow s σ H) (w : wpT C E B ow H σ (((ev Φ gc b s).bind asBl).bind asTest) Q) : tb σ H Q := by
  refine hb B ow s σ H Q R ?_
  rcases evT_asBl (Φ := Φ) (gc := gc) (b := b) (s := s) with h | ⟨c, τ, h, hv⟩ | ⟨c, s1, h⟩
  · rw [h] at w; exact w.elim
  · rw [evT_of hv, h]
    rw [h] at w
    exact w
  · rw [evT_bl h]
    rw [h] at w
    exact w
theorem evT_exc {a : Ex} {s : S} {c : Nat} {τ : Town} (h : ev Φ gc a s = .exc c τ) : evT Φ gc a s = .exc c τ := by
  cases a <;> first | (rw [evT_of rfl, h]; rfl) | skip
  unfold ev take at h
  split at h <;> cases h
theorem okT_and {a b : Ex} {ta tb : TT} (ha : OkT C E ta (evT Φ gc a)) (hb : OkT C E tb (evT Φ gc b)) : OkT C E (tAnd ta tb) (evT Φ gc (.and_ a b)) := by
  intro B ow s σ H Q R w
  rw [evT_of rfl] at w
  unfold ev at w
  refine ha B ow s σ H _ R ?_
  cases q : ev Φ gc a s with
  | ok d s1 =>
    rw [q] at w
    simp only [Out.bind] at w
    cases d with
    | bl c =>
      rw [evT_bl q]
      intro ow1 H1 R1 st
      cases c with
      | true =>
        rw [if_pos rfl]
        exact okT_use hb R1 (wpT.step st w)
      | false => rw [if_neg (by decide)]; exact w ow1 H1 R1 st
    | _ => exact w.elim
  | exc c τ => rw [evT_exc q]; rw [q] at w; exact w
  | bad => rw [q] at w; exact w.elim
theorem okT_or {a b : Ex} {ta tb : TT} (ha : OkT C E ta (evT Φ gc a)) (hb : OkT C E tb (evT Φ gc b)) : OkT C E (tOr ta tb) (evT Φ gc (.or_ a b)) := by
  intro B ow s σ H Q R w
  rw [evT_of rfl] at w
  unfold ev at w
  refine ha B ow s σ H _ R ?_
  cases q : ev Φ gc a s with
  | ok d s1 =>
    rw [q] at w
    simp only [Out.bind] at w
    cases d with
    | bl c =>
      rw [evT_bl q]
      intro ow1 H1 R1 st
      cases c with
      | false =>
        rw [if_neg (by decide)]
        exact okT_use hb R1 (wpT.step st w)
      | true => rw [if_pos rfl]; exact w ow1 H1 R1 st
    | _ => exact w.elim
  | exc c τ => rw [evT_exc q]; rw [q] at w; exact w
  | bad => rw [q] at w; exact w.elim
theorem okT_not {a : Ex} {ta : TT} (ha : OkT C E ta (evT Φ gc a)) : OkT C E (tNot ta) (evT Φ gc (.not_ a)) := by
  intro B ow s σ H Q R w
  rw [evT_of rfl] at w
  unfold ev at w
  refine ha B ow s σ H _ R ?_
  cases q : ev Φ gc a s with
  | ok d s1 =>
    rw [q] at w
    simp only [Out.bind] at w
    cases d with
    | bl c =>
      rw [evT_bl q]
      exact fun ow1 H1 R1 st => w ow1 H1 R1 st
    | _ => exact w.elim
  | exc c τ => rw [evT_exc q]; rw [q] at w; exact w
  | bad => rw [q] at w; exact w.elim

/-! ### a if c else b -/
theorem ok_ite {c a b : Ex} {tc : TT} {ta tb : TE} (hc : OkT C E tc (evT Φ gc c)) (ha : Ok C E ta (ev Φ gc a)) (hb : Ok C E tb (ev Φ gc b)) : Ok C E (tIf tc ta tb) (ev Φ gc (.ite c a b)) := by
  intro B ow s σ H Q R w
  unfold ev at w
  refine hc B ow s σ H _ R ?_
  unfold evT
  cases q : ((if c.isV then peek c.vix s else ev Φ gc c s).bind asTest) with
  | ok k s1 =>
    rw [q] at w
    intro ow1 H1 R1 st
    have w1 := wpE.step st w
    cases k with
    | true => rw [if_pos rfl]; exact ha B ow1 s1 σ H1 Q R1 w1
    | false => rw [if_neg (by decide)]; exact hb B ow1 s1 σ H1 Q R1 w1
  | exc c τ => rw [q] at w; exact w
  | bad => rw [q] at w; exact w.elim

/-! ### items -/
theorem atI_rep {G : Hp} {vs : List V} {ds : List D} {i : Int} {d : D} (r : RepA C G vs ds) (h : atI ds i = some d) : ∃ v, atI vs i = some v ∧ Rep C G v d := by
  unfold atI at h ⊢
  rw [r.length]
  cases q : ixN ds.length i with
  | none => rw [q] at h; cases h
  | some j =>
    rw [q] at h
    exact r.get h
abbrev rIxA (X : Cx) : R2 := fun x y H Q => rIx X.K x y H Q ∨ (∃ a v, x = .ref a ∧ MGet X H a y (some v) ∧ Q v H)
theorem ix_A (hu : X.A.units + 65 < cLine) : IxR X (rIxA X) := IxR.or ix_seq (ix_M hu)
theorem sd_idx {a i : Ex} {e e' : Expr} {ta ti : TE} {pos : Pos} (g : Gd C E X k) (ha : Sd Φ gc C E X a e ta) (hi : Sd Φ gc C E X i e' ti) (hp : plainE e' = true) : ∃ t, Sd Φ gc C E X (.idx a i) (.Subscript e e' pos) t := by
  refine ⟨_, pe_ix (ix_A g.u65) ha.pe hi.pe (ix_plain hp), fun B ow s σ H Q R w => ?_, fun z => by cases z⟩
  unfold ev at w
  have fin : ∀ (x y : D) (s3 : S) (ow3 : Ow) (v u : V) (H3 : Hp), SR C B ow3 s3 σ H3 → RepB C B ow3 H3 v x → Rep C (hid B ow3 H3) u y → wpE C E B ow3 H3 σ (Out.of (idxD x y) s3) Q → rIxA X v u H3 Q := by
    intro x y s3 ow3 v u H3 R3 r1 r2 w3
    cases q : idxD x y with
    | none => rw [q] at w3; exact w3.elim
    | some d =>
      rw [q] at w3
      cases x with
      | tup xs =>
        cases y with
        | int n =>
          obtain ⟨p, vs, rfl, h1, h2, _⟩ := r1.tuple
          obtain ⟨w', h3, h4⟩ := atI_rep h2 q
          cases r2
          exact .inl (.inr (.inl ⟨p, vs, n, w', rfl, rfl, by rw [g.hK]; exact h1, h3, w3 ow3 _ H3 R3 Stp.refl h4⟩))
        | _ => cases q
      | lst xs =>
        cases y with
        | int n =>
          obtain ⟨p, vs, rfl, h1, h2⟩ := r1.list
          obtain ⟨w', h3, h4⟩ := atI_rep h2 q
          cases r2
          exact .inl (.inl ⟨p, vs, n, w', rfl, rfl, .inl (.inl h1), h3, w3 ow3 _ H3 R3 Stp.refl h4⟩)
        | _ => cases q
      | str z =>
        cases y with
        | int n =>
          simp only [idxD] at q
          split at q
          · rename_i hl
            rw [LIM_eq] at hl
            cases q2 : atI z.cps.toList n with
            | none => rw [q2] at q; cases q
            | some c =>
              rw [q2] at q
              cases q
              cases r2
              exact .inl (.inr (.inr ⟨z, n, c, r1.str, rfl, hl, q2, w3 ow3 _ H3 R3 Stp.refl (.str _)⟩))
          · cases q
        | _ => cases q
      | dct n kvs =>
        have q' : (if keyOf n y then look kvs y else none) = some d := by
          cases y <;> exact q
        split at q'
        · rename_i hk
          obtain ⟨p, rfl, dv⟩ := r1.dict
          have := mget_of g.hP g.hw g.hK dv (.inl r2) hk
          rw [q'] at this
          obtain ⟨w', h1, h2⟩ := this
          exact .inr ⟨p, w', rfl, h1, w3 ow3 _ H3 R3 Stp.refl h2⟩
        · cases q'
      | _ => cases q
  show ta σ H fun v H1 => ti σ H1 fun u H2 => rIxA X v u H2 Q
  cases hv : a.isV with
  | true =>
    rw [ha.vr hv]
    rw [hv, if_pos rfl] at w
    cases q : peek a.vix s with
    | ok d s1 =>
      rw [q] at w
      obtain ⟨rfl, v, h1, h2⟩ := R.peek q
      refine ⟨v, h1, .inl (bindE hi.ok R w fun y s2 ow2 u H2 R2 st r2 h3 => ?_)⟩
      obtain ⟨x', r1, h4⟩ := reread_ok ha (fun _ => h1) (fun z => by rw [hv] at z; cases z) R2 st h3
      exact fin x' y s2 ow2 v u H2 R2 r1 r2 h4
    | exc c τ => unfold Mn.peek Out.of at q; split at q <;> cases q
    | bad => rw [q] at w; exact w.elim
  | false =>
    rw [hv, if_neg (by decide)] at w
    refine bindE ha.ok R w fun x s1 ow1 v H1 R1 st1 r1 h1 => ?_
    refine bindE hi.ok R1 h1 fun y s2 ow2 u H2 R2 st r2 h3 => ?_
    obtain ⟨x', r1', h4⟩ := reread_ok ha (fun z => by rw [hv] at z; cases z) (fun _ => r1) R2 st h3
    exact fin x' y s2 ow2 v u H2 R2 r1' r2 h4
end
end Mn

set_option Elab.async false
set_option linter.all false
set_option maxRecDepth 100000
set_option maxHeartbeats 1000000
namespace Mn
open PySem L2
section
variable {Φ : Nat → Fn} {gc : Nat → D} {C : Cf} {E : XK} {X : Cx} {k : Nat}
/-! ### built-ins of one argument -/
abbrev R1 := List V → Hp → VK → Prop
def CallD (C : Cf) (r : R1) (f : D → Option D) : Prop := ∀ (B : Addr → Bool) (ow : Ow) (s : S) (σ : St) (H : Hp) (E : XK) (Q : VK) (v : V) (x : D), SR C B ow s σ H → RepB C B ow H v x → wpE C E B ow H σ (Out.of (f x) s) Q → r [v] H Q
theorem ok_prm {p : P1} {a : Ex} {e : Expr} {ta : TE} {r : R1} (hd : CallD C r (prim1 p)) (ha : Sd Φ gc C E X a e ta) : Ok C E (tCB r (tCons ta tNil)) (ev Φ gc (.prm p a)) := by
  intro B ow s σ H Q R w
  unfold ev at w
  show ta σ H fun v H1 => r [v] H1 Q
  exact bindB ha R w fun x s1 ow1 v H1 R1 st r1 w1 => hd B ow1 s1 σ H1 E Q v x R1 r1 w1
theorem CallR.or {f : Value} {r r' : R1} (h : CallR X f r) (h' : CallR X f r') : CallR X f (fun x H Q => r x H Q ∨ r' x H Q) := fun pins s σ H xs us Q I rx q => by
  rcases q with q | q
  · exact h pins s σ H xs us Q I rx q
  · exact h' pins s σ H xs us Q I rx q
theorem cd_len : CallD C (fun xs H Q => ∃ x n, xs = [x] ∧ LenV C.K x H n ∧ Q (.int n) H) (prim1 .len) := by
  intro B ow s σ H E Q v x R r w
  cases x with
  | lst xs =>
    obtain ⟨a, vs, rfl, h1, h2⟩ := r.list
    exact ⟨_, vs.length, rfl, .inl ⟨vs, .inl (.inl h1), rfl⟩, wpE.give w (by rw [h2.length]; rfl) R (.int _)⟩
  | tup xs =>
    obtain ⟨a, vs, rfl, h1, h2, _⟩ := r.tuple
    exact ⟨_, vs.length, rfl, .inr ⟨vs, h1, rfl⟩, wpE.give w (by rw [h2.length]; rfl) R (.int _)⟩
  | str x =>
    simp only [prim1] at w
    split at w
    · rename_i h
      rw [LIM_eq] at h
      rw [r.str]
      exact ⟨_, x.length, rfl, ⟨h, rfl⟩, wpE.give w rfl R (.int _)⟩
    · exact w.elim
  | _ => exact w.elim
theorem cd_tuple : CallD C (fun xs H Q => ∃ p ys, xs = [.ref p] ∧ ((SqL C.K H p ys ∧ ∀ l, H l = none → Q (.ref l) (upd H l (.tup ys))) ∨ (SqT C.K H p ys ∧ Q (.ref p) H))) (prim1 .tuple) := by
  intro B ow s σ H E Q v x R r w
  cases x with
  | lst xs =>
    obtain ⟨a, vs, rfl, h1, h2⟩ := r.list
    exact ⟨a, vs, rfl, .inl ⟨.inl (.inl h1), fun l hl => wpE.giveNew w R hl (Rep.tupNew R hl h2 r.lenL)⟩⟩
  | tup xs =>
    obtain ⟨a, vs, rfl, h1, h2, h3⟩ := r.tuple
    exact ⟨a, vs, rfl, .inr ⟨h1, wpE.give w rfl R h3⟩⟩
  | _ => exact w.elim
theorem bools_rep {G : Hp} : ∀ {ds : List D} {vs : List V} {bs : List Bool}, RepA C G vs ds → bools ds = some bs → vs = bs.map V.bl
  | [], _, _, r, h => by cases r; cases h; rfl
  | d :: ds, _, bs, r, h => by
    cases r with
    | cons r1 r2 =>
      cases d with
      | bl b =>
        simp only [bools] at h
        cases q : bools ds with
        | none => rw [q] at h; cases h
        | some cs =>
          rw [q] at h
          cases h
          cases r1
          rw [bools_rep r2 q]
          rfl
      | _ => cases h
theorem ints_rep {G : Hp} : ∀ {ds : List D} {vs : List V} {bs : List Int}, RepA C G vs ds → intsD ds = some bs → vs = bs.map V.int
  | [], _, _, r, h => by cases r; cases h; rfl
  | d :: ds, _, bs, r, h => by
    cases r with
    | cons r1 r2 =>
      cases d with
      | int b =>
        simp only [intsD] at h
        cases q : intsD ds with
        | none => rw [q] at h; cases h
        | some cs =>
          rw [q] at h
          cases h
          cases r1
          rw [ints_rep r2 q]
          rfl
      | _ => cases h
theorem cd_all : CallD C (rAll C.K) (prim1 .all) := by
  intro B ow s σ H E Q v x R r w
  cases x with
  | lst xs =>
    obtain ⟨a, vs, rfl, h1, h2⟩ := r.list
    simp only [prim1] at w
    cases q : bools xs with
    | none => rw [q] at w; exact w.elim
    | some bs =>
      rw [q] at w
      refine ⟨a, bs, rfl, .inl (.inl ?_), wpE.give w rfl R (.bl _)⟩
      rw [← bools_rep h2 q]; exact h1
  | _ => exact w.elim
theorem cd_any : CallD C (rAny C.K) (prim1 .any) := by
  intro B ow s σ H E Q v x R r w
  cases x with
  | lst xs =>
    obtain ⟨a, vs, rfl, h1, h2⟩ := r.list
    simp only [prim1] at w
    cases q : bools xs with
    | none => rw [q] at w; exact w.elim
    | some bs =>
      rw [q] at w
      refine ⟨a, bs, rfl, .inl (.inl ?_), wpE.give w rfl R (.bl _)⟩
      rw [← bools_rep h2 q]; exact h1
  | _ => exact w.elim
theorem cd_sum : CallD C (rSum C.K) (prim1 .sum) := by
  intro B ow s σ H E Q v x R r w
  cases x with
  | lst xs =>
    obtain ⟨a, vs, rfl, h1, h2⟩ := r.list
    simp only [prim1] at w
    cases q : intsD xs with
    | none => rw [q] at w; exact w.elim
    | some bs =>
      rw [q] at w
      refine ⟨a, bs, rfl, .inl (.inl ?_), wpE.give w rfl R (.int _)⟩
      rw [← ints_rep h2 q]; exact h1
  | _ => exact w.elim
/-! ### isinstance -/
def tyS : Ty → String
  | .int_ => "int"
  | .bool_ => "bool"
  | .tuple_ => "tuple"
  | .str_ => "str"
  | .list_ => "list"
theorem tyX_of {B : Addr → Bool} {ow : Ow} {H : Hp} {v : V} {d : D} {T : String} (h : (match d with | .non => "NoneType" | .bl _ => "bool" | .int _ => "int" | .str _ => "str" | .tup _ => "tuple" | .lst _ => "list" | _ => "") = T) (hT : T ≠ "") (r : RepB C B ow H v d) : TyX C.K H v (.type T) := by
  cases d with
  | non => subst h; rw [r.non]; exact .base .non
  | bl b => subst h; rw [r.bl]; exact .base (.bl b)
  | int i => subst h; rw [r.int]; exact .base (.int i)
  | str i => subst h; rw [r.str]; exact .base (.str i)
  | lst ds =>
    subst h
    obtain ⟨a, vs, rfl, h1, _⟩ := r.list
    exact .base (.lst h1)
  | tup ds =>
    subst h
    obtain ⟨a, vs, rfl, h1, _⟩ := r.tuple
    rcases h1 with (h1 | ⟨o, h1⟩) | ⟨o, its, n, h1, h2, _⟩
    · exact .base (.tup h1)
    · exact .fTuple h1
    · exact .kTuple h1 h2
  | dct _ _ => exact absurd h.symm hT
  | tok _ => exact absurd h.symm hT
def isTyB (t : Ty) (T : String) : Bool := match t, T with
  | .int_, "int" => true
  | .int_, "bool" => true
  | .bool_, "bool" => true
  | .tuple_, "tuple" => true
  | .str_, "str" => true
  | .list_, "list" => true
  | _, _ => false
def dTy : D → String
  | .non => "NoneType"
  | .bl _ => "bool"
  | .int _ => "int"
  | .str _ => "str"
  | .tup _ => "tuple"
  | .lst _ => "list"
  | _ => ""
theorem kit_all {K : PySem.W.Frag} (t : Ty) : PySem.W.kitOne K (.type "NoneType") (.type (tyS t)) = some (isTyB t "NoneType") ∧ PySem.W.kitOne K (.type "bool") (.type (tyS t)) = some (isTyB t "bool") ∧ PySem.W.kitOne K (.type "int") (.type (tyS t)) = some (isTyB t "int") ∧
    PySem.W.kitOne K (.type "str") (.type (tyS t)) = some (isTyB t "str") ∧ PySem.W.kitOne K (.type "tuple") (.type (tyS t)) = some (isTyB t "tuple") ∧ PySem.W.kitOne K (.type "list") (.type (tyS t)) = some (isTyB t "list") := by
  cases t <;> refine ⟨?_, ?_, ?_, ?_, ?_, ?_⟩ <;> exact kit_ty (by decide +kernel)
theorem isi_data {B : Addr → Bool} {ow : Ow} {s : S} {σ : St} {H : Hp} {Q : VK} {v : V} {x : D} {t : Ty} (R : SR C B ow s σ H) (r : RepB C B ow H v x) (w : wpE C E B ow H σ (Out.of ((isTy t x).map .bl) s) Q) : rIsi C.K [v, .ty (tyS t)] H Q := by
  have K6 := kit_all (K := C.K) t
  cases x with
  | non => exact ⟨v, _, _, _, _, rfl, .ty _, tyX_of (T := "NoneType") rfl (by decide) r, K6.1, wpE.give w (by cases t <;> rfl) R (.bl _)⟩
  | bl b => exact ⟨v, _, _, _, _, rfl, .ty _, tyX_of (T := "bool") rfl (by decide) r, K6.2.1, wpE.give w (by cases t <;> rfl) R (.bl _)⟩
  | int b => exact ⟨v, _, _, _, _, rfl, .ty _, tyX_of (T := "int") rfl (by decide) r, K6.2.2.1, wpE.give w (by cases t <;> rfl) R (.bl _)⟩
  | str b => exact ⟨v, _, _, _, _, rfl, .ty _, tyX_of (T := "str") rfl (by decide) r, K6.2.2.2.1, wpE.give w (by cases t <;> rfl) R (.bl _)⟩
  | tup b => exact ⟨v, _, _, _, _, rfl, .ty _, tyX_of (T := "tuple") rfl (by decide) r, K6.2.2.2.2.1, wpE.give w (by cases t <;> rfl) R (.bl _)⟩
  | lst b => exact ⟨v, _, _, _, _, rfl, .ty _, tyX_of (T := "list") rfl (by decide) r, K6.2.2.2.2.2, wpE.give w (by cases t <;> rfl) R (.bl _)⟩
  | dct _ _ => exact w.elim
  | tok _ => exact w.elim
def glB (sc : Scope) (x : Str) : Bool := sc.names.lookup x == some .globalImplicit
theorem gl_of {x : Str} (h : glB X.env.scope x = true) : Gl X x := by
  unfold glB at h
  exact (beq_iff_eq.mp h)
theorem boot_isi : bootBuiltins ("isinstance" : Str) = some (.builtin "isinstance") := by decide +kernel
theorem boot_ty (t : Ty) : bootBuiltins (Str.ofString (tyS t)) = some (.type (tyS t)) := by cases t <;> decide +kernel
theorem tyS_mem (t : Ty) : Str.ofString (tyS t) ∈ bnames := by cases t <;> decide +kernel
theorem sd_isi {t : Ty} {a : Ex} {e : Expr} {ta : TE} {p1 p2 pos : Pos} (g : Gd C E X k) (ha : Sd Φ gc C E X a e ta) (hp : plainE e = true) (h1 : glB X.env.scope "isinstance" = true) (h2 : glB X.env.scope (Str.ofString (tyS t)) = true) :
    ∃ u, Sd Φ gc C E X (.isi t a) (.Call (.Name "isinstance" p1) [e, .Name (Str.ofString (tyS t)) p2] [] pos) u := by
  have pt : PE X (.Name (Str.ofString (tyS t)) p2) (tC (.ty (tyS t))) := pe_bltn (gl_of h2) (g.blt _ (tyS_mem t)) (boot_ty t) rfl (by cases t <;> decide +kernel) (by cases t <;> decide +kernel)
  refine ⟨_, pe_callB (r := rIsi X.K) call_isi (gl_of h1) (g.blt _ (by decide +kernel)) boot_isi (pa_cons ha.pe (pa_cons pt pa_nil (starEach_plain rfl)) (starEach_plain hp)) (by decide +kernel) (by decide +kernel) (starEach_plain hp) (noStar (by rfl)), fun B ow s σ H Q R w => ?_, fun z => by cases z⟩
  unfold ev at w
  show ta σ H fun v H1 => rIsi X.K [v, .ty (tyS t)] H1 Q
  refine bindB ha R w fun x s1 ow1 v H1 R1 st r1 w1 => ?_
  rw [g.hK]
  exact isi_data R1 r1 w1
end
end Mn

set_option Elab.async false
set_option linter.all false
set_option maxRecDepth 100000
set_option maxHeartbeats 1000000
namespace Mn
open PySem L2
/-! ### sorting -/
mutual
theorem D.eqb_self : ∀ (n : Nat) (a : D), D.okb n a = true → D.eqb a a = true
  | 0, _, h => by simp [D.okb] at h
  | n + 1, a, h => by
    cases a <;> first
      | (simp [D.okb] at h; done)
      | (simp [D.eqb]; done)
      | skip
    · rename_i xs
      simp only [D.eqb]
      exact D.eqbs_self n xs (by simpa [D.okb] using h)
    · rename_i xs
      simp only [D.eqb]
      exact D.eqbs_self n xs (by simpa [D.okb] using h)
theorem D.eqbs_self : ∀ (n : Nat) (a : List D), (∀ d ∈ a, D.okb n d = true) → D.eqbs a a = true
  | _, [], _ => by simp [D.eqbs]
  | n, x :: xs, h => by
    simp only [D.eqbs, Bool.and_eq_true]
    exact ⟨D.eqb_self n x (h x (by simp)), D.eqbs_self n xs fun d hd => h d (by simp [hd])⟩
end
mutual
theorem D.alk_eqb : ∀ (a b : D), D.alk a b = true → D.eqb a b = true → a = b
  | a, b, l, e => by
    cases a <;> cases b <;> first
      | (simp [D.alk] at l; done)
      | (simp [D.eqb] at e; simp [e]; done)
      | skip
    rename_i xs ys
    rw [D.alks_eqb xs ys (by simpa [D.alk] using l) (by simpa [D.eqb] using e)]
theorem D.alks_eqb : ∀ (a b : List D), D.alks a b = true → D.eqbs a b = true → a = b
  | [], [], _, _ => rfl
  | [], _ :: _, _, e => by simp [D.eqbs] at e
  | _ :: _, [], _, e => by simp [D.eqbs] at e
  | x :: xs, y :: ys, l, e => by
    simp only [D.alks, Bool.and_eq_true] at l
    simp only [D.eqbs, Bool.and_eq_true] at e
    rw [D.alk_eqb x y l.1 e.1, D.alks_eqb xs ys l.2 e.2]
end
mutual
theorem D.alk_tot : ∀ (n : Nat) (a b : D), D.okb n a = true → D.okb n b = true → D.alk a b = true → D.alk b a = true → D.ltb n a b = false → D.ltb n b a = false → a = b
  | 0, _, _, h, _, _, _, _, _ => by simp [D.okb] at h
  | n + 1, a, b, h, k, l, l', p, q => by
    cases a <;> cases b <;> first
      | (simp [D.alk] at l; done)
      | skip
    · rename_i x y
      cases x <;> cases y <;> simp_all [D.ltb]
    · rename_i x y
      simp only [D.ltb, decide_eq_false_iff_not] at p q
      have : x = y := by omega
      rw [this]
    · rename_i xs ys
      simp only [D.ltb] at p q
      rw [D.alks_tot n xs ys (by simpa [D.okb] using h) (by simpa [D.okb] using k) (by simpa [D.alk] using l) (by simpa [D.alk] using l') p q]
theorem D.alks_tot : ∀ (n : Nat) (a b : List D), (∀ d ∈ a, D.okb n d = true) → (∀ d ∈ b, D.okb n d = true) → D.alks a b = true → D.alks b a = true → D.ltb.lts n a b = false → D.ltb.lts n b a = false → a = b
  | _, [], [], _, _, _, _, _, _ => rfl
  | _, [], y :: ys, _, _, _, _, p, _ => by simp [D.ltb.lts] at p
  | _, x :: xs, [], _, _, _, _, _, q => by simp [D.ltb.lts] at q
  | n, x :: xs, y :: ys, h, k, l, l', p, q => by
    simp only [D.alks, Bool.and_eq_true] at l l'
    simp only [D.ltb.lts] at p q
    cases e : D.eqb x y with
    | true =>
      have exy := D.alk_eqb x y l.1 e
      subst exy
      rw [e, if_pos rfl] at p q
      rw [D.alks_tot n xs ys (fun d hd => h d (by simp [hd])) (fun d hd => k d (by simp [hd])) l.2 l'.2 p q]
    | false =>
      cases e' : D.eqb y x with
      | true =>
        have exy := D.alk_eqb y x l'.1 e'
        subst exy
        rw [e] at e'; cases e'
      | false =>
        rw [e, if_neg (by decide)] at p
        rw [e', if_neg (by decide)] at q
        have exy := D.alk_tot n x y (h x (by simp)) (k y (by simp)) l.1 l'.1 p q
        subst exy
        rw [D.eqb_self n x (h x (by simp))] at e; cases e
end
/-- the order that sorts -/
def D.le (a b : D) : Bool := !D.ltb DEP b a
structure SB (xs : List D) : Prop where
  ok : ∀ x ∈ xs, D.okb DEP x = true
  al : ∀ x ∈ xs, ∀ y ∈ xs, D.alk x y = true
theorem sb_of {xs : List D} (h : sortable xs = true) : SB xs := by
  simp only [sortable, Bool.and_eq_true, List.all_eq_true] at h
  exact ⟨h.1.1, h.1.2⟩
theorem SB.lt {xs : List D} (h : SB xs) {x y : D} (hx : x ∈ xs) (hy : y ∈ xs) : D.ltb DEP x y = PySem.W.dataLt x.py y.py := (D.lt_py DEP x y (h.ok x hx) (h.ok y hy) (h.al x hx y hy)).symm
theorem SB.anti {xs : List D} (h : SB xs) {x y : D} (hx : x ∈ xs) (hy : y ∈ xs) (p : D.le x y = true) (q : D.le y x = true) : x = y := by
  unfold D.le at p q
  exact D.alk_tot DEP x y (h.ok x hx) (h.ok y hy) (h.al x hx y hy) (h.al y hy x hx) (by simpa using q) (by simpa using p)
theorem SB.trans {xs : List D} (h : SB xs) {x y z : D} (hx : x ∈ xs) (hy : y ∈ xs) (hz : z ∈ xs) (p : D.le x y = true) (q : D.le y z = true) : D.le x z = true := by
  unfold D.le at p q ⊢
  rw [h.lt hy hx] at p
  rw [h.lt hz hy] at q
  rw [h.lt hz hx]
  cases e : PySem.W.dataLt z.py x.py with
  | false => rfl
  | true =>
    rcases PyProof.Rows.lex_negTrans _ (PySem.W.keyToks y.py) _ e with r | r
    · rw [show PySem.W.dataLt z.py y.py = true from r] at q; cases q
    · rw [show PySem.W.dataLt y.py x.py = true from r] at p; cases p
theorem SB.total {xs : List D} (h : SB xs) {x y : D} (hx : x ∈ xs) (hy : y ∈ xs) : D.le x y = true ∨ D.le y x = true := by
  unfold D.le
  rw [h.lt hx hy, h.lt hy hx]
  cases e : PySem.W.dataLt x.py y.py with
  | false => exact .inr rfl
  | true =>
    cases e' : PySem.W.dataLt y.py x.py with
    | false => exact .inl rfl
    | true =>
      have := PyProof.Rows.lex_trans _ _ _ e e'
      rw [PyProof.Rows.lex_irrefl] at this
      cases this
theorem uniq {xs ys zs : List D} (h : SB zs) (hs : ∀ x ∈ xs, x ∈ zs) (p : xs.Perm ys) (sx : xs.Pairwise fun a b => D.le a b = true) (sy : ys.Pairwise fun a b => D.le a b = true) : xs = ys := by
  induction xs generalizing ys with
  | nil => rw [List.Perm.nil_eq p]
  | cons x xs ih =>
    cases ys with
    | nil => exact absurd p.length_eq (by simp)
    | cons y ys =>
      have hx : x ∈ y :: ys := p.subset (by simp)
      have hy : y ∈ x :: xs := p.symm.subset (by simp)
      have e : x = y := by
        rcases List.mem_cons.mp hx with e | e
        · exact e
        · rcases List.mem_cons.mp hy with e' | e'
          · exact e'.symm
          · exact h.anti (hs x (by simp)) (hs y (by simp [e'])) ((List.pairwise_cons.mp sx).1 y e') ((List.pairwise_cons.mp sy).1 x e)
      subst e
      rw [ih (fun z hz => hs z (by simp [hz])) (List.Perm.cons_inv p) (List.pairwise_cons.mp sx).2 (List.pairwise_cons.mp sy).2]
theorem insD_perm (x : D) : ∀ ys : List D, (insD x ys).Perm (x :: ys)
  | [] => List.Perm.refl _
  | y :: ys => by
    unfold insD
    split
    · exact ((insD_perm x ys).cons y).trans (List.Perm.swap x y ys)
    · exact List.Perm.refl _
theorem sortL_perm : ∀ xs : List D, (sortL xs).Perm xs
  | [] => List.Perm.refl _
  | x :: xs => (insD_perm x (sortL xs)).trans ((sortL_perm xs).cons x)
theorem insD_sorted {zs : List D} (h : SB zs) {x : D} (hx : x ∈ zs) : ∀ {ys : List D}, (∀ y ∈ ys, y ∈ zs) → ys.Pairwise (fun a b => D.le a b = true) → (insD x ys).Pairwise fun a b => D.le a b = true
  | [], _, _ => by simp [insD]
  | y :: ys, hs, s => by
    have sy := List.pairwise_cons.mp s
    unfold insD
    split
    · rename_i e
      refine List.pairwise_cons.mpr ⟨fun z hz => ?_, insD_sorted h hx (fun z hz => hs z (by simp [hz])) sy.2⟩
      rcases List.mem_cons.mp ((insD_perm x ys).subset hz) with q | q
      · subst q
        rcases h.total (hs y (by simp)) hx with t | t
        · exact t
        · unfold D.le at t; rw [e] at t; cases t
      · exact sy.1 z q
    · rename_i e
      refine List.pairwise_cons.mpr ⟨fun z hz => ?_, s⟩
      have exy : D.le x y = true := by unfold D.le; simpa using e
      rcases List.mem_cons.mp hz with q | q
      · subst q; exact exy
      · exact h.trans hx (hs y (by simp)) (hs z (by simp [q])) exy (sy.1 z q)
theorem sortL_sorted {zs : List D} (h : SB zs) : ∀ {xs : List D}, (∀ x ∈ xs, x ∈ zs) → (sortL xs).Pairwise fun a b => D.le a b = true
  | [], _ => by simp [sortL]
  | x :: xs, hs => insD_sorted h (hs x (by simp)) (fun y hy => hs y (by simp [(sortL_perm xs).subset hy])) (sortL_sorted h fun y hy => hs y (by simp [hy]))
/-- what the model's sorting gives of pairs (value, datum) -/
theorem merge_is {ps : List (V × D)} (h : SB (ps.map (·.2))) : ((ps.mergeSort (PySem.W.dataLe false fun p : V × D => p.2.py)).map (·.2)) = sortL (ps.map (·.2)) := by
  have pm := List.mergeSort_perm ps (PySem.W.dataLe false fun p : V × D => p.2.py)
  have mem : ∀ z ∈ (ps.mergeSort (PySem.W.dataLe false fun p : V × D => p.2.py)).map (·.2), z ∈ ps.map (·.2) := fun z hz => (pm.map _).subset hz
  refine uniq h mem ((pm.map _).trans (sortL_perm _).symm) ?_ (sortL_sorted h fun _ hx => hx)
  have st := List.pairwise_mergeSort (le := PySem.W.dataLe false fun p : V × D => p.2.py) (fun a b c p q => ?_) (fun a b => ?_) ps
  · rw [List.pairwise_map]
    refine List.Pairwise.imp_of_mem (fun {a b} ha hb e => ?_) st
    have ma := mem a.2 (List.mem_map.mpr ⟨a, ha, rfl⟩)
    have mb := mem b.2 (List.mem_map.mpr ⟨b, hb, rfl⟩)
    unfold D.le
    rw [h.lt mb ma]
    exact e
  · rw [PySem.W.dataLe_eq] at p q ⊢
    simp only [cond_false, Bool.not_eq_true'] at p q ⊢
    cases e : PySem.W.dataLt c.2.py a.2.py with
    | false => rfl
    | true =>
      rcases PyProof.Rows.lex_negTrans _ (PySem.W.keyToks b.2.py) _ e with r | r
      · rw [show PySem.W.dataLt c.2.py b.2.py = true from r] at q; cases q
      · rw [show PySem.W.dataLt b.2.py a.2.py = true from r] at p; cases p
  · rw [PySem.W.dataLe_eq]
    simp only [cond_false, Bool.or_eq_true, Bool.not_eq_true']
    cases e : PySem.W.dataLt b.2.py a.2.py with
    | false => exact .inl rfl
    | true =>
      cases e' : PySem.W.dataLt a.2.py b.2.py with
      | false => exact .inr rfl
      | true =>
        have := PyProof.Rows.lex_trans _ _ _ e e'
        rw [PyProof.Rows.lex_irrefl] at this
        cases this
end Mn

set_option Elab.async false
set_option linter.all false
set_option maxRecDepth 100000
set_option maxHeartbeats 1000000
namespace Mn
open PySem L2
section
variable {X : Cx} {pins : List (Addr × Obj)} {σ : St} {H : Hp} {s : Shared}
theorem each_vals : ∀ {ps : List (V × D)} {us : List Value}, Vals (ps.map (·.1)) us → PySem.W.EachIs (fun u (p : V × D) => RelV p.1 u) us ps
  | [], _, r => by cases r; exact .nil
  | p :: ps, _, r => by
    cases r with
    | cons r1 r2 => exact .cons r1 (each_vals r2)
theorem vals_each : ∀ {ps : List (V × D)} {us : List Value}, PySem.W.EachIs (fun u (p : V × D) => RelV p.1 u) us ps → Vals (ps.map (·.1)) us
  | _, _, .nil => .nil
  | _, _, .cons r t => .cons r (vals_each t)
theorem each_reads (I : Inv X pins σ H s) : ∀ {ps : List (V × D)} {us : List Value}, Vals (ps.map (·.1)) us → (∀ p ∈ ps, Dp X.K H p.1 p.2.py) → PySem.W.EachIs (fun u (p : V × D) => ∃ as, Reads s.heap u p.2.py as) us ps
  | [], _, r, _ => by cases r; exact .nil
  | p :: ps, _, r, h => by
    cases r with
    | cons r1 r2 => exact .cons (Dp.reads I p.2.py p.1 _ (h p (by simp)) r1) (each_reads I r2 fun q hq => h q (by simp [hq]))
theorem allAlike_of {ps : List (V × D)} (h : SB (ps.map (·.2))) : PySem.W.AllAlike (ps.map fun p => p.2.py) := by
  intro d hd d' hd'
  obtain ⟨p, hp, rfl⟩ := List.mem_map.mp hd
  obtain ⟨q, hq, rfl⟩ := List.mem_map.mp hd'
  exact D.alk_py _ _ (h.al _ (List.mem_map.mpr ⟨p, hp, rfl⟩) _ (List.mem_map.mpr ⟨q, hq, rfl⟩))
theorem sortable_py {ps : List (V × D)} (h : sortable (ps.map (·.2)) = true) : PySem.W.Sortable (ps.map fun p => p.2.py) := by
  simp only [sortable, Bool.and_eq_true, Bool.or_eq_true, List.all_eq_true] at h
  rcases h.2 with k | k
  · refine .inl fun d hd => ?_
    obtain ⟨p, hp, rfl⟩ := List.mem_map.mp hd
    have := k _ (List.mem_map.mpr ⟨p, hp, rfl⟩)
    unfold tupNE at this
    split at this
    · rename_i x xs e
      exact ⟨x.py, D.pys xs, by rw [e]; simp [D.py, D.pys]⟩
    · cases this
  · refine .inr fun d hd => ?_
    obtain ⟨p, hp, rfl⟩ := List.mem_map.mp hd
    have := k _ (List.mem_map.mpr ⟨p, hp, rfl⟩)
    unfold isI at this
    split at this
    · rename_i i e
      rw [e]
      exact ⟨by simp [D.py], fun xs => by simp [D.py]⟩
    · cases this
theorem depth_of {ps : List (V × D)} (h : SB (ps.map (·.2))) : ∀ p ∈ ps, p.2.py.depth ≤ 30 := fun p hp => (D.lay_py _ _ (h.ok _ (List.mem_map.mpr ⟨p, hp, rfl⟩))).2
/-- sorted(xs), xs a list of data -/
def rSortD (K : PySem.W.Frag) : List V → Hp → VK → Prop := fun xs H Q => ∃ (a : Addr) (ps : List (V × D)), xs = [.ref a] ∧ SqL K H a (ps.map (·.1)) ∧ (∀ p ∈ ps, Dp K H p.1 p.2.py) ∧ sortable (ps.map (·.2)) = true ∧
  ∀ (p : Addr) (qs : List (V × D)), H p = none → qs.Perm ps → qs.map (·.2) = sortL (ps.map (·.2)) → Q (.ref p) (upd H p (.lst (qs.map (·.1))))
theorem cr_sortD (hu : X.A.units + 64 < cLine) : CallR X (.builtin "sorted") (rSortD X.K) := by
  intro pins s σ H xs us Q I r q
  obtain ⟨a, ps, ex, hl, hd, hs, q⟩ := q
  subst ex
  obtain ⟨u, eu, rx⟩ := vals1 r
  subst eu
  cases rx
  obtain ⟨its, rv, pl, hn⟩ := I.list hl
  have sb := sb_of hs
  have hN : ps.length ≤ sizeLine := by simpa using hn
  refine PySem.W.sorted_data (vs := its) (bs := ps) (enc := fun p => p.2.py) (R := fun u p => RelV p.1 u) ?_ (each_vals rv) (each_reads I rv hd) (allAlike_of sb) (sortable_py hs) hN (fun p hp => by have := depth_of sb p hp; omega) fun out hlen ho => ?_
  · obtain ⟨o, n, h1, h2, h3, h4⟩ := pl
    exact ⟨o, h1, h2, n, h4⟩
  · have hv := vals_each ho
    obtain ⟨e', he'⟩ := PyProof.Rows.sortedAll_at s.heap its out.toArray
    have pm := List.mergeSort_perm ps (PySem.W.dataLe false fun p : V × D => p.2.py)
    refine ⟨.ref (s.heap.objs.size + 1), _, I.laid (a := s.heap.objs.size + 1) (o := .lst ((ps.mergeSort (PySem.W.dataLe false fun p : V × D => p.2.py)).map (·.1))) (t' := s.toks) (fun b u e => PyProof.Rows.sortedAll_old e) (Nat.le_succ _) ?_, rfl, q _ _ (I.hok.fresh (Nat.le_succ _)) pm (merge_is sb)⟩
    exact ⟨by rw [List.length_map, pm.length_eq]; exact hN, out, e', hv, he'⟩
/-! ### the keys of a dict -/
def KeysAt (X : Cx) (H : Hp) (a : Addr) (vs : List V) : Prop := (∃ kvs, Rd H a (.dK kvs) ∧ vs = kvs.map fun p => kV p.1) ∨ ∃ xs, Rd H a (ND X.prog X.w a xs) ∧ vs = xs.map fun x => .ref x.2.1
theorem vals_keys : ∀ {vs : List (Key × Value)} {es : List DictEntry}, es.length = vs.length → (∀ (i : Nat) (e : DictEntry) k v, es[i]? = some e → vs[i]? = some (k, v) → keyIs k e.key = true) → Vals (vs.map fun p => kV p.1) (es.map (·.key))
  | [], [], _, _ => .nil
  | (k, v) :: vs, e :: es, hl, h => by
    refine .cons ?_ (vals_keys (by simpa using hl) fun i e' k' v' h1 h2 => h (i + 1) e' k' v' (by simpa using h1) (by simpa using h2))
    rcases keyIs_shape (h 0 e k v rfl rfl) with ⟨i, t, ek, ev⟩ | ⟨z, t, ek, ev⟩
    · subst ek; exact ⟨t, ev⟩
    · subst ek; exact ⟨t, ev⟩
  | [], _ :: _, hl, _ => by simp at hl
  | _ :: _, [], hl, _ => by simp at hl
theorem nvals_keys {P : Program} {w : World} : ∀ {xs : List (NestedKey × Addr × V)} {ys : List (NestedKey × Addr × Value)}, Paired NPair xs ys → Vals (xs.map fun x => .ref x.2.1) ((ys.map (entryOfKey (nestedKind P w))).map (·.key))
  | _, _, .nil => .nil
  | x :: xs, y :: ys, .cons q t => .cons (show Value.ref y.2.1 = Value.ref x.2.1 by rw [q.2.1]) (nvals_keys t)
theorem keysAt_raw {a : Addr} {vs : List V} (I : Inv X pins σ H s) (h : KeysAt X H a vs) : ∃ es ep, s.heap.DictRaw a es ep ∧ (a == sysModules) = false ∧ es.size ≤ sizeLine ∧ Vals vs (es.toList.map (·.key)) := by
  rcases h with ⟨kvs, h, rfl⟩ | ⟨xs, h, rfl⟩
  · obtain ⟨z, hd, us, rel, dd⟩ := dk_rd I.hok h
    obtain ⟨es, ep, hr, hs, he⟩ := dd.raw
    refine ⟨es, ep, hr, hd, by rw [hs, ← rel.length]; exact z, ?_⟩
    have e : (kvs.map fun p => kV p.1) = us.map fun p => kV p.1 := by
      have := rel.keys
      calc (kvs.map fun p => kV p.1) = (kvs.map (·.1)).map kV := by rw [List.map_map]; rfl
        _ = (us.map (·.1)).map kV := by rw [this]
        _ = us.map fun p => kV p.1 := by rw [List.map_map]; rfl
    rw [e]
    refine vals_keys (by simpa using hs) fun i en k v h1 h2 => ?_
    have hi : i < es.size := by
      have := (List.getElem?_eq_some_iff.mp h1).1
      simpa using this
    have e1 : en = es[i] := by
      rw [Array.getElem?_toList, Array.getElem?_eq_getElem hi] at h1
      exact (Option.some.inj h1).symm
    rw [e1]
    exact (he i hi k v h2).1
  · obtain ⟨⟨h1, h2, h3, ys, h4, o, es, ep, h5, h6, h7, h8⟩, _⟩ := (h.ok I.hok : ObjOk X.prog X.w H s.heap a (ND X.prog X.w a xs))
    refine ⟨es, ep, ⟨o, h5, h6, h7⟩, h1, ?_, ?_⟩
    · have : es.size = ys.length := by
        have := congrArg List.length h8
        simpa using this
      rw [this, ← Paired.length h4]; exact h2
    · rw [h8]
      exact nvals_keys h4
theorem items_keys {es : Array DictEntry} {acc : Array Value} (h : ItemsOf (fun i v => ∃ hi : i < es.size, v = es[i].key) acc es.size) : acc.toList = es.toList.map (·.key) := by
  apply List.ext_getElem?
  intro i
  rw [List.getElem?_map]
  by_cases hi : i < es.size
  · have h1 : i < acc.size := by rw [h.1]; exact hi
    have e1 : acc[i]? = some acc[i] := Array.getElem?_eq_getElem h1
    obtain ⟨_, e⟩ := h.2 i _ e1
    rw [Array.getElem?_toList, Array.getElem?_toList, e1, Array.getElem?_eq_getElem hi, e]
    rfl
  · have h1 : ¬ i < acc.size := by rw [h.1]; exact hi
    rw [List.getElem?_eq_none (by simpa using h1), List.getElem?_eq_none (by simpa using hi)]
    rfl
/-- sorted(d) -/
def rSortKeys (X : Cx) : List V → Hp → VK → Prop := fun xs H Q => ∃ (a : Addr) (ps : List (V × D)), xs = [.ref a] ∧ KeysAt X H a (ps.map (·.1)) ∧ (∀ p ∈ ps, Dp X.K H p.1 p.2.py) ∧ sortable (ps.map (·.2)) = true ∧
  ∀ (p : Addr) (qs : List (V × D)), H p = none → qs.Perm ps → qs.map (·.2) = sortL (ps.map (·.2)) → Q (.ref p) (upd H p (.lst (qs.map (·.1))))
mutual
theorem reads_there {h : Heap} : ∀ (d : PyData) (u : Value) (as : List Addr), Reads h u d as → ∀ b ∈ as, ∃ o, h.get? b = some o
  | .none, _, _, r, b, hb => by cases r; simp at hb
  | .bool _, _, _, r, b, hb => by cases r; simp at hb
  | .int _, _, _, r, b, hb => by cases r; simp at hb
  | .str _, _, _, r, b, hb => by cases r; simp at hb
  | .list xs, _, _, r, b, hb => by
    cases r with
    | list h1 h2 h3 h4 =>
      rcases List.mem_cons.mp hb with e | e
      · exact ⟨_, e ▸ h1⟩
      · exact readsAll_there xs _ _ h4 b e
  | .tuple xs, _, _, r, b, hb => by
    cases r with
    | tuple h1 h2 h3 h4 => exact readsAll_there xs _ _ h4 b hb
  | .dict kvs, _, _, r, b, hb => by
    cases r with
    | dict h1 h2 h3 h4 h5 =>
      rcases List.mem_cons.mp hb with e | e
      · exact ⟨_, e ▸ h1⟩
      · rcases List.mem_append.mp e with e | e
        · exact readsK_there kvs _ _ h4 b e
        · exact readsV_there kvs _ _ h5 b e
theorem readsAll_there {h : Heap} : ∀ (ds : List PyData) (us : List Value) (as : List Addr), ReadsAll h us ds as → ∀ b ∈ as, ∃ o, h.get? b = some o
  | [], _, _, r, b, hb => by cases r; simp at hb
  | d :: ds, _, _, r, b, hb => by
    cases r with
    | cons h1 h2 =>
      rcases List.mem_append.mp hb with e | e
      · exact reads_there d _ _ h1 b e
      · exact readsAll_there ds _ _ h2 b e
theorem readsK_there {h : Heap} : ∀ (ds : List (PyData × PyData)) (us : List Value) (as : List Addr), ReadsAll h us (ds.map (·.1)) as → ∀ b ∈ as, ∃ o, h.get? b = some o
  | [], _, _, r, b, hb => by
    have r : ReadsAll h _ [] _ := r
    cases r; simp at hb
  | (x, y) :: ds, _, _, r, b, hb => by
    have r : ReadsAll h _ (x :: ds.map (·.1)) _ := r
    cases r with
    | cons h1 h2 =>
      rcases List.mem_append.mp hb with e | e
      · exact reads_there x _ _ h1 b e
      · exact readsK_there ds _ _ h2 b e
theorem readsV_there {h : Heap} : ∀ (ds : List (PyData × PyData)) (us : List Value) (as : List Addr), ReadsAll h us (ds.map (·.2)) as → ∀ b ∈ as, ∃ o, h.get? b = some o
  | [], _, _, r, b, hb => by
    have r : ReadsAll h _ [] _ := r
    cases r; simp at hb
  | (x, y) :: ds, _, _, r, b, hb => by
    have r : ReadsAll h _ (y :: ds.map (·.2)) _ := r
    cases r with
    | cons h1 h2 =>
      rcases List.mem_append.mp hb with e | e
      · exact reads_there y _ _ h1 b e
      · exact readsV_there ds _ _ h2 b e
end
theorem reads_notNew {h h' : Heap} {a : Addr} {d : PyData} {u : Value} {as : List Addr} (r : Reads h u d as) (hk : ∀ b o, h.get? b = some o → h'.get? b = some o) (ha : h.get? a = none) : ∃ bs, Reads h' u d bs ∧ a ∉ bs :=
  ⟨as, PyProof.Rows.Reads.keeps (fun b o e => hk b o e) r, fun z => by
    obtain ⟨o, e⟩ := reads_there d u as r a z
    rw [ha] at e; cases e⟩
theorem cr_sortKeys (hc : X.calm = true) (hu : X.A.units + 64 < cLine) : CallR X (.builtin "sorted") (rSortKeys X) := by
  intro pins s σ H xs us Q I r q
  obtain ⟨a, ps, ex, hk, hd, hs, q⟩ := q
  subst ex
  obtain ⟨u, eu, rx⟩ := vals1 r
  subst eu
  cases rx
  obtain ⟨es, ep, hr, lo, hz, rv⟩ := keysAt_raw I hk
  have sb := sb_of hs
  have hN : ps.length ≤ sizeLine := by
    have := rv.length
    simp at this
    omega
  refine Calls.call_function_entry PyProof.Rows.kind_sorted PyProof.Rows.plain_sorted PyProof.Rows.entry_sorted (PyProof.Rows.args_sorted1 _) ?_
  unfold Builtin.«sorted»
  refine wpAny_bind (m := checkCount "sorted" 1 1 _) (wpAny_pure ?_)
  refine wpAny_bind (PySem.W.kdu_collect (A := X.A.in1) (KdlSrc.rawDict lo) (I.ok.hd hc) hr hz fun h' tk acc hk hacc => ?_)
  have ea := items_keys hacc
  have I1 : Inv X pins σ H { s with heap := h', toks := tk } := I.kept hk
  rw [← ea] at rv
  have hal : acc.toList.length = ps.length := by have := rv.length; simpa using this.symm
  refine wpAny_bind (wpAny_newList ?_ (by rw [hal]; exact hN))
  have hoL : (h'.push (PyProof.Rows.seqObj "list" acc.toList.toArray 0)).get? h'.objs.size = some (PyProof.Rows.seqObj "list" acc.toList.toArray 0) := Heap.get?_push_size _ rfl
  show wpAny _ _ _ _ _ { s with heap := h'.push (PyProof.Rows.seqObj "list" acc.toList.toArray 0), toks := tk }
  refine wpAny_bind (wpAny_holding (PySem.W.list_sort_data (s := { s with heap := h'.push (PyProof.Rows.seqObj "list" acc.toList.toArray 0), toks := tk }) (vs := acc.toList) (bs := ps) (enc := fun p => p.2.py) (R := fun u p => RelV p.1 u) hoL (each_vals rv) ?_ (allAlike_of sb) (sortable_py hs) hN (fun p hp => ?_) fun out hlen ho => ?_))
  · have := each_reads I1 rv hd
    refine this.mono fun u p ⟨as, rd⟩ => ?_
    exact reads_notNew rd (fun b o e => Heap.get?_push_of_some _ e) (Heap.get?_none_of_le (Nat.le_refl _))
  · have := depth_of sb p hp
    show X.A.units + 1 + 1 + p.2.py.depth < cLine
    omega
  · have hv := vals_each ho
    obtain ⟨e', he'⟩ := PyProof.Rows.sortedHeap_at (vs := acc.toList) (out := out.toArray) hoL
    have pm := List.mergeSort_perm ps (PySem.W.dataLe false fun p : V × D => p.2.py)
    refine wpAny_pure ⟨_, rfl, .ref h'.objs.size, _, I1.laid (a := h'.objs.size) (o := .lst ((ps.mergeSort (PySem.W.dataLe false fun p : V × D => p.2.py)).map (·.1))) (t' := tk) (fun b u e => ?_) (Nat.le_refl _) ?_, rfl, q _ _ (I1.hok.fresh (Nat.le_refl _)) pm (merge_is sb)⟩
    · have hb : b < h'.objs.size := Heap.lt_size e
      rw [PyProof.Rows.sortedHeap_old (Nat.ne_of_lt hb) (by rw [PyProof.Rows.size_push']; exact Nat.lt_succ_of_lt hb)]
      exact Heap.get?_push_of_some _ e
    · exact ⟨by rw [List.length_map, pm.length_eq]; exact hN, out, e', hv, he'⟩
/-- list(d) -/
def rListKeys (X : Cx) : List V → Hp → VK → Prop := fun xs H Q => ∃ (a : Addr) (vs : List V), xs = [.ref a] ∧ KeysAt X H a vs ∧ ∀ p, H p = none → Q (.ref p) (upd H p (.lst vs))
theorem cr_listKeys (hc : X.calm = true) : CallR X (.type "list") (rListKeys X) := by
  intro pins s σ H xs us Q I r q
  obtain ⟨a, vs, ex, hk, q⟩ := q
  subst ex
  obtain ⟨u, eu, rx⟩ := vals1 r
  subst eu
  cases rx
  obtain ⟨es, ep, hr, lo, hz, rv⟩ := keysAt_raw I hk
  refine PySem.W.kdl_call (KdlSrc.rawDict lo) (I.ok.hd hc) hr hz fun h' tk acc c' hk hD hacc => ?_
  have ea := items_keys hacc
  have hl := rv.length
  rw [← ea] at rv
  refine ⟨.ref s.heap.objs.size, upd H s.heap.objs.size (.lst vs), I.laid hk (Nat.le_refl _) ⟨?_, acc.toList, c', rv, by rw [Array.toArray_toList]; exact hD⟩, rfl, q _ (I.hok.fresh (Nat.le_refl _))⟩
  rw [hl, List.length_map, Array.length_toList]
  exact hz
/-- sorted(t), t a tuple -/
def rSortT (K : PySem.W.Frag) : List V → Hp → VK → Prop := fun xs H Q => ∃ (a : Addr) (ps : List (V × D)), xs = [.ref a] ∧ SqT K H a (ps.map (·.1)) ∧ (∀ p ∈ ps, Dp K H p.1 p.2.py) ∧ sortable (ps.map (·.2)) = true ∧
  ∀ (p : Addr) (qs : List (V × D)), H p = none → qs.Perm ps → qs.map (·.2) = sortL (ps.map (·.2)) → Q (.ref p) (upd H p (.lst (qs.map (·.1))))
theorem cr_sortT (hc : X.calm = true) (hu : X.A.units + 64 < cLine) : CallR X (.builtin "sorted") (rSortT X.K) := by
  intro pins s σ H xs us Q I r q
  obtain ⟨a, ps, ex, hk, hd, hs, q⟩ := q
  subst ex
  obtain ⟨u, eu, rx⟩ := vals1 r
  subst eu
  cases rx
  obtain ⟨its, rv, ⟨o, ho, hcl, n, hdt⟩, hz⟩ := I.tuple hk
  have sb := sb_of hs
  have hN : ps.length ≤ sizeLine := by
    rw [List.length_map] at hz
    exact hz
  have hal : its.length = ps.length := by have := rv.length; simpa using this.symm
  refine Calls.call_function_entry PyProof.Rows.kind_sorted PyProof.Rows.plain_sorted PyProof.Rows.entry_sorted (PyProof.Rows.args_sorted1 _) ?_
  unfold Builtin.«sorted»
  refine wpAny_bind (m := checkCount "sorted" 1 1 _) (wpAny_pure ?_)
  refine wpAny_bind (wpAny_collect_seq (A := X.A.in1) a (.inr rfl) ho hcl hdt (fun h' hk => ?_) (by rw [List.size_toArray, hal]; exact hN))
  have I1 : Inv X pins σ H { s with heap := h' } := I.kept (t' := s.toks) hk
  show wpAny _ _ (newList its.toArray.toList >>= _) _ _ _
  rw [show its.toArray.toList = its from rfl]
  refine wpAny_bind (wpAny_newList ?_ (by rw [hal]; exact hN))
  have hoL : (h'.push (PyProof.Rows.seqObj "list" its.toArray 0)).get? h'.objs.size = some (PyProof.Rows.seqObj "list" its.toArray 0) := Heap.get?_push_size _ rfl
  show wpAny _ _ _ _ _ { s with heap := h'.push (PyProof.Rows.seqObj "list" its.toArray 0) }
  refine wpAny_bind (wpAny_holding (PySem.W.list_sort_data (s := { s with heap := h'.push (PyProof.Rows.seqObj "list" its.toArray 0) }) (vs := its) (bs := ps) (enc := fun p => p.2.py) (R := fun u p => RelV p.1 u) hoL (each_vals rv) ?_ (allAlike_of sb) (sortable_py hs) hN (fun p hp => ?_) fun out hlen ho => ?_))
  · have := each_reads I1 rv hd
    refine this.mono fun u p ⟨as, rd⟩ => ?_
    exact reads_notNew rd (fun b o e => Heap.get?_push_of_some _ e) (Heap.get?_none_of_le (Nat.le_refl _))
  · have := depth_of sb p hp
    show X.A.units + 1 + 1 + p.2.py.depth < cLine
    omega
  · have hv := vals_each ho
    obtain ⟨e', he'⟩ := PyProof.Rows.sortedHeap_at (vs := its) (out := out.toArray) hoL
    have pm := List.mergeSort_perm ps (PySem.W.dataLe false fun p : V × D => p.2.py)
    refine wpAny_pure ⟨_, rfl, .ref h'.objs.size, _, I1.laid (a := h'.objs.size) (o := .lst ((ps.mergeSort (PySem.W.dataLe false fun p : V × D => p.2.py)).map (·.1))) (t' := s.toks) (fun b u e => ?_) (Nat.le_refl _) ?_, rfl, q _ _ (I1.hok.fresh (Nat.le_refl _)) pm (merge_is sb)⟩
    · have hb : b < h'.objs.size := Heap.lt_size e
      rw [PyProof.Rows.sortedHeap_old (Nat.ne_of_lt hb) (by rw [PyProof.Rows.size_push']; exact Nat.lt_succ_of_lt hb)]
      exact Heap.get?_push_of_some _ e
    · exact ⟨by rw [List.length_map, pm.length_eq]; exact hN, out, e', hv, he'⟩
end
end Mn

set_option Elab.async false
set_option linter.all false
set_option maxRecDepth 100000
set_option maxHeartbeats 1000000
namespace Mn
open PySem L2
theorem zip_fst {G : Hp} {C : Cf} : ∀ {vs : List V} {ds : List D}, RepA C G vs ds → (vs.zip ds).map (·.1) = vs ∧ (vs.zip ds).map (·.2) = ds
  | _, _, .nil => ⟨rfl, rfl⟩
  | _, _, .cons r t => by
    obtain ⟨h1, h2⟩ := zip_fst t
    simp [h1, h2]
theorem zip_mem {G : Hp} {C : Cf} : ∀ {vs : List V} {ds : List D}, RepA C G vs ds → ∀ p ∈ vs.zip ds, Rep C G p.1 p.2
  | _, _, .nil, p, hp => by simp at hp
  | _, _, .cons r t, p, hp => by
    rcases List.mem_cons.mp hp with e | e
    · subst e; exact r
    · exact zip_mem t p e
theorem repA_of {G : Hp} {C : Cf} : ∀ {ps : List (V × D)}, (∀ p ∈ ps, Rep C G p.1 p.2) → RepA C G (ps.map (·.1)) (ps.map (·.2))
  | [], _ => .nil
  | p :: ps, h => .cons (h p (by simp)) (repA_of fun q hq => h q (by simp [hq]))
section
variable {Φ : Nat → Fn} {gc : Nat → D} {C : Cf} {E : XK} {X : Cx} {k : Nat}
theorem dict_keysAt {B : Addr → Bool} {ow : Ow} {H : Hp} {v : V} {n : Bool} {kvs : List (D × D)} (g : Gd C E X k) (r : RepB C B ow H v (.dct n kvs)) : ∃ a vs, v = .ref a ∧ KeysAt X H a vs ∧ RepA C (hid B ow H) vs (kvs.map (·.1)) ∧ kvs.length ≤ LIM := by
  obtain ⟨a, rfl, dv⟩ := r.dict
  cases dv with
  | @k ks ds h q lm =>
    have hl : ks.length = ds.length := by simpa using q.length
    refine ⟨a, ks.map fun p => kV p.1, rfl, .inl ⟨ks, h, rfl⟩, ?_, by rw [List.length_zip, List.length_map]; omega⟩
    rw [List.map_fst_zip (by simp [hl])]
    clear hl q h r lm
    induction ks with
    | nil => exact .nil
    | cons p ks ih =>
      refine .cons ?_ ih
      rcases p with ⟨i | i, v⟩
      · exact .int i
      · exact .str i
  | @n xs kds ds h q1 q2 q3 q4 lm =>
    rw [← g.hP, ← g.hw] at h
    have l1 : xs.length = kds.length := by simpa using q1.length
    have l2 : xs.length = ds.length := by simpa using q4.length
    refine ⟨a, xs.map fun x => .ref x.2.1, rfl, .inr ⟨xs, h, rfl⟩, ?_, by rw [List.length_zip]; omega⟩
    rw [List.map_fst_zip (by omega)]
    exact q1
theorem cd_list (g : Gd C E X k) : CallD C (fun xs H Q => (∃ p ys, xs = [.ref p] ∧ (SqL C.K H p ys ∨ SqT C.K H p ys) ∧ ∀ l, H l = none → Q (.ref l) (upd H l (.lst ys))) ∨ rListKeys X xs H Q) (prim1 .list) := by
  intro B ow s σ H E Q v x R r w
  cases x with
  | lst xs =>
    obtain ⟨a, vs, rfl, h1, h2⟩ := r.list
    exact .inl ⟨a, vs, rfl, .inl (.inl (.inl h1)), fun l hl => wpE.giveNew w R hl (Rep.lstNew R hl h2 r.lenL)⟩
  | tup xs =>
    obtain ⟨a, vs, rfl, h1, h2, h3⟩ := r.tuple
    exact .inl ⟨a, vs, rfl, .inr h1, fun l hl => wpE.giveNew w R hl (Rep.lstNew R hl h2 r.lenT)⟩
  | dct n kvs =>
    obtain ⟨a, vs, rfl, hk, h2, hlim⟩ := dict_keysAt g r
    exact .inr ⟨a, vs, rfl, hk, fun l hl => wpE.giveNew w R hl (Rep.lstNew R hl h2 (by rw [List.length_map]; exact hlim))⟩
  | _ => exact w.elim
theorem cd_sorted (g : Gd C E X k) : CallD C (fun xs H Q => (rSortD X.K xs H Q ∨ rSortKeys X xs H Q) ∨ rSortT X.K xs H Q) (prim1 .sorted) := by
  intro B ow s σ H E Q v x R r w
  cases x with
  | lst xs =>
    obtain ⟨a, vs, rfl, h1, h2⟩ := r.list
    simp only [prim1] at w
    split at w
    · rename_i hs
      obtain ⟨z1, z2⟩ := zip_fst h2
      refine .inl (.inl ⟨a, vs.zip xs, rfl, by rw [z1]; exact .inl (.inl h1), fun p hp => ?_, by rw [z2]; exact hs, fun p qs hp pm e => ?_⟩)
      · rw [g.hK]
        exact Rep.dp hid_sn DEP (zip_mem h2 p hp) ((sb_of hs).ok _ (by rw [← z2]; exact List.mem_map.mpr ⟨p, hp, rfl⟩))
      · rw [z2] at e
        refine wpE.giveNew w R hp ?_
        rw [← e]
        exact Rep.lstNew R hp (repA_of fun q hq => zip_mem h2 q (pm.subset hq)) (by have h9 := r.lenL; have h8 := h2.length; rw [List.length_map, pm.length_eq, List.length_zip]; omega)
    · exact w.elim
  | tup xs =>
    obtain ⟨a, vs, rfl, h1, h2, h3⟩ := r.tuple
    simp only [prim1] at w
    split at w
    · rename_i hs
      obtain ⟨z1, z2⟩ := zip_fst h2
      refine .inr ⟨a, vs.zip xs, rfl, by rw [z1, g.hK]; exact h1, fun p hp => ?_, by rw [z2]; exact hs, fun p qs hp pm e => ?_⟩
      · rw [g.hK]
        exact Rep.dp hid_sn DEP (zip_mem h2 p hp) ((sb_of hs).ok _ (by rw [← z2]; exact List.mem_map.mpr ⟨p, hp, rfl⟩))
      · rw [z2] at e
        refine wpE.giveNew w R hp ?_
        rw [← e]
        exact Rep.lstNew R hp (repA_of fun q hq => zip_mem h2 q (pm.subset hq)) (by have h9 := r.lenT; have h8 := h2.length; rw [List.length_map, pm.length_eq, List.length_zip]; omega)
    · exact w.elim
  | dct n kvs =>
    simp only [prim1] at w
    split at w
    · rename_i hs
      obtain ⟨a, vs, rfl, hk, h2, hlim⟩ := dict_keysAt g r
      obtain ⟨z1, z2⟩ := zip_fst h2
      refine .inl (.inr ⟨a, vs.zip (kvs.map (·.1)), rfl, by rw [z1]; exact hk, fun p hp => ?_, by rw [z2]; exact hs, fun p qs hp pm e => ?_⟩)
      · rw [g.hK]
        exact Rep.dp hid_sn DEP (zip_mem h2 p hp) ((sb_of hs).ok _ (by rw [← z2]; exact List.mem_map.mpr ⟨p, hp, rfl⟩))
      · rw [z2] at e
        refine wpE.giveNew w R hp ?_
        rw [← e]
        exact Rep.lstNew R hp (repA_of fun q hq => zip_mem h2 q (pm.subset hq)) (by have h8 := h2.length; rw [List.length_map] at h8; rw [List.length_map, pm.length_eq, List.length_zip, List.length_map]; omega)
    · exact w.elim
  | _ => exact w.elim
/-! min -/
def rMinD (K : PySem.W.Frag) : List V → Hp → VK → Prop := fun xs H Q => ∃ (a : Addr) (p : V × D) (ps : List (V × D)), xs = [.ref a] ∧ SqL K H a ((p :: ps).map (·.1)) ∧ (∀ q ∈ p :: ps, Dp K H q.1 q.2.py) ∧ sortable ((p :: ps).map (·.2)) = true ∧
  ∀ q ∈ p :: ps, q.2 = minL p.2 (ps.map (·.2)) → Q q.1 H
theorem minL_mem : ∀ (x : D) (ys : List D), minL x ys ∈ x :: ys
  | x, [] => by simp [minL]
  | x, y :: ys => by
    unfold minL
    have := minL_mem (if D.ltb DEP y x then y else x) ys
    rcases List.mem_cons.mp this with e | e
    · rw [e]; split <;> simp
    · simp [e]
theorem minL_py {zs : List D} (h : SB zs) : ∀ (x : D) (ys : List D), x ∈ zs → (∀ y ∈ ys, y ∈ zs) → PySem.W.minD x.py (D.pys ys) = (minL x ys).py
  | x, [], _, _ => by simp [PySem.W.minD, minL, D.pys]
  | x, y :: ys, hx, hy => by
    have lt := h.lt (hy y (by simp)) hx
    have ih := minL_py h (if D.ltb DEP y x then y else x) ys (by split; exact hy y (by simp); exact hx) fun z hz => hy z (by simp [hz])
    unfold minL
    rw [← ih]
    simp only [PySem.W.minD, D.pys, List.foldl_cons, ← lt]
    split <;> rfl
mutual
theorem D.py_inj : ∀ (n m : Nat) (a b : D), D.okb n a = true → D.okb m b = true → a.py = b.py → a = b
  | 0, _, _, _, h, _, _ => by simp [D.okb] at h
  | _, 0, _, _, _, h, _ => by simp [D.okb] at h
  | n + 1, m + 1, a, b, h, k, e => by
    cases a <;> cases b <;> first
      | (simp [D.okb] at h; done)
      | (simp [D.okb] at k; done)
      | (simp [D.py] at e; done)
      | (simp [D.py] at e; simp [e]; done)
      | rfl
      | skip
    · rename_i xs ys
      simp only [D.py, PyData.tuple.injEq] at e
      rw [D.pys_inj n m xs ys (by simpa [D.okb] using h) (by simpa [D.okb] using k) e]
    · rename_i xs ys
      simp only [D.py, PyData.list.injEq] at e
      rw [D.pys_inj n m xs ys (by simpa [D.okb] using h) (by simpa [D.okb] using k) e]
theorem D.pys_inj : ∀ (n m : Nat) (a b : List D), (∀ d ∈ a, D.okb n d = true) → (∀ d ∈ b, D.okb m d = true) → D.pys a = D.pys b → a = b
  | _, _, [], [], _, _, _ => rfl
  | _, _, [], _ :: _, _, _, e => by simp [D.pys] at e
  | _, _, _ :: _, [], _, _, e => by simp [D.pys] at e
  | n, m, x :: xs, y :: ys, h, k, e => by
    simp only [D.pys, List.cons.injEq] at e
    rw [D.py_inj n m x y (h x (by simp)) (k y (by simp)) e.1, D.pys_inj n m xs ys (fun d hd => h d (by simp [hd])) (fun d hd => k d (by simp [hd])) e.2]
end
theorem readsAll_of {pins : List (Addr × Obj)} {σ : St} {H : Hp} {s : Shared} (I : Inv X pins σ H s) : ∀ {ps : List (V × D)} {us : List Value}, Vals (ps.map (·.1)) us → (∀ p ∈ ps, Dp X.K H p.1 p.2.py) → ∃ as, ReadsAll s.heap us (D.pys (ps.map (·.2))) as
  | [], _, r, _ => by cases r; exact ⟨[], .nil⟩
  | p :: ps, _, r, h => by
    cases r with
    | cons r1 r2 =>
      obtain ⟨as, q1⟩ := Dp.reads I p.2.py p.1 _ (h p (by simp)) r1
      obtain ⟨bs, q2⟩ := readsAll_of I r2 fun q hq => h q (by simp [hq])
      exact ⟨as ++ bs, .cons q1 q2⟩
theorem cr_minD (hc : X.calm = true) (hu : X.A.units + 64 < cLine) : CallR X (.builtin "min") (rMinD X.K) := by
  intro pins s σ H xs us Q I r q
  obtain ⟨a, p, ps, ex, hl, hd, hs, q⟩ := q
  subst ex
  obtain ⟨u, eu, rx⟩ := vals1 r
  subst eu
  cases rx
  obtain ⟨its, rv, pl, hn⟩ := I.list hl
  have sb := sb_of hs
  obtain ⟨as, ra⟩ := readsAll_of I rv hd
  have al : PySem.W.AlikeAll (p.2.py :: D.pys (ps.map (·.2))) := by
    have e : p.2.py :: D.pys (ps.map (·.2)) = ((p :: ps).map (·.2)).map D.py := by rw [← D.pys_map]; rfl
    rw [e]
    refine ⟨fun x hx y hy => ?_, fun x hx => ?_⟩
    · obtain ⟨d, hd, rfl⟩ := List.mem_map.mp hx
      obtain ⟨d', hd', rfl⟩ := List.mem_map.mp hy
      exact D.alk_py _ _ (sb.al d hd d' hd')
    · obtain ⟨d, hd, rfl⟩ := List.mem_map.mp hx
      have := sb.al d hd d hd
      intro z
      cases d <;> simp [D.py] at z
      simp [D.alk] at this
  have dep : PyData.depthAll (D.pys ((p :: ps).map (·.2))) ≤ DEP := (D.lays_py DEP _ sb.ok).2
  have dep : PyData.depthAll (p.2.py :: D.pys (ps.map (·.2))) ≤ 30 := dep
  refine PySem.W.min_list_data (vs := its.toArray) (I.ok.hd hc) ?_ (by simpa [D.pys] using ra) al (by omega) fun i v h' tk bs hv hr hk => ?_
  · obtain ⟨o, n, h1, h2, h3, h4⟩ := pl
    exact ⟨o, h1, h2, n, h4⟩
  · have I1 : Inv X pins σ H { s with heap := h', toks := tk } := I.kept hk
    have hv' : its[i]? = some v := by simpa using hv
    have hl2 : i < (p :: ps).length := by
      have := (List.getElem?_eq_some_iff.mp hv').1
      have := rv.length
      simp at this ⊢
      omega
    have hq : (p :: ps)[i]? = some (p :: ps)[i] := List.getElem?_eq_getElem hl2
    have hmem : (p :: ps)[i] ∈ p :: ps := List.getElem_mem hl2
    have hx : ((p :: ps).map (·.1))[i]? = some (p :: ps)[i].1 := by rw [List.getElem?_map, hq]; rfl
    obtain ⟨u, hu2, ru⟩ := rv.get hx
    rw [hv'] at hu2
    cases hu2
    obtain ⟨cs, rc⟩ := Dp.reads I1 (p :: ps)[i].2.py _ _ (hd _ hmem) ru
    have okq := sb.ok _ (List.mem_map.mpr ⟨_, hmem, rfl⟩)
    have mm := minL_py sb p.2 (ps.map (·.2)) (by simp) fun y hy => by simp only [List.map_cons, List.mem_cons]; exact .inr hy
    rw [mm] at hr
    have okm := sb.ok _ (show minL p.2 (ps.map (·.2)) ∈ (p :: ps).map (·.2) from minL_mem _ _)
    have e1 := SeqAt.readOf_eq (D.lay_py _ _ okq).1 rc
    have e2 := SeqAt.readOf_eq (D.lay_py _ _ okm).1 hr
    have e3 := D.py_inj _ _ _ _ okq okm (e1.symm.trans e2)
    exact ⟨(p :: ps)[i].1, H, I1, ru, q _ hmem e3⟩
theorem cd_min (g : Gd C E X k) : CallD C (rMinD X.K) (prim1 .min) := by
  intro B ow s σ H E Q v x R r w
  cases x with
  | lst xs =>
    obtain ⟨a, vs, rfl, h1, h2⟩ := r.list
    cases xs with
    | nil => exact w.elim
    | cons x xs =>
      simp only [prim1] at w
      split at w
      · rename_i hs
        cases h2 with
        | @cons v1 vs1 _ _ q1 q2 =>
          obtain ⟨z1, z2⟩ := zip_fst q2
          refine ⟨a, (v1, x), vs1.zip xs, rfl, by simp only [List.map_cons, z1]; exact .inl (.inl h1), fun p hp => ?_, by simp only [List.map_cons, z2]; exact hs, fun p hp e => ?_⟩
          · rw [g.hK]
            have hm : p.2 ∈ x :: xs := by
              have : p.2 ∈ ((v1, x) :: vs1.zip xs).map (·.2) := List.mem_map.mpr ⟨p, hp, rfl⟩
              simpa only [List.map_cons, z2] using this
            have rp : Rep C (hid B ow H) p.1 p.2 := by
              rcases List.mem_cons.mp hp with e | e
              · subst e; exact q1
              · exact zip_mem q2 p e
            exact Rep.dp hid_sn DEP rp ((sb_of hs).ok _ hm)
          · have rp : Rep C (hid B ow H) p.1 p.2 := by
              rcases List.mem_cons.mp hp with e | e
              · subst e; exact q1
              · exact zip_mem q2 p e
            rw [z2] at e
            rw [e] at rp
            exact wpE.give w rfl R rp
      · exact w.elim
  | _ => exact w.elim
/-! ### the built-ins by their names -/
def p1N : P1 → Str
  | .len => "len"
  | .tuple => "tuple"
  | .list => "list"
  | .all => "all"
  | .any => "any"
  | .sorted => "sorted"
  | .min => "min"
  | .sum => "sum"
  | .str => "str"
  | _ => ""
def p1Ok : P1 → Bool
  | .len => true
  | .tuple => true
  | .list => true
  | .all => true
  | .any => true
  | .sorted => true
  | .min => true
  | .sum => true
  | .str => true
  | _ => false
theorem cd_str : CallD C (fun xs H Q => ∃ i, xs = [.int i] ∧ i.natAbs.log2 < 1920 ∧ Q (.str (toString i)) H) (prim1 .str) := fun B ow s σ H E Q v x R r w => by
  cases x with
  | int i =>
    rw [show prim1 .str (.int i) = if i.natAbs ≤ LIM then some (.str (toString i)) else none from rfl] at w
    split at w
    · rename_i hl
      refine ⟨i, by rw [r.int], ?_, wpE.give w rfl R (.str _)⟩
      by_cases h0 : i.natAbs = 0
      · rw [h0]; decide
      · rw [Nat.log2_lt h0]
        exact Nat.lt_of_le_of_lt hl (Nat.lt_of_lt_of_le (show LIM < 2 ^ 25 by decide) (Nat.pow_le_pow_right (by decide) (by decide)))
    · exact w.elim
  | _ => exact w.elim
theorem sd_prm {p : P1} {a : Ex} {e : Expr} {ta : TE} {p1 pos : Pos} (g : Gd C E X k) (ha : Sd Φ gc C E X a e ta) (hp : plainE e = true) (h0 : p1Ok p = true) (h1 : glB X.env.scope (p1N p) = true) :
    ∃ u, Sd Φ gc C E X (.prm p a) (.Call (.Name (p1N p) p1) [e] [] pos) u := by
  have pa : PA X [e] (tCons ta tNil) := pa_cons ha.pe pa_nil (starEach_plain hp)
  have mb : ∀ {id : String} {r : R1}, CallR X (.builtin id) r → bootBuiltins (p1N p) = some (.builtin id) → p1N p ∈ bnames → p1N p ≠ "__name__" → (p1N p == ("__debug__" : Str)) = false → CallD C r (prim1 p) → ∃ u, Sd Φ gc C E X (.prm p a) (.Call (.Name (p1N p) p1) [e] [] pos) u := fun c b m n d cd =>
    ⟨_, pe_callB c (gl_of h1) (g.blt _ m) b pa n d (starEach_plain hp) (noStar rfl), ok_prm cd ha, fun z => by cases z⟩
  have mt : ∀ {id : String} {r : R1}, CallR X (.type id) r → bootBuiltins (p1N p) = some (.type id) → p1N p ∈ bnames → p1N p ≠ "__name__" → (p1N p == ("__debug__" : Str)) = false → CallD C r (prim1 p) → ∃ u, Sd Φ gc C E X (.prm p a) (.Call (.Name (p1N p) p1) [e] [] pos) u := fun c b m n d cd =>
    ⟨_, pe_callTy c (gl_of h1) (g.blt _ m) b pa n d (starEach_plain hp) (noStar rfl), ok_prm cd ha, fun z => by cases z⟩
  cases p <;> first | (simp [p1Ok] at h0; done) | skip
  · exact mb call_len (by decide +kernel) (by decide +kernel) (by decide +kernel) (by decide +kernel) (by rw [g.hK]; exact cd_len)
  · exact mt call_tuple_of (by decide +kernel) (by decide +kernel) (by decide +kernel) (by decide +kernel) (by rw [g.hK]; exact cd_tuple)
  · exact mt (CallR.or call_list_of (cr_listKeys g.calm)) (by decide +kernel) (by decide +kernel) (by decide +kernel) (by decide +kernel) (by rw [g.hK]; exact cd_list g)
  · exact mb (cr_all g.calm) (by decide +kernel) (by decide +kernel) (by decide +kernel) (by decide +kernel) (by rw [g.hK]; exact cd_all)
  · exact mb (cr_any g.calm) (by decide +kernel) (by decide +kernel) (by decide +kernel) (by decide +kernel) (by rw [g.hK]; exact cd_any)
  · exact mb (CallR.or (CallR.or (cr_sortD g.u64) (cr_sortKeys g.calm g.u64)) (cr_sortT g.calm g.u64)) (by decide +kernel) (by decide +kernel) (by decide +kernel) (by decide +kernel) (cd_sorted g)
  · exact mb (cr_minD g.calm g.u64) (by decide +kernel) (by decide +kernel) (by decide +kernel) (by decide +kernel) (cd_min g)
  · exact mb (cr_sum g.calm) (by decide +kernel) (by decide +kernel) (by decide +kernel) (by decide +kernel) (by rw [g.hK]; exact cd_sum)
  · exact mt call_str_int (by decide +kernel) (by decide +kernel) (by decide +kernel) (by decide +kernel) cd_str
/-! ### list(range(n)) -/
theorem rngL_rg {G : Hp} : ∀ (n : Nat) (a : Int), RepA C G ((List.range n).map fun i => V.int (a + (i : Nat))) (rngL a n)
  | 0, _ => .nil
  | n + 1, a => by
    rw [List.range_succ_eq_map, List.map_cons, List.map_map]
    refine .cons (by simpa using Rep.int a) ?_
    have ih : RepA C G _ _ := rngL_rg n (a + 1)
    have e : ((fun i : Nat => V.int (a + (i : Nat))) ∘ Nat.succ) = fun i : Nat => V.int (a + 1 + (i : Nat)) := by
      funext i
      show V.int (a + ((i + 1 : Nat) : Int)) = V.int (a + 1 + (i : Int))
      congr 1
      omega
    rw [e]
    exact ih
theorem sd_lrng {a : Ex} {e : Expr} {ta : TE} {p1 p2 q pos : Pos} (g : Gd C E X k) (ha : Sd Φ gc C E X a e ta) (hp : plainE e = true) (h1 : glB X.env.scope "list" = true) (h2 : glB X.env.scope "range" = true) : ∃ u, Sd Φ gc C E X (.prm .lrng a) (.Call (.Name "list" p1) [.Call (.Name "range" p2) [e] [] q] [] pos) u := by
  refine ⟨_, pe_listRg g.calm (gl_of h1) (g.blt _ (by decide +kernel)) (prg_1 (gl_of h2) (g.blt _ (by decide +kernel)) ha.pe (starEach_plain hp)), fun B ow s σ H Q R w => ?_, fun z => by cases z⟩
  unfold ev at w
  show ta σ H fun v H1 => _
  refine bindB ha R w fun x s1 ow1 v H1 R1 st r1 w1 => ?_
  cases x with
  | int i =>
    rw [show prim1 .lrng (.int i) = if i.natAbs ≤ LIM then some (.lst (rngL 0 i.toNat)) else none from rfl] at w1
    split at w1
    · rename_i hl
      have hl' : i.natAbs ≤ 16777216 := hl
      refine ⟨i, r1.int, ⟨by omega, by omega, by omega, by omega, by omega⟩, fun q hq => ?_⟩
      refine wpE.giveNew w1 R1 hq (Rep.lstNew R1 hq ?_ ?_)
      · have := rngL_rg (C := C) (G := hid B ow1 H1) i.toNat 0
        unfold rgV
        rw [Int.sub_zero]
        exact this
      · have := (rngL_rg (C := C) (G := hid B ow1 H1) i.toNat 0).length
        rw [List.length_map, List.length_range] at this
        unfold LIM
        omega
    · exact w1.elim
  | _ => exact w1.elim
theorem sd_neg {a : Ex} {e : Expr} {ta : TE} {pos : Pos} (ha : Sd Φ gc C E X a e ta) : ∃ u, Sd Φ gc C E X (.prm .neg a) (.UnaryOp .USub e pos) u := by
  refine ⟨_, pe_un un_neg ha.pe, fun B ow s σ H Q R w => ?_, fun z => by cases z⟩
  unfold ev at w
  show ta σ H fun v H1 => _
  refine bindB ha R w fun x s1 ow1 v H1 R1 st r1 w1 => ?_
  cases x with
  | int i => exact ⟨i, r1.int, wpE.give w1 rfl R1 (.int _)⟩
  | _ => exact w1.elim
end
end Mn

set_option Elab.async false
set_option linter.all false
set_option maxRecDepth 100000
set_option maxHeartbeats 1000000
namespace Mn
open PySem L2
/-- not a call without arguments (super() is treated apart by the model) -/
def baseE : Expr → Bool
  | .Call (.Name _ _) [] [] _ => false
  | _ => true
theorem base_ok {o : Expr} {name : Str} {env : Env} {w : Sem Value} (h : baseE o = true) : attributeBase o name env w = w := by
  unfold attributeBase
  split
  · simp [baseE] at h
  · rfl
theorem few_ok {es : List Expr} {env : Env} {cpos : Pos} (h : es.all plainE = true) (hl : es.length < 29) : ((backTo cpos (starEach es env)).all (fun x => !x.1) && (backToKw cpos (keywordEach [] env)).all (fun x => x.1.isSome)
      && decide (es.length + ([] : List Keyword).length + (if ([] : List Keyword).isEmpty then 0 else 1) < 30)) = true := by
  have h1 : (backTo cpos (starEach es env)).all (fun x => !x.1) = true := by
    have := noStar (env := env) (pos := cpos) h
    rw [List.all_eq_true]
    intro x hx
    rw [List.any_eq_false] at this
    have := this x hx
    simpa using this
  rw [h1]
  simp [backToKw, keywordEach]
  omega
section
variable {Φ : Nat → Fn} {gc : Nat → D} {C : Cf} {E : XK} {X : Cx} {k : Nat}
/-! ### slices -/
theorem cut_rep {G : Hp} {vs : List V} {ds : List D} {lo hi : Option Int} (r : RepA C G vs ds) : RepA C G (cutV vs lo hi) (cut ds lo hi) := by
  unfold cutV cut
  rw [r.length]
  exact (r.drop _).take _
theorem cut_len (ds : List D) (lo hi : Option Int) : (cut ds lo hi).length ≤ ds.length := by
  unfold cut
  rw [List.length_take, List.length_drop]
  omega
theorem cut_all {ds : List D} {lo hi : Option Int} (h : HT.sIx ds.length 0 lo = 0 ∧ HT.sIx ds.length ds.length hi = ds.length) : cut ds lo hi = ds := by
  unfold cut
  rw [h.1, h.2]
  simp
/-- one end of a slice -/
structure SdO (Φ : Nat → Fn) (gc : Nat → D) (C : Cf) (E : XK) (X : Cx) (a : Ex) (e : Option Expr) (t : TO) : Prop where
  po : PO X e t
  ok : ∀ (B : Addr → Bool) (ow : Ow) (s : S) (σ : St) (H : Hp) (Q : VK) (g : Option Int → S → Out D) (kk : Option Int → Hp → Prop), SR C B ow s σ H → wpE C E B ow H σ ((part a (ev Φ gc a s) s).bind g) Q →
    (∀ o s1 ow1 H1, SR C B ow1 s1 σ H1 → Stp C B ow H ow1 H1 → wpE C E B ow1 H1 σ (g o s1) Q → kk o H1) → t σ H kk
theorem sdo_none : SdO Φ gc C E X .anil none tNoPart := ⟨po_none, fun B ow s σ H Q g kk R w hk => hk none s ow H R Stp.refl w⟩
theorem sdo_some {a : Ex} {e : Expr} {t : TE} (ha : Sd Φ gc C E X a e t) (hn : a.isNil = false) : SdO Φ gc C E X a (some e) (tPart t) := by
  refine ⟨po_some ha.pe, fun B ow s σ H Q g kk R w hk => ?_⟩
  show t σ H fun x H1 => ∃ i, x = .int i ∧ kk (some i) H1
  unfold part at w
  rw [hn, if_neg (by decide)] at w
  refine ha.ok B ow s σ H _ R ?_
  cases q : ev Φ gc a s with
  | ok d s1 =>
    rw [q] at w
    intro ow1 v H1 R1 st r
    cases d with
    | int i =>
      cases r
      exact ⟨i, rfl, hk _ s1 ow1 H1 R1 st (wpE.step st w)⟩
    | _ => exact w.elim
  | exc c τ => rw [q] at w; exact w
  | bad => rw [q] at w; exact w
theorem sd_slc {a lo hi : Ex} {e : Expr} {el eh : Option Expr} {ta : TE} {tl th : TO} {p2 pos : Pos} (g : Gd C E X k) (ha : Sd Φ gc C E X a e ta) (hl : SdO Φ gc C E X lo el tl) (hh : SdO Φ gc C E X hi eh th) : ∃ t, Sd Φ gc C E X (.slc a lo hi) (.Subscript e (.Slice el eh none p2) pos) t := by
  refine ⟨_, pe_slice (SlR.or sl_tupA sl_list) ha.pe hl.po hh.po, fun B ow s σ H Q R w => ?_, fun z => by cases z⟩
  unfold ev at w
  refine bindE (ta := ta) ha.ok R w fun x s1 ow1 v H1 R1 st1 r1 w1 => ?_
  refine hl.ok B ow1 s1 σ H1 Q _ _ R1 w1 fun o s2 ow2 H2 R2 st2 w2 => ?_
  refine hh.ok B ow2 s2 σ H2 Q _ _ R2 w2 fun o' s3 ow3 H3 R3 st3 w3 => ?_
  have r := (r1.mono st2.fr).mono st3.fr
  cases x with
  | tup ds =>
    cases r with
    | @tup p vs _ h q lm =>
      refine .inl ⟨p, vs, rfl, by rw [g.hK]; exact hid_sqT h, fun hw => ?_, fun _ a ha => wpE.giveNew w3 R3 ha (Rep.tupNew R3 ha (cut_rep q) (Nat.le_trans (cut_len _ _ _) lm))⟩
      rw [q.length] at hw
      refine w3 ow3 _ H3 R3 Stp.refl ?_
      show Rep C _ _ (.tup (cut ds o o'))
      rw [cut_all hw]
      exact .tup h q lm
  | lst ds =>
    cases r with
    | @lst p vs _ h q lm => exact .inr ⟨p, vs, rfl, .inl (.inl (hid_le h)), fun a ha => wpE.giveNew w3 R3 ha (Rep.lstNew R3 ha (cut_rep q) (Nat.le_trans (cut_len _ _ _) lm))⟩
  | _ => exact w3.elim

/-! ### xs.index(k) -/
theorem indexOf_spec {k : D} : ∀ {xs : List D} {i n : Nat}, indexOf k xs i = some n → ∃ j z, n = i + j ∧ xs[j]? = some z ∧ D.eqb z k = true ∧ ∀ m z', m < j → xs[m]? = some z' → D.eqb z' k = false
  | [], _, _, h => by simp [indexOf] at h
  | x :: xs, i, n, h => by
    unfold indexOf at h
    split at h
    · rename_i e
      cases h
      exact ⟨0, x, rfl, rfl, e, fun m _ hm => by omega⟩
    · rename_i e
      obtain ⟨j, z, h1, h2, h3, h4⟩ := indexOf_spec h
      refine ⟨j + 1, z, by omega, by simpa using h2, h3, fun m z' hm hz => ?_⟩
      cases m with
      | zero => simp at hz; subst hz; simpa using e
      | succ m => exact h4 m z' (by omega) (by simpa using hz)
theorem sd_index {o i : Ex} {e e' : Expr} {to ti : TE} {apos cpos : Pos} (g : Gd C E X k) (ho : Sd Φ gc C E X o e to) (hi : Sd Φ gc C E X i e' ti) (hb : baseE e = true) (hp : plainE e' = true) (hline : (apos.endLine == cpos.line) = true) :
    ∃ t, Sd Φ gc C E X (.index o i) (.Call (.Attribute e "index" apos) [e'] [] cpos) t := by
  refine ⟨_, pe_bm PySem.F.plainAttrs_list PySem.F.slot_list_index PySem.F.type_list_index (mt_indexD g.u65) ho.pe (pa_cons hi.pe pa_nil (starEach_plain hp)) (base_ok hb) (few_ok (by simp [hp]) (by simp)) hline (starEach_plain hp) (noStar rfl), fun B ow s σ H Q R w => ?_, fun z => by cases z⟩
  unfold ev at w
  show to σ H fun x H1 => tyV X.K "list" x H1 ∧ ti σ H1 fun y H2 => rIndexD X.K x [y] H2 Q
  have fin : ∀ (x y : D) (s3 : S) (ow3 : Ow) (v u : V) (H3 : Hp), SR C B ow3 s3 σ H3 → RepB C B ow3 H3 v x → Rep C (hid B ow3 H3) u y → wpE C E B ow3 H3 σ (match x with
      | .lst xs => if xs.all (D.okb DEP) && D.okb DEP y then Out.of ((indexOf y xs 0).map fun n => .int n) s3 else .bad
      | _ => .bad) Q → rIndexD X.K v [u] H3 Q := by
    intro x y s3 ow3 v u H3 R3 r1 r2 w3
    cases x with
    | lst xs =>
      simp only at w3
      split at w3
      · rename_i hk
        simp only [Bool.and_eq_true, List.all_eq_true] at hk
        cases q : indexOf y xs 0 with
        | none => rw [q] at w3; exact w3.elim
        | some n =>
          rw [q] at w3
          obtain ⟨j, z, h1, h2, h3, h4⟩ := indexOf_spec q
          have hj : n = j := by omega
          subst hj
          obtain ⟨a, vs, rfl, _⟩ := r1.list
          have at_ : ∀ (m : Nat) (z' : PyData), (D.pys xs)[m]? = some z' → ∃ d, xs[m]? = some d ∧ z' = d.py := fun m z' hz => by
            rw [D.pys_map, List.getElem?_map] at hz
            cases e : xs[m]? with
            | none => rw [e] at hz; cases hz
            | some d => rw [e] at hz; exact ⟨d, rfl, (Option.some.inj hz).symm⟩
          refine ⟨a, u, y.py, D.pys xs, n, z.py, rfl, rfl, ?_, ?_, shapedL hk.1, D.shaped hk.2 (by decide), ?_, ?_, fun m z' hm hz => ?_, wpE.give w3 rfl R3 (.int _)⟩
          · rw [g.hK]; exact r1.dp (n := DEP + 1) (by simpa [D.okb] using hk.1)
          · rw [g.hK]; exact Rep.dp hid_sn DEP r2 hk.2
          · rw [D.pys_map, List.getElem?_map, h2]; rfl
          · rw [D.eqv_py DEP DEP z y (hk.1 z (List.mem_of_getElem? h2)) hk.2]; exact h3
          · obtain ⟨d, hd, rfl⟩ := at_ m z' hz
            rw [D.eqv_py DEP DEP d y (hk.1 d (List.mem_of_getElem? hd)) hk.2]
            exact h4 m d hm hd
      · exact w3.elim
    | _ => exact w3.elim
  have tl : ∀ (x : D) (ow3 : Ow) (v : V) (H3 : Hp), RepB C B ow3 H3 v x → isL x = true → tyV X.K "list" v H3 := fun x ow3 v H3 r1 hx => by
    cases x with
    | lst xs =>
      obtain ⟨a, vs, rfl, h1, _⟩ := r1.list
      exact .inl ⟨rfl, vs, .inl (.inl h1)⟩
    | _ => cases hx
  cases hv : o.isV with
  | true =>
    rw [ho.vr hv]
    rw [hv, if_pos rfl] at w
    cases q : peek o.vix s with
    | ok d s1 =>
      rw [q] at w
      obtain ⟨rfl, v, h1, h2⟩ := R.peek q
      simp only [Out.bind] at w
      split at w
      · rename_i hx
        refine ⟨v, h1, .inl ⟨tl d ow v H h2 hx, bindE hi.ok R w fun y s2 ow2 u H2 R2 st r2 h3 => ?_⟩⟩
        obtain ⟨x', r1, h4⟩ := reread_ok ho (fun _ => h1) (fun z => by rw [hv] at z; cases z) R2 st h3
        exact fin x' y s2 ow2 v u H2 R2 r1 r2 h4
      · exact w.elim
    | exc c τ => unfold Mn.peek Out.of at q; split at q <;> cases q
    | bad => rw [q] at w; exact w.elim
  | false =>
    rw [hv, if_neg (by decide)] at w
    refine bindE ho.ok R w fun x s1 ow1 v H1 R1 st1 r1 h1 => ?_
    split at h1
    · rename_i hx
      refine ⟨tl x ow1 v H1 (.inl r1) hx, bindE hi.ok R1 h1 fun y s2 ow2 u H2 R2 st r2 h3 => ?_⟩
      obtain ⟨x', r1', h4⟩ := reread_ok ho (fun z => by rw [hv] at z; cases z) (fun _ => r1) R2 st h3
      exact fin x' y s2 ow2 v u H2 R2 r1' r2 h4
    · exact h1.elim
/-! ### d.get(k, x) -/
def IsM (X : Cx) (H : Hp) (a : Addr) : Prop := IsD H a ∨ ∃ xs, Rd H a (ND X.prog X.w a xs)
theorem isM_at {pins : List (Addr × Obj)} {σ : St} {H : Hp} {s : Shared} {a : Addr} (I : Inv X pins σ H s) (d : IsM X H a) :
    s.TypeIs (.ref a) "dict" ∧ (∀ b, Value.ref a = .ref b → ∃ ob, s.heap.get? b = some ob ∧ ob.dict = none) := by
  rcases d with d | ⟨xs, e⟩
  · obtain ⟨h1, h2, _⟩ := isD_at I d
    exact ⟨h1, h2⟩
  · obtain ⟨h1, h2, _⟩ := nd_typeIs I e
    exact ⟨h1, h2⟩
def tMGet2 (X : Cx) (td ty tx : TE) : TE := fun σ H Q => td σ H fun x H1 => ∃ a, x = .ref a ∧ IsM X H1 a ∧ ty σ H1 fun y H2 => tx σ H2 fun z H3 => ∃ o, MGet X H3 a y o ∧ Q (o.getD z) H3
theorem pe_mget2 {o e f : Expr} {td ty tx : TE} {apos cpos : Pos} (hu : X.A.units + 65 < cLine) (ho : PE X o td) (he : PE X e ty) (hf : PE X f tx) (m : M2 X o "get" apos e f cpos) : PE X (.Call (.Attribute o "get" apos) [e, f] [] cpos) (tMGet2 X td ty tx) := by
  refine ⟨fun pins s σ H Q I h => ?_⟩
  refine wpAny_Call_method m.base m.few m.line PySem.F.plainAttrs_dict PySem.F.slot_dict_get PySem.F.type_dict_get (thn (ho.run pins s σ H _ I h) fun u s1 ⟨x, H1, I1, rx, a, ex, d, q1⟩ => ?_)
  subst ex
  obtain rfl : u = Value.ref a := rx
  obtain ⟨t1, t2⟩ := isM_at I1 d
  refine ⟨t1, t2, ?_⟩
  rw [m.trees]
  refine Calls.callWith_builtin rfl (Calls.evalArgs_plain (Calls.spliced_cons (thn (he.run pins s1 σ H1 _ I1 q1) fun iv s2 ⟨y, H2, I2, ry, q2⟩ =>
    Calls.spliced_cons (thn (hf.run pins s2 σ H2 _ I2 q2) fun fv s3 ⟨z, H3, I3, rz, ov, g, q3⟩ => Calls.spliced_nil ?_))))
  rcases g with g | g
  · exact d_get2 (by omega) I3 g ry rz fun w' s4 I4 rw' => ⟨_, H3, I4, rw', q3⟩
  · exact n_get2 hu I3 g ry rz fun w' s4 I4 rw' => ⟨_, H3, I4, rw', q3⟩
theorem isM_of {B : Addr → Bool} {ow : Ow} {H : Hp} {v : V} {x : D} (g : Gd C E X k) (r : RepB C B ow H v x) (hq : isDc x = true) : ∃ a, v = .ref a ∧ IsM X H a := by
  cases x with
  | dct n kvs =>
    obtain ⟨a, rfl, dv⟩ := r.dict
    refine ⟨a, rfl, ?_⟩
    cases dv with
    | k h1 _ _ => exact .inl (.inl ⟨_, h1⟩)
    | n h1 _ _ _ _ _ => rw [← g.hP, ← g.hw] at h1; exact .inr ⟨_, h1⟩
  | _ => cases hq
theorem m2_ok {o e f : Expr} {apos cpos : Pos} (h1 : baseE o = true) (h2 : plainE e = true) (h3 : plainE f = true) (h4 : (apos.endLine == cpos.line) = true) : M2 X o "get" apos e f cpos :=
  ⟨base_ok h1, few_ok (by simp [h2, h3]) (by simp), h4, by rw [starEach_plain h2, starEach_plain h3]; rfl⟩
theorem sd_get {o i d : Ex} {e e' e'' : Expr} {to ti td : TE} {apos cpos : Pos} (g : Gd C E X k) (ho : Sd Φ gc C E X o e to) (hi : Sd Φ gc C E X i e' ti) (hd : Sd Φ gc C E X d e'' td) (hb : baseE e = true) (hp : plainE e' = true) (hp' : plainE e'' = true) (hline : (apos.endLine == cpos.line) = true) :
    ∃ t, Sd Φ gc C E X (.get o i d) (.Call (.Attribute e "get" apos) [e', e''] [] cpos) t := by
  refine ⟨_, pe_mget2 g.u65 ho.pe hi.pe hd.pe (m2_ok hb hp hp' hline), fun B ow s σ H Q R w => ?_, fun z => by cases z⟩
  unfold ev at w
  show to σ H fun x H1 => ∃ a, x = .ref a ∧ IsM X H1 a ∧ ti σ H1 fun y H2 => td σ H2 fun z H3 => ∃ o, MGet X H3 a y o ∧ Q (o.getD z) H3
  have fin : ∀ (x y z : D) (s3 : S) (ow3 : Ow) (a : Addr) (u t : V) (H3 : Hp), SR C B ow3 s3 σ H3 → RepB C B ow3 H3 (.ref a) x → Rep C (hid B ow3 H3) u y → Rep C (hid B ow3 H3) t z → wpE C E B ow3 H3 σ (match x with
      | .dct n kvs => if keyOf n y then .ok ((look kvs y).getD z) s3 else .bad
      | _ => .bad) Q → ∃ o, MGet X H3 a u o ∧ Q (o.getD t) H3 := by
    intro x y z s3 ow3 a u t H3 R3 r1 r2 r3 w3
    cases x with
    | dct n kvs =>
      simp only at w3
      split at w3
      · rename_i hk
        obtain ⟨a', e, dv⟩ := r1.dict
        cases e
        have := mget_of g.hP g.hw g.hK dv (.inl r2) hk
        cases q : look kvs y with
        | none =>
          rw [q] at this w3
          exact ⟨none, this, w3 ow3 _ H3 R3 Stp.refl r3⟩
        | some d =>
          rw [q] at this w3
          obtain ⟨v', h1, h2⟩ := this
          exact ⟨some v', h1, w3 ow3 _ H3 R3 Stp.refl h2⟩
      · exact w3.elim
    | _ => exact w3.elim
  cases hv : o.isV with
  | true =>
    rw [ho.vr hv]
    rw [hv, if_pos rfl] at w
    cases q : peek o.vix s with
    | ok dd s1 =>
      rw [q] at w
      obtain ⟨rfl, v, h1, h2⟩ := R.peek q
      simp only [Out.bind] at w
      split at w
      · rename_i hx
        obtain ⟨a, rfl, im⟩ := isM_of g h2 hx
        refine ⟨_, h1, .inl ⟨a, rfl, im, bindE hi.ok R w fun y s2 ow2 u H2 R2 st2 r2 w2 => ?_⟩⟩
        refine bindE hd.ok R2 w2 fun z s3 ow3 t H3 R3 st3 r3 w3 => ?_
        obtain ⟨x', r1, w4⟩ := reread_ok ho (fun _ => h1) (fun z => by rw [hv] at z; cases z) R3 st3 w3
        exact fin x' y z s3 ow3 a u t H3 R3 r1 (r2.mono st3.fr) r3 w4
      · exact w.elim
    | exc c τ => unfold Mn.peek Out.of at q; split at q <;> cases q
    | bad => rw [q] at w; exact w.elim
  | false =>
    rw [hv, if_neg (by decide)] at w
    refine bindE ho.ok R w fun x s1 ow1 v H1 R1 st1 r1 w1 => ?_
    split at w1
    · rename_i hx
      obtain ⟨a, rfl, im⟩ := isM_of g (.inl r1) hx
      refine ⟨a, rfl, im, bindE hi.ok R1 w1 fun y s2 ow2 u H2 R2 st2 r2 w2 => ?_⟩
      refine bindE hd.ok R2 w2 fun z s3 ow3 t H3 R3 st3 r3 w3 => ?_
      obtain ⟨x', r1', w4⟩ := reread_ok ho (fun z => by rw [hv] at z; cases z) (fun _ => r1) R3 (st2.trans st3) w3
      exact fin x' y z s3 ow3 a u t H3 R3 r1' (r2.mono st3.fr) r3 w4
    · exact w1.elim
/-! ### {} -/
theorem sd_dnew {n : Bool} {pos : Pos} (g : Gd C E X k) : ∃ t, Sd Φ gc C E X (.dnew n) (.Dict [] [] pos) t := by
  cases n with
  | false =>
    refine ⟨_, pe_frz pe_dnewK, fun B ow s σ H Q R w p hp => ⟨p, _, rfl, upd_same, trivial, fun od => ?_⟩, fun z => by cases z⟩
    unfold ev at w
    rw [upd_upd]
    exact wpE.giveNew w R hp (Rep.dK (kvs := []) (R.visNew hp) .nil (Nat.zero_le _))
  | true =>
    refine ⟨_, pe_frz pe_dnewN, fun B ow s σ H Q R w p hp => ⟨p, _, rfl, upd_same, trivial, fun od => ?_⟩, fun z => by cases z⟩
    unfold ev at w
    rw [upd_upd, g.hP, g.hw]
    exact wpE.giveNew w R hp (Rep.dN (xs := []) (kds := []) (R.visNew hp) .nil rfl rfl .nil (Nat.zero_le _))
end
end Mn

set_option Elab.async false
set_option linter.all false
set_option maxRecDepth 100000
set_option maxHeartbeats 1000000
namespace Mn
open PySem L2
section
variable {X : Cx} {tg : Expr}
/-! ### a list or a tuple, walked -/
def iSeq (K : PySem.W.Frag) (tl : TE) : TI := fun σ H R => tl σ H fun x H1 => ∃ a, x = .ref a ∧ (((∃ xs, SqL K H1 a xs) ∧ R (Itl K a) H1) ∨ ((∃ xs, SqT K H1 a xs) ∧ R (Itt K a) H1))
theorem pi_seq {l : Expr} {tl : TE} (hl : PE X l tl) : PI X tg l (iSeq X.K tl) := by
  refine ⟨fun pins s σ H R I h => ?_⟩
  refine thn (hl.run pins s σ H _ I h) fun v s1 ⟨x, H1, I1, r1, q1⟩ => ?_
  obtain ⟨a, e, q⟩ := q1
  subst e
  cases r1
  rcases q with ⟨⟨xs, hq⟩, q⟩ | ⟨⟨xs, hq⟩, q⟩
  · obtain ⟨its, rv, p, hz⟩ := I1.list hq
    refine wpAny_pyIter_list p.isList ?_
    refine ⟨s1.heap.objs.size, [s1.heap.objs.size], _, _, H1, rfl, I1.kept (t' := s1.toks) fun b o e => Heap.get?_push_of_some _ e, turn_list a _, ⟨_, Heap.get?_push_size _ rfl, rfl, rfl⟩, fun b hb => ?_, q⟩
    have e : b = s1.heap.objs.size := by simpa using hb
    subst e
    exact I1.fpOk (Nat.le_refl _) (I1.hok.fresh (Nat.le_refl _))
  · obtain ⟨its, rv, p, hz⟩ := I1.tuple hq
    refine wpAny_pyIter_tuple (show s1.heap.IsTuple a its.toArray from p) ?_
    refine ⟨s1.heap.objs.size, [s1.heap.objs.size], _, _, H1, rfl, I1.kept (t' := s1.toks) fun b o e => Heap.get?_push_of_some _ e, turn_tuple a _, ⟨_, Heap.get?_push_size _ rfl, rfl, rfl⟩, fun b hb => ?_, q⟩
    have e : b = s1.heap.objs.size := by simpa using hb
    subst e
    exact I1.fpOk (Nat.le_refl _) (I1.hok.fresh (Nat.le_refl _))
/-! ### enumerate(tuple) -/
def IteT (K : PySem.W.Frag) (a : Addr) : It :=
  ⟨fun i H => ∃ (xs : List V) (x : V), SqT K H a xs ∧ xs[i]? = some x, fun i H v H' => ∃ T x, v = .ref T ∧ H T = none ∧ H' = upd H T (.tup [.int (i : Nat), x]) ∧ ∀ xs, SqT K H a xs → xs[i]? = some x, fun i H => ∃ xs : List V, SqT K H a xs ∧ xs.length = i⟩
theorem turn_enumT {P : Program} {w : World} {K : PySem.W.Frag} {elts : List Expr} {kk : Nat} {tpos : Pos} (a e it : Addr) :
    Turn P w K (.Tuple elts kk tpos) (IteT K a) [e, it] e (fun i h => (∃ old, IsEnum h e it ((i : Nat) : Int) old) ∧ h.IsTupleIter it a i ∧ e ≠ it ∧ a ≠ it ∧ a ≠ e) where
  mem := by simp
  obj := fun i h st b hb => by
    obtain ⟨⟨old, he⟩, ⟨o, ho, hc, hd⟩, _⟩ := st
    have e' : b = e ∨ b = it := by simpa using hb
    rcases e' with z | z
    · rw [z]; exact ⟨_, he, fun v q => nomatch q⟩
    · rw [z]; exact ⟨o, ho, fun v q => by rw [hd] at q; cases q⟩
  keep := fun i h h' st k => let ⟨⟨old, he⟩, hi, hne⟩ := st; ⟨⟨old, k e (by simp) _ he⟩, hi.at fun o q => k it (by simp) o q, hne⟩
  item := by
    intro X hP hw hK hc i pins s σ H E I hf st hg
    subst hP hw hK
    obtain ⟨⟨old, he⟩, hit, hne, hai, hae⟩ := st
    obtain ⟨xs, x, hq, hx⟩ := hg
    obtain ⟨its, rv, p, hz⟩ := I.tuple hq
    obtain ⟨u, hu, ru⟩ := rv.get hx
    have hel : e < s.heap.objs.size := Heap.lt_size he
    have hil : it < s.heap.objs.size := by obtain ⟨_, q, _⟩ := hit; exact Heap.lt_size q
    have p' : s.heap.IsTuple a its.toArray := p
    have hlt : i < its.toArray.size := by
      have := (List.getElem?_eq_some_iff.mp hu).1
      simpa using this
    have Dr := Draws.tuple (prog := X.prog) (w := X.w) (A := X.A.in1) (I.ok.hd hc) it a hai its.toArray
    refine wpAny_pyNext_enum_itemD Dr he ⟨hit, p'⟩ hlt hne (by simp [hne, Ne.symm hae]) fun y h' tk hy ho hst' hT hsz hk => ?_
    obtain ⟨hit', _⟩ := hst'
    have hyu : y = u := by
      have : its.toArray[i]? = some u := by simpa using hu
      rw [this] at hy
      exact (Option.some.inj hy).symm
    subst hyu
    refine ⟨_, rfl, wpAny_letOwnedTupleGo_enum (s := { s with heap := h', toks := tk + 1 }) ho fun h'' he' sb => ?_⟩
    have hT2 : h''.get? s.heap.objs.size = some { cls := .type "tuple", data := .seq #[.int i tk, y] } := (sb.2 _ (Nat.ne_of_gt hel)).trans hT
    have new : ObjOk X.prog X.w (upd H s.heap.objs.size (.tup [.int (i : Nat), x])) h'' s.heap.objs.size (.tup [.int (i : Nat), x]) :=
      ⟨by show 2 ≤ sizeLine; decide, [.int i tk, y], .cons ⟨_, rfl⟩ (.cons ru .nil), ⟨_, hT2, rfl, _, rfl⟩⟩
    have I1 : Inv X pins σ (upd H s.heap.objs.size (.tup [.int (i : Nat), x])) { s with heap := h'', toks := tk + 1 } :=
      I.turnedNew (ch := [e, it]) (fun b ob hb q => (sb.2 b (fun z => hb (by simp [z]))).trans (hk b ob (fun z => hb (by simp [z])) (fun z => hb (by simp [z])) q)) hf (Nat.le_refl _) new
    refine ⟨.ref s.heap.objs.size, _, I1, rfl, ⟨_, x, rfl, I.hok.fresh (Nat.le_refl _), rfl, fun ys hy => by rw [I.tuple_inj hy hq]; exact hx⟩, ⟨⟨y, ?_⟩, hit'.at fun o q => (sb.2 it (Ne.symm hne)).trans q, hne, hai, hae⟩, fun b hb => ?_⟩
    · have e1 : ((i + 1 : Nat) : Int) = (i : Int) + 1 := by omega
      rw [e1]; exact he'
    · have hb' : b < s.heap.objs.size := by
        have e' : b = e ∨ b = it := by simpa using hb
        rcases e' with z | z
        · rw [z]; exact hel
        · rw [z]; exact hil
      rw [upd_ne (Nat.ne_of_lt hb')]
      exact (hf b hb).1
  done := by
    intro X hP hw hK hc i pins s σ H E I hf st hg
    subst hP hw hK
    obtain ⟨⟨old, he⟩, hit, hne, hai, hae⟩ := st
    obtain ⟨xs, hq, hx⟩ := hg
    obtain ⟨its, rv, p, hz⟩ := I.tuple hq
    obtain ⟨f0, f1, f2, f3, f4, f5⟩ := hf it (by simp)
    have hl := rv.length
    have p' : s.heap.IsTuple a its.toArray := p
    have e2 : i = its.toArray.size := by simp; omega
    have Dr := Draws.tuple (prog := X.prog) (w := X.w) (A := X.A.in1) (I.ok.hd hc) it a hai its.toArray
    exact wpAny_pyNext_enum_endD Dr he ⟨by rw [← e2]; exact hit, p'⟩ fun h' eb => ⟨rfl, I.turned (t' := s.toks) (fun b o hb q => eb b o hb q) f0 f1 f3 f4 f5⟩
  self := fun A i s Q E st h => let ⟨⟨_, he⟩, _⟩ := st; wpAny_pyIter_enum he h
/-- enumerate(v) where iter(v) lays the one object o -/
theorem meets_enum1 {v : Value} {o : Obj} {G : Heap → Prop} (B : Begins v o G) :
    Meets (Builtin.«enumerate.__new__» ⟨[.type "enumerate", v], []⟩) (fun _ R s => G s.heap ∧ R (.ok (.ret (.ref (s.heap.push o).objs.size)))
        { s with heap := (s.heap.push o).push { cls := .type "enumerate", data := .fields #[.none, .bool false, .ref s.heap.objs.size, rawInt 0, .none, .none] } }) :=
  .of_wp fun prog w A R s hh => by
    obtain ⟨hp, gn, dr, tk, os⟩ := s
    obtain ⟨h1, hR⟩ := hh
    have hsub := sub_enumerate
    have q1 : ∀ {A' : Around} {E : Value → Shared → Prop} {Q : Value → Shared → Prop}, Q (.ref hp.objs.size) ⟨hp.push o, gn, dr, tk, os⟩ → wpAny (model prog w) A' (pyIter v) Q E ⟨hp, gn, dr, tk, os⟩ :=
      fun q => B.iter prog w _ _ ⟨hp, gn, dr, tk, os⟩ _ h1 q
    wp_walk using q1
    refine wpAny_stack_any fun st => wpAny_pure ?_
    split
    · rename_i c _ _ _ _ _
      cases (c == Value.type "enumerate")
      · wp_walk using q1
        exact ⟨_, rfl, hR⟩
      · wp_walk using q1
        exact ⟨_, rfl, hR⟩
    · wp_walk using q1
      exact ⟨_, rfl, hR⟩
theorem call_enum1 {prog : Program} {w : World} {A : Around} {E : Value → Shared → Prop} {s : Shared} {v : Value} {o : Obj} {G : Heap → Prop} {Q : Value → Shared → Prop} (B : Begins v o G) (h1 : G s.heap)
    (hq : ∀ h', IsEnum h' (s.heap.objs.size + 1) s.heap.objs.size 0 .none → h'.get? s.heap.objs.size = some o → (∀ b ob, s.heap.get? b = some ob → h'.get? b = some ob) → Q (.ref (s.heap.objs.size + 1)) { s with heap := h' }) :
    wpAny (model prog w) A (call (.type "enumerate") [v]) Q E s := by
  refine callType_new F.called_enumerate (by decide) (F.typeCall_enumerate_1 _) (F.newCall_enumerate_1 _) (fun obj => F.args_object_init_2 obj _) F.entry_enumerate_new (meets_enum1 B) ⟨h1, ?_⟩
  have hz : (s.heap.push o).objs.size = s.heap.objs.size + 1 := Heap.size_push ..
  show _ ∧ _
  rw [hz]
  have he : IsEnum ((s.heap.push o).push { cls := .type "enumerate", data := .fields #[.none, .bool false, .ref s.heap.objs.size, rawInt 0, .none, .none] }) (s.heap.objs.size + 1) s.heap.objs.size 0 .none := by
    have q := Heap.get?_push_size (s.heap.push o) (o := { cls := .type "enumerate", data := .fields #[.none, .bool false, .ref s.heap.objs.size, rawInt 0, .none, .none] }) rfl
    rw [hz] at q
    exact q
  exact ⟨⟨_, he, rfl⟩, hq _ he (Heap.get?_push_of_some _ (Heap.get?_push_size _ B.free)) fun b ob x => Heap.get?_push_of_some _ (Heap.get?_push_of_some _ x)⟩
def iEnumA (K : PySem.W.Frag) (ta : TA) : TI := fun σ H R => ta σ H fun vs H1 => ∃ a, vs = [.ref a] ∧ (((∃ xs, SqL K H1 a xs) ∧ R (Ite K a) H1) ∨ ((∃ xs, SqT K H1 a xs) ∧ R (IteT K a) H1))
theorem pi_enumA {e : Expr} {ta : TA} {p pos tpos : Pos} {elts : List Expr} {kk : Nat} (hg : Gl X "enumerate") (hm : X.mg "enumerate" = none) (ha : PA X [e] ta) (hs : starEach [e] X.env = [(false, eval e X.env)]) :
    PI X (.Tuple elts kk tpos) (.Call (.Name "enumerate" p) [e] [] pos) (iEnumA X.K ta) := by
  refine ⟨fun pins s σ H R I h => ?_⟩
  refine PyProof.Rows.Call_ (ld_blt I hg hm (show bootBuiltins ("enumerate" : Str) = some (.type "enumerate") by decide +kernel) (PyProof.Rows.callWith_type1 (thn (ha.run pos pins s σ H _ I h) fun us s1 ⟨vs, H1, I1, r1, q1⟩ => ?_) hs rfl))
  obtain ⟨a, ex, q1⟩ := q1
  subst ex
  cases r1 with
  | cons r rr =>
    cases rr
    cases r
    have fresh : ∀ b, b ∈ [s1.heap.objs.size + 1, s1.heap.objs.size] → FpOk X pins H1 b := fun b hb => by
      have e' : b = s1.heap.objs.size + 1 ∨ b = s1.heap.objs.size := by simpa using hb
      have hle : s1.heap.objs.size ≤ b := by
        rcases e' with z | z
        · rw [z]; exact Nat.le_add_right _ _
        · rw [z]; exact Nat.le_refl _
      exact I1.fpOk hle (I1.hok.fresh hle)
    rcases q1 with ⟨⟨xs, hq⟩, q⟩ | ⟨⟨xs, hq⟩, q⟩
    · obtain ⟨its, rv, p', hz⟩ := I1.list hq
      refine call_enumerate_list p'.isList fun h' he hit hsz hk => wpAny_pyIter_enum he ?_
      exact ⟨s1.heap.objs.size + 1, [s1.heap.objs.size + 1, s1.heap.objs.size], _, _, H1, rfl, I1.kept (t' := s1.toks) hk, turn_enum a (s1.heap.objs.size + 1) s1.heap.objs.size, ⟨⟨.none, he⟩, hit, Nat.succ_ne_self _⟩, fresh, q⟩
    · obtain ⟨its, rv, p', hz⟩ := I1.tuple hq
      have pt : s1.heap.IsTuple a its.toArray := p'
      have hlt : a < s1.heap.objs.size := by obtain ⟨o, ho, _⟩ := pt; exact Heap.lt_size ho
      refine call_enum1 (begins_tuple a its.toArray) pt fun h' he hit hk => wpAny_pyIter_enum he ?_
      exact ⟨s1.heap.objs.size + 1, [s1.heap.objs.size + 1, s1.heap.objs.size], _, _, H1, rfl, I1.kept (t' := s1.toks) hk, turn_enumT a (s1.heap.objs.size + 1) s1.heap.objs.size, ⟨⟨.none, he⟩, ⟨_, hit, rfl, rfl⟩, Nat.succ_ne_self _, Nat.ne_of_lt hlt, Nat.ne_of_lt (Nat.lt_succ_of_lt hlt)⟩, fresh, q⟩
end
end Mn

set_option Elab.async false
set_option linter.all false
set_option maxRecDepth 100000
set_option maxHeartbeats 1000000
/-! Mn: a dict, walked by its keys. -/
namespace Mn
open PySem L2
/-- .. of nested keys: the key's own tuple -/
def Itkn (P : Program) (w : World) (d : Addr) (o : Obj) (xs : List (NestedKey × Addr × V)) : It :=
  ⟨fun i H => H d = some (.frz o (ND P w d xs)) ∧ i < xs.length, fun i H x H' => H' = H ∧ ∃ y, xs[i]? = some y ∧ x = .ref y.2.1, fun i H => H d = some (.frz o (ND P w d xs)) ∧ xs.length ≤ i⟩
section
variable {X : Cx} {pins : List (Addr × Obj)} {σ : St} {H : Hp} {s : Shared} {d : Addr} {o : Obj}
theorem paired_at {α β : Type} {G : α → β → Prop} {l₁ : List α} {l₂ : List β} (h : Paired G l₁ l₂) : ∀ {i : Nat} {a : α}, l₁[i]? = some a → ∃ b, l₂[i]? = some b ∧ G a b := by
  induction h with
  | nil => intro i a e; simp at e
  | @cons a b l₁ l₂ r t ih =>
    intro i a' e
    cases i with
    | zero =>
      simp only [List.getElem?_cons_zero, Option.some.injEq] at e
      subst e
      exact ⟨b, rfl, r⟩
    | succ j =>
      simp only [List.getElem?_cons_succ] at e ⊢
      exact ih e
theorem Inv.frzN {xs : List (NestedKey × Addr × V)} (I : Inv X pins σ H s) (h : H d = some (.frz o (ND X.prog X.w d xs))) :
    (d == sysModules) = false ∧ s.heap.get? d = some o ∧ o.ExactDict ∧ ∃ (es : Array DictEntry) (ep : Nat), o.data = .dict es ep ∧ es.size = xs.length ∧
      ∀ (i : Nat) (x : NestedKey × Addr × V), xs[i]? = some x → ∃ (en : DictEntry), es[i]? = some en ∧ en.key = .ref x.2.1 := by
  obtain ⟨hd, hn, _, _⟩ := I.hok d _ h
  obtain ⟨hs, z, nd, ys, pr, o', es, ep, ho, hx, hdt, he⟩ := hn
  rw [hd] at ho
  cases ho
  have hl : es.size = xs.length := by
    have l1 := congrArg List.length he
    rw [Array.length_toList, List.length_map] at l1
    have l2 := Paired.length pr
    omega
  refine ⟨hs, hd, hx, es, ep, hdt, hl, fun i x e => ?_⟩
  obtain ⟨b, hb, e1, e2, _⟩ := paired_at pr e
  have q : es.toList[i]? = some (entryOfKey (nestedKind X.prog X.w) b) := by rw [he, List.getElem?_map, hb]; rfl
  refine ⟨_, by simpa using q, ?_⟩
  rw [e2]
  rfl
end
section
variable {P : Program} {w : World} {K : PySem.W.Frag} {tg : Expr} {d : Addr} {o : Obj} {es : Array DictEntry} {ep : Nat}
theorem turn_keysN {xs : List (NestedKey × Addr × V)} (it : Addr) (hod : o.data = .dict es ep) : Turn P w K tg (Itkn P w d o xs) [it] it (fun i h => h.IsKeyIter it d i xs.length ep) where
  mem := by simp
  obj := fun i h st b hb => by
    have e : b = it := by simpa using hb
    subst e
    obtain ⟨oi, e, c, dd⟩ := st
    exact ⟨oi, e, fun v z => by rw [dd] at z; cases z⟩
  keep := fun i h h' st k => st.at fun oi e => k it (by simp) oi e
  item := by
    intro X hP hw hK hc i pins s σ H E I hf st hg
    subst hP hw hK
    obtain ⟨hd, hi⟩ := hg
    obtain ⟨f0, f1, f2, f3, f4, f5⟩ := hf it (by simp)
    obtain ⟨hs, hgd, hx, es', ep', hdt, hsz, ent⟩ := Inv.frzN I hd
    obtain ⟨rfl, rfl⟩ := dict_ep hod hdt
    have hkv : xs[i]? = some xs[i] := List.getElem?_eq_getElem hi
    obtain ⟨en, hen, hkey⟩ := ent i _ hkv
    refine next_key_item st hgd hdt hsz hen fun h' st' sb => ?_
    have I1 : Inv X pins σ H { s with heap := h' } := I.turned (t' := s.toks) (fun b ob hb e => (sb.2 b hb).trans e) f0 f1 f3 f4 f5
    obtain ⟨oi, e, c, dd⟩ := id st'
    exact ⟨en.key, rfl, go_of (s := { s with heap := h' }) e c dd (by decide) ⟨.ref xs[i].2.1, H, I1, hkey, ⟨rfl, xs[i], hkv, rfl⟩, st', fun b hb => (hf b hb).1⟩⟩
  done := by
    intro X hP hw hK hc i pins s σ H E I hf st hg
    subst hP hw hK
    obtain ⟨hd, hi⟩ := hg
    obtain ⟨f0, f1, f2, f3, f4, f5⟩ := hf it (by simp)
    obtain ⟨hs, hgd, hx, es', ep', hdt, hsz, ent⟩ := Inv.frzN I hd
    obtain ⟨rfl, rfl⟩ := dict_ep hod hdt
    exact next_key_end (I.ok.hd hc) st hgd hdt hsz hi fun h' eb => ⟨rfl, I.turned (t' := s.toks) (fun b ob hb e => eb b ob hb e) f0 f1 f3 f4 f5⟩
  self := fun A i s Q E st h => by
    refine wpAny_pyIter_slot st.typeIs F.slot_dict_keyiterator_iter (wpAny_call_entry F.slot_dict_keyiterator_iter st.typeIs F.entry_dict_keyiterator_iter ?_ (F.args_dict_keyiterator_iter_1 _))
    show wpAny _ _ (ret (.ref it)) _ _ s
    exact wpAny_pure ⟨_, rfl, "dict_keyiterator", _, st.typeIs, F.slot_dict_keyiterator_next.lookup, h⟩
end
section
variable {X : Cx} {tg : Expr}
/-- a list, a tuple, or a dict by its keys -/
def iAny (X : Cx) (tl : TE) : TI := fun σ H R => tl σ H fun x H1 => ∃ a, x = .ref a ∧ (((∃ xs, SqL X.K H1 a xs) ∧ R (Itl X.K a) H1) ∨ ((∃ xs, SqT X.K H1 a xs) ∧ R (Itt X.K a) H1) ∨
  (∃ o kvs, H1 a = some (.frz o (.dK kvs)) ∧ R (Itk a o kvs) H1) ∨ ∃ o xs, H1 a = some (.frz o (ND X.prog X.w a xs)) ∧ R (Itkn X.prog X.w a o xs) H1)
theorem pi_any {l : Expr} {tl : TE} (hl : PE X l tl) : PI X tg l (iAny X tl) := by
  refine ⟨fun pins s σ H R I h => ?_⟩
  refine thn (hl.run pins s σ H _ I h) fun v s1 ⟨x, H1, I1, r1, q1⟩ => ?_
  obtain ⟨a, e, q⟩ := q1
  subst e
  cases r1
  rcases q with ⟨⟨xs, hq⟩, q⟩ | ⟨⟨xs, hq⟩, q⟩ | ⟨o, kvs, hd, q⟩ | ⟨o, xs, hd, q⟩
  · obtain ⟨its, rv, p, hz⟩ := I1.list hq
    refine wpAny_pyIter_list p.isList ?_
    refine ⟨s1.heap.objs.size, [s1.heap.objs.size], _, _, H1, rfl, I1.kept (t' := s1.toks) fun b o e => Heap.get?_push_of_some _ e, turn_list a _, ⟨_, Heap.get?_push_size _ rfl, rfl, rfl⟩, fun b hb => ?_, q⟩
    have e : b = s1.heap.objs.size := by simpa using hb
    subst e
    exact I1.fpOk (Nat.le_refl _) (I1.hok.fresh (Nat.le_refl _))
  · obtain ⟨its, rv, p, hz⟩ := I1.tuple hq
    refine wpAny_pyIter_tuple (show s1.heap.IsTuple a its.toArray from p) ?_
    refine ⟨s1.heap.objs.size, [s1.heap.objs.size], _, _, H1, rfl, I1.kept (t' := s1.toks) fun b o e => Heap.get?_push_of_some _ e, turn_tuple a _, ⟨_, Heap.get?_push_size _ rfl, rfl, rfl⟩, fun b hb => ?_, q⟩
    have e : b = s1.heap.objs.size := by simpa using hb
    subst e
    exact I1.fpOk (Nat.le_refl _) (I1.hok.fresh (Nat.le_refl _))
  · obtain ⟨hs, hgd, hx, es, ep, vs, hdt, hsz, kv, hm⟩ := I1.frzK hd
    refine iter_keys hs hgd hx hdt (pi_one (tk := s1.toks) I1 _ (turn_keys _ hdt) ⟨_, Heap.get?_push_size _ rfl, rfl, ?_⟩ q)
    rw [hsz] <;> rfl
  · obtain ⟨hs, hgd, hx, es, ep, hdt, hsz, ent⟩ := Inv.frzN I1 hd
    refine iter_keys hs hgd hx hdt (pi_one (tk := s1.toks) I1 _ (turn_keysN _ hdt) ⟨_, Heap.get?_push_size _ rfl, rfl, ?_⟩ q)
    rw [hsz] <;> rfl
end
end Mn

set_option Elab.async false
set_option linter.all false
set_option maxRecDepth 100000
set_option maxHeartbeats 1000000
namespace Mn
open PySem L2

/-! ### walks over data -/
/-- while the sources stand as G tells (of what is seen), the walk gives the items in turn -/
structure WalkD (C : Cf) (J : It) (xs : List D) (G : Hp → Prop) : Prop where
  mono : ∀ g g', Sm' g g' → G g → G g'
  goes : ∀ i B ow H, i < xs.length → G (hid B ow H) → J.go i H
  stops : ∀ B ow H, G (hid B ow H) → J.stop xs.length H
  yields : ∀ B ow s σ i H x H' d, SR C B ow s σ H → xs[i]? = some d → G (hid B ow H) → J.yld i H x H' → SR C B ow s σ H' ∧ Stp C B ow H ow H' ∧ Rep C (hid B ow H') x d
section
variable {C : Cf}
theorem walkD_list {a : Addr} {ds : List D} : WalkD C (Itl C.K a) ds (fun g => ∃ vs, g a = some (.lst vs) ∧ RepA C g vs ds) where
  mono := fun g g' e ⟨vs, h1, h2⟩ => ⟨vs, e _ _ h1 rfl, h2.mono e⟩
  goes := fun i B ow H hi ⟨vs, h1, h2⟩ => by
    have hi' : i < vs.length := by rw [h2.length]; exact hi
    exact ⟨vs, vs[i], .inl (.inl (hid_le h1)), by simp [hi']⟩
  stops := fun B ow H ⟨vs, h1, h2⟩ => ⟨vs, .inl (.inl (hid_le h1)), by rw [h2.length]; exact Nat.le_refl _⟩
  yields := fun B ow s σ i H x H' d R hd ⟨vs, h1, h2⟩ y => by
    obtain ⟨rfl, y⟩ := y
    have q := y vs (.inl (.inl (hid_le h1)))
    obtain ⟨d', hd', r⟩ := h2.getV q
    rw [hd] at hd'; cases hd'
    exact ⟨R, Stp.refl, r⟩
theorem walkD_tup {a : Addr} {ds : List D} : WalkD C (Itt C.K a) ds (fun g => ∃ vs, SqT C.K g a vs ∧ RepA C g vs ds) where
  mono := fun g g' e ⟨vs, h1, h2⟩ => ⟨vs, e.sqT h1, h2.mono e⟩
  goes := fun i B ow H hi ⟨vs, h1, h2⟩ => by
    have hi' : i < vs.length := by rw [h2.length]; exact hi
    exact ⟨vs, vs[i], hid_sqT h1, by simp [hi']⟩
  stops := fun B ow H ⟨vs, h1, h2⟩ => ⟨vs, hid_sqT h1, by rw [h2.length]; exact Nat.le_refl _⟩
  yields := fun B ow s σ i H x H' d R hd ⟨vs, h1, h2⟩ y => by
    obtain ⟨rfl, y⟩ := y
    have q := y vs (hid_sqT h1)
    obtain ⟨d', hd', r⟩ := h2.getV q
    rw [hd] at hd'; cases hd'
    exact ⟨R, Stp.refl, r⟩
theorem walkD_keys {a : Addr} {o : Obj} {kvs : List (Key × V)} {ds : List D} (hd : ds = kvs.map fun p => kD p.1) : WalkD C (Itk a o kvs) ds (fun g => g a = some (.frz o (.dK kvs))) where
  mono := fun g g' e h => e _ _ h rfl
  goes := fun i B ow H hi h => ⟨(hid_le h), by rw [hd, List.length_map] at hi; exact hi⟩
  stops := fun B ow H h => ⟨(hid_le h), by rw [hd, List.length_map]; exact Nat.le_refl _⟩
  yields := fun B ow s σ i H x H' d R hx h y => by
    obtain ⟨rfl, k, v, hk, rfl⟩ := y
    rw [hd, List.getElem?_map, hk] at hx
    cases hx
    refine ⟨R, Stp.refl, ?_⟩
    rcases k with k | k
    · exact .int _
    · exact .str _
theorem walkD_keysN {a : Addr} {o : Obj} {xs : List (NestedKey × Addr × V)} {kds : List D} : WalkD C (Itkn C.P C.w a o xs) kds (fun g => g a = some (.frz o (ND C.P C.w a xs)) ∧ RepA C g (xs.map fun x => .ref x.2.1) kds) where
  mono := fun g g' e h => ⟨e _ _ h.1 rfl, h.2.mono e⟩
  goes := fun i B ow H hi h => ⟨(hid_le h.1), by have := h.2.length; rw [List.length_map] at this; omega⟩
  stops := fun B ow H h => ⟨(hid_le h.1), by have := h.2.length; rw [List.length_map] at this; omega⟩
  yields := fun B ow s σ i H x H' d R hx h y => by
    obtain ⟨rfl, y, hk, rfl⟩ := y
    obtain ⟨d', hd', r⟩ := h.2.getV (i := i) (v := .ref y.2.1) (by rw [List.getElem?_map, hk]; rfl)
    rw [hx] at hd'
    cases hd'
    exact ⟨R, Stp.refl, r⟩
theorem rngL_get : ∀ (n : Nat) (a : Int) (i : Nat) (d : D), (rngL a n)[i]? = some d → d = .int (a + i)
  | 0, _, _, _, h => by simp [rngL] at h
  | n + 1, a, 0, d, h => by simp [rngL] at h; simp [h]
  | n + 1, a, i + 1, d, h => by
    have := rngL_get n (a + 1) i d (by simpa [rngL] using h)
    rw [this]; congr 1; push_cast; omega
theorem rngL_len : ∀ (n : Nat) (a : Int), (rngL a n).length = n
  | 0, _ => rfl
  | n + 1, a => by simp [rngL, rngL_len n]
theorem walkD_rng {lo : Int} {n : Nat} : WalkD C (Itr lo n) (rngL lo n) (fun _ => True) where
  mono := fun _ _ _ _ => trivial
  goes := fun i B ow H hi _ => by rw [rngL_len] at hi; exact hi
  stops := fun B ow H _ => by rw [rngL_len]; exact Nat.le_refl _
  yields := fun B ow s σ i H x H' d R hd _ y => by
    obtain ⟨rfl, rfl⟩ := y
    rw [rngL_get _ _ _ _ hd]
    exact ⟨R, Stp.refl, .int _⟩
theorem enumL_len : ∀ (xs : List D) (k : Nat), (enumL k xs).length = xs.length
  | [], _ => rfl
  | x :: xs, k => by simp [enumL, enumL_len xs]
theorem enumL_get : ∀ (xs : List D) (k i : Nat) (d : D), (enumL k xs)[i]? = some d → ∃ x, xs[i]? = some x ∧ d = .tup [.int (k + i : Nat), x]
  | [], _, _, _, h => by simp [enumL] at h
  | x :: xs, k, 0, d, h => by simp [enumL] at h; exact ⟨x, rfl, by simp [← h]⟩
  | x :: xs, k, i + 1, d, h => by
    obtain ⟨y, h1, h2⟩ := enumL_get xs (k + 1) i d (by simpa [enumL] using h)
    exact ⟨y, by simpa using h1, by rw [h2]; congr 4; omega⟩
theorem pairNew {B : Addr → Bool} {ow : Ow} {s : S} {σ : St} {H : Hp} {T : Addr} {x y : V} {dx dy : D} (R : SR C B ow s σ H) (hT : H T = none) (r1 : Rep C (hid B ow H) x dx) (r2 : Rep C (hid B ow H) y dy) :
    SR C B ow s σ (upd H T (.tup [x, y])) ∧ Stp C B ow H ow (upd H T (.tup [x, y])) ∧ Rep C (hid B ow (upd H T (.tup [x, y]))) (.ref T) (.tup [dx, dy]) := by
  have e0 : ∀ b u, H b = some u → upd H T (.tup [x, y]) b = some u := fun b u h => by rw [upd_ne (ne_of_none h hT)]; exact h
  have e : Sm' H (upd H T (.tup [x, y])) := fun b u h _ => e0 b u h
  exact ⟨R.grow e0, ⟨hid_ow_le (fun b q => .inl q) (fun p q => .inl q) e, fun b u _ _ _ h n => e b u h n⟩, Rep.tupNew R hT (.cons r1 (.cons r2 .nil)) (by simp [LIM])⟩
theorem walkD_enum {a : Addr} {ds : List D} : WalkD C (Ite C.K a) (enumL 0 ds) (fun g => ∃ vs, g a = some (.lst vs) ∧ RepA C g vs ds) where
  mono := fun g g' e ⟨vs, h1, h2⟩ => ⟨vs, e _ _ h1 rfl, h2.mono e⟩
  goes := fun i B ow H hi ⟨vs, h1, h2⟩ => by
    have hi' : i < vs.length := by rw [h2.length, ← enumL_len ds 0]; exact hi
    exact ⟨vs, vs[i], .inl (.inl (hid_le h1)), by simp [hi']⟩
  stops := fun B ow H ⟨vs, h1, h2⟩ => ⟨vs, .inl (.inl (hid_le h1)), by rw [h2.length, enumL_len]; exact Nat.le_refl _⟩
  yields := fun B ow s σ i H x H' d R hd ⟨vs, h1, h2⟩ y => by
    obtain ⟨T, u, rfl, hT, rfl, y⟩ := y
    have q := y vs (.inl (.inl (hid_le h1)))
    obtain ⟨d', hd', r⟩ := h2.getV q
    obtain ⟨d2, hd2, rfl⟩ := enumL_get _ _ _ _ hd
    rw [hd'] at hd2; cases hd2
    rw [Nat.zero_add]
    exact pairNew R hT (.int _) r
theorem walkD_enumT {a : Addr} {ds : List D} : WalkD C (IteT C.K a) (enumL 0 ds) (fun g => ∃ vs, SqT C.K g a vs ∧ RepA C g vs ds) where
  mono := fun g g' e ⟨vs, h1, h2⟩ => ⟨vs, e.sqT h1, h2.mono e⟩
  goes := fun i B ow H hi ⟨vs, h1, h2⟩ => by
    have hi' : i < vs.length := by rw [h2.length, ← enumL_len ds 0]; exact hi
    exact ⟨vs, vs[i], hid_sqT h1, by simp [hi']⟩
  stops := fun B ow H ⟨vs, h1, h2⟩ => ⟨vs, hid_sqT h1, by rw [h2.length, enumL_len]⟩
  yields := fun B ow s σ i H x H' d R hd ⟨vs, h1, h2⟩ y => by
    obtain ⟨T, u, rfl, hT, rfl, y⟩ := y
    have q := y vs (hid_sqT h1)
    obtain ⟨d', hd', r⟩ := h2.getV q
    obtain ⟨d2, hd2, rfl⟩ := enumL_get _ _ _ _ hd
    rw [hd'] at hd2; cases hd2
    rw [Nat.zero_add]
    exact pairNew R hT (.int _) r
theorem zipL_len : ∀ (xs ys : List D), (zipL xs ys).length = min xs.length ys.length
  | [], ys => by simp [zipL]
  | x :: xs, [] => by simp [zipL]
  | x :: xs, y :: ys => by simp [zipL, zipL_len xs ys]
theorem zipL_get : ∀ (xs ys : List D) (i : Nat) (d : D), (zipL xs ys)[i]? = some d → ∃ x y, xs[i]? = some x ∧ ys[i]? = some y ∧ d = .tup [x, y]
  | [], ys, i, d, h => by simp [zipL] at h
  | x :: xs, [], i, d, h => by simp [zipL] at h
  | x :: xs, y :: ys, 0, d, h => by simp [zipL] at h; exact ⟨x, y, rfl, rfl, h.symm⟩
  | x :: xs, y :: ys, i + 1, d, h => by
    obtain ⟨x', y', h1, h2, h3⟩ := zipL_get xs ys i d (by simpa [zipL] using h)
    exact ⟨x', y', by simpa using h1, by simpa using h2, h3⟩
theorem walkD_zip {a b : Addr} {ds es : List D} : WalkD C (Itz C.K a b) (zipL ds es) (fun g => ∃ vs us, g a = some (.lst vs) ∧ RepA C g vs ds ∧ g b = some (.lst us) ∧ RepA C g us es) where
  mono := fun g g' e ⟨vs, us, h1, h2, h3, h4⟩ => ⟨vs, us, e _ _ h1 rfl, h2.mono e, e _ _ h3 rfl, h4.mono e⟩
  goes := fun i B ow H hi ⟨vs, us, h1, h2, h3, h4⟩ => by
    rw [zipL_len] at hi
    have hi1 : i < vs.length := by rw [h2.length]; omega
    have hi2 : i < us.length := by rw [h4.length]; omega
    exact ⟨vs, us, vs[i], us[i], .inl (.inl (hid_le h1)), .inl (.inl (hid_le h3)), by simp [hi1], by simp [hi2]⟩
  stops := fun B ow H ⟨vs, us, h1, h2, h3, h4⟩ => ⟨vs, us, .inl (.inl (hid_le h1)), .inl (.inl (hid_le h3)), by rw [zipL_len, h2.length, h4.length]; omega⟩
  yields := fun B ow s σ i H x H' d R hd ⟨vs, us, h1, h2, h3, h4⟩ y => by
    obtain ⟨T, u, w, rfl, hT, rfl, y1, y2⟩ := y
    have q1 := y1 vs (.inl (.inl (hid_le h1)))
    have q2 := y2 us (.inl (.inl (hid_le h3)))
    obtain ⟨d1, hd1, r1⟩ := h2.getV q1
    obtain ⟨d2, hd2, r2⟩ := h4.getV q2
    obtain ⟨e1, e2, he1, he2, rfl⟩ := zipL_get _ _ _ _ hd
    rw [hd1] at he1; cases he1
    rw [hd2] at he2; cases he2
    exact pairNew R hT r1 r2
theorem walkD_zipT {a b : Addr} {ds es : List D} : WalkD C (RZ.ItzT C.K a b) (zipL ds es) (fun g => ∃ vs us, SqT C.K g a vs ∧ RepA C g vs ds ∧ SqT C.K g b us ∧ RepA C g us es) where
  mono := fun g g' e ⟨vs, us, h1, h2, h3, h4⟩ => ⟨vs, us, e.sqT h1, h2.mono e, e.sqT h3, h4.mono e⟩
  goes := fun i B ow H hi ⟨vs, us, h1, h2, h3, h4⟩ => by
    rw [zipL_len] at hi
    have hi1 : i < vs.length := by rw [h2.length]; omega
    have hi2 : i < us.length := by rw [h4.length]; omega
    exact ⟨vs, us, vs[i], us[i], hid_sqT h1, hid_sqT h3, by simp [hi1], by simp [hi2]⟩
  stops := fun B ow H ⟨vs, us, h1, h2, h3, h4⟩ => ⟨vs, us, hid_sqT h1, hid_sqT h3, by rw [zipL_len, h2.length, h4.length]; omega⟩
  yields := fun B ow s σ i H x H' d R hd ⟨vs, us, h1, h2, h3, h4⟩ y => by
    obtain ⟨T, u, w, rfl, hT, rfl, y1, y2⟩ := y
    have q1 := y1 vs (hid_sqT h1)
    have q2 := y2 us (hid_sqT h3)
    obtain ⟨d1, hd1, r1⟩ := h2.getV q1
    obtain ⟨d2, hd2, r2⟩ := h4.getV q2
    obtain ⟨e1, e2, he1, he2, rfl⟩ := zipL_get _ _ _ _ hd
    rw [hd1] at he1; cases he1
    rw [hd2] at he2; cases he2
    exact pairNew R hT r1 r2
end

/-! ### what is walked -/
def wpI (C : Cf) (E : XK) (B : Addr → Bool) (ow : Ow) (H : Hp) (σ : St) (o : Out D) (R : It → Hp → Prop) : Prop := match o with
  | .ok d s' => ∃ xs, items d = some xs ∧ ∀ ow' J H' G, SR C B ow' s' σ H' → Stp C B ow H ow' H' → xs.length ≤ LIM → WalkD C J xs G → G (hid B ow' H') → R J H'
  | .exc c τ => ∀ H', Fin C B ow H τ H' → E (.ref (C.cls c)) none H'
  | .bad => False
structure SdI (Φ : Nat → Fn) (gc : Nat → D) (C : Cf) (E : XK) (X : Cx) (a : Ex) (tg iter : Expr) (wi : TI) : Prop where
  pi : PI X tg iter wi
  ok : ∀ (B : Addr → Bool) (ow : Ow) (s : S) (σ : St) (H : Hp) (R : It → Hp → Prop), SR C B ow s σ H → wpI C E B ow H σ (ev Φ gc a s) R → wi σ H R
section
variable {Φ : Nat → Fn} {gc : Nat → D} {C : Cf} {E : XK} {X : Cx} {k : Nat} {B : Addr → Bool} {ow : Ow} {s : S} {σ : St} {H : Hp}
theorem sdi_seq {a : Ex} {e tg : Expr} {t : TE} (g : Gd C E X k) (h : Sd Φ gc C E X a e t) : SdI Φ gc C E X a tg e (iAny X t) := by
  refine ⟨pi_any h.pe, fun B ow s σ H R S w => ?_⟩
  refine h.ok B ow s σ H _ S ?_
  cases q : ev Φ gc a s with
  | ok d s1 =>
    rw [q] at w
    obtain ⟨xs, hx, w⟩ := w
    intro ow' v H' S' st r
    cases d <;> cases hx
    · cases r with
      | tup h1 h2 l => rw [g.hK]; exact ⟨_, rfl, .inr (.inl ⟨⟨_, hid_sqT h1⟩, w _ _ _ _ S' st l walkD_tup ⟨_, h1, h2⟩⟩)⟩
    · cases r with
      | lst h1 h2 l => rw [g.hK]; exact ⟨_, rfl, .inl ⟨⟨_, .inl (.inl (hid_le h1))⟩, w _ _ _ _ S' st l walkD_list ⟨_, h1, h2⟩⟩⟩
    · cases r with
      | @dK _ o kvs ds h1 h2 l =>
        have hl := h2.length
        rw [List.length_map] at hl
        have e1 : (((kvs.map fun p => kD p.1).zip ds).map (·.1)) = kvs.map fun p => kD p.1 := by
          rw [List.map_fst_zip]; rw [List.length_map]; omega
        rw [e1] at w
        exact ⟨_, rfl, .inr (.inr (.inl ⟨_, _, (hid_le h1), w _ _ _ _ S' st (by rw [List.length_map]; omega) (walkD_keys rfl) h1⟩))⟩
      | @dN _ o xs kds ds h1 h2 h3 h4 h5 l =>
        have hl := h5.length
        have hl2 := h2.length
        rw [List.length_map] at hl hl2
        have e1 : ((kds.zip ds).map (·.1)) = kds := by
          rw [List.map_fst_zip]; omega
        rw [e1] at w
        rw [g.hP, g.hw]
        exact ⟨_, rfl, .inr (.inr (.inr ⟨_, _, (hid_le h1), w _ _ _ _ S' st (by omega) walkD_keysN ⟨h1, h2⟩⟩))⟩
  | exc c τ => rw [q] at w; exact w
  | bad => rw [q] at w; exact w
/-- one argument, then an iterator -/
theorem bindI {a : Ex} {e : Expr} {t : TE} {f : D → S → Out D} {R : It → Hp → Prop} {Q : List V → Hp → Prop} (h : Sd Φ gc C E X a e t) (S : SR C B ow s σ H) (w : wpI C E B ow H σ ((ev Φ gc a s).bind f) R)
    (hq : ∀ d s1 ow1 v H1, SR C B ow1 s1 σ H1 → Stp C B ow H ow1 H1 → Rep C (hid B ow1 H1) v d → wpI C E B ow1 H1 σ (f d s1) R → Q [v] H1) : tCons t tNil σ H Q := by
  show t σ H fun x H1 => Q [x] H1
  refine h.ok B ow s σ H _ S ?_
  cases q : ev Φ gc a s with
  | ok d s1 =>
    rw [q] at w
    intro ow1 v H1 S1 st r
    refine hq d s1 ow1 v H1 S1 st r ?_
    change wpI C E B ow H σ (f d s1) R at w
    revert w
    unfold wpI
    cases f d s1 with
    | ok d2 s2 => exact fun ⟨xs, h1, h2⟩ => ⟨xs, h1, fun ow' J H' G R' st' => h2 ow' J H' G R' (st.trans st')⟩
    | exc c τ => exact fun h H' f => h H' (f.step st)
    | bad => exact fun h => h
  | exc c τ => rw [q] at w; exact w
  | bad => rw [q] at w; exact w
theorem bindI2 {a b : Ex} {e e' : Expr} {t t' : TE} {f : D → D → S → Out D} {R : It → Hp → Prop} {Q : List V → Hp → Prop} (h : Sd Φ gc C E X a e t) (h' : Sd Φ gc C E X b e' t') (S : SR C B ow s σ H) (w : wpI C E B ow H σ ((ev Φ gc a s).bind fun x s1 => (ev Φ gc b s1).bind (f x)) R)
    (hq : ∀ d d2 s1 ow1 v u H1, SR C B ow1 s1 σ H1 → Stp C B ow H ow1 H1 → Rep C (hid B ow1 H1) v d → Rep C (hid B ow1 H1) u d2 → wpI C E B ow1 H1 σ (f d d2 s1) R → Q [v, u] H1) : tCons t (tCons t' tNil) σ H Q := by
  show t σ H fun x H1 => tCons t' tNil σ H1 fun xs H2 => Q (x :: xs) H2
  refine bindI (Q := fun vs H1 => tCons t' tNil σ H1 fun xs H2 => Q (vs.headD .non :: xs) H2) h S w fun d s1 ow1 v H1 S1 st r w1 => ?_
  refine bindI h' S1 w1 fun d2 s2 ow2 u H2 S2 st2 r2 w2 => ?_
  exact hq d d2 s2 ow2 v u H2 S2 (st.trans st2) (r.mono st2.fr) r2 w2
theorem starEach1 {e : Expr} (h : plainE e = true) {env : Env} : starEach [e] env = [(false, eval e env)] := by rw [starEach_plain h]; rfl
theorem sdi_rng {a : Ex} {e tg : Expr} {t : TE} {p pos : Pos} (g : Gd C E X k) (h : Sd Φ gc C E X a e t) (hp : plainE e = true) (hg : glB X.env.scope "range" = true) : ∃ wi, SdI Φ gc C E X (.rng a) tg (.Call (.Name "range" p) [e] [] pos) wi := by
  refine ⟨_, pi_range1 (gl_of hg) (g.blt _ (by decide +kernel)) (pa_cons h.pe pa_nil (starEach_plain hp)) (starEach1 hp), fun B ow s σ H R S w => ?_⟩
  unfold ev at w
  refine bindI h S w fun d s1 ow1 v H1 S1 st r w1 => ?_
  cases d <;> first | exact w1.elim | skip
  cases r
  simp only [rngD] at w1
  split at w1
  · rename_i q
    obtain ⟨xs, hx, w1⟩ := w1
    cases hx
    rw [Int.sub_zero] at w1
    have hL : LIM = 16777216 := rfl
    have q2 := q.2.1
    exact ⟨_, rfl, by omega, by omega, w1 _ _ _ _ S1 Stp.refl (by rw [rngL_len]; have := q.2.2; rwa [Int.sub_zero] at this) walkD_rng trivial⟩
  · exact w1.elim
theorem sdi_rng2 {a b : Ex} {e e' tg : Expr} {t t' : TE} {p pos : Pos} (g : Gd C E X k) (h : Sd Φ gc C E X a e t) (h' : Sd Φ gc C E X b e' t') (hp : plainE e = true) (hp' : plainE e' = true) (hg : glB X.env.scope "range" = true) : ∃ wi, SdI Φ gc C E X (.rng2 a b) tg (.Call (.Name "range" p) [e, e'] [] pos) wi := by
  refine ⟨_, pi_range2 (gl_of hg) (g.blt _ (by decide +kernel)) (pa_cons h.pe (pa_cons h'.pe pa_nil (starEach_plain hp')) (starEach_plain hp)) (by rw [starEach_plain hp, starEach1 hp']) (starEach1 hp'), fun B ow s σ H R S w => ?_⟩
  unfold ev at w
  refine bindI2 h h' S w fun d d2 s1 ow1 v u H1 S1 st r r2 w1 => ?_
  cases d <;> cases d2 <;> first | exact w1.elim | skip
  cases r
  cases r2
  simp only [rngD] at w1
  split at w1
  · rename_i q
    obtain ⟨xs, hx, w1⟩ := w1
    cases hx
    have hL : LIM = 16777216 := rfl
    have q1 := q.1
    have q2 := q.2.1
    exact ⟨_, _, rfl, ⟨by omega, by omega, by omega, by omega⟩, w1 _ _ _ _ S1 Stp.refl (by rw [rngL_len]; exact q.2.2) walkD_rng trivial⟩
  · exact w1.elim
theorem sdi_enm {a : Ex} {e : Expr} {t : TE} {p pos tpos : Pos} {elts : List Expr} {kk : Nat} (g : Gd C E X k) (h : Sd Φ gc C E X a e t) (hp : plainE e = true) (hg : glB X.env.scope "enumerate" = true) : ∃ wi, SdI Φ gc C E X (.enm a) (.Tuple elts kk tpos) (.Call (.Name "enumerate" p) [e] [] pos) wi := by
  refine ⟨_, pi_enumA (gl_of hg) (g.blt _ (by decide +kernel)) (pa_cons h.pe pa_nil (starEach_plain hp)) (starEach1 hp), fun B ow s σ H R S w => ?_⟩
  unfold ev at w
  refine bindI h S w fun d s1 ow1 v H1 S1 st r w1 => ?_
  cases d <;> first | exact w1.elim | skip
  · obtain ⟨xs, hx, w1⟩ := w1
    cases hx
    cases r with
    | tup h1 h2 l => rw [g.hK]; exact ⟨_, rfl, .inr ⟨⟨_, hid_sqT h1⟩, w1 _ _ _ _ S1 Stp.refl (by rw [enumL_len]; exact l) walkD_enumT ⟨_, h1, h2⟩⟩⟩
  · obtain ⟨xs, hx, w1⟩ := w1
    cases hx
    cases r with
    | lst h1 h2 l => rw [g.hK]; exact ⟨_, rfl, .inl ⟨⟨_, .inl (.inl (hid_le h1))⟩, w1 _ _ _ _ S1 Stp.refl (by rw [enumL_len]; exact l) walkD_enum ⟨_, h1, h2⟩⟩⟩
/-- two lists, or two tuples -/
def alikeS : D → D → Bool
  | .lst _, .lst _ => true
  | .tup _, .tup _ => true
  | _, _ => false
theorem sdi_zip {a b : Ex} {e e' : Expr} {t t' : TE} {p pos tpos : Pos} {elts : List Expr} {kk : Nat} (g : Gd C E X k) (h : Sd Φ gc C E X a e t) (h' : Sd Φ gc C E X b e' t') (hp : plainE e = true) (hp' : plainE e' = true) (hg : glB X.env.scope "zip" = true) : ∃ wi, SdI Φ gc C E X (.zip a b) (.Tuple elts kk tpos) (.Call (.Name "zip" p) [e, e'] [] pos) wi := by
  refine ⟨_, RZ.pi_zipA (gl_of hg) (g.blt _ (by decide +kernel)) (pa_cons h.pe (pa_cons h'.pe pa_nil (starEach_plain hp')) (starEach_plain hp)) (starEach_plain hp) (noStar (by simp [hp'])), fun B ow s σ H R S w => ?_⟩
  unfold ev at w
  refine bindI2 h h' S w fun d d2 s1 ow1 v u H1 S1 st r r2 w1 => ?_
  cases d <;> cases d2 <;> first | exact w1.elim | skip
  · obtain ⟨xs, hx, w1⟩ := w1
    cases hx
    cases r with
    | tup h1 h2 l => cases r2 with
      | tup h3 h4 _ => rw [g.hK]; exact ⟨_, _, _, _, rfl, .inr ⟨hid_sqT h1, hid_sqT h3, w1 _ _ _ _ S1 Stp.refl (by rw [zipL_len]; omega) walkD_zipT ⟨_, _, h1, h2, h3, h4⟩⟩⟩
  · obtain ⟨xs, hx, w1⟩ := w1
    cases hx
    cases r with
    | lst h1 h2 l => cases r2 with
      | lst h3 h4 _ => rw [g.hK]; exact ⟨_, _, _, _, rfl, .inl ⟨.inl (.inl (hid_le h1)), .inl (.inl (hid_le h3)), w1 _ _ _ _ S1 Stp.refl (by rw [zipL_len]; omega) walkD_zip ⟨_, _, h1, h2, h3, h4⟩⟩⟩
end
end Mn

set_option Elab.async false
set_option linter.all false
set_option maxRecDepth 100000
set_option maxHeartbeats 2000000
/-! ### enumerate(zip(a, b)) over two tuples -/
namespace Mn
open PySem L2
abbrev ZipAt (h : Heap) (z TI TO : Addr) (f0 : Value) (f1 : Bool) : Prop := h.get? z = some { cls := .type "zip", dict := none, data := .fields #[f0, .bool f1, .bool false, .ref TI, .ref TO], slots := #[] }
def Zf0 (f0 : Value) : Prop := f0 = .none ∨ ∃ T : Nat, f0 = rawInt (T : Int)
section
variable {prog : Program} {w : World} {A : Around} {E : Value → Shared → Prop} {s : Shared} {z TI TO i1 i2 : Addr} {f0 : Value} {f1 : Bool} {fp1 fp2 : List Addr} {n1 n2 i : Nat} {P1 P2 : Nat → Value → Prop} {St1 St2 : Nat → Heap → Prop} {a1 a2 : Value}
theorem alive_any {a : Addr} {Q : Option Obj → Shared → Prop} (h : Q (s.heap.get? a) s) : wpAny (model prog w) A (loadIfAlive a) Q E s := fun _ _ _ => h
theorem zfree {Q : Bool → Shared → Prop} (hZ : ZipAt s.heap z TI TO f0 f1) (h0 : Zf0 f0) (k : ∀ b h' g1, ZipAt h' z TI TO f0 g1 → Heap.SameBut z s.heap h' → Q b { s with heap := h' }) :
    wpAny (model prog w) A (Builtin.SmallTypes.ownedTupleIsFree (.ref z)) Q E s := by
  unfold Builtin.SmallTypes.ownedTupleIsFree
  refine wpAny_bind (wpAny_field hZ rfl (x := f0) rfl ?_)
  rcases h0 with e | ⟨T, e⟩
  · subst e
    exact wpAny_pure (k true s.heap f1 hZ (Heap.SameBut.refl _ _))
  · subst e
    show wpAny _ _ (loadIfAlive ((T : Int).toNat) >>= _) _ _ _
    refine wpAny_bind (alive_any ?_)
    cases s.heap.get? ((T : Int).toNat) with
    | none =>
      simp only [Option.isNone_none, if_true]
      exact wpAny_pure (k true s.heap f1 hZ (Heap.SameBut.refl _ _))
    | some o =>
      simp only [Option.isNone_some, Bool.false_eq_true, if_false]
      refine wpAny_bind (wpAny_field hZ rfl (x := .bool f1) rfl ?_)
      cases f1 with
      | true =>
        rw [if_neg (by decide)]
        exact wpAny_pure (k false s.heap true hZ (Heap.SameBut.refl _ _))
      | false =>
        rw [if_pos (by decide)]
        exact wpAny_bind (wpAny_setField_rec hZ (by simp) fun h1 hZ1 sb1 => wpAny_pure (k false h1 true hZ1 sb1))
/-- zip's next, whatever became of the tuples it gave -/
theorem zitem {Q : Value → Shared → Prop} (S : ZipSep2 z TI TO i1 i2 fp1 fp2) (D1 : Draws prog w A i1 fp1 n1 P1 St1) (D2 : Draws prog w A i2 fp2 n2 P2 St2)
    (hZ : ZipAt s.heap z TI TO f0 f1) (h0 : Zf0 f0) (hI : IsTupOf2 s.heap TI (.ref i1) (.ref i2)) (hO : IsTupOf2 s.heap TO a1 a2) (t1 : St1 i s.heap) (t2 : St2 i s.heap) (l1 : i < n1) (l2 : i < n2)
    (k : ∀ x1 x2 h' tk, P1 i x1 → P2 i x2 → (∃ g0 g1, ZipAt h' z TI TO g0 g1 ∧ Zf0 g0) → IsTupOf2 h' TI (.ref i1) (.ref i2) → (∃ b1 b2, IsTupOf2 h' TO b1 b2) → St1 (i + 1) h' → St2 (i + 1) h' → IsTupOf2 h' s.heap.objs.size x1 x2 →
      h'.objs.size = s.heap.objs.size + 1 → (∀ c o, c ≠ z → c ≠ TO → c ≠ i1 → c ≠ i2 → s.heap.get? c = some o → h'.get? c = some o) → Q (.ref s.heap.objs.size) { s with heap := h', toks := tk }) :
    wpAny (model prog w) A (Builtin.«zip.__next__» ⟨[.ref z], []⟩) (fun fin s' => ∃ v, fin = .done (.ret v) ∧ Q v s') E s := by
  obtain ⟨hp, gn, dr, tk0, os⟩ := s
  show wpAny _ _ (field (.ref z) 2 >>= _) _ _ _
  refine wpAny_bind (wpAny_field hZ rfl (x := .bool false) rfl (show wpAny _ _ (field (.ref z) 3 >>= _) _ _ _ from wpAny_bind (wpAny_field hZ rfl (x := .ref TI) rfl (wpAny_bind (wpAny_seqItems hI rfl ?_)))))
  refine wpAny_bind (zfree hZ h0 fun b p g1 hZp sbp => ?_)
  replace sbp : Heap.SameBut z hp p := sbp
  have t1p := D1.over t1 sbp S.zf1
  have t2p := D2.over t2 sbp S.zf2
  cases b with
  | true =>
    simp only [if_true]
    refine wpAny_bind (wpAny_rule (wpAny_bind (wpAny_field hZp rfl (x := .ref TO) rfl (wpAny_bind (wpAny_setField_rec hZp (by simp) fun q0 hZ0 sb0 => ?_)))))
    replace hZ0 : ZipAt q0 z TI TO .ellipsis g1 := hZ0
    replace sb0 : Heap.SameBut z p q0 := sb0
    refine wpAny_bind ?_
    simp only [List.zipIdx_cons, List.zipIdx_nil, List.forIn_cons, List.forIn_nil]
    refine wpAny_bind (wpAny_bind (wpAny_onRaise (show wpAny _ _ (Builtin.SmallTypes.nextOf (.ref i1) >>= _) _ _ ⟨q0, gn, dr, tk0, os⟩ from ?_)))
    refine wpAny_bind (D1.item i _ _ _ l1 (D1.over t1p sb0 S.zf1) fun x1 q1 tk1 hx1 u1 sb1 => wpAny_pure ?_)
    replace sb1 : Heap.SameBut i1 q0 q1 := sb1
    have hO1 : IsTupOf2 q1 TO a1 a2 := sb1.extBut _ _ S.Ti1 (sb0.extBut _ _ S.TOz (sbp.extBut _ _ S.TOz hO))
    refine wpAny_bind (wpAny_seqItems (s := ⟨q1, gn, dr, tk1, os⟩) hO1 rfl (wpAny_bind (updateSeq_IsTupOf2 (s := ⟨q1, gn, dr, tk1, os⟩) hO1 fun q2 hO2 sb2 => ?_)))
    replace hO2 : IsTupOf2 q2 TO x1 a2 := hO2
    replace sb2 : Heap.SameBut TO q1 q2 := sb2
    refine wpAny_bind (wpAny_letGo (wpAny_pure (wpAny_bind (wpAny_bind (wpAny_onRaise (show wpAny _ _ (Builtin.SmallTypes.nextOf (.ref i2) >>= _) _ _ ⟨q2, gn, dr, tk1, os⟩ from ?_))))))
    refine wpAny_bind (D2.item i _ _ _ l2 (D2.over (D2.over (D2.over t2p sb0 S.zf2) sb1 S.sep1_2) sb2 S.Tf2) fun x2 q3 tk2 hx2 u2 sb3 => wpAny_pure ?_)
    replace sb3 : Heap.SameBut i2 q2 q3 := sb3
    have hO3 : IsTupOf2 q3 TO x1 a2 := sb3.extBut _ _ S.Ti2 hO2
    refine wpAny_bind (wpAny_seqItems (s := ⟨q3, gn, dr, tk2, os⟩) hO3 rfl (wpAny_bind (updateSeq_IsTupOf2 (s := ⟨q3, gn, dr, tk2, os⟩) hO3 fun q4 hO4 sb4 => ?_)))
    replace hO4 : IsTupOf2 q4 TO x1 x2 := hO4
    replace sb4 : Heap.SameBut TO q3 q4 := sb4
    refine wpAny_bind (wpAny_letGo (wpAny_pure (wpAny_pure (wpAny_bind (wpAny_seqItems (s := ⟨q4, gn, dr, tk2, os⟩) hO4 rfl (wpAny_bind (wpAny_newTuple ?_)))))))
    have sz : q4.objs.size = hp.objs.size := by rw [sb4.1, sb3.1, sb2.1, sb1.1, sb0.1, sbp.1]
    have hZ4 : ZipAt q4 z TI TO .ellipsis g1 := sb4.extBut _ _ S.TOz.symm (sb3.extBut _ _ S.zi2 (sb2.extBut _ _ S.TOz.symm (sb1.extBut _ _ S.zi1 hZ0)))
    have kp : ∀ c o, c ≠ z → c ≠ TO → c ≠ i1 → c ≠ i2 → hp.get? c = some o → q4.get? c = some o := fun c o cz cT c1 c2 e =>
      sb4.extBut _ _ cT (sb3.extBut _ _ c2 (sb2.extBut _ _ cT (sb1.extBut _ _ c1 (sb0.extBut _ _ cz (sbp.extBut _ _ cz e)))))
    have v1 : St1 (i + 1) q4 := D1.over (D1.over (D1.over u1 sb2 S.Tf1) sb3 S.sep2_1) sb4 S.Tf1
    have v2 : St2 (i + 1) q4 := D2.over u2 sb4 S.Tf2
    have zl : z < q4.objs.size := Heap.lt_size hZ4
    show wpAny _ _ (Builtin.SmallTypes.ownedTupleHandOut (.ref z) (.ref q4.objs.size) >>= _) _ _ ⟨q4.push { cls := .type "tuple", data := .seq #[x1, x2] }, gn, dr, tk2, os⟩
    refine wpAny_bind ?_
    unfold Builtin.SmallTypes.ownedTupleHandOut
    have hZ5 : ZipAt (q4.push { cls := .type "tuple", data := .seq #[x1, x2] }) z TI TO .ellipsis g1 := Heap.get?_push_of_some _ hZ4
    refine wpAny_bind (wpAny_setField_rec hZ5 (by simp) fun q6 hZ6 sb6 => ?_)
    replace hZ6 : ZipAt q6 z TI TO (rawInt q4.objs.size) g1 := hZ6
    refine wpAny_setField_rec hZ6 (by simp) fun q7 hZ7 sb7 => ?_
    replace hZ7 : ZipAt q7 z TI TO (rawInt q4.objs.size) false := hZ7
    replace sb6 : Heap.SameBut z (q4.push { cls := .type "tuple", data := .seq #[x1, x2] }) q6 := sb6
    replace sb7 : Heap.SameBut z q6 q7 := sb7
    have up : ∀ c o, c ≠ z → q4.get? c = some o → q7.get? c = some o := fun c o c1 e => sb7.extBut _ _ c1 (sb6.extBut _ _ c1 (Heap.get?_push_of_some _ e))
    have hT : IsTupOf2 q7 q4.objs.size x1 x2 := sb7.extBut _ _ (Nat.ne_of_gt zl) (sb6.extBut _ _ (Nat.ne_of_gt zl) (Heap.get?_push_size _ rfl))
    have s7 : q7.objs.size = q4.objs.size + 1 := by rw [sb7.1, sb6.1, Heap.size_push]
    rw [sz] at hZ7 hT s7
    refine wpAny_pure ⟨_, rfl, ?_⟩
    show Q (.ref q4.objs.size) ⟨q7, gn, dr, tk2, os⟩
    rw [sz]
    exact k x1 x2 q7 tk2 hx1 hx2 ⟨_, _, hZ7, .inr ⟨_, rfl⟩⟩ (up _ _ S.TIz (kp _ _ S.TIz S.TITO S.TIi1 S.TIi2 hI)) ⟨_, _, up _ _ S.TOz hO4⟩ (D1.frame _ _ _ v1 fun b hb o e => up b o (fun q => S.zf1 (q ▸ hb)) e) (D2.frame _ _ _ v2 fun b hb o e => up b o (fun q => S.zf2 (q ▸ hb)) e) hT s7
      fun c o cz cT c1 c2 e => up c o cz (kp c o cz cT c1 c2 e)
  | false =>
    simp only [Bool.false_eq_true, if_false]
    refine wpAny_bind ?_
    rw [← Array.forIn_toList]
    simp only [List.forIn_cons, List.forIn_nil]
    refine wpAny_bind (wpAny_bind (wpAny_holding (show wpAny _ _ (Builtin.SmallTypes.nextOf (.ref i1) >>= _) _ _ ⟨p, gn, dr, tk0, os⟩ from ?_)))
    refine wpAny_bind (D1.item i _ _ _ l1 t1p fun x1 q1 tk1 hx1 u1 sb1 => wpAny_pure (wpAny_pure ?_))
    replace sb1 : Heap.SameBut i1 p q1 := sb1
    refine wpAny_bind (wpAny_bind (wpAny_holding (show wpAny _ _ (Builtin.SmallTypes.nextOf (.ref i2) >>= _) _ _ ⟨q1, gn, dr, tk1, os⟩ from ?_)))
    refine wpAny_bind (D2.item i _ _ _ l2 (D2.over t2p sb1 S.sep1_2) fun x2 q2 tk2 hx2 u2 sb2 => wpAny_pure (wpAny_pure (wpAny_pure ?_)))
    replace sb2 : Heap.SameBut i2 q1 q2 := sb2
    show wpAny _ _ (newTuple [x1, x2] >>= _) _ _ ⟨q2, gn, dr, tk2, os⟩
    refine wpAny_bind (wpAny_newTuple ?_)
    have sz : q2.objs.size = hp.objs.size := by rw [sb2.1, sb1.1, sbp.1]
    have hZ2 : ZipAt q2 z TI TO f0 g1 := sb2.extBut _ _ S.zi2 (sb1.extBut _ _ S.zi1 hZp)
    have kp : ∀ c o, c ≠ z → c ≠ TO → c ≠ i1 → c ≠ i2 → hp.get? c = some o → q2.get? c = some o := fun c o cz _ c1 c2 e => sb2.extBut _ _ c2 (sb1.extBut _ _ c1 (sbp.extBut _ _ cz e))
    have hO2 : IsTupOf2 q2 TO a1 a2 := sb2.extBut _ _ S.Ti2 (sb1.extBut _ _ S.Ti1 (sbp.extBut _ _ S.TOz hO))
    have v1 : St1 (i + 1) q2 := D1.over u1 sb2 S.sep2_1
    refine wpAny_pure ⟨_, rfl, ?_⟩
    show Q (.ref q2.objs.size) ⟨q2.push { cls := .type "tuple", data := .seq #[x1, x2] }, gn, dr, tk2, os⟩
    have hT : IsTupOf2 (q2.push { cls := .type "tuple", data := .seq #[x1, x2] }) q2.objs.size x1 x2 := Heap.get?_push_size _ rfl
    have s3 : (q2.push { cls := .type "tuple", data := .seq #[x1, x2] }).objs.size = q2.objs.size + 1 := Heap.size_push ..
    have up : ∀ c o, q2.get? c = some o → (q2.push { cls := .type "tuple", data := .seq #[x1, x2] }).get? c = some o := fun c o e => Heap.get?_push_of_some _ e
    rw [sz] at hT s3 ⊢
    exact k x1 x2 _ tk2 hx1 hx2 ⟨_, _, up _ _ hZ2, h0⟩ (up _ _ (kp _ _ S.TIz S.TITO S.TIi1 S.TIi2 hI)) ⟨_, _, up _ _ hO2⟩ (D1.frame _ _ _ v1 fun b hb o e => up b o e) (D2.frame _ _ _ u2 fun b hb o e => up b o e) hT s3 fun c o cz cT c1 c2 e => up c o (kp c o cz cT c1 c2 e)
/-- zip's end -/
theorem zend {Q : PySem.Fin → Shared → Prop} (S : ZipSep2 z TI TO i1 i2 fp1 fp2) (D1 : Draws prog w A i1 fp1 n1 P1 St1) (D2 : Draws prog w A i2 fp2 n2 P2 St2)
    (hZ : ZipAt s.heap z TI TO f0 f1) (h0 : Zf0 f0) (hI : IsTupOf2 s.heap TI (.ref i1) (.ref i2)) (hO : IsTupOf2 s.heap TO a1 a2) (t1 : St1 i s.heap) (t2 : St2 i s.heap) (l1 : i ≤ n1) (l2 : i ≤ n2) (le : i = n1 ∨ i = n2)
    (k : ∀ h' tk e, (∀ c o, c ≠ z → c ≠ TO → c ≠ i1 → c ≠ i2 → s.heap.get? c = some o → h'.get? c = some o) → (∃ o, h'.get? e = some o ∧ o.cls = .type "StopIteration") → E (.ref e) { s with heap := h', toks := tk }) :
    wpAny (model prog w) A (Builtin.«zip.__next__» ⟨[.ref z], []⟩) Q E s := by
  obtain ⟨hp, gn, dr, tk0, os⟩ := s
  show wpAny _ _ (field (.ref z) 2 >>= _) _ _ _
  refine wpAny_bind (wpAny_field hZ rfl (x := .bool false) rfl (show wpAny _ _ (field (.ref z) 3 >>= _) _ _ _ from wpAny_bind (wpAny_field hZ rfl (x := .ref TI) rfl (wpAny_bind (wpAny_seqItems hI rfl ?_)))))
  refine wpAny_bind (zfree hZ h0 fun b p g1 hZp sbp => ?_)
  replace sbp : Heap.SameBut z hp p := sbp
  have t1p := D1.over t1 sbp S.zf1
  have t2p := D2.over t2 sbp S.zf2
  cases b with
  | true =>
    simp only [if_true]
    refine wpAny_bind (wpAny_rule (wpAny_bind (wpAny_field hZp rfl (x := .ref TO) rfl (wpAny_bind (wpAny_setField_rec hZp (by simp) fun q0 hZ0 sb0 => ?_)))))
    replace hZ0 : ZipAt q0 z TI TO .ellipsis g1 := hZ0
    replace sb0 : Heap.SameBut z p q0 := sb0
    refine wpAny_bind ?_
    simp only [List.zipIdx_cons, List.zipIdx_nil, List.forIn_cons, List.forIn_nil]
    refine wpAny_bind (wpAny_bind (wpAny_onRaise (show wpAny _ _ (Builtin.SmallTypes.nextOf (.ref i1) >>= _) _ _ ⟨q0, gn, dr, tk0, os⟩ from ?_)))
    by_cases c1 : i < n1
    · refine wpAny_bind (D1.item i _ _ _ c1 (D1.over t1p sb0 S.zf1) fun x1 q1 tk1 hx1 u1 sb1 => wpAny_pure ?_)
      replace sb1 : Heap.SameBut i1 q0 q1 := sb1
      have hO1 : IsTupOf2 q1 TO a1 a2 := sb1.extBut _ _ S.Ti1 (sb0.extBut _ _ S.TOz (sbp.extBut _ _ S.TOz hO))
      refine wpAny_bind (wpAny_seqItems (s := ⟨q1, gn, dr, tk1, os⟩) hO1 rfl (wpAny_bind (updateSeq_IsTupOf2 (s := ⟨q1, gn, dr, tk1, os⟩) hO1 fun q2 hO2 sb2 => ?_)))
      replace sb2 : Heap.SameBut TO q1 q2 := sb2
      have e2 : i = n2 := by omega
      refine wpAny_bind (wpAny_letGo (wpAny_pure (wpAny_bind (wpAny_bind (wpAny_onRaise (show wpAny _ _ (Builtin.SmallTypes.nextOf (.ref i2) >>= _) _ _ ⟨q2, gn, dr, tk1, os⟩ from ?_))))))
      refine wpAny_bind (D2.done ⟨q2, gn, dr, tk1, os⟩ _ _ (by rw [← e2]; exact D2.over (D2.over (D2.over t2p sb0 S.zf2) sb1 S.sep1_2) sb2 S.Tf2) fun q x xq ⟨oe, hoe, hce⟩ => ?_)
      replace xq : Heap.ExtBut i2 q2 q := xq
      replace hoe : q.get? x = some oe := hoe
      have hZq : ZipAt q z TI TO .ellipsis g1 := xq _ _ S.zi2 (sb2.extBut _ _ S.TOz.symm (sb1.extBut _ _ S.zi1 hZ0))
      have xz : x ≠ z := fun y => by subst y; rw [hZq] at hoe; cases hoe; simp at hce
      refine wpAny_setField_rec (s := ⟨q, gn, dr, tk1, os⟩) hZq (by simp) fun q' _ sbq => ?_
      replace sbq : Heap.SameBut z q q' := sbq
      exact k q' tk1 x (fun c o cz cT d1 d2 y => sbq.extBut _ _ cz (xq _ _ d2 (sb2.extBut _ _ cT (sb1.extBut _ _ d1 (sb0.extBut _ _ cz (sbp.extBut _ _ cz y)))))) ⟨oe, sbq.extBut _ _ xz hoe, hce⟩
    · have e1 : i = n1 := by omega
      refine wpAny_bind (D1.done ⟨q0, gn, dr, tk0, os⟩ _ _ (by rw [← e1]; exact D1.over t1p sb0 S.zf1) fun q x xq ⟨oe, hoe, hce⟩ => ?_)
      replace xq : Heap.ExtBut i1 q0 q := xq
      replace hoe : q.get? x = some oe := hoe
      have hZq : ZipAt q z TI TO .ellipsis g1 := xq _ _ S.zi1 hZ0
      have xz : x ≠ z := fun y => by subst y; rw [hZq] at hoe; cases hoe; simp at hce
      refine wpAny_setField_rec (s := ⟨q, gn, dr, tk0, os⟩) hZq (by simp) fun q' _ sbq => ?_
      replace sbq : Heap.SameBut z q q' := sbq
      exact k q' tk0 x (fun c o cz cT d1 d2 y => sbq.extBut _ _ cz (xq _ _ d1 (sb0.extBut _ _ cz (sbp.extBut _ _ cz y)))) ⟨oe, sbq.extBut _ _ xz hoe, hce⟩
  | false =>
    simp only [Bool.false_eq_true, if_false]
    refine wpAny_bind ?_
    rw [← Array.forIn_toList]
    simp only [List.forIn_cons, List.forIn_nil]
    refine wpAny_bind (wpAny_bind (wpAny_holding (show wpAny _ _ (Builtin.SmallTypes.nextOf (.ref i1) >>= _) _ _ ⟨p, gn, dr, tk0, os⟩ from ?_)))
    by_cases c1 : i < n1
    · refine wpAny_bind (D1.item i _ _ _ c1 t1p fun x1 q1 tk1 hx1 u1 sb1 => wpAny_pure (wpAny_pure ?_))
      replace sb1 : Heap.SameBut i1 p q1 := sb1
      have e2 : i = n2 := by omega
      refine wpAny_bind (wpAny_bind (wpAny_holding (show wpAny _ _ (Builtin.SmallTypes.nextOf (.ref i2) >>= _) _ _ ⟨q1, gn, dr, tk1, os⟩ from ?_)))
      refine wpAny_bind (D2.done ⟨q1, gn, dr, tk1, os⟩ _ _ (by rw [← e2]; exact D2.over t2p sb1 S.sep1_2) fun q x xq he => ?_)
      exact k q tk1 x (fun c o cz cT d1 d2 y => xq _ _ d2 (sb1.extBut _ _ d1 (sbp.extBut _ _ cz y))) he
    · have e1 : i = n1 := by omega
      refine wpAny_bind (D1.done ⟨p, gn, dr, tk0, os⟩ _ _ (by rw [← e1]; exact t1p) fun q x xq he => ?_)
      exact k q tk0 x (fun c o cz cT d1 d2 y => xq _ _ d1 (sbp.extBut _ _ cz y)) he
/-- enumerate's next over such a zip -/
theorem eitem {e : Addr} {c : Int} {old : Value} {Q : Option Value → Shared → Prop} (S : ZipSep2 z TI TO i1 i2 fp1 fp2) (D1 : Draws prog w A.in1.in1 i1 fp1 n1 P1 St1) (D2 : Draws prog w A.in1.in1 i2 fp2 n2 P2 St2)
    (he : IsEnum s.heap e z c old) (hZ : ZipAt s.heap z TI TO f0 f1) (h0 : Zf0 f0) (hI : IsTupOf2 s.heap TI (.ref i1) (.ref i2)) (hO : IsTupOf2 s.heap TO a1 a2) (t1 : St1 i s.heap) (t2 : St2 i s.heap) (l1 : i < n1) (l2 : i < n2)
    (ez : e ≠ z) (eI : e ≠ TI) (eO : e ≠ TO) (e1 : e ∉ fp1) (e2 : e ∉ fp2)
    (k : ∀ x1 x2 p h' tk, P1 i x1 → P2 i x2 → (∃ g0 g1, ZipAt h' z TI TO g0 g1 ∧ Zf0 g0) → IsTupOf2 h' TI (.ref i1) (.ref i2) → (∃ b1 b2, IsTupOf2 h' TO b1 b2) → St1 (i + 1) h' → St2 (i + 1) h' → IsEnumOut h' e z (c + 1) (.ref s.heap.objs.size) (s.heap.objs.size + 1) →
      IsTupOf2 p s.heap.objs.size x1 x2 → p.objs.size = s.heap.objs.size + 1 → (∀ c o, c ≠ z → c ≠ TO → c ≠ i1 → c ≠ i2 → s.heap.get? c = some o → p.get? c = some o) →
      h'.get? (s.heap.objs.size + 1) = some { cls := .type "tuple", data := .seq #[.int c tk, .ref s.heap.objs.size] } → (∀ b o, b ≠ e → p.get? b = some o → h'.get? b = some o) → Q (some (.ref (s.heap.objs.size + 1))) { s with heap := h', toks := tk + 1 }) :
    wpAny (model prog w) A (pyNext (.ref e)) Q E s := by
  obtain ⟨hp, gn, dr, tk0, os⟩ := s
  have hTe : (⟨hp, gn, dr, tk0, os⟩ : Shared).TypeIs (.ref e) "enumerate" := ⟨_, he, rfl⟩
  have hTz : (⟨hp, gn, dr, tk0, os⟩ : Shared).TypeIs (.ref z) "zip" := ⟨_, hZ, rfl⟩
  unfold pyNext
  refine wpAny_bind (wpAny_attempt (wpAny_callSpecial?_slot (name := Str.ofString "__next__") hTe F.slot_enumerate_next (wpAny_call_entry F.slot_enumerate_next hTe F.entry_enumerate_next ?_ (F.args_enumerate_next_1 _))))
  show wpAny _ _ (field (.ref e) 2 >>= _) _ _ _
  refine wpAny_bind (wpAny_field he rfl (x := .ref z) rfl (wpAny_bind ?_))
  unfold Builtin.SmallTypes.nextOf
  refine wpAny_bind (wpAny_callSpecial?_slot (name := Str.ofString "__next__") hTz F.slot_zip_next (wpAny_call_entry F.slot_zip_next hTz F.entry_zip_next
    (zitem S D1 D2 hZ h0 hI hO t1 t2 l1 l2 fun x1 x2 p tk hx1 hx2 zs hIp hOp u1 u2 hT sz kp => wpAny_pure ?_) (F.args_zip_next_1 _)))
  replace sz : p.objs.size = hp.objs.size + 1 := sz
  replace kp : ∀ c o, c ≠ z → c ≠ TO → c ≠ i1 → c ≠ i2 → hp.get? c = some o → p.get? c = some o := kp
  have ei1 : e ≠ i1 := fun q => e1 (q ▸ S.mem1)
  have ei2 : e ≠ i2 := fun q => e2 (q ▸ S.mem2)
  have hep : IsEnum p e z c old := kp e _ ez eO ei1 ei2 he
  show wpAny _ _ (field (.ref e) 3 >>= _) _ _ ⟨p, gn, dr, tk, os⟩
  refine wpAny_bind (wpAny_field hep rfl (x := rawInt c) rfl (show wpAny _ _ (field (.ref e) 4 >>= _) _ _ ⟨p, gn, dr, tk, os⟩ from wpAny_bind (wpAny_field hep rfl (x := .none) rfl ?_)))
  show wpAny _ _ (mkInt c >>= _) _ _ ⟨p, gn, dr, tk, os⟩
  refine wpAny_bind (wpAny_mkInt (show wpAny _ _ (setField (.ref e) 3 (rawInt (c + 1)) >>= _) _ _ ⟨p, gn, dr, tk + 1, os⟩ from wpAny_bind (wpAny_setField_rec hep (by simp) fun q1 h1 sb1 => ?_)))
  replace sb1 : Heap.SameBut e p q1 := sb1
  replace h1 : IsEnum q1 e z (c + 1) old := h1
  show wpAny _ _ (setField (.ref e) 4 .none >>= _) _ _ ⟨q1, gn, dr, tk + 1, os⟩
  refine wpAny_bind (wpAny_setField_rec h1 (by simp) fun q2 h2 sb2 => ?_)
  replace sb2 : Heap.SameBut e q1 q2 := sb2
  replace h2 : IsEnum q2 e z (c + 1) old := h2
  show wpAny _ _ (newTuple [.int c tk, .ref hp.objs.size] >>= _) _ _ ⟨q2, gn, dr, tk + 1, os⟩
  refine wpAny_bind (wpAny_newTuple ?_)
  have sz2 : q2.objs.size = hp.objs.size + 1 := by rw [sb2.1, sb1.1, sz]
  have h3 : IsEnum (q2.push { cls := .type "tuple", data := .seq #[.int c tk, .ref hp.objs.size] }) e z (c + 1) old := Heap.get?_push_of_some _ h2
  have hT3 : (q2.push { cls := .type "tuple", data := .seq #[.int c tk, .ref hp.objs.size] }).get? (hp.objs.size + 1) = some { cls := .type "tuple", data := .seq #[.int c tk, .ref hp.objs.size] } := by
    rw [← sz2]; exact Heap.get?_push_size _ rfl
  have k3 : ∀ b o, b ≠ e → p.get? b = some o → (q2.push { cls := .type "tuple", data := .seq #[.int c tk, .ref hp.objs.size] }).get? b = some o := fun b o hb y => Heap.get?_push_of_some _ (sb2.extBut b o hb (sb1.extBut b o hb y))
  have el : e < hp.objs.size := Heap.lt_size he
  generalize q2.push { cls := .type "tuple", data := .seq #[.int c tk, .ref hp.objs.size] } = q3 at h3 hT3 k3
  show wpAny _ _ (Builtin.SmallTypes.ownedTupleIsFree (.ref e) >>= _) _ _ ⟨q3, gn, dr, tk + 1, os⟩
  rw [sz2]
  refine wpAny_bind ?_
  unfold Builtin.SmallTypes.ownedTupleIsFree
  refine wpAny_bind (wpAny_field h3 rfl (x := .none) rfl (wpAny_pure ?_))
  simp only [if_true]
  refine wpAny_bind (wpAny_rule (wpAny_bind (wpAny_field h3 rfl (x := old) rfl (wpAny_bind (wpAny_setField_rec h3 (by simp) fun q4 h4 sb4 => ?_)))))
  replace sb4 : Heap.SameBut e q3 q4 := sb4
  replace h4 : IsEnum q4 e z (c + 1) (.ref hp.objs.size) := h4
  show wpAny _ _ (Builtin.SmallTypes.ownedTupleHandOut (.ref e) (.ref (hp.objs.size + 1)) >>= _) _ _ ⟨q4, gn, dr, tk + 1, os⟩
  refine wpAny_bind ?_
  unfold Builtin.SmallTypes.ownedTupleHandOut
  refine wpAny_bind (wpAny_setField_rec h4 (by simp) fun q5 h5 sb5 => ?_)
  replace sb5 : Heap.SameBut e q4 q5 := sb5
  replace h5 : IsEnumOut q5 e z (c + 1) (.ref hp.objs.size) (hp.objs.size + 1) := h5
  refine wpAny_setField_rec h5 (by simp) fun q6 h6 sb6 => ?_
  replace sb6 : Heap.SameBut e q5 q6 := sb6
  replace h6 : IsEnumOut q6 e z (c + 1) (.ref hp.objs.size) (hp.objs.size + 1) := h6
  have up : ∀ b o, b ≠ e → q3.get? b = some o → q6.get? b = some o := fun b o hb y => sb6.extBut b o hb (sb5.extBut b o hb (sb4.extBut b o hb y))
  have up3 : ∀ b o, b ≠ e → p.get? b = some o → q6.get? b = some o := fun b o hb y => up b o hb (k3 b o hb y)
  obtain ⟨g0, g1, hZp, hg⟩ := zs
  obtain ⟨b1, b2, hOp⟩ := hOp
  refine wpAny_bind (wpAny_letGo (wpAny_pure ⟨_, rfl, wpAny_pure (k x1 x2 p q6 tk hx1 hx2 ⟨g0, g1, up3 _ _ (Ne.symm ez) hZp, hg⟩ (up3 _ _ (Ne.symm eI) hIp) ⟨b1, b2, up3 _ _ (Ne.symm eO) hOp⟩ ?_ ?_ h6 hT sz kp (up _ _ (Nat.ne_of_gt (Nat.lt_succ_of_lt el)) hT3) up3)⟩))
  · exact D1.frame _ _ _ u1 fun b hb o y => up3 b o (fun q => e1 (q ▸ hb)) y
  · exact D2.frame _ _ _ u2 fun b hb o y => up3 b o (fun q => e2 (q ▸ hb)) y
theorem eend {e : Addr} {c : Int} {old : Value} {Q : Option Value → Shared → Prop} (S : ZipSep2 z TI TO i1 i2 fp1 fp2) (D1 : Draws prog w A.in1.in1 i1 fp1 n1 P1 St1) (D2 : Draws prog w A.in1.in1 i2 fp2 n2 P2 St2)
    (he : IsEnum s.heap e z c old) (hZ : ZipAt s.heap z TI TO f0 f1) (h0 : Zf0 f0) (hI : IsTupOf2 s.heap TI (.ref i1) (.ref i2)) (hO : IsTupOf2 s.heap TO a1 a2) (t1 : St1 i s.heap) (t2 : St2 i s.heap) (l1 : i ≤ n1) (l2 : i ≤ n2) (le : i = n1 ∨ i = n2)
    (k : ∀ h' tk, (∀ c o, c ≠ z → c ≠ TO → c ≠ i1 → c ≠ i2 → s.heap.get? c = some o → h'.get? c = some o) → Q none { s with heap := h', toks := tk }) : wpAny (model prog w) A (pyNext (.ref e)) Q E s := by
  have hTe : s.TypeIs (.ref e) "enumerate" := ⟨_, he, rfl⟩
  have hTz : s.TypeIs (.ref z) "zip" := ⟨_, hZ, rfl⟩
  unfold pyNext
  refine wpAny_bind (wpAny_attempt (wpAny_callSpecial?_slot (name := Str.ofString "__next__") hTe F.slot_enumerate_next (wpAny_call_entry F.slot_enumerate_next hTe F.entry_enumerate_next ?_ (F.args_enumerate_next_1 _))))
  show wpAny _ _ (field (.ref e) 2 >>= _) _ _ _
  refine wpAny_bind (wpAny_field he rfl (x := .ref z) rfl (wpAny_bind ?_))
  unfold Builtin.SmallTypes.nextOf
  refine wpAny_bind (wpAny_callSpecial?_slot (name := Str.ofString "__next__") hTz F.slot_zip_next (wpAny_call_entry F.slot_zip_next hTz F.entry_zip_next
    (zend S D1 D2 hZ h0 hI hO t1 t2 l1 l2 le fun h' tk x kp ⟨o, ho, hc⟩ => ?_) (F.args_zip_next_1 _)))
  refine wpAny_bind (wpAny_isInstance (T := "StopIteration") (b := true) ⟨o, ho, hc⟩ isSubtype_stop ?_)
  exact wpAny_pure (k _ _ kp)
end
end Mn

set_option Elab.async false
set_option linter.all false
set_option maxRecDepth 100000
set_option maxHeartbeats 2000000
namespace Mn
open PySem L2
def ItezT (K : PySem.W.Frag) (a b : Addr) : It :=
  ⟨fun i H => ∃ (xs ys : List V) (x y : V), SqT K H a xs ∧ SqT K H b ys ∧ xs[i]? = some x ∧ ys[i]? = some y,
   fun i H v H' => ∃ T T2 x y, v = .ref T2 ∧ H T = none ∧ H T2 = none ∧ T ≠ T2 ∧ H' = upd (upd H T (.tup [x, y])) T2 (.tup [.int (i : Nat), .ref T]) ∧ (∀ xs, SqT K H a xs → xs[i]? = some x) ∧ ∀ ys, SqT K H b ys → ys[i]? = some y,
   fun i H => ∃ xs ys : List V, SqT K H a xs ∧ SqT K H b ys ∧ i ≤ xs.length ∧ i ≤ ys.length ∧ (i = xs.length ∨ i = ys.length)⟩
structure EzSep (e z TI TO i1 i2 a b : Addr) : Prop where
  S : ZipSep2 z TI TO i1 i2 [i1, a] [i2, b]
  ez : e ≠ z
  eI : e ≠ TI
  eO : e ≠ TO
  e1 : e ∉ [i1, a]
  e2 : e ∉ [i2, b]
  a1 : a ≠ i1
  b2 : b ≠ i2
theorem turn_ezT {P : Program} {w : World} {K : PySem.W.Frag} {elts : List Expr} {kk : Nat} {tpos : Pos} {e z TI TO i1 i2 a b : Addr} (D : EzSep e z TI TO i1 i2 a b) :
    Turn P w K (.Tuple elts kk tpos) (ItezT K a b) [e, z, TI, TO, i1, i2] e (fun i h => (∃ old, IsEnum h e z ((i : Nat) : Int) old) ∧ (∃ f0 f1, ZipAt h z TI TO f0 f1 ∧ Zf0 f0) ∧ IsTupOf2 h TI (.ref i1) (.ref i2) ∧ (∃ x y, IsTupOf2 h TO x y) ∧ h.IsTupleIter i1 a i ∧ h.IsTupleIter i2 b i) where
  mem := by simp
  obj := fun i h st c hc => by
    obtain ⟨⟨old, he⟩, ⟨f0, f1, hZ, _⟩, hI, ⟨x, y, hO⟩, ⟨o1, g1, _, d1⟩, ⟨o2, g2, _, d2⟩⟩ := st
    simp only [List.mem_cons, List.not_mem_nil, or_false] at hc
    rcases hc with q | q | q | q | q | q
    · rw [q]; exact ⟨_, he, fun v q => nomatch q⟩
    · rw [q]; exact ⟨_, hZ, fun v q => nomatch q⟩
    · rw [q]; exact ⟨_, hI, fun v q => nomatch q⟩
    · rw [q]; exact ⟨_, hO, fun v q => nomatch q⟩
    · rw [q]; exact ⟨o1, g1, fun v q => by rw [d1] at q; cases q⟩
    · rw [q]; exact ⟨o2, g2, fun v q => by rw [d2] at q; cases q⟩
  keep := fun i h h' st k => by
    obtain ⟨⟨old, he⟩, ⟨f0, f1, hZ, h0⟩, hI, ⟨x, y, hO⟩, h1, h2⟩ := st
    exact ⟨⟨old, k e (by simp) _ he⟩, ⟨f0, f1, k z (by simp) _ hZ, h0⟩, k TI (by simp) _ hI, ⟨x, y, k TO (by simp) _ hO⟩, h1.at fun o q => k i1 (by simp) o q, h2.at fun o q => k i2 (by simp) o q⟩
  item := by
    intro X hP hw hK hc i pins s σ H E I hf st hg
    subst hP hw hK
    obtain ⟨⟨old, he⟩, ⟨f0, f1, hZ, h0⟩, hI, ⟨x0, y0, hO⟩, h1, h2⟩ := st
    obtain ⟨xs, ys, x, y, hqx, hqy, hx, hy⟩ := hg
    obtain ⟨its, rv, p, _⟩ := I.tuple hqx
    obtain ⟨its2, rv2, p2, _⟩ := I.tuple hqy
    obtain ⟨u, hu, ru⟩ := rv.get hx
    obtain ⟨u2, hu2, ru2⟩ := rv2.get hy
    have pa : s.heap.IsTuple a its.toArray := p
    have pb : s.heap.IsTuple b its2.toArray := p2
    have l1 : i < its.toArray.size := by have := (List.getElem?_eq_some_iff.mp hu).1; simpa using this
    have l2 : i < its2.toArray.size := by have := (List.getElem?_eq_some_iff.mp hu2).1; simpa using this
    have dr1 := Draws.tuple (prog := X.prog) (w := X.w) (A := X.A.in1.in1) (I.ok.hd hc) i1 a D.a1 its.toArray
    have dr2 := Draws.tuple (prog := X.prog) (w := X.w) (A := X.A.in1.in1) (I.ok.hd hc) i2 b D.b2 its2.toArray
    have lt : ∀ c ∈ [e, z, TI, TO, i1, i2], c < s.heap.objs.size := fun c hc => by
      simp only [List.mem_cons, List.not_mem_nil, or_false] at hc
      rcases hc with q | q | q | q | q | q
      · rw [q]; exact Heap.lt_size he
      · rw [q]; exact Heap.lt_size hZ
      · rw [q]; exact Heap.lt_size hI
      · rw [q]; exact Heap.lt_size hO
      · rw [q]; obtain ⟨_, g, _⟩ := h1; exact Heap.lt_size g
      · rw [q]; obtain ⟨_, g, _⟩ := h2; exact Heap.lt_size g
    refine eitem D.S dr1 dr2 he hZ h0 hI hO ⟨h1, pa⟩ ⟨h2, pb⟩ l1 l2 D.ez D.eI D.eO D.e1 D.e2 fun x1 x2 q h' tk y1 y2 zs hI' hO' v1 v2 eo hT sz kp hT2 kp2 => ?_
    have ex1 : x1 = u := by
      have : its.toArray[i]? = some u := by simpa using hu
      rw [this] at y1; exact (Option.some.inj y1).symm
    have ex2 : x2 = u2 := by
      have : its2.toArray[i]? = some u2 := by simpa using hu2
      rw [this] at y2; exact (Option.some.inj y2).symm
    subst ex1 ex2
    refine ⟨_, rfl, wpAny_letOwnedTupleGo_enum (s := { s with heap := h', toks := tk + 1 }) eo fun h'' he' sb => ?_⟩
    have el : e < s.heap.objs.size := Heap.lt_size he
    have up : ∀ c o, c ≠ e → h'.get? c = some o → h''.get? c = some o := fun c o hb y => (sb.2 c hb).trans y
    have nT : ObjOk X.prog X.w (upd H s.heap.objs.size (.tup [x, y])) q s.heap.objs.size (.tup [x, y]) := ⟨by show 2 ≤ sizeLine; decide, [x1, x2], .cons ru (.cons ru2 .nil), ⟨_, hT, rfl, _, rfl⟩⟩
    have I1 : Inv X pins σ (upd H s.heap.objs.size (.tup [x, y])) { s with heap := q, toks := s.toks } :=
      I.turnedNew (t' := s.toks) (ch := [z, TO, i1, i2]) (fun c o hb g => kp c o (fun z' => hb (by simp [z'])) (fun z' => hb (by simp [z'])) (fun z' => hb (by simp [z'])) (fun z' => hb (by simp [z'])) g)
        (fun c hc => hf c (by simp only [List.mem_cons, List.not_mem_nil, or_false] at hc ⊢; rcases hc with h | h | h | h <;> simp [h])) (Nat.le_refl _) nT
    have hT2' : h''.get? (s.heap.objs.size + 1) = some { cls := .type "tuple", data := .seq #[.int i tk, .ref s.heap.objs.size] } := up _ _ (Nat.ne_of_gt (Nat.lt_succ_of_lt el)) hT2
    have nT2 : ObjOk X.prog X.w (upd (upd H s.heap.objs.size (.tup [x, y])) (s.heap.objs.size + 1) (.tup [.int (i : Nat), .ref s.heap.objs.size])) h'' (s.heap.objs.size + 1) (.tup [.int (i : Nat), .ref s.heap.objs.size]) :=
      ⟨by show 2 ≤ sizeLine; decide, [.int i tk, .ref s.heap.objs.size], .cons ⟨_, rfl⟩ (.cons rfl .nil), ⟨_, hT2', rfl, _, rfl⟩⟩
    have fe : FpOk X pins (upd H s.heap.objs.size (.tup [x, y])) e := ⟨by rw [upd_ne (Nat.ne_of_lt el)]; exact (hf e (by simp)).1, (hf e (by simp)).2⟩
    have I2 : Inv X pins σ (upd (upd H s.heap.objs.size (.tup [x, y])) (s.heap.objs.size + 1) (.tup [.int (i : Nat), .ref s.heap.objs.size])) { s with heap := h'', toks := tk + 1 } :=
      I1.turnedNew (t' := tk + 1) (ch := [e]) (fun c o hb g => up c o (fun z' => hb (by simp [z'])) (kp2 c o (fun z' => hb (by simp [z'])) g)) (fun c hc => by
        have : c = e := by simpa using hc
        rw [this]; exact fe) (by show q.objs.size ≤ _; rw [sz]; exact Nat.le_refl _) nT2
    obtain ⟨g0, g1, hZ', hg0⟩ := zs
    obtain ⟨b1, b2, hO'⟩ := hO'
    have n1 : ∀ c ∈ ([z, TI, TO, i1, i2] : List Addr), c ≠ e := fun c hc z' => by
      simp only [List.mem_cons, List.not_mem_nil, or_false] at hc
      rcases hc with h | h | h | h | h
      · exact D.ez (z'.symm.trans h)
      · exact D.eI (z'.symm.trans h)
      · exact D.eO (z'.symm.trans h)
      · exact D.e1 (by rw [← z', h]; simp)
      · exact D.e2 (by rw [← z', h]; simp)
    refine ⟨.ref (s.heap.objs.size + 1), _, I2, rfl, ⟨_, _, x, y, rfl, I.hok.fresh (Nat.le_refl _), I.hok.fresh (Nat.le_succ _), Nat.ne_of_lt (Nat.lt_succ_self _), rfl, fun l hl => by rw [I.tuple_inj hl hqx]; exact hx, fun l hl => by rw [I.tuple_inj hl hqy]; exact hy⟩,
      ⟨⟨.ref s.heap.objs.size, ?_⟩, ⟨g0, g1, up _ _ (n1 z (by simp)) hZ', hg0⟩, up _ _ (n1 TI (by simp)) hI', ⟨b1, b2, up _ _ (n1 TO (by simp)) hO'⟩, v1.1.at fun o g => up _ _ (n1 i1 (by simp)) g, v2.1.at fun o g => up _ _ (n1 i2 (by simp)) g⟩, fun c hc => ?_⟩
    · have e1 : ((i + 1 : Nat) : Int) = (i : Int) + 1 := by omega
      rw [e1]; exact he'
    · have := lt c hc
      rw [upd_ne (Nat.ne_of_lt (Nat.lt_succ_of_lt this)), upd_ne (Nat.ne_of_lt this)]
      exact (hf c hc).1
  done := by
    intro X hP hw hK hc i pins s σ H E I hf st hg
    subst hP hw hK
    obtain ⟨⟨old, he⟩, ⟨f0, f1, hZ, h0⟩, hI, ⟨x0, y0, hO⟩, h1, h2⟩ := st
    obtain ⟨xs, ys, hqx, hqy, k1, k2, k3⟩ := hg
    obtain ⟨its, rv, p, _⟩ := I.tuple hqx
    obtain ⟨its2, rv2, p2, _⟩ := I.tuple hqy
    have pa : s.heap.IsTuple a its.toArray := p
    have pb : s.heap.IsTuple b its2.toArray := p2
    have l1 := rv.length
    have l2 := rv2.length
    have dr1 := Draws.tuple (prog := X.prog) (w := X.w) (A := X.A.in1.in1) (I.ok.hd hc) i1 a D.a1 its.toArray
    have dr2 := Draws.tuple (prog := X.prog) (w := X.w) (A := X.A.in1.in1) (I.ok.hd hc) i2 b D.b2 its2.toArray
    exact eend D.S dr1 dr2 he hZ h0 hI hO ⟨h1, pa⟩ ⟨h2, pb⟩ (by simp; omega) (by simp; omega) (by simp; omega) fun h' tk kp => ⟨rfl, I.turnedL (t' := tk) (ch := [z, TO, i1, i2]) (fun c o hb g => kp c o (fun z' => hb (by simp [z'])) (fun z' => hb (by simp [z'])) (fun z' => hb (by simp [z'])) (fun z' => hb (by simp [z'])) g)
      (fun c hc => hf c (by simp only [List.mem_cons, List.not_mem_nil, or_false] at hc ⊢; rcases hc with h | h | h | h <;> simp [h]))⟩
  self := fun A i s Q E st h => let ⟨⟨_, he⟩, _⟩ := st; wpAny_pyIter_enum he h
/-- enumerate(v), v an iterator -/
theorem meets_enum0 {v : Value} {G : Heap → Prop} (B : ∀ (prog : Program) (w : World) (A : Around) (E : Value → Shared → Prop) (s : Shared) (Q : Value → Shared → Prop), G s.heap → Q v s → wpAny (model prog w) A (pyIter v) Q E s) :
    Meets (Builtin.«enumerate.__new__» ⟨[.type "enumerate", v], []⟩) (fun _ R s => G s.heap ∧ R (.ok (.ret (.ref s.heap.objs.size))) { s with heap := s.heap.push { cls := .type "enumerate", data := .fields #[.none, .bool false, v, rawInt 0, .none, .none] } }) :=
  .of_wp fun prog w A R s hh => by
    obtain ⟨hp, gn, dr, tk, os⟩ := s
    obtain ⟨h1, hR⟩ := hh
    have hsub := sub_enumerate
    have q1 : ∀ {A' : Around} {E : Value → Shared → Prop} {Q : Value → Shared → Prop}, Q v ⟨hp, gn, dr, tk, os⟩ → wpAny (model prog w) A' (pyIter v) Q E ⟨hp, gn, dr, tk, os⟩ := fun q => B prog w _ _ ⟨hp, gn, dr, tk, os⟩ _ h1 q
    wp_walk using q1
    refine wpAny_stack_any fun st => wpAny_pure ?_
    split
    · rename_i c _ _ _ _ _
      cases (c == Value.type "enumerate")
      · wp_walk using q1
        exact ⟨_, rfl, hR⟩
      · wp_walk using q1
        exact ⟨_, rfl, hR⟩
    · wp_walk using q1
      exact ⟨_, rfl, hR⟩
theorem call_enum0 {prog : Program} {w : World} {A : Around} {E : Value → Shared → Prop} {s : Shared} {z : Addr} {G : Heap → Prop} {Q : Value → Shared → Prop} (B : ∀ (prog : Program) (w : World) (A : Around) (E : Value → Shared → Prop) (s : Shared) (Q : Value → Shared → Prop), G s.heap → Q (.ref z) s → wpAny (model prog w) A (pyIter (.ref z)) Q E s) (h1 : G s.heap)
    (hq : ∀ h', IsEnum h' s.heap.objs.size z 0 .none → (∀ b ob, s.heap.get? b = some ob → h'.get? b = some ob) → Q (.ref s.heap.objs.size) { s with heap := h' }) :
    wpAny (model prog w) A (call (.type "enumerate") [.ref z]) Q E s := by
  refine callType_new F.called_enumerate (by decide) (F.typeCall_enumerate_1 _) (F.newCall_enumerate_1 _) (fun obj => F.args_object_init_2 obj _) F.entry_enumerate_new (meets_enum0 B) ⟨h1, ?_⟩
  have he : IsEnum (s.heap.push { cls := .type "enumerate", data := .fields #[.none, .bool false, .ref z, rawInt 0, .none, .none] }) s.heap.objs.size z 0 .none := Heap.get?_push_size _ rfl
  exact ⟨⟨_, he, rfl⟩, hq _ he fun b ob x => Heap.get?_push_of_some _ x⟩
section
variable {X : Cx}
def iEzip (K : PySem.W.Frag) (ta : TA) : TI := fun σ H R => ta σ H fun vs H1 => ∃ a b xs ys, vs = [.ref a, .ref b] ∧ SqT K H1 a xs ∧ SqT K H1 b ys ∧ R (ItezT K a b) H1
theorem ez_sep {N a b : Nat} (ha : a < N) (hb : b < N) : EzSep (N + 5) (N + 4) (N + 2) (N + 3) N (N + 1) a b where
  S := zip_sep2 (fp1 := [a]) (fp2 := [b]) (fun c hc => by have : c = a := by simpa using hc
                                                          rw [this]; exact ha) (fun c hc => by have : c = b := by simpa using hc
                                                                                               rw [this]; exact hb)
  ez := show (N + 5 : Nat) ≠ N + 4 by omega
  eI := show (N + 5 : Nat) ≠ N + 2 by omega
  eO := show (N + 5 : Nat) ≠ N + 3 by omega
  e1 := fun h => by
    rcases List.mem_cons.mp h with h | h
    · have h : (N + 5 : Nat) = N := h
      omega
    · have h : (N + 5 : Nat) = a := by simpa using h
      omega
  e2 := fun h => by
    rcases List.mem_cons.mp h with h | h
    · have h : (N + 5 : Nat) = N + 1 := h
      omega
    · have h : (N + 5 : Nat) = b := by simpa using h
      omega
  a1 := Nat.ne_of_lt ha
  b2 := Nat.ne_of_lt (Nat.lt_succ_of_lt hb)
theorem pi_ezip {e e2 : Expr} {ta : TA} {p p2 pos pos2 tpos : Pos} {elts : List Expr} {kk : Nat} (hg : Gl X "enumerate") (hm : X.mg "enumerate" = none) (hgz : Gl X "zip") (hmz : X.mg "zip" = none) (ha : PA X [e, e2] ta)
    (hs : starEach [e, e2] X.env = (false, eval e X.env) :: starEach [e2] X.env) (hpl : (backTo pos2 (starEach [e2] X.env)).any (·.1) = false) :
    PI X (.Tuple elts kk tpos) (.Call (.Name "enumerate" p) [.Call (.Name "zip" p2) [e, e2] [] pos2] [] pos) (iEzip X.K ta) := by
  refine ⟨fun pins s σ H R I h => ?_⟩
  refine PyProof.Rows.Call_ (ld_blt I hg hm (show bootBuiltins ("enumerate" : Str) = some (.type "enumerate") by decide +kernel) (PyProof.Rows.callWith_type1 ?_ rfl rfl))
  show wpAny _ _ (spliced [(false, eval (.Call (.Name "zip" p2) [e, e2] [] pos2) X.env)]) _ _ _
  refine Calls.spliced_cons ?_
  refine PyProof.Rows.Call_ (ld_blt I hgz hmz PyProof.Rows.boot_zip (PyProof.Rows.callWith_type1 (thn (ha.run pos2 pins s σ H _ I h) fun us s1 ⟨vs, H1, I1, r1, q1⟩ => ?_) hs hpl))
  obtain ⟨a, b, xs, ys, ex, hqx, hqy, q⟩ := q1
  subst ex
  cases r1 with
  | cons r rr =>
    cases rr with
    | cons r' rr =>
      cases rr
      cases r
      cases r'
      obtain ⟨its, rv, p1, _⟩ := I1.tuple hqx
      obtain ⟨its2, rv2, p3, _⟩ := I1.tuple hqy
      obtain ⟨o1, ho1, _⟩ := id p1
      obtain ⟨o2, ho2, _⟩ := id p3
      refine RZ.call_zipT (show s1.heap.IsTuple a its.toArray from p1) (show s1.heap.IsTuple b its2.toArray from p3) fun h' hz hTI hTO h1 h2 hsz hk => Calls.spliced_nil ?_
      have I2 : Inv X pins σ H1 { s1 with heap := h' } := I1.kept (t' := s1.toks) hk
      refine call_enum0 (s := { s1 with heap := h' }) (G := fun g => IsZip g (s1.heap.objs.size + 4) (s1.heap.objs.size + 2) (s1.heap.objs.size + 3) .none) (fun prog w A E s Q hG q => wpAny_pyIter_zip hG q) hz fun h'' he hk2 => wpAny_pyIter_enum he ?_
      replace hsz : h'.objs.size = s1.heap.objs.size + 5 := hsz
      replace hk2 : ∀ b ob, h'.get? b = some ob → h''.get? b = some ob := hk2
      have he2 : IsEnum h'' (s1.heap.objs.size + 5) (s1.heap.objs.size + 4) 0 .none := by rw [← hsz]; exact he
      have I3 : Inv X pins σ H1 { s1 with heap := h'' } := I1.kept (t' := s1.toks) fun c o y => hk2 c o (hk c o y)
      have D := ez_sep (N := s1.heap.objs.size) (Heap.lt_size ho1) (Heap.lt_size ho2)
      refine ⟨s1.heap.objs.size + 5, [s1.heap.objs.size + 5, s1.heap.objs.size + 4, s1.heap.objs.size + 2, s1.heap.objs.size + 3, s1.heap.objs.size, s1.heap.objs.size + 1], _, _, H1, by show Value.ref h'.objs.size = _; rw [hsz], I3, turn_ezT D,
        ⟨⟨_, he2⟩, ⟨_, _, hk2 _ _ hz, .inl rfl⟩, hk2 _ _ hTI, ⟨_, _, hk2 _ _ hTO⟩, h1.at fun o g => hk2 _ _ g, h2.at fun o g => hk2 _ _ g⟩, fun c hcm => ?_, q⟩
      have hle : s1.heap.objs.size ≤ c := by
        simp only [List.mem_cons, List.not_mem_nil, or_false] at hcm
        rcases hcm with z | z | z | z | z | z <;> rw [z] <;> first | exact Nat.le_add_right _ _ | exact Nat.le_refl _
      exact I1.fpOk hle (I1.hok.fresh hle)
end
end Mn

set_option Elab.async false
set_option linter.all false
set_option maxRecDepth 100000
set_option maxHeartbeats 2000000
namespace Mn
open PySem L2
section
variable {C : Cf}
theorem walkD_ezT {a b : Addr} {ds es : List D} : WalkD C (ItezT C.K a b) (enumL 0 (zipL ds es)) (fun g => ∃ vs us, SqT C.K g a vs ∧ RepA C g vs ds ∧ SqT C.K g b us ∧ RepA C g us es) where
  mono := fun g g' e ⟨vs, us, h1, h2, h3, h4⟩ => ⟨vs, us, e.sqT h1, h2.mono e, e.sqT h3, h4.mono e⟩
  goes := fun i B ow H hi ⟨vs, us, h1, h2, h3, h4⟩ => by
    rw [enumL_len, zipL_len] at hi
    have hi1 : i < vs.length := by rw [h2.length]; omega
    have hi2 : i < us.length := by rw [h4.length]; omega
    exact ⟨vs, us, vs[i], us[i], hid_sqT h1, hid_sqT h3, by simp [hi1], by simp [hi2]⟩
  stops := fun B ow H ⟨vs, us, h1, h2, h3, h4⟩ => ⟨vs, us, hid_sqT h1, hid_sqT h3, by rw [enumL_len, zipL_len, h2.length]; omega, by rw [enumL_len, zipL_len, h4.length]; omega, by rw [enumL_len, zipL_len, h2.length, h4.length]; omega⟩
  yields := fun B ow s σ i H x H' d R hd ⟨vs, us, h1, h2, h3, h4⟩ y => by
    obtain ⟨T, T2, u, w, rfl, hT, hT2, hne, rfl, y1, y2⟩ := y
    have q1 := y1 vs (hid_sqT h1)
    have q2 := y2 us (hid_sqT h3)
    obtain ⟨d1, hd1, r1⟩ := h2.getV q1
    obtain ⟨d2, hd2, r2⟩ := h4.getV q2
    obtain ⟨dd, hdd, rfl⟩ := enumL_get _ _ _ _ hd
    obtain ⟨e1, e2, he1, he2, rfl⟩ := zipL_get _ _ _ _ hdd
    rw [hd1] at he1; cases he1
    rw [hd2] at he2; cases he2
    obtain ⟨R1, st1, rr1⟩ := pairNew R hT r1 r2
    obtain ⟨R2, st2, rr2⟩ := pairNew R1 (T := T2) (by rw [upd_ne hne.symm]; exact hT2) (Rep.int (i : Nat)) rr1
    rw [Nat.zero_add]
    exact ⟨R2, st1.trans st2, rr2⟩
end
section
variable {Φ : Nat → Fn} {gc : Nat → D} {C : Cf} {E : XK} {X : Cx} {k : Nat} {B : Addr → Bool} {ow : Ow} {s : S} {σ : St} {H : Hp}
theorem sdi_ezip {a b : Ex} {e e' : Expr} {t t' : TE} {p p2 pos pos2 tpos : Pos} {elts : List Expr} {kk : Nat} (g : Gd C E X k) (h : Sd Φ gc C E X a e t) (h' : Sd Φ gc C E X b e' t') (hp : plainE e = true) (hp' : plainE e' = true) (hg : glB X.env.scope "enumerate" = true) (hgz : glB X.env.scope "zip" = true) : ∃ wi, SdI Φ gc C E X (.enmzip a b) (.Tuple elts kk tpos) (.Call (.Name "enumerate" p) [.Call (.Name "zip" p2) [e, e'] [] pos2] [] pos) wi := by
  refine ⟨_, pi_ezip (gl_of hg) (g.blt _ (by decide +kernel)) (gl_of hgz) (g.blt _ (by decide +kernel)) (pa_cons h.pe (pa_cons h'.pe pa_nil (starEach_plain hp')) (starEach_plain hp)) (starEach_plain hp) (noStar (by simp [hp'])), fun B ow s σ H R S w => ?_⟩
  unfold ev at w
  refine bindI2 h h' S w fun d d2 s1 ow1 v u H1 S1 st r r2 w1 => ?_
  cases d <;> cases d2 <;> first | exact w1.elim | skip
  · obtain ⟨xs, hx, w1⟩ := w1
    cases hx
    cases r with
    | tup h1 h2 l => cases r2 with
      | tup h3 h4 _ => rw [g.hK]; exact ⟨_, _, _, _, rfl, hid_sqT h1, hid_sqT h3, w1 _ _ _ _ S1 Stp.refl (by rw [enumL_len, zipL_len]; omega) walkD_ezT ⟨_, _, h1, h2, h3, h4⟩⟩
end
end Mn

set_option Elab.async false
set_option linter.all false
set_option maxRecDepth 100000
set_option maxHeartbeats 1000000
namespace Mn
open PySem L2

/-! ### slots set in a row -/
section
variable {α : Type} {f : Nat → α} {l : List α}
theorem setW_len : ∀ vs : List Nat, (setW f l vs).length = l.length
  | [] => rfl
  | v :: vs => by simp [setW, setW_len vs]
theorem setW_out {i : Nat} : ∀ {vs : List Nat}, i ∉ vs → (setW f l vs)[i]? = l[i]?
  | [], _ => rfl
  | v :: vs, h => by
    simp only [List.mem_cons, not_or] at h
    rw [setW, List.getElem?_set_ne (Ne.symm h.1), setW_out h.2]
theorem setW_in {i : Nat} (hl : i < l.length) : ∀ {vs : List Nat}, i ∈ vs → (setW f l vs)[i]? = some (f i)
  | v :: vs, h => by
    rw [setW]
    by_cases e : v = i
    · subst e
      rw [List.getElem?_set_self (by rw [setW_len]; exact hl)]
    · rw [List.getElem?_set_ne e]
      rcases List.mem_cons.mp h with z | z
      · exact absurd z.symm e
      · exact setW_in hl z
theorem setW_get {i : Nat} {x : α} {vs : List Nat} (h : (setW f l vs)[i]? = some x) : (i ∈ vs ∧ i < l.length ∧ x = f i) ∨ (i ∉ vs ∧ l[i]? = some x) := by
  have hl : i < l.length := by
    have := (List.getElem?_eq_some_iff.mp h).1
    rwa [setW_len] at this
  by_cases m : i ∈ vs
  · rw [setW_in hl m] at h; cases h
    exact .inl ⟨m, hl, rfl⟩
  · rw [setW_out m] at h
    exact .inr ⟨m, h⟩
end
theorem wipe_setW (σ : St) : ∀ vs : List Nat, wipe σ vs = setW (fun _ => none) σ vs
  | [] => rfl
  | v :: vs => by rw [wipe, setW, wipe_setW σ vs]

/-! ### targets -/
def OffSame (w : List Nat) (σ σ' : St) : Prop := σ'.length = σ.length ∧ ∀ j, j ∉ w → σ'[j]? = σ[j]?
theorem OffSame.refl {w : List Nat} {σ : St} : OffSame w σ σ := ⟨rfl, fun _ _ => rfl⟩
theorem OffSame.trans {w : List Nat} {σ σ1 σ2 : St} (a : OffSame w σ σ1) (b : OffSame w σ1 σ2) : OffSame w σ σ2 := ⟨b.1.trans a.1, fun j h => (b.2 j h).trans (a.2 j h)⟩
theorem OffSame.mono {w w' : List Nat} {σ σ1 : St} (a : OffSame w σ σ1) (h : ∀ j ∈ w, j ∈ w') : OffSame w' σ σ1 := ⟨a.1, fun j k => a.2 j fun z => k (h j z)⟩
theorem OffSame.wipe {w : List Nat} {σ σ1 : St} (a : OffSame w σ σ1) : wipe σ1 w = wipe σ w := by
  rw [wipe_setW, wipe_setW]
  apply List.ext_getElem?
  intro j
  by_cases m : j ∈ w
  · by_cases hl : j < σ.length
    · rw [setW_in hl m, setW_in (by rw [a.1]; exact hl) m]
    · rw [List.getElem?_eq_none (by rw [setW_len, a.1]; omega), List.getElem?_eq_none (by rw [setW_len]; omega)]
  · rw [setW_out m, setW_out m, a.2 j m]
structure SdG (C : Cf) (X : Cx) (p : Pat) (tg : Expr) (g : TG) : Prop where
  pg : PG X tg g
  ok : ∀ (B : Addr → Bool) (ow : Ow) (s : S) (σ : St) (H : Hp) (v : V) (d : D) (ρ' : List Slot) (Q : St → Hp → Prop), SR C B ow s σ H → Rep C (hid B ow H) v d → bindP p [d] s.ρ = some ρ' →
    (∀ ow' σ', SR C B ow' { s with ρ := ρ' } σ' H → Stp C B ow H ow' H → OffSame p.slots σ σ' → Q σ' H) → g v σ H Q
structure SdGs (C : Cf) (X : Cx) (p : Pat) (tgs : List Expr) (g : TGs) : Prop where
  pg : PGs X tgs g
  ok : ∀ (B : Addr → Bool) (ow : Ow) (s : S) (σ : St) (H : Hp) (vs : List V) (ds : List D) (ρ' : List Slot) (Q : St → Hp → Prop), SR C B ow s σ H → RepA C (hid B ow H) vs ds → bindP p ds s.ρ = some ρ' →
    (∀ ow' σ', SR C B ow' { s with ρ := ρ' } σ' H → Stp C B ow H ow' H → OffSame p.slots σ σ' → Q σ' H) → g vs σ H Q
  len : ∀ ds ρ ρ', bindP p ds ρ = some ρ' → ds.length = tgs.length
  pl : (assignEach tgs X.env).findIdx? (·.1) = none ∧ (assignEach tgs X.env).length = tgs.length
def fcB (sc : Scope) (fc : Str → Bool) (x : Str) : Bool := sc.names.lookup x == some .local || (sc.names.lookup x == some .cell && fc x)
mutual
def patOk (N : List Str) (sc : Scope) (fc : Str → Bool) : Pat → Expr → Bool
  | .nm i, .Name x _ => N[i]? == some x && fcB sc fc x
  | .tp p, .Tuple es _ _ => patsOk N sc fc p es
  | _, _ => false
def patsOk (N : List Str) (sc : Scope) (fc : Str → Bool) : Pat → List Expr → Bool
  | .pn, [] => true
  | .pc p q, e :: es => patOk N sc fc p e && patsOk N sc fc q es
  | _, _ => false
end
section
variable {C : Cf} {X : Cx} {fc : Str → Bool}
theorem fc_loc {sc : Scope} {x : Str} (h : fcB sc fc x = true) (hfc : ∀ x, fc x = true → X.fn x = true) : Loc sc x ∧ (X.fn x = true ∨ sc.names.lookup x = some .local) := by
  simp only [fcB, Bool.or_eq_true, Bool.and_eq_true, beq_iff_eq] at h
  rcases h with h | ⟨h, k⟩
  · exact ⟨.inl h, .inr h⟩
  · exact ⟨.inr h, .inl (hfc x k)⟩
theorem OffSame.set {σ : St} {i : Nat} {v : Option V} : OffSame [i] σ (σ.set i v) := ⟨by simp, fun j h => by rw [List.getElem?_set_ne (by simpa using Ne.symm (by simpa using h))]⟩
theorem plain_assign {e : Expr} {es : List Expr} {env : Env} (h : plainE e = true) : assignEach (e :: es) env = (false, assign e env) :: assignEach es env := by
  cases e <;> first | rfl | (simp [plainE] at h)
mutual
theorem patOk_sd (hN : X.N.Nodup) (hc : X.calm = true) (hK : X.K = C.K) (hfc : ∀ x, fc x = true → X.fn x = true) : ∀ (p : Pat) (tg : Expr), patOk X.N X.env.scope fc p tg = true → plainE tg = true ∧ ∃ g, SdG C X p tg g
  | .nm i, tg, h => by
    cases tg <;> simp only [patOk, Bool.false_eq_true] at h
    rename_i x pos
    simp only [Bool.and_eq_true, beq_iff_eq] at h
    obtain ⟨h1, h2⟩ := fc_loc h.2 hfc
    refine ⟨rfl, _, pg_name hN h.1 h1 h2, fun B ow s σ H v d ρ' Q R r e k => ?_⟩
    simp only [bindP] at e
    split at e
    · cases e
      exact k _ _ (R.setVal r) Stp.drop OffSame.set
    · cases e
  | .tp p, tg, h => by
    cases tg <;> simp only [patOk, Bool.false_eq_true] at h
    rename_i es kk pos
    obtain ⟨gs, sg⟩ := patsOk_sd hN hc hK hfc p es h
    refine ⟨rfl, _, pg_tup hc sg.pg sg.pl.2 sg.pl.1, fun B ow s σ H v d ρ' Q R r e k => ?_⟩
    cases d <;> simp only [bindP] at e <;> first | cases e | skip
    rename_i ds
    cases r with
    | tup h1 h2 _ =>
      rw [hK]
      refine ⟨_, _, rfl, hid_sqT h1, by rw [h2.length]; exact sg.len _ _ _ e, sg.ok B ow s σ H _ _ ρ' Q R h2 e k⟩
  | .pn, tg, h => by cases tg <;> simp [patOk] at h
  | .pc p q, tg, h => by cases tg <;> simp [patOk] at h
theorem patsOk_sd (hN : X.N.Nodup) (hc : X.calm = true) (hK : X.K = C.K) (hfc : ∀ x, fc x = true → X.fn x = true) : ∀ (p : Pat) (tgs : List Expr), patsOk X.N X.env.scope fc p tgs = true → ∃ g, SdGs C X p tgs g
  | .pn, [], h => by
    refine ⟨_, pgs_nil, fun B ow s σ H vs ds ρ' Q R r e k => ?_, fun ds ρ ρ' e => ?_, ⟨rfl, rfl⟩⟩
    · cases ds with
      | nil => cases r; cases e; exact ⟨rfl, k _ _ R Stp.refl OffSame.refl⟩
      | cons => cases e
    · cases ds with
      | nil => rfl
      | cons => cases e
  | .pn, _ :: _, h => by simp [patsOk] at h
  | .pc p q, [], h => by simp [patsOk] at h
  | .pc p q, e :: es, h => by
    simp only [patsOk, Bool.and_eq_true] at h
    obtain ⟨hp, g, sg⟩ := patOk_sd hN hc hK hfc p e h.1
    obtain ⟨gs, sgs⟩ := patsOk_sd hN hc hK hfc q es h.2
    refine ⟨_, pgs_cons sg.pg sgs.pg (by rw [plain_assign hp]; rfl), fun B ow s σ H vs ds ρ' Q R r e k => ?_, fun ds ρ ρ' e => ?_, ?_⟩
    · cases ds with
      | nil => cases e
      | cons d ds =>
        cases r with
        | cons r rr =>
          simp only [bindP] at e
          cases q1 : bindP p [d] s.ρ with
          | none => rw [q1] at e; cases e
          | some ρ1 =>
            rw [q1] at e
            refine ⟨_, _, rfl, sg.ok B ow s σ H _ _ ρ1 _ R r q1 fun ow1 σ1 R1 st1 o1 => ?_⟩
            refine sgs.ok B ow1 _ σ1 H _ _ ρ' Q R1 (rr.mono st1.fr) e fun ow2 σ2 R2 st2 o2 => k ow2 σ2 R2 (st1.trans st2) ?_
            exact (o1.mono fun j h => by simp [Pat.slots, h]).trans (o2.mono fun j h => by simp [Pat.slots, h])
    · cases ds with
      | nil => cases e
      | cons d ds =>
        simp only [bindP] at e
        cases q1 : bindP p [d] ρ with
        | none => rw [q1] at e; cases e
        | some ρ1 =>
          rw [q1] at e
          simp [sgs.len _ _ _ e]
    · rw [plain_assign hp]
      have := sgs.pl
      simp only [List.findIdx?_cons, this.1, List.length_cons, this.2]
      exact ⟨by simp, trivial⟩
  | .nm i, tgs, h => by cases tgs <;> simp [patsOk] at h
  | .tp p, tgs, h => by cases tgs <;> simp [patsOk] at h
end
end
end Mn

set_option Elab.async false
set_option linter.all false
set_option maxRecDepth 100000
set_option maxHeartbeats 1000000
namespace Mn
open PySem L2

/-! ### readings that hang on the IR alone -/
section
variable (Φ : Nat → Fn) (gc : Nat → D) (C : Cf) (E : XK)
def tEv (a : Ex) : TE := fun σ H Q => ∃ B ow s, SR C B ow s σ H ∧ wpE C E B ow H σ (ev Φ gc a s) Q
def tTv (a : Ex) : TT := fun σ H Q => ∃ B ow s, SR C B ow s σ H ∧ wpT C E B ow H σ (evT Φ gc a s) Q
def gEv (p : Pat) : TG := fun v σ H Q => ∃ B ow s d ρ', SR C B ow s σ H ∧ Rep C (hid B ow H) v d ∧ bindP p [d] s.ρ = some ρ' ∧
    ∀ ow' σ', SR C B ow' { s with ρ := ρ' } σ' H → Stp C B ow H ow' H → OffSame p.slots σ σ' → Q σ' H
def iEv (a : Ex) : TI := fun σ H R => ∃ B ow s, SR C B ow s σ H ∧ wpI C E B ow H σ (ev Φ gc a s) R
end
section
variable {Φ : Nat → Fn} {gc : Nat → D} {C : Cf} {E : XK} {X : Cx}
theorem pe_ev {a : Ex} {e : Expr} {t : TE} (h : Sd Φ gc C E X a e t) : PE X e (tEv Φ gc C E a) := ⟨fun pins s σ H Q I ⟨B, ow, s', R, w⟩ => h.pe.run pins s σ H Q I (h.ok B ow s' σ H Q R w)⟩
theorem pt_ev {a : Ex} {e : Expr} {t : TT} (h : SdT Φ gc C E X a e t) : PT X e (tTv Φ gc C E a) := ⟨fun pins s σ H Q I ⟨B, ow, s', R, w⟩ => h.pt.run pins s σ H Q I (h.ok B ow s' σ H Q R w)⟩
theorem pg_ev {p : Pat} {tg : Expr} {g : TG} (h : SdG C X p tg g) : PG X tg (gEv C p) := ⟨fun pins s σ H v u Q I r ⟨B, ow, s', d, ρ', R, rp, e, k⟩ => h.pg.run pins s σ H v u Q I r (h.ok B ow s' σ H v d ρ' Q R rp e k)⟩
theorem pi_ev {a : Ex} {tg iter : Expr} {wi : TI} (h : SdI Φ gc C E X a tg iter wi) : PI X tg iter (iEv Φ gc C E a) := ⟨fun pins s σ H R I ⟨B, ow, s', S, w⟩ => h.pi.run pins s σ H R I (h.ok B ow s' σ H R S w)⟩
end

/-! ### slots of a block -/
section
variable {C : Cf} {B : Addr → Bool} {ow : Ow} {s : S} {σ : St} {H : Hp}
def wipeO (ow : Ow) (w : List Nat) : Ow := ⟨setW (fun _ => none) ow.sl w, ow.ob⟩
theorem SR.wipe (R : SR C B ow s σ H) : ∀ w : List Nat, SR C B (wipeO ow w) { s with ρ := wipeS s.ρ w } (L2.wipe σ w) H ∧ Stp C B ow H (wipeO ow w) H
  | [] => ⟨R, Stp.refl⟩
  | v :: w => by
    obtain ⟨h1, h2⟩ := SR.wipe R w
    exact ⟨h1.setEmp (i := v) (v := none), h2.trans Stp.drop⟩
theorem mem_wipeO {p : Addr} {w : List Nat} (h : some p ∈ wipeO ow w) : some p ∈ ow := by
  rcases Ow.mem_iff.mp h with h | h
  · obtain ⟨i, hi⟩ := List.getElem?_of_mem h
    rcases setW_get hi with ⟨_, _, z⟩ | ⟨_, z⟩
    · cases z
    · exact get_mem z
  · exact Ow.mem_iff.mpr (.inr h)
theorem Tags.wipe (t : Tags ow) {w : List Nat} : Tags (wipeO ow w) := by
  obtain ⟨f, k1, k2⟩ := t
  refine ⟨f, fun j p h => ?_, k2⟩
  rcases setW_get (l := ow.sl) h with ⟨_, _, z⟩ | ⟨_, z⟩
  · cases z
  · exact k1 j p z
/-- the block's own names are as they were -/
theorem SR.back {ow1 ow5 : Ow} {s1 s5 : S} {σ5 : St} {H1 H5 : Hp} {w : List Nat} (R1 : SR C B ow1 s1 σ H1) (R5 : SR C B ow5 s5 σ5 H5) (o : OffSame w σ σ5) (fr : Sm' (hid B ow1 H1) (hid B ow5 H5)) (hp : w.all (fun i => (s1.ρ.getD i .emp).plain) = true) :
    SR C B (wipeO ow5 w) { s5 with ρ := backS s5.ρ s1.ρ w } σ H5 where
  len := by show (setW _ _ _).length = _; rw [setW_len, R5.len, o.1]
  lenO := by show (setW _ _ _).length = _; rw [setW_len, ← o.1]; exact R5.lenO
  slot := fun j x v p h1 h2 h3 => by
    have le : Sm' (hid B ow5 H5) (hid B (wipeO ow5 w) H5) := hid_ow_le (fun b q => .inl q) (fun p q => .inl (mem_wipeO q)) (Sm'.refl _)
    rcases setW_get h1 with ⟨m, hl, e⟩ | ⟨m, e⟩
    · rcases setW_get (l := ow5.sl) h3 with ⟨_, _, e3⟩ | ⟨m3, _⟩
      · subst e e3
        have pl : (s1.ρ.getD j .emp).plain = true := List.all_eq_true.mp hp j m
        have hl1 : j < s1.ρ.length := by rw [R1.len, ← o.1, ← R5.len]; exact hl
        have e1 : s1.ρ[j]? = some s1.ρ[j] := List.getElem?_eq_getElem hl1
        have e2 : s1.ρ.getD j .emp = s1.ρ[j] := by simp [List.getD, e1]
        rw [e2] at pl ⊢
        obtain ⟨v', p', q1, q2, q3⟩ := R1.at e1
        rw [h2] at q1; cases q1
        generalize s1.ρ[j] = y at pl q3
        cases y with
        | emp => trivial
        | val d => cases v with
          | none => exact q3.elim
          | some v => cases p' with
            | none => exact Rep.mono (fr.trans le) q3
            | some p' => exact q3.elim
        | lst _ => cases pl
        | dct _ _ => cases pl
      · exact absurd m m3
    · rcases setW_get (l := ow5.sl) h3 with ⟨m3, _⟩ | ⟨_, e3⟩
      · exact absurd m3 m
      · have h2' : σ5[j]? = some v := by rw [o.2 j m]; exact h2
        exact (R5.slot j x v p e h2' e3).mono le fun _ _ _ h _ => h
  st := R5.st.mono (hid_ow_le (fun b q => .inl q) (fun p q => .inl (mem_wipeO q)) (Sm'.refl _)) (fun _ _ _ h _ => h) (fun q h => R5.st.hasB h) R5.st.tag.wipe
  nB := fun p h => R5.nB p (mem_wipeO h)
  tB := R5.tB
  twB := R5.twB
  rsB := R5.rsB
  town := R5.town
/-- a hidden object is changed -/
theorem SR.wrB {p : Addr} {o : HO} (R : SR C B ow s σ H) (hp : B p = true) (h1 : p ≠ C.tw) (h2 : p ≠ C.rs) (ho : ∀ u, H p = some u → Oh C p u) (hn : nt o = true) : SR C B ow s σ (upd H p o) ∧ Sm' (hid B ow H) (hid B ow (upd H p o)) := by
  have le : Sm' (hid B ow H) (hid B ow (upd H p o)) := fun b u h n => by
    obtain ⟨k1, k2, k3⟩ := hid_some.mp h
    exact hid_some.mpr ⟨k1, k2, by rw [shw_upd_ne (fun z => by subst z; rw [hp] at k1; cases k1)]; exact k3⟩
  have np : some p ∉ ow := fun z => by rw [R.nB p z] at hp; cases hp
  refine ⟨⟨R.len, R.lenO, fun j x v q k1 k2 k3 => (R.slot j x v q k1 k2 k3).mono le fun q' u e h n => ?_, R.st.mono le (fun q hq u h n => by rw [upd_ne (fun z => by subst z; have := R.st.hasB hq; rw [hp] at this; cases this)]; exact h) (fun q h => R.st.hasB h) R.st.tag, R.nB, fun b hb => ?_, R.twB, R.rsB, ?_⟩, le⟩
  · subst e
    rw [upd_ne (fun z => by subst z; exact np (get_mem k3))]; exact h
  · by_cases z : b = p
    · subst z; exact ⟨o, upd_same, hn⟩
    · obtain ⟨u, q1, q2⟩ := R.tB b hb
      exact ⟨u, by rw [upd_ne z]; exact q1, q2⟩
  · exact R.town.upd ho (Ne.symm h1) (Ne.symm h2)
end

/-! ### the comprehension -/
abbrev EF : XK := fun _ _ _ => False
section
variable {Φ : Nat → Fn} {gc : Nat → D} {C : Cf} {E : XK} {X : Cx} {k : Nat}
def lcF (Φ : Nat → Fn) (gc : Nat → D) (e : Ex) (p : Pat) (c : Ex) (d : D) (s2 : S) : Out (Option D) := match bindP p [d] s2.ρ with
  | none => .bad
  | some ρ => Out.quiet ((evT Φ gc c { s2 with ρ := ρ }).bind fun k s3 => if k then (ev Φ gc e s3).bind fun r s4 => .ok (some r) s4 else .ok none s3)
theorem ev_lc {w : List Nat} {e : Ex} {p : Pat} {it c : Ex} {s : S} : ev Φ gc (.lc w e p it c) s = (ev Φ gc it s).bind fun x s1 => match items x with
    | none => .bad
    | some xs => if w.all (fun i => (s1.ρ.getD i .emp).plain) then (lcL (lcF Φ gc e p c) (fun s2 => { s2 with ρ := wipeS s2.ρ w }) xs [] s1).bind fun ys s5 => .ok (.lst ys) { s5 with ρ := backS s5.ρ s1.ρ w } else .bad := by
  rw [ev] <;> rfl
theorem ok_lc {w : List Nat} {e : Ex} {p : Pat} {it c : Ex} (hw : ∀ j ∈ p.slots, j ∈ w) : Ok C E (tLc (iEv Φ gc C E it) (gEv C p) (tTv Φ gc C EF c) (tEv Φ gc C EF e) w) (ev Φ gc (.lc w e p it c)) := by
  intro B ow s σ H Q R wq
  rw [ev_lc] at wq
  show iEv Φ gc C E it σ H _
  refine ⟨B, ow, s, R, ?_⟩
  cases q : ev Φ gc it s with
  | exc c τ => rw [q] at wq; exact wq
  | bad => rw [q] at wq; exact wq
  | ok x s1 =>
    rw [q] at wq
    simp only [Out.bind] at wq
    cases hx : items x with
    | none => rw [hx] at wq; exact wq.elim
    | some xs =>
      rw [hx] at wq
      simp only at wq
      refine ⟨xs, hx, fun ow1 J H1 G R1 st1 hlim W hG q0 hD => ?_⟩
      split at wq
      case isFalse => exact wq.elim
      rename_i hpl
      have wq1 := wpE.step st1 wq
      clear wq
      generalize hB' : addB B q0 = B'
      have R2 : SR C B' ow1 s1 σ (upd H1 q0 (.lst [])) := by rw [← hB']; exact R1.newB hD rfl
      have BD : B' q0 = true := by rw [← hB']; exact addB_iff.mpr (.inr rfl)
      have BDf : B q0 = false := R1.freeB hD
      have hBle : ∀ b, B b = true → B' b = true := fun b h => by rw [← hB']; exact addB_iff.mpr (.inl h)
      have Dtw : q0 ≠ C.tw := fun z => by rw [z, R1.twB] at BDf; cases BDf
      have Drs : q0 ≠ C.rs := fun z => by rw [z, R1.rsB] at BDf; cases BDf
      have le2 : Sm' (hid B ow1 H1) (hid B' ow1 (upd H1 q0 (.lst []))) := by rw [← hB']; exact R1.newLe hD
      let f := lcF Φ gc e p c
      let gw : S → S := fun s2 => { s2 with ρ := wipeS s2.ρ w }
      let fin : List D → S → Out D := fun ys s5 => .ok (.lst ys) { s5 with ρ := backS s5.ρ s1.ρ w }
      have wq2 : wpE C E B ow1 H1 σ ((lcL f gw xs [] s1).bind fin) Q := wq1
      clear wq1
      -- the word
      let Pv : Nat → Hp → Prop := fun i H => i ≤ xs.length ∧ ∃ (s : S) (ow : Ow) (σ' : St) (acc : List V) (ds : List D), SR C B' ow s σ' H ∧ OffSame w σ σ' ∧ Sm' (hid B' ow1 (upd H1 q0 (.lst []))) (hid B' ow H) ∧
        (∀ b o, B b = true → b ≠ C.tw → b ≠ C.rs → H1 b = some o → nt o = true → H b = some o) ∧ H q0 = some (.lst acc) ∧ RepA C (hid B' ow H) acc ds ∧ ds.length ≤ i ∧ wpE C E B ow1 H1 σ ((lcL f gw (xs.drop i) ds s).bind fin) Q
      let n := xs.length
      have walk : L2.Walk J n (fun H => ∃ ow, G (hid B' ow H)) (fun i H x H' => J.yld i H x H') := ⟨fun i H hi ⟨ow, h⟩ => W.goes i B' ow H hi h, fun H ⟨ow, h⟩ => W.stops B' ow H h, fun i H x H' _ _ y => y⟩
      refine L2.lc_it walk Pv ?_ ?_ ?_ ?_
      · refine ⟨Nat.zero_le _, s1, ow1, σ, [], [], R2, OffSame.refl, Sm'.refl _, fun b o hb _ _ h n => ?_, upd_same, .nil, Nat.le_refl _, wq2⟩
        rw [upd_ne (ne_of_none h hD)]; exact h
      · rintro i H hi ⟨_, s, ow, σ', acc, ds, R', _, fr, _⟩
        exact ⟨ow, W.mono _ _ fr (W.mono _ _ le2 hG)⟩
      · rintro i x H H' hi ⟨_, s, ow, σ', acc, ds, R', o', fr, hd, hacc, ra, hlen, wk⟩ y
        have ex : xs[i]? = some xs[i] := List.getElem?_eq_getElem hi
        rw [List.drop_eq_getElem_cons hi] at wk
        obtain ⟨Rw, stw⟩ := R'.wipe w
        have ew : L2.wipe σ' w = L2.wipe σ w := o'.wipe
        rw [ew] at Rw
        obtain ⟨R3, st3, rx⟩ := W.yields B' (wipeO ow w) _ _ i H x H' xs[i] Rw ex (W.mono _ _ stw.fr (W.mono _ _ fr (W.mono _ _ le2 hG))) y
        have wk' : wpE C E B ow1 H1 σ (((f xs[i] (gw s)).bind fun o s1 => match o with
          | some d => lcL f gw (xs.drop (i + 1)) (ds ++ [d]) s1
          | none => lcL f gw (xs.drop (i + 1)) ds s1).bind fin) Q := wk
        clear wk
        have ef : f xs[i] (gw s) = match bindP p [xs[i]] (gw s).ρ with
          | none => .bad
          | some ρ => Out.quiet ((evT Φ gc c { (gw s) with ρ := ρ }).bind fun k s3 => if k then (ev Φ gc e s3).bind fun r s4 => .ok (some r) s4 else .ok none s3) := rfl
        rw [ef] at wk'
        cases hb : bindP p [xs[i]] (gw s).ρ with
        | none => rw [hb] at wk'; exact wk'.elim
        | some ρ' =>
          rw [hb] at wk'
          simp only at wk'
          refine ⟨B', wipeO ow w, gw s, xs[i], ρ', R3, rx, hb, fun ow4 σ4 R4 st4 o4 => ?_⟩
          have o4w : OffSame w (L2.wipe σ w) σ4 := o4.mono hw
          have offw : OffSame w σ (L2.wipe σ w) := by
            refine ⟨wipe_length _ _, fun j hj => ?_⟩
            exact wipe_out hj
          refine ⟨by rw [o4w.wipe, offw.wipe], B', ow4, _, R4, ?_⟩
          cases hc : evT Φ gc c { (gw s) with ρ := ρ' } with
          | exc cc τ => rw [hc] at wk'; exact wk'.elim
          | bad => rw [hc] at wk'; exact wk'.elim
          | ok kk s5 =>
            rw [hc] at wk'
            intro ow5 H5 R5 st5
            have sta : Stp C B' (wipeO ow w) H ow5 H5 := st3.trans (st4.trans st5)
            have st0 : Stp C B' ow H ow5 H5 := stw.trans sta
            have hd5 : ∀ b o, B b = true → b ≠ C.tw → b ≠ C.rs → H1 b = some o → nt o = true → H5 b = some o := fun b o h1 h2 h3 h4 h5 => st0.hd b o (hBle b h1) h2 h3 (hd b o h1 h2 h3 h4 h5) h5
            have acc5 : H5 q0 = some (.lst acc) := st0.hd q0 _ BD Dtw Drs hacc rfl
            cases kk with
            | false =>
              simp only [Bool.false_eq_true, if_false]
              exact ⟨hi, s5, ow5, σ4, acc, ds, R5, offw.trans o4w, fr.trans st0.fr, hd5, acc5, ra.mono st0.fr, Nat.le_succ_of_le hlen, wk'⟩
            | true =>
              simp only [if_true]
              refine ⟨B', ow5, s5, R5, ?_⟩
              cases he : ev Φ gc e s5 with
              | exc cc τ =>
                simp only [Out.bind, if_true, he, Out.quiet] at wk'
                exact wk'.elim
              | bad =>
                simp only [Out.bind, if_true, he, Out.quiet] at wk'
                exact wk'.elim
              | ok r s6 =>
                simp only [Out.bind, if_true, he, Out.quiet] at wk'
                intro ow6 v H6 R6 st6 rr
                have st06 : Stp C B' ow H ow6 H6 := st0.trans st6
                have acc6 : H6 q0 = some (.lst acc) := st06.hd q0 _ BD Dtw Drs hacc rfl
                have ll : acc.length = ds.length := ra.length
                obtain ⟨R7, le7⟩ := R6.wrB (o := .lst (acc ++ [v])) BD Dtw Drs (fun u hu => by rw [acc6] at hu; cases hu; exact .inl ⟨_, rfl⟩) rfl
                refine ⟨acc, acc6, ?_, hi, s6, ow6, σ4, acc ++ [v], ds ++ [r], R7, offw.trans o4w, (fr.trans st06.fr).trans le7, fun b o h1 h2 h3 h4 h5 => ?_, upd_same, (ra.mono (st06.fr.trans le7)).app (.cons (rr.mono le7) .nil), by simp; omega, wk'⟩
                · rw [ll, ← LIM_eq]; omega
                · rw [upd_ne (fun z => by subst z; rw [BDf] at h1; cases h1)]
                  exact st6.hd b o (hBle b h1) h2 h3 (hd5 b o h1 h2 h3 h4 h5) h5
      · rintro H ⟨_, s, ow, σ', acc, ds, R', o', fr, hd, hacc, ra, hlen, wk⟩
        have e0 : xs.drop n = [] := List.drop_length
        rw [e0] at wk
        have wk' : wpE C E B ow1 H1 σ (.ok (.lst ds) { s with ρ := backS s.ρ s1.ρ w }) Q := wk
        have R5 : SR C B ow s σ' H := by rw [← hB'] at R'; exact R'.unB R1.twB R1.rsB
        have leB : Sm' (hid B' ow H) (hid B ow H) := by rw [← hB']; exact hid_unB
        have frB : Sm' (hid B ow1 H1) (hid B ow H) := (le2.trans fr).trans leB
        have leo : Sm' (hid B ow H) (hid B (wipeO ow w) H) := hid_ow_le (fun b q => .inl q) (fun p q => .inl (mem_wipeO q)) (Sm'.refl _)
        have pn : some q0 ∉ ow := by rw [← hB'] at R'; exact R'.pNow
        refine wk' (wipeO ow w) (.ref q0) H (R1.back R5 o' frB hpl) ⟨frB.trans leo, hd⟩ (.lst (hid_some.mpr ⟨BDf, fun z => pn (mem_wipeO z), shw_of hacc rfl (R'.noMarkB BD)⟩) (ra.mono (leB.trans leo)) (Nat.le_trans hlen hlim))
end
end Mn

set_option Elab.async false
set_option linter.all false
set_option maxRecDepth 100000
set_option maxHeartbeats 1000000
namespace Mn
open PySem L2

/-! ### what a def promises -/
structure HidOk (C : Cf) (B : Addr → Bool) (ob : List OA) (H : Hp) (τ : Town) : Prop where
  tB : ∀ b, B b = true → ∃ o, H b = some o ∧ nt o = true
  twB : B C.tw = true
  rsB : B C.rs = true
  town : TownAt C H τ
  st : StoreOk C B (.z ob) H τ.ob
def wpF (C : Cf) (E : XK) (B : Addr → Bool) (ob : List OA) (H : Hp) (r : Rs) (Q : VK) : Prop := match r with
  | .ok d τ => ∀ ob' v H', HidOk C B ob' H' τ → Sm' (hid B (.z ob) H) (hid B (.z ob') H') → (∀ b o, B b = true → b ≠ C.tw → b ≠ C.rs → H b = some o → nt o = true → H' b = some o) → Rep C (hid B (.z ob') H') v d → Q v H'
  | .exc c τ => ∀ H', Fin C B (.z ob) H τ H' → E (.ref (C.cls c)) none H'
  | .bad => False
def spOf (P : Program) (w : World) (K : PySem.W.Frag) (tbs : List (Addr × Str)) (cls : Nat → Addr) (n : Nat) (F : Fn) : Sp := fun vs H Q E => vs.length = n ∧ ∃ (tw rs sc : Addr) (scr : List Int) (B : Addr → Bool) (ob : List OA) (ds : List D) (τ : Town),
  HidOk ⟨P, w, K, tw, rs, sc, scr, tbs, cls⟩ B ob H τ ∧ RepA ⟨P, w, K, tw, rs, sc, scr, tbs, cls⟩ (hid B (.z ob) H) vs ds ∧ wpF ⟨P, w, K, tw, rs, sc, scr, tbs, cls⟩ E B ob H (F ds τ) Q
section
variable {Φ : Nat → Fn} {gc : Nat → D} {C : Cf} {E : XK} {X : Cx} {k : Nat} {B : Addr → Bool} {ow : Ow} {s : S} {σ : St} {H : Hp}
theorem SR.ownAt (R : SR C B ow s σ H) {p : Addr} (h : some p ∈ ow.sl) : ∃ o, H p = some o ∧ nt o = true := by
  obtain ⟨o, h1, h2, _⟩ := R.there h
  exact ⟨o, h1, h2⟩
def allB (B : Addr → Bool) (ow : Ow) : Addr → Bool := fun b => B b || decide (some b ∈ ow.sl)
theorem allB_iff {b : Addr} : allB B ow b = true ↔ B b = true ∨ some b ∈ ow.sl := by simp [allB]
theorem allB_le {b : Addr} (h : B b = true) : allB B ow b = true := allB_iff.mpr (.inl h)
theorem hid_all {ob : List OA} : hid (allB B ow) (.z ob) H = hid B ⟨ow.sl, ob⟩ H := by
  funext b
  have : (allB B ow b = true ∨ some b ∈ Ow.z ob) ↔ (B b = true ∨ some b ∈ (⟨ow.sl, ob⟩ : Ow)) := by
    rw [allB_iff, Ow.mem_iff, Ow.mem_iff]
    constructor
    · rintro ((h | h) | h | h)
      · exact .inl h
      · exact .inr (.inl h)
      · cases h
      · exact .inr (.inr h)
    · rintro (h | h | h)
      · exact .inl (.inl h)
      · exact .inl (.inr h)
      · exact .inr (.inr h)
  unfold hid
  by_cases h : B b = true ∨ some b ∈ (⟨ow.sl, ob⟩ : Ow)
  · rw [if_pos h, if_pos (this.mpr h)]
  · rw [if_neg h, if_neg fun z => h (this.mp z)]
    rfl
theorem hid_all0 : hid (allB B ow) (.z ow.ob) H = hid B ow H := hid_all
theorem StoreOk.unall {ob : List OA} {obs : List Ob} (st : StoreOk C (allB B ow) (.z ob) H obs) (t : Tags ow) : StoreOk C B ⟨ow.sl, ob⟩ H obs where
  len := st.len
  ok := fun n oa o h1 h2 => by
    have := st.ok n oa o h1 h2
    rw [hid_all] at this
    exact this
  nB := fun oa h => by
    obtain ⟨h1, h2⟩ := st.nB oa h
    refine ⟨?_, fun p hp => ?_⟩
    · cases z : B oa.a with
      | false => rfl
      | true => rw [allB_le z] at h1; cases h1
    · have h2 := h2 p hp
      cases z : B p with
      | false => rfl
      | true => rw [allB_le z] at h2; cases h2
  tag := by
    obtain ⟨f1, k1, _⟩ := t
    obtain ⟨f2, _, k2⟩ := st.tag
    have no : ∀ q, (Ow.z ob).Has q → some q ∉ ow.sl := fun q hq z => by
      have := st.hasB hq
      rw [allB_iff.mpr (.inr z)] at this; cases this
    refine ⟨fun q => if some q ∈ ow.sl then f1 q else f2 q, fun i p h => ?_, fun n oa h => ⟨?_, fun j p hp => ?_⟩⟩
    · simp only [if_pos (List.mem_of_getElem? h)]; exact k1 i p h
    · simp only [if_neg (no _ ⟨oa, List.mem_of_getElem? h, .inl rfl⟩)]; exact (k2 n oa h).1
    · simp only [if_neg (no _ ⟨oa, List.mem_of_getElem? h, .inr (List.mem_of_getElem? hp)⟩)]; exact (k2 n oa h).2 j p hp
theorem StoreOk.all {obs : List Ob} (R : SR C B ow s σ H) : StoreOk C (allB B ow) (.z ow.ob) H s.τ.ob := by
  refine R.st.mono (by rw [hid_all0]; exact Sm'.refl _) (fun _ _ _ h _ => h) (fun q h => ?_) R.st.tag.z
  cases z : allB B ow q with
  | false => rfl
  | true =>
    rcases allB_iff.mp z with z | z
    · rw [R.st.hasB h] at z; cases z
    · exact absurd rfl (R.st.tag.has_ne h z)
/-- all that slots own is given back -/
theorem SR.again {ob : List OA} {H' : Hp} {τ : Town} (R : SR C B ow s σ H) (hk : ∀ b, allB B ow b = true → ∃ o, H' b = some o ∧ nt o = true) (tw : TownAt C H' τ) (st : StoreOk C (allB B ow) (.z ob) H' τ.ob) (fr : Sm' (hid B ow H) (hid B ⟨ow.sl, ob⟩ H'))
    (hd : ∀ b o, allB B ow b = true → b ≠ C.tw → b ≠ C.rs → H b = some o → nt o = true → H' b = some o) : SR C B ⟨ow.sl, ob⟩ { s with τ := τ } σ H' ∧ Stp C B ow H ⟨ow.sl, ob⟩ H' := by
  refine ⟨⟨R.len, R.lenO, fun i x v p h1 h2 h3 => (R.slot i x v p h1 h2 h3).mono fr fun p' o e h n => ?_, st.unall R.st.tag, fun p h => ?_, fun b hb => hk b (allB_le hb), R.twB, R.rsB, tw⟩, ⟨fr, fun b o hb h1 h2 h3 h4 => hd b o (allB_le hb) h1 h2 h3 h4⟩⟩
  · subst e
    have h3' : ow[i]? = some (some p') := h3
    have nb := R.nB p' (get_mem h3')
    exact hd p' o (allB_iff.mpr (.inr (List.mem_of_getElem? h3'))) (fun z => by rw [z, R.twB] at nb; cases nb) (fun z => by rw [z, R.rsB] at nb; cases nb) h n
  · rcases Ow.mem_iff.mp h with h | ⟨oa, h1, h2⟩
    · exact R.nB p (Ow.mem_iff.mpr (.inl h))
    · exact (st.unall R.st.tag).hasB ⟨oa, h1, .inr (List.mem_of_getElem? h2)⟩
/-- a call, from the caller's side -/
theorem call_step {n f : Nat} {vs : List V} {ds : List D} {Q : VK} (R : SR C B ow s σ H) (r : RepA C (hid B ow H) vs ds) (hn : ds.length = n) (w : wpE C E B ow H σ (callD Φ f (.tup ds) s) Q) : spOf C.P C.w C.K C.tbs C.cls n (Φ f) vs H Q E := by
  refine ⟨by rw [r.length]; exact hn, C.tw, C.rs, C.sc, C.scr, allB B ow, ow.ob, ds, s.τ, ⟨fun b hb => ?_, allB_le R.twB, allB_le R.rsB, R.town, StoreOk.all (obs := []) R⟩, by rw [hid_all0]; exact r, ?_⟩
  · rcases allB_iff.mp hb with z | z
    · exact R.tB b z
    · exact R.ownAt z
  · show wpF C E (allB B ow) ow.ob H (Φ f ds s.τ) Q
    simp only [callD] at w
    cases q : Φ f ds s.τ with
    | bad => rw [q] at w; exact w.elim
    | exc c τ =>
      rw [q] at w
      intro H' fn
      exact w H' (fn.of (fun b h => allB_le h) (by rw [hid_all0]; exact Sm'.refl _) fun b o hb h1 h2 h3 h4 => fn.hd b o (allB_le hb) h1 h2 h3 h4)
    | ok d τ =>
      rw [q] at w
      intro ob' v H' hk fr hd rv
      rw [hid_all0, hid_all] at fr
      rw [hid_all] at rv
      obtain ⟨R', S'⟩ := R.again hk.tB hk.town hk.st fr hd
      exact w ⟨ow.sl, ob'⟩ v H' R' S' rv

/-! ### calls by name -/
/-- the first j values by place, the others by name, in the parameters' order -/
def KB (K : PySem.W.Frag) (fd : FuncData) (ps : List Str) (j : Nat) : Prop := ∀ (s : Shared) (us ws : List Value), K.In s.heap → us.length = j → us.length + ws.length = ps.length → BindsTo s fd ⟨us, (ps.drop j).zip ws⟩ (ps.zip (us ++ ws))
structure FG (C : Cf) (mg : Str → Option Value) (base : Heap) (x : Str) (ps : List Str) (js : List Nat) (l : Nat) (F : Fn) : Prop where
  ex : ∃ (f : Addr) (fd : FuncData), mg x = some (.ref f) ∧ PySem.W.keepIn C.K (.ref f) = true ∧ Binds C.K fd ps [] ∧ (∀ j ∈ js, KB C.K fd ps j) ∧ FnOk C.P C.w C.K mg base (L2.CX C.P C.w) l f fd ps (spOf C.P C.w C.K C.tbs C.cls ps.length F)
theorem sd_cal {f : Nat} {a : Ex} {x : Str} {ps : List Str} {js : List Nat} {l : Nat} {e : Expr} {es : List Expr} {t : TA} {p pos : Pos} (g : Gd C E X k) (G : FG C X.mg X.base x ps js l (Φ f)) (hl : l ≤ k) (ha : SdA Φ gc C E X a (e :: es) t) (hn : (e :: es).length = ps.length) (hg : glB X.env.scope x = true) (hdb : (x == ("__debug__" : Str)) = false) :
    ∃ t, Sd Φ gc C E X (.cal f a) (.Call (.Name x p) (e :: es) [] pos) t := by
  obtain ⟨fa, fd, h1, h2, h3, _, h5⟩ := G.ex
  rw [← g.hP, ← g.hw, ← g.hK] at h5
  rw [← g.hK] at h2 h3
  have pl := ha.pl
  simp only [List.all_cons, Bool.and_eq_true] at pl
  refine ⟨_, pe_call h5 (g.room.mono hl) (gl_of hg) h1 h2 h3 .nil g.pass ha.pa hdb (starEach_plain pl.1) (noStar pl.2), fun B ow s σ H Q R w => ?_, fun z => by cases z⟩
  unfold ev at w
  refine bindA ha R w fun ds s1 ow1 vs H1 hl R1 st r w1 => ?_
  show spOf _ _ _ _ _ _ _ (vs ++ []) H1 Q E
  rw [List.append_nil, g.hP, g.hw, g.hK]
  exact call_step R1 r (by omega) w1
theorem sd_cal0 {f : Nat} {x : Str} {ps : List Str} {js : List Nat} {l : Nat} {p pos : Pos} (g : Gd C E X k) (G : FG C X.mg X.base x ps js l (Φ f)) (hl : l ≤ k) (hn : 0 = ps.length) (hg : glB X.env.scope x = true) (hdb : (x == ("__debug__" : Str)) = false) :
    ∃ t, Sd Φ gc C E X (.cal f .anil) (.Call (.Name x p) [] [] pos) t := by
  obtain ⟨fa, fd, h1, h2, h3, _, h5⟩ := G.ex
  rw [← g.hP, ← g.hw, ← g.hK] at h5
  rw [← g.hK] at h2 h3
  refine ⟨_, pe_call0 h5 (g.room.mono hl) (gl_of hg) h1 h2 h3 .nil g.pass hdb, fun B ow s σ H Q R w => ?_, fun z => by cases z⟩
  unfold ev at w
  refine bindA (X := X) sda_nil R w fun ds s1 ow1 vs H1 hl R1 st r w1 => ?_
  show spOf _ _ _ _ _ _ _ (vs ++ []) H1 Q E
  rw [List.append_nil, g.hP, g.hw, g.hK]
  exact call_step R1 r (by simp at hl; simp [hl, ← hn]) w1

/-! ### a call of a local name that holds one of several defs -/
def tCV (C : Cf) (Φ : Nat → Fn) (E : XK) (i n0 : Nat) (t : TA) : List (Nat × Nat) → TE
  | [] => fun _ _ _ => False
  | (n, f) :: fs => fun σ H Q => tCallL i (C.cls (20 + n)) (spOf C.P C.w C.K C.tbs C.cls n0 (Φ f)) [] E t σ H Q ∨ tCV C Φ E i n0 t fs σ H Q
theorem tCV_in {C : Cf} {Φ : Nat → Fn} {E : XK} {i n0 : Nat} {t : TA} {σ : St} {H : Hp} {Q : VK} {n f : Nat} : ∀ {fs : List (Nat × Nat)}, fs.lookup n = some f → tCallL i (C.cls (20 + n)) (spOf C.P C.w C.K C.tbs C.cls n0 (Φ f)) [] E t σ H Q → tCV C Φ E i n0 t fs σ H Q
  | [], h, _ => by cases h
  | (m, g) :: fs, h, q => by
    rw [List.lookup_cons] at h
    cases e : n == m with
    | true =>
      rw [e] at h
      have em : n = m := by simpa using e
      cases h
      subst em
      exact .inl q
    | false =>
      rw [e] at h
      exact .inr (tCV_in h q)
theorem sd_calv {i : Nat} {fs : List (Nat × Nat)} {a : Ex} {x : Str} {e : Expr} {es : List Expr} {t : TA} {p pos : Pos} (g : Gd C E X k) (hi : X.N[i]? = some x) (hv : Vis X.env.scope x) (hd : (x == ("__debug__" : Str)) = false) (hcd : (x == ("__classdict__" : Str)) = false) (ha : SdA Φ gc C E X a (e :: es) t)
    (hf : ∀ q ∈ fs, ∃ y ps js l, FG C X.mg X.base y ps js l (Φ q.2) ∧ l ≤ k ∧ (e :: es).length = ps.length ∧ X.mg y = some (.ref (C.cls (20 + q.1)))) : ∃ u, Sd Φ gc C E X (.calv i fs a) (.Call (.Name x p) (e :: es) [] pos) u := by
  have pl := ha.pl
  simp only [List.all_cons, Bool.and_eq_true] at pl
  refine ⟨tCV C Φ E i (e :: es).length t fs, ?_, fun B ow s σ H Q R w => ?_, fun z => by cases z⟩
  · induction fs with
    | nil => exact ⟨fun pins s σ H Q I z => z.elim⟩
    | cons q fs ih =>
      obtain ⟨n, f⟩ := q
      have h2 := ih fun q hq => hf q (by simp [hq])
      obtain ⟨y, ps, js, l, G, hl, hn, hm⟩ := hf (n, f) (by simp)
      obtain ⟨fa, fd, h1, h3, h4, _, h5⟩ := G.ex
      rw [hm] at h1
      cases h1
      rw [← g.hP, ← g.hw, ← g.hK] at h5
      rw [← g.hK] at h3 h4
      have pe := pe_callL (E := E) (pos := pos) (p := p) h5 (g.room.mono hl) hi hv h3 h4 .nil g.pass ha.pa hd hcd (starEach_plain pl.1) (noStar pl.2)
      refine ⟨fun pins s σ H Q I z => ?_⟩
      rcases z with z | z
      · refine pe.run pins s σ H Q I ?_
        rw [hn, ← g.hP, ← g.hw, ← g.hK] at z
        exact z
      · exact h2.run pins s σ H Q I z
  · unfold ev at w
    split at w
    · rename_i n hs
      split at w
      · rename_i f hl
        obtain ⟨hn9, hl⟩ : n < 900 ∧ fs.lookup n = some f := by
          split at hl
          · rename_i h9; exact ⟨h9, hl⟩
          · cases hl
        obtain ⟨v, q, k1, k2, k3⟩ := R.at hs
        have hv : v = some (.ref (C.cls (20 + n))) := by
          cases v with
          | none => exact k3.elim
          | some v =>
            cases q with
            | some q => exact k3.elim
            | none =>
              have k3' : Rep C _ v (.tok (n + 2)) := k3
              cases k3' with
              | fnv _ _ => rfl
              | obj _ _ => omega
        rw [hv] at k1
        refine tCV_in hl ⟨k1, bindA ha R w fun ds s1 ow1 vs H1 hl R1 st r w1 => ?_⟩
        show spOf _ _ _ _ _ _ _ (vs ++ []) H1 Q E
        rw [List.append_nil]
        exact call_step R1 r hl w1
      · exact w.elim
    · exact w.elim

/-! ### keywords -/
/-- positional expressions, then keywords; one row of the IR -/
structure SdK (Φ : Nat → Fn) (gc : Nat → D) (C : Cf) (E : XK) (X : Cx) (a : Ex) (es : List Expr) (kws : List Keyword) (t1 t2 : TA) : Prop where
  pa : PA X es t1
  pk : PK X kws t2
  ok : ∀ (B : Addr → Bool) (ow : Ow) (s : S) (σ : St) (H : Hp) (Q : List V → List V → Hp → Prop), SR C B ow s σ H →
    wpA C E B ow H σ (ev Φ gc a s) (fun us H' => ∀ vs zs, us = vs ++ zs → vs.length = es.length → zs.length = kws.length → Q vs zs H') → t1 σ H fun vs H1 => t2 σ H1 fun zs H2 => Q vs zs H2
  pl : es.all plainE = true
  len : ∀ s d s1, ev Φ gc a s = .ok d s1 → ∃ ds, d = .tup ds ∧ ds.length = es.length + kws.length
  nl : es = [] → t1 = tNil
theorem wpA.mono {o : Out D} {Q Q' : List V → Hp → Prop} (h : wpA C E B ow H σ o Q) (i : ∀ us H', Q us H' → Q' us H') : wpA C E B ow H σ o Q' := by
  cases o with
  | ok d s' => cases d <;> first | exact fun ow' vs H' R st r => i _ _ (h ow' vs H' R st r) | exact h
  | exc c τ => exact h
  | bad => exact h
theorem sdk_nil : SdK Φ gc C E X .anil [] [] tNil tNil := ⟨pa_nil, pk_nil, fun B ow s σ H Q R h => h ow [] H R Stp.refl .nil [] [] rfl rfl rfl, rfl, fun s d s1 h => by cases h; exact ⟨[], rfl, rfl⟩, fun _ => rfl⟩
theorem acons_len {a b : Ex} {n : Nat} (hb : ∀ s d s1, ev Φ gc b s = .ok d s1 → ∃ ds, d = .tup ds ∧ ds.length = n) : ∀ s d s1, ev Φ gc (.acons a b) s = .ok d s1 → ∃ ds, d = .tup ds ∧ ds.length = n + 1 := fun s d s1 h => by
  unfold ev at h
  cases q : ev Φ gc a s with
  | ok d1 s2 =>
    rw [q] at h
    simp only [Out.bind] at h
    cases q2 : ev Φ gc b s2 with
    | ok d2 s3 =>
      rw [q2] at h
      obtain ⟨ds, rfl, hl⟩ := hb _ _ _ q2
      cases h
      exact ⟨_, rfl, by simp [hl]⟩
    | exc c τ => rw [q2] at h; cases h
    | bad => rw [q2] at h; cases h
  | exc c τ => rw [q] at h; cases h
  | bad => rw [q] at h; cases h
/-- the head of a row -/
theorem acons_ok {a b : Ex} {e : Expr} {t : TE} {n : Nat} {Q : List V → Hp → Prop} {Q' : VK} (ha : Sd Φ gc C E X a e t) (R : SR C B ow s σ H) (h : wpA C E B ow H σ (ev Φ gc (.acons a b) s) Q)
    (hk : ∀ s1 ow1 v H1, SR C B ow1 s1 σ H1 → wpA C E B ow1 H1 σ (ev Φ gc b s1) (fun vs H' => Q (v :: vs) H') → Q' v H1) : t σ H Q' := by
  refine ha.ok B ow s σ H _ R ?_
  unfold ev at h
  cases q : ev Φ gc a s with
  | ok d s1 =>
    intro ow1 v H1 R1 st r
    rw [q] at h
    simp only [Out.bind] at h
    refine hk s1 ow1 v H1 R1 ?_
    cases q2 : ev Φ gc b s1 with
    | ok d2 s2 =>
      rw [q2] at h
      cases d2 with
      | tup ds => exact fun ow2 vs H2 R2 st2 r2 => h ow2 _ H2 R2 (st.trans st2) (.cons (r.mono st2.fr) r2)
      | _ => exact h.elim
    | exc c τ =>
      rw [q2] at h
      exact fun H' f => h H' (f.step st)
    | bad => rw [q2] at h; exact h.elim
  | exc c τ => rw [q] at h; exact h
  | bad => rw [q] at h; exact h.elim
theorem sdk_kw {a b : Ex} {e : Expr} {nm : Option Str} {kpos : Pos} {kws : List Keyword} {t : TE} {t2 : TA} (ha : Sd Φ gc C E X a e t) (hr : SdK Φ gc C E X b [] kws tNil t2) : SdK Φ gc C E X (.acons a b) [] (⟨nm, e, kpos⟩ :: kws) tNil (tCons t t2) := by
  refine ⟨pa_nil, pk_cons ha.pe hr.pk, fun B ow s σ H Q R h => ?_, rfl, fun s d s1 h => ?_, fun _ => rfl⟩
  · show t σ H fun x H1 => t2 σ H1 fun xs H2 => Q [] (x :: xs) H2
    refine acons_ok (n := 0) ha R h fun s1 ow1 v H1 R1 w1 => ?_
    refine hr.ok B ow1 s1 σ H1 (fun vs zs H2 => Q [] (v :: zs) H2) R1 (w1.mono fun us H' k vs zs e l1 l2 => ?_)
    refine k [] (v :: zs) ?_ rfl (by simp [l2])
    have : vs = [] := List.length_eq_zero_iff.mp (by simpa using l1)
    subst this
    simp [e]
  · obtain ⟨ds, h1, h2⟩ := acons_len (n := kws.length) (fun s d s1 h => by obtain ⟨ds, h1, h2⟩ := hr.len s d s1 h; exact ⟨ds, h1, by simpa using h2⟩) s d s1 h
    exact ⟨ds, h1, by simp [h2]⟩
theorem sdk_pos {a b : Ex} {e : Expr} {es : List Expr} {kws : List Keyword} {t : TE} {t1 t2 : TA} (ha : Sd Φ gc C E X a e t) (hr : SdK Φ gc C E X b es kws t1 t2) (hp : plainE e = true) : SdK Φ gc C E X (.acons a b) (e :: es) kws (tCons t t1) t2 := by
  refine ⟨pa_cons ha.pe hr.pa (starEach_plain hp), hr.pk, fun B ow s σ H Q R h => ?_, by simp [hp, hr.pl], fun s d s1 h => ?_, fun z => by cases z⟩
  · show t σ H fun x H1 => t1 σ H1 fun xs H2 => t2 σ H2 fun zs H3 => Q (x :: xs) zs H3
    refine acons_ok (n := 0) ha R h fun s1 ow1 v H1 R1 w1 => ?_
    refine hr.ok B ow1 s1 σ H1 (fun vs zs H2 => Q (v :: vs) zs H2) R1 (w1.mono fun us H' k vs zs e l1 l2 => ?_)
    exact k (v :: vs) zs (by simp [e]) (by simp [l1]) l2
  · obtain ⟨ds, h1, h2⟩ := acons_len (n := es.length + kws.length) hr.len s d s1 h
    exact ⟨ds, h1, by simp [h2]; omega⟩
def gK (α : Type) (z : α) (j n : Nat) (us ws : List α) : List α := if us.length = j ∧ us.length + ws.length = n then us ++ ws else List.replicate (n + 1) z
theorem vals_rep : ∀ n : Nat, Vals (List.replicate n V.non) (List.replicate n Value.none)
  | 0 => .nil
  | n + 1 => .cons rfl (vals_rep n)
theorem kbinds_of {K : PySem.W.Frag} {fd : FuncData} {ps : List Str} {j : Nat} (h : KB K fd ps j) : KBinds K fd ps (ps.drop j) (gK Value .none j ps.length) (gK V .non j ps.length) where
  to := fun s us ws hK hl => by
    unfold gK at hl ⊢
    split at hl
    · rename_i c
      rw [if_pos c]
      exact h s us ws hK c.1 c.2
    · rw [List.length_replicate] at hl; omega
  rel := fun {vs us zs ws} r1 r2 => by
    unfold gK
    rw [r1.length, r2.length]
    split
    · exact r1.append r2
    · exact vals_rep _
theorem pe_callK0 {fa : Addr} {fd : FuncData} {ps ks : List Str} {sp : Sp} {x : Str} {p pos : Pos} {kws : List Keyword} {tk : TA} {l : Nat} {CX : CXT} {g' : List Value → List Value → List Value} {gV : List V → List V → List V} (F : FnOk X.prog X.w X.K X.mg X.base CX l fa fd ps sp) (hr : Room l X.A) (hg : Gl X x) (hm : X.mg x = some (.ref fa)) (hk : PySem.W.keepIn X.K (.ref fa) = true) (hb : KBinds X.K fd ps ks g' gV) (hx : Passes CX X E)
    (hkw : PK X kws tk) (hall : (backToKw pos (keywordEach kws X.env)).all (·.1.isSome) = true) (hks : (backToKw pos (keywordEach kws X.env)).filterMap (·.1) = ks)
    (hdb : (x == ("__debug__" : Str)) = false) (hpl : ((backTo pos (starEach [] X.env)).any (·.1) || (backToKw pos (keywordEach kws X.env)).any (·.1.isNone)) = false) :
    PE X (.Call (.Name x p) [] kws pos) (tCallK sp gV E tNil tk) := by
  refine ⟨fun pins s σ H Q I h => ?_⟩
  refine PySem.wpAny_Call_Name_kw (ld_glob I hg hm ?_ hdb)
  refine PySem.W.callWith_KW0 (h₀ := X.base) I.ok.mod.kin hk hall ?_ hpl
  refine thn (hkw.run pos pins s σ H _ I h) fun ws s2 ⟨zs, H2, I2, rz, q2⟩ => ⟨I2.kIn, ?_⟩
  rw [hks]
  exact run_fnk F hr hb hx I2 .nil rz q2
def kwN : List Keyword → List Str → Bool
  | [], [] => true
  | ⟨some n, _, _⟩ :: r, x :: xs => n == x && kwN r xs
  | _, _ => false
theorem kw_forms {pos : Pos} {env : Env} : ∀ {kws : List Keyword} {ks : List Str}, kwN kws ks = true → (backToKw pos (keywordEach kws env)).all (·.1.isSome) = true ∧ (backToKw pos (keywordEach kws env)).filterMap (·.1) = ks ∧ (backToKw pos (keywordEach kws env)).any (·.1.isNone) = false ∧ kws.length = ks.length
  | [], [], _ => ⟨rfl, rfl, rfl, rfl⟩
  | ⟨some n, e, kp⟩ :: r, x :: xs, h => by
    simp only [kwN, Bool.and_eq_true, beq_iff_eq] at h
    obtain ⟨h1, h2, h3, h4⟩ := kw_forms (pos := pos) (env := env) h.2
    have q : backToKw pos (keywordEach (⟨some n, e, kp⟩ :: r) env) = (some n, (do let v ← eval e env; standAt pos; pure v)) :: backToKw pos (keywordEach r env) := rfl
    rw [q]
    simp [h1, h2, h3, h4, h.1]
  | [], _ :: _, h => by simp [kwN] at h
  | ⟨none, _, _⟩ :: _, ks, h => by cases ks <;> simp [kwN] at h
  | ⟨some _, _, _⟩ :: _, [], h => by simp [kwN] at h
theorem sd_calK {f : Nat} {a : Ex} {x : Str} {ps : List Str} {js : List Nat} {l : Nat} {es : List Expr} {kws : List Keyword} {t1 t2 : TA} {p pos : Pos} (g : Gd C E X k) (G : FG C X.mg X.base x ps js l (Φ f)) (hl : l ≤ k) (ha : SdK Φ gc C E X a es kws t1 t2) (hn : es.length ≤ ps.length) (hj : es.length ∈ js) (hks : kwN kws (ps.drop es.length) = true) (hg : glB X.env.scope x = true) (hdb : (x == ("__debug__" : Str)) = false) :
    ∃ t, Sd Φ gc C E X (.cal f a) (.Call (.Name x p) es kws pos) t := by
  obtain ⟨fa, fd, h1, h2, h3, h4, h5⟩ := G.ex
  rw [← g.hP, ← g.hw, ← g.hK] at h5
  rw [← g.hK] at h2 h3
  have kb := kbinds_of (h4 _ hj)
  rw [← g.hK] at kb
  obtain ⟨k1, k2, k3, k4⟩ := kw_forms (pos := pos) (env := X.env) hks
  have hlen : es.length + kws.length = ps.length := by rw [k4, List.length_drop]; omega
  have ok : Ok C E (tCallK (spOf X.prog X.w X.K C.tbs C.cls ps.length (Φ f)) (gK V .non es.length ps.length) E t1 t2) (ev Φ gc (.cal f a)) := fun B ow s σ H Q R w => by
    unfold ev at w
    show t1 σ H fun vs H1 => t2 σ H1 fun zs H2 => spOf _ _ _ _ _ _ _ (gK V .non es.length ps.length vs zs) H2 Q E
    refine ha.ok B ow s σ H _ R ?_
    cases q : ev Φ gc a s with
    | exc c τ => rw [q] at w; exact w
    | bad => rw [q] at w; exact w
    | ok d s1 =>
      obtain ⟨ds, rfl, hd⟩ := ha.len _ _ _ q
      rw [q] at w
      intro ow1 us H1 R1 st r vs zs e l1 l2
      subst e
      have c : vs.length = es.length ∧ vs.length + zs.length = ps.length := ⟨l1, by omega⟩
      unfold gK
      rw [if_pos c, g.hP, g.hw, g.hK]
      exact call_step R1 r (by omega) (wpE.step st w)
  cases es with
  | nil =>
    have e := ha.nl rfl
    subst e
    exact ⟨_, pe_callK0 h5 (g.room.mono hl) (gl_of hg) h1 h2 kb g.pass ha.pk k1 k2 hdb (by rw [k3]; rfl), ok, fun z => by cases z⟩
  | cons e es =>
    have pl := ha.pl
    have pl' := pl
    simp only [List.all_cons, Bool.and_eq_true] at pl
    exact ⟨_, pe_callK h5 (g.room.mono hl) (gl_of hg) h1 h2 kb g.pass ha.pa ha.pk k1 k2 hdb (starEach_plain pl.1) (by rw [k3, noStar pl']; rfl), ok, fun z => by cases z⟩
end
end Mn

set_option Elab.async false
set_option linter.all false
set_option maxRecDepth 100000
set_option maxHeartbeats 1000000
namespace Mn
open PySem L2

/-! ### new objects that a slot is to own -/
abbrev Hd (C : Cf) (B : Addr → Bool) (H H' : Hp) : Prop := ∀ b o, B b = true → b ≠ C.tw → b ≠ C.rs → H b = some o → nt o = true → H' b = some o
def wpR (C : Cf) (E : XK) (B : Addr → Bool) (ow : Ow) (H : Hp) (σ : St) (o : Out D) (Q : VK) : Prop := match o with
  | .ok d s' => ∀ ow' p H' x, SR C (addB B p) ow' s' σ H' → B p = false → Sm' (hid B ow H) (hid (addB B p) ow' H') → Hd C B H H' → ownOf d = some x → SlotOk C (hid (addB B p) ow' H') H' x (some (.ref p)) (some p) → Q (.ref p) H'
  | .exc c τ => ∀ H', Fin C B ow H τ H' → E (.ref (C.cls c)) none H'
  | .bad => False
theorem wpR.step {C : Cf} {E : XK} {B : Addr → Bool} {ow ow1 : Ow} {H H1 : Hp} {σ : St} {o : Out D} {Q : VK} (a : Stp C B ow H ow1 H1) (h : wpR C E B ow H σ o Q) : wpR C E B ow1 H1 σ o Q := by
  cases o with
  | ok d s' => exact fun ow' p H' x R nb fr hd => h ow' p H' x R nb (a.fr.trans fr) fun b o h1 h2 h3 h4 h5 => hd b o h1 h2 h3 (a.hd b o h1 h2 h3 h4 h5) h5
  | exc c τ => exact fun H' f => h H' (f.step a)
  | bad => exact h
structure SdF (Φ : Nat → Fn) (gc : Nat → D) (C : Cf) (E : XK) (X : Cx) (a : Ex) (e : Expr) (t : TE) : Prop where
  pe : PE X e t
  ok : ∀ (B : Addr → Bool) (ow : Ow) (s : S) (σ : St) (H : Hp) (Q : VK), SR C B ow s σ H → wpR C E B ow H σ (ev Φ gc a s) Q → t σ H Q
section
variable {Φ : Nat → Fn} {gc : Nat → D} {C : Cf} {E : XK} {X : Cx} {k : Nat} {B : Addr → Bool} {ow : Ow} {s : S} {σ : St} {H : Hp}
theorem wpR.new {d : D} {x : Slot} {p : Addr} {o : HO} {Q : VK} (w : wpR C E B ow H σ (.ok d s) Q) (R : SR C B ow s σ H) (hp : H p = none) (hn : nt o = true) (hx : ownOf d = some x) (so : SlotOk C (hid (addB B p) ow (upd H p o)) (upd H p o) x (some (.ref p)) (some p)) : Q (.ref p) (upd H p o) := by
  refine w ow p _ x (R.newB hp hn) (R.freeB hp) (R.newLe hp) (fun b u _ _ _ h n => ?_) hx so
  rw [upd_ne (ne_of_none h hp)]; exact h
theorem sdf_lst {a : Ex} {es : List Expr} {t : TA} {pos : Pos} (h : SdA Φ gc C E X a es t) (hn : es.length ≤ 1000) : SdF Φ gc C E X (.lst a) (.List es pos) (tLst t) := by
  refine ⟨pe_lst h.pa, fun B ow s σ H Q R w => ?_⟩
  unfold ev at w
  show t σ H _
  refine h.ok B ow s σ H _ R ?_
  cases q : ev Φ gc a s with
  | exc c τ => rw [q] at w; exact w
  | bad => rw [q] at w; exact w
  | ok d s1 =>
    obtain ⟨ds, rfl, hl⟩ := h.len _ _ _ q
    rw [q] at w
    intro ow1 vs H1 R1 st r
    have w1 : wpR C E B ow1 H1 σ (.ok (.lst ds) s1) Q := wpR.step st w
    refine ⟨small_line (by rw [r.length, hl]; exact hn), fun p hp => ?_⟩
    exact w1.new R1 hp rfl rfl ⟨rfl, vs, upd_same, r.mono (R1.newLe hp), by rw [LIM_eq]; exact small_line (by omega)⟩
theorem sdf_dnew {n : Bool} {pos : Pos} (g : Gd C E X k) : ∃ t, SdF Φ gc C E X (.dnew n) (.Dict [] [] pos) t := by
  cases n with
  | false =>
    refine ⟨_, pe_dnewK, fun B ow s σ H Q R w p hp => ?_⟩
    unfold ev at w
    exact w.new R hp rfl rfl ⟨rfl, .inl ⟨[], [], rfl, upd_same, .nil, Nat.zero_le _, rfl⟩⟩
  | true =>
    refine ⟨_, pe_dnewN, fun B ow s σ H Q R w p hp => ?_⟩
    unfold ev at w
    rw [g.hP, g.hw]
    exact w.new R hp rfl rfl ⟨rfl, .inr ⟨[], [], [], rfl, upd_same, .nil, rfl, rfl, .nil, Nat.zero_le _, rfl⟩⟩
/-- {k: v}, the key an int or a text -/
theorem sdf_dsp {ek evx : Ex} {e e' : Expr} {t t' : TE} {pos : Pos} (hk : Sd Φ gc C E X ek e t) (hv : Sd Φ gc C E X evx e' t') : SdF Φ gc C E X (.dsp false ek evx) (.Dict [some e] [e'] pos) (tDisp [(t, t')]) := by
  refine ⟨pe_disp (pps_cons hk.pe hv.pe pps_nil) rfl rfl (by simp) (by simp), fun B ow s σ H Q R w p hp => ?_⟩
  unfold ev at w
  have BDf : B p = false := R.freeB hp
  have ptw : p ≠ C.tw := fun z => by rw [z, R.twB] at BDf; cases BDf
  have prs : p ≠ C.rs := fun z => by rw [z, R.rsB] at BDf; cases BDf
  have R1 : SR C (addB B p) ow s σ (upd H p (.dK [])) := R.newB hp rfl
  have pB : addB B p p = true := addB_iff.mpr (.inr rfl)
  have hle : ∀ b, B b = true → addB B p b = true := fun b h => addB_iff.mpr (.inl h)
  have finOf : ∀ {ow1 H1 τ H'}, Stp C (addB B p) ow (upd H p (.dK [])) ow1 H1 → Fin C (addB B p) ow1 H1 τ H' → Fin C B ow H τ H' := fun {ow1 H1 τ H'} st f =>
    f.of hle ((R.newLe hp).trans st.fr) (fun b o h1 h2 h3 h4 h5 => f.hd b o (hle b h1) h2 h3 (st.hd b o (hle b h1) h2 h3 (by rw [upd_ne (ne_of_none h4 hp)]; exact h4) h5) h5)
  show t σ (upd H p (.dK [])) fun x H1 => t' σ H1 fun y H2 => _
  refine hk.ok (addB B p) ow s σ _ _ R1 ?_
  cases q : ev Φ gc ek s with
  | exc c τ => rw [q] at w; exact fun H' f => w H' (finOf Stp.refl f)
  | bad => rw [q] at w; exact w
  | ok kd s1 =>
    rw [q] at w
    intro ow1 kv H1 R2 st1 rk
    refine hv.ok (addB B p) ow1 s1 σ _ _ R2 ?_
    simp only [Out.bind] at w
    cases q2 : ev Φ gc evx s1 with
    | exc c τ => rw [q2] at w; exact fun H' f => w H' (finOf st1 f)
    | bad => rw [q2] at w; exact w
    | ok vd s2 =>
      rw [q2] at w
      intro ow2 v H2 R3 st2 rv
      simp only at w
      have st := st1.trans st2
      have hp2 : H2 p = some (.dK []) := st.hd p _ pB ptw prs upd_same rfl
      split at w
      case isFalse => exact w.elim
      rename_i hkk
      have fin : ∀ key : Key, kv = kV key → kD key = kd → H2 p = some (.dK []) ∧ ∃ kvs : List (Key × V), [(kv, v)] = kvs.map (fun kv => (kV kv.1, kv.2)) ∧ kvs.length ≤ 15 ∧ Q (.ref p) (upd H2 p (.dK (mergeK [] kvs))) := fun key e1 e2 => by
        refine ⟨hp2, [(key, v)], by simp [e1], by simp, ?_⟩
        obtain ⟨R4, le4⟩ := R3.wrB (o := .dK [(key, v)]) pB ptw prs (fun u hu => by rw [hp2] at hu; cases hu; exact .inr (.inl ⟨_, rfl⟩)) rfl
        refine w ow2 p _ (.dct false [(kd, vd)]) R4 BDf (((R.newLe hp).trans st.fr).trans le4) (fun b o h1 h2 h3 h4 h5 => ?_) rfl ⟨rfl, .inl ⟨[(key, v)], [vd], rfl, upd_same, .cons (rv.mono le4) .nil, by simp [LIM], by simp [e2]⟩⟩
        rw [upd_ne (fun z => by subst z; rw [BDf] at h1; cases h1)]
        exact st.hd b o (hle b h1) h2 h3 (by rw [upd_ne (ne_of_none h4 hp)]; exact h4) h5
      have hk' : keyK kd = true := hkk
      cases kd with
      | int i => cases rk; exact fin (.inl i) rfl rfl
      | str i => cases rk; exact fin (.inr i) rfl rfl
      | _ => simp [keyK] at hk'

/-! ### rows with owned places -/
def addBs (B : Addr → Bool) : List Addr → Addr → Bool
  | [] => B
  | p :: ps => addB (addBs B ps) p
theorem addBs_iff {b : Addr} : ∀ {ps : List Addr}, addBs B ps b = true ↔ B b = true ∨ b ∈ ps
  | [] => by simp [addBs]
  | p :: ps => by
    show addB (addBs B ps) p b = true ↔ _
    rw [addB_iff, addBs_iff, List.mem_cons]
    constructor
    · rintro ((h | h) | h) <;> simp [h]
    · rintro (h | h | h) <;> simp [h]
theorem boolEq {a b : Bool} (h : a = true ↔ b = true) : a = b := by cases a <;> cases b <;> simp_all
theorem addBs_swap {p : Addr} {ps : List Addr} : addBs (addB B p) ps = addB (addBs B ps) p := by
  funext b
  refine boolEq ?_
  rw [addBs_iff, addB_iff, addB_iff, addBs_iff]
  constructor
  · rintro ((h | h) | h) <;> simp [h]
  · rintro ((h | h) | h) <;> simp [h]
def Row (C : Cf) (G H : Hp) : List Bool → List Addr → List V → List D → Prop
  | [], [], [], [] => True
  | false :: fl, ps, v :: vs, d :: ds => Rep C G v d ∧ Row C G H fl ps vs ds
  | true :: fl, p :: ps, v :: vs, d :: ds => (v = .ref p ∧ ∃ x, ownOf d = some x ∧ SlotOk C G H x (some v) (some p)) ∧ Row C G H fl ps vs ds
  | _, _, _, _ => False
theorem Row.mono {G G' H H' : Hp} (e : Sm' G G') : ∀ {fl : List Bool} {ps : List Addr} {vs : List V} {ds : List D}, (∀ p ∈ ps, ∀ o, H p = some o → nt o = true → H' p = some o) → Row C G H fl ps vs ds → Row C G' H' fl ps vs ds
  | [], [], [], [], _, _ => trivial
  | false :: fl, ps, v :: vs, d :: ds, k, h => ⟨Rep.mono e h.1, Row.mono e k h.2⟩
  | true :: fl, p :: ps, v :: vs, d :: ds, k, h => by
    obtain ⟨⟨h1, x, h2, h3⟩, h4⟩ := h
    refine ⟨⟨h1, x, h2, h3.mono e fun q o e' hq n => ?_⟩, Row.mono e (fun q hq => k q (by simp [hq])) h4⟩
    cases e'
    exact k p (by simp) o hq n
  | [], [], [], _ :: _, _, h => h.elim
  | [], [], _ :: _, _, _, h => h.elim
  | [], _ :: _, _, _, _, h => h.elim
  | false :: _, _, [], _, _, h => by simp [Row] at h
  | false :: _, _, _ :: _, [], _, h => by simp [Row] at h
  | true :: _, [], _, _, _, h => by simp [Row] at h
  | true :: _, _ :: _, [], _, _, h => by simp [Row] at h
  | true :: _, _ :: _, _ :: _, [], _, h => by simp [Row] at h
def wpN (C : Cf) (E : XK) (B : Addr → Bool) (ow : Ow) (H : Hp) (σ : St) (fl : List Bool) (o : Out D) (Q : List V → Hp → Prop) : Prop := match o with
  | .ok (.tup ds) s' => ∀ ow' vs H' ps, SR C (addBs B ps) ow' s' σ H' → ps.Nodup → (∀ p ∈ ps, B p = false) → Sm' (hid B ow H) (hid (addBs B ps) ow' H') → Hd C B H H' → Row C (hid (addBs B ps) ow' H') H' fl ps vs ds → Q vs H'
  | .ok _ _ => False
  | .exc c τ => ∀ H', Fin C B ow H τ H' → E (.ref (C.cls c)) none H'
  | .bad => False
structure SdN (Φ : Nat → Fn) (gc : Nat → D) (C : Cf) (E : XK) (X : Cx) (a : Ex) (fl : List Bool) (es : List Expr) (t : TA) : Prop where
  pa : PA X es t
  ok : ∀ (B : Addr → Bool) (ow : Ow) (s : S) (σ : St) (H : Hp) (Q : List V → Hp → Prop), SR C B ow s σ H → wpN C E B ow H σ fl (ev Φ gc a s) Q → t σ H Q
  pl : es.all plainE = true
  len : ∀ s d s1, ev Φ gc a s = .ok d s1 → ∃ ds, d = .tup ds ∧ ds.length = es.length
  lenF : fl.length = es.length
theorem sdn_nil : SdN Φ gc C E X .anil [] [] tNil := ⟨pa_nil, fun B ow s σ H Q R h => h ow [] H [] R List.nodup_nil (by simp) (Sm'.refl _) (fun _ _ _ _ _ h _ => h) trivial, rfl, fun s d s1 h => by cases h; exact ⟨[], rfl, rfl⟩, rfl⟩
theorem sdn_cons {a b : Ex} {e : Expr} {es : List Expr} {t : TE} {u : TA} {fl : List Bool} (ha : Sd Φ gc C E X a e t) (hr : SdN Φ gc C E X b fl es u) (hp : plainE e = true) : SdN Φ gc C E X (.acons a b) (false :: fl) (e :: es) (tCons t u) := by
  refine ⟨pa_cons ha.pe hr.pa (starEach_plain hp), fun B ow s σ H Q R h => ?_, by simp [hp, hr.pl], fun s d s1 h => by simpa using acons_len hr.len s d s1 h, by simp [hr.lenF]⟩
  show t σ H fun x H1 => u σ H1 fun xs H2 => Q (x :: xs) H2
  refine ha.ok B ow s σ H _ R ?_
  unfold ev at h
  cases q : ev Φ gc a s with
  | exc c τ => rw [q] at h; exact h
  | bad => rw [q] at h; exact h.elim
  | ok d s1 =>
    rw [q] at h
    simp only [Out.bind] at h
    intro ow1 v H1 R1 st r
    refine hr.ok B ow1 s1 σ H1 _ R1 ?_
    cases q2 : ev Φ gc b s1 with
    | exc c τ => rw [q2] at h; exact fun H' f => h H' (f.step st)
    | bad => rw [q2] at h; exact h.elim
    | ok d2 s2 =>
      rw [q2] at h
      cases d2 with
      | tup ds =>
        intro ow2 vs H2 ps R2 nd nb fr hd row
        exact h ow2 (v :: vs) H2 ps R2 nd nb (st.fr.trans fr) (fun b o h1 h2 h3 h4 h5 => hd b o h1 h2 h3 (st.hd b o h1 h2 h3 h4 h5) h5) ⟨r.mono fr, row⟩
      | _ => exact h.elim
theorem sdn_own {a b : Ex} {e : Expr} {es : List Expr} {t : TE} {u : TA} {fl : List Bool} (ha : SdF Φ gc C E X a e t) (hr : SdN Φ gc C E X b fl es u) (hp : plainE e = true) : SdN Φ gc C E X (.acons a b) (true :: fl) (e :: es) (tCons t u) := by
  refine ⟨pa_cons ha.pe hr.pa (starEach_plain hp), fun B ow s σ H Q R h => ?_, by simp [hp, hr.pl], fun s d s1 h => by simpa using acons_len hr.len s d s1 h, by simp [hr.lenF]⟩
  show t σ H fun x H1 => u σ H1 fun xs H2 => Q (x :: xs) H2
  refine ha.ok B ow s σ H _ R ?_
  unfold ev at h
  cases q : ev Φ gc a s with
  | exc c τ => rw [q] at h; exact h
  | bad => rw [q] at h; exact h.elim
  | ok d s1 =>
    rw [q] at h
    simp only [Out.bind] at h
    intro ow1 p H1 x R1 nb1 fr1 hd1 hx so
    refine hr.ok (addB B p) ow1 s1 σ H1 _ R1 ?_
    have hle : ∀ b, B b = true → addB B p b = true := fun b h => addB_iff.mpr (.inl h)
    have pB : addB B p p = true := addB_iff.mpr (.inr rfl)
    have ptw : p ≠ C.tw := fun z => by rw [z, R.twB] at nb1; cases nb1
    have prs : p ≠ C.rs := fun z => by rw [z, R.rsB] at nb1; cases nb1
    cases q2 : ev Φ gc b s1 with
    | exc c τ =>
      rw [q2] at h
      exact fun H' f => h H' (f.of hle fr1 fun b o h1 h2 h3 h4 h5 => f.hd b o (hle b h1) h2 h3 (hd1 b o h1 h2 h3 h4 h5) h5)
    | bad => rw [q2] at h; exact h.elim
    | ok d2 s2 =>
      rw [q2] at h
      cases d2 with
      | tup ds =>
        intro ow2 vs H2 ps R2 nd nb fr hd row
        rw [addBs_swap] at R2 fr row
        have np : p ∉ ps := fun z => by have := nb p z; rw [pB] at this; cases this
        refine h ow2 (.ref p :: vs) H2 (p :: ps) R2 (List.nodup_cons.mpr ⟨np, nd⟩) ?_ (fr1.trans fr) (fun b o h1 h2 h3 h4 h5 => hd b o (hle b h1) h2 h3 (hd1 b o h1 h2 h3 h4 h5) h5) ⟨⟨rfl, x, hx, so.mono fr fun q o e hq n => ?_⟩, row⟩
        · intro q hq
          rcases List.mem_cons.mp hq with z | z
          · rw [z]; exact nb1
          · have := nb q z
            cases y : B q with
            | false => rfl
            | true => rw [hle q y] at this; cases this
        · cases e
          exact hd p o pB ptw prs hq n
      | _ => exact h.elim
/-- the slots take a row -/
theorem row_set : ∀ {ts : List (Nat × Bool)} {ps : List Addr} {vs : List V} {ds : List D} {ρ' : List Slot} {B : Addr → Bool} {ow : Ow} {s : S} {σ : St} {H : Hp}, SR C (addBs B ps) ow s σ H → ps.Nodup → (∀ p ∈ ps, B p = false) → B C.tw = true → B C.rs = true →
    Row C (hid (addBs B ps) ow H) H (ts.map (·.2)) ps vs ds → parS ts ds s.ρ = some ρ' → ∃ ow' σ', SR C B ow' { s with ρ := ρ' } σ' H ∧ Sm' (hid (addBs B ps) ow H) (hid B ow' H) ∧ σ' = ((ts.map (·.1)).zip vs).foldl (fun σ p => σ.set p.1 (some p.2)) σ
  | [], [], [], [], ρ', B, ow, s, σ, H, R, _, _, _, _, _, e => by cases e; exact ⟨ow, σ, R, Sm'.refl _, rfl⟩
  | (i, false) :: ts, ps, v :: vs, d :: ds, ρ', B, ow, s, σ, H, R, nd, nb, tw, rs, row, e => by
    obtain ⟨r, row⟩ := row
    simp only [parS] at e
    split at e
    case isFalse => cases e
    rename_i hi
    have R1 := R.setVal (i := i) r
    have le : Sm' (hid (addBs B ps) ow H) (hid (addBs B ps) (ow.set i none) H) := (Stp.drop (C := C)).fr
    obtain ⟨ow', σ', h1, h2, h3⟩ := row_set R1 nd nb tw rs (row.mono le fun _ _ _ h _ => h) e
    exact ⟨ow', σ', h1, le.trans h2, h3⟩
  | (i, true) :: ts, p :: ps, v :: vs, d :: ds, ρ', B, ow, s, σ, H, R, nd, nb, tw, rs, row, e => by
    obtain ⟨⟨rfl, x, hx, so⟩, row⟩ := row
    simp only [parS] at e
    split at e
    case isFalse => cases e
    rename_i hi
    simp only [if_true, hx] at e
    obtain ⟨np, nd'⟩ := List.nodup_cons.mp nd
    have nb' : ∀ q ∈ ps, B q = false := fun q hq => nb q (by simp [hq])
    have pf : addBs B ps p = false := by
      cases z : addBs B ps p with
      | false => rfl
      | true =>
        rcases addBs_iff.mp z with z | z
        · rw [nb p (by simp)] at z; cases z
        · exact absurd z np
    have R1 : SR C (addBs B ps) (ow.set i (some p)) { s with ρ := s.ρ.set i x } (σ.set i (some (.ref p))) H := SR.setOwn R pf (addBs_iff.mpr (.inl tw)) (addBs_iff.mpr (.inl rs)) so
    have le : Sm' (hid (addBs B (p :: ps)) ow H) (hid (addBs B ps) (ow.set i (some p)) H) := own_le
    obtain ⟨ow', σ', h1, h2, h3⟩ := row_set R1 nd' nb' tw rs (row.mono le fun _ _ _ h _ => h) e
    exact ⟨ow', σ', h1, le.trans h2, h3⟩
  | [], _ :: _, _, _, _, _, _, _, _, _, _, _, _, _, _, row, _ => by simp [Row] at row
  | [], [], _ :: _, _, _, _, _, _, _, _, _, _, _, _, _, row, _ => by simp [Row] at row
  | [], [], [], _ :: _, _, _, _, _, _, _, _, _, _, _, _, row, _ => by simp [Row] at row
  | (_, false) :: _, _, [], _, _, _, _, _, _, _, _, _, _, _, _, row, _ => by simp [Row] at row
  | (_, false) :: _, _, _ :: _, [], _, _, _, _, _, _, _, _, _, _, _, row, _ => by simp [Row] at row
  | (_, true) :: _, [], _, _, _, _, _, _, _, _, _, _, _, _, _, row, _ => by simp [Row] at row
  | (_, true) :: _, _ :: _, [], _, _, _, _, _, _, _, _, _, _, _, _, row, _ => by simp [Row] at row
  | (_, true) :: _, _ :: _, _ :: _, [], _, _, _, _, _, _, _, _, _, _, _, row, _ => by simp [Row] at row
end
end Mn

set_option Elab.async false
set_option linter.all false
set_option maxRecDepth 100000
set_option maxHeartbeats 1000000
namespace Mn
open PySem L2
/-- {k: v}, the key a tuple -/
def tDsN (X : Cx) (t t' : TE) : TE := fun σ H Q => ∀ p, H p = none → t σ (upd H p (ND X.prog X.w p [])) fun x H1 => t' σ H1 fun y H2 => H2 p = some (ND X.prog X.w p []) ∧ ∃ k b, x = .ref b ∧ KeyAt X.K H2 k b ∧ Q (.ref p) (upd H2 p (ND X.prog X.w p (nput [] k b y)))
theorem pe_dspN {X : Cx} {pos : Pos} {e e' : Expr} {t t' : TE} (hu : X.A.units + 65 < cLine) (hk : PE X e t) (hv : PE X e' t') : PE X (.Dict [some e] [e'] pos) (tDsN X t t') := by
  refine ⟨fun pins s σ H Q I q => ?_⟩
  have hn := I.hok.fresh (Nat.le_refl s.heap.objs.size)
  have I1 := I.laid (a := s.heap.objs.size) (o := ND X.prog X.w s.heap.objs.size []) (h' := s.heap.push { cls := .type "dict", data := .dict #[] }) (t' := s.toks) (fun _ _ q => Heap.get?_push_of_some _ q) (Nat.le_refl _) (nd_empty s.heap I.big)
  have hz := zip_pairTrees [some e] [e'] X.env pos rfl rfl
  rw [arm_eval_Dict, hz, dictDisplay_pairs _ (by simp [pairTrees]) (by simp [pairTrees])]
  have hu8 : (nestedKind X.prog X.w).room X.A := by show X.A.units + 8 < cLine; omega
  refine wpAny_bind (wpAny_standAt (wpAny_bind (wpAny_subDictH (knd := nestedKind X.prog X.w) hu8 (by simp [pairTrees]) ?_)))
  refine pairTrees_cons_walk (thn (hk.run pins _ σ _ _ I1 (q _ hn)) fun u s1 ⟨x, H1, I2, rx, q1⟩ => thn (hv.run pins s1 σ H1 _ I2 q1) fun w2 s2 ⟨y, H2, I3, ry, q2⟩ => pairTrees_nil_walk ?_)
  obtain ⟨e2, k, b, rfl, kb, q3⟩ := q2
  cases (show u = Value.ref b from rx)
  obtain ⟨hd, z, ys, rel, dd⟩ := nd_at I3 (.inl e2) (fun x hx => by cases hx)
  cases rel
  refine ⟨[(k, b, w2)], ⟨rfl, rfl, kb.is I3, trivial⟩, dd, fun h' tk dd' hs => wpAny_pure ⟨.ref s.heap.objs.size, _, ?_, rfl, q3⟩⟩
  have rel' := npair_put (xs := []) (k := k) (b := b) ry .nil
  have dd2 : h'.DictOfH (nestedKind X.prog X.w) s.heap.objs.size (storedH [] k b w2) := dd'
  obtain ⟨o, es, ep, hq, h2, h3, h4, _, h5⟩ := dd2
  have fst : (nput [] k b y).map (·.1) = (storedH [] k b w2).map (·.1) := npair_fst rel'
  have hl' : (nput [] k b y).length ≤ sizeLine := by have := nput_len (xs := []) (k := k) (b := b) (v := y); rw [sizeLine_eq]; simp at this ⊢; omega
  refine d_write I3 (by rw [e2]; exact True.intro) hs ⟨o, hq⟩ ⟨⟨hd, hl', by rw [fst]; exact h5, _, rel', o, es, ep, hq, h2, h3, h4⟩, ⟨o, hq⟩, fun h1 h2' x hx => ?_⟩
  obtain ⟨x1, x2, x3, ys', x4, o', es', ep', x5, x6⟩ := x
  exact ⟨x1, x2, x3, ys', x4, o', es', ep', hx _ x5, x6⟩
section
variable {Φ : Nat → Fn} {gc : Nat → D} {C : Cf} {E : XK} {X : Cx} {k : Nat} {B : Addr → Bool} {ow : Ow} {s : S} {σ : St} {H : Hp}
theorem sdf_dspN {ek evx : Ex} {e e' : Expr} {t t' : TE} {pos : Pos} (g : Gd C E X k) (hk : Sd Φ gc C E X ek e t) (hv : Sd Φ gc C E X evx e' t') : SdF Φ gc C E X (.dsp true ek evx) (.Dict [some e] [e'] pos) (tDsN X t t') := by
  refine ⟨pe_dspN g.u65 hk.pe hv.pe, fun B ow s σ H Q R w p hp => ?_⟩
  unfold ev at w
  rw [g.hP, g.hw]
  have BDf : B p = false := R.freeB hp
  have ptw : p ≠ C.tw := fun z => by rw [z, R.twB] at BDf; cases BDf
  have prs : p ≠ C.rs := fun z => by rw [z, R.rsB] at BDf; cases BDf
  have R1 : SR C (addB B p) ow s σ (upd H p (ND C.P C.w p [])) := R.newB hp rfl
  have pB : addB B p p = true := addB_iff.mpr (.inr rfl)
  have hle : ∀ b, B b = true → addB B p b = true := fun b h => addB_iff.mpr (.inl h)
  have finOf : ∀ {ow1 H1 τ H'}, Stp C (addB B p) ow (upd H p (ND C.P C.w p [])) ow1 H1 → Fin C (addB B p) ow1 H1 τ H' → Fin C B ow H τ H' := fun {ow1 H1 τ H'} st f =>
    f.of hle ((R.newLe hp).trans st.fr) (fun b o h1 h2 h3 h4 h5 => f.hd b o (hle b h1) h2 h3 (st.hd b o (hle b h1) h2 h3 (by rw [upd_ne (ne_of_none h4 hp)]; exact h4) h5) h5)
  refine hk.ok (addB B p) ow s σ _ _ R1 ?_
  cases q : ev Φ gc ek s with
  | exc c τ => rw [q] at w; exact fun H' f => w H' (finOf Stp.refl f)
  | bad => rw [q] at w; exact w
  | ok kd s1 =>
    rw [q] at w
    intro ow1 kv H1 R2 st1 rk
    refine hv.ok (addB B p) ow1 s1 σ _ _ R2 ?_
    simp only [Out.bind] at w
    cases q2 : ev Φ gc evx s1 with
    | exc c τ => rw [q2] at w; exact fun H' f => w H' (finOf st1 f)
    | bad => rw [q2] at w; exact w
    | ok vd s2 =>
      rw [q2] at w
      intro ow2 v H2 R3 st2 rv
      simp only at w
      have st := st1.trans st2
      have hp2 : H2 p = some (ND C.P C.w p []) := st.hd p _ pB ptw prs upd_same rfl
      split at w
      case isFalse => exact w.elim
      rename_i hkk
      have hk' : keyN kd = true := hkk
      have rk2 := rk.mono st2.fr
      obtain ⟨b, rfl, kb⟩ := keyAt_of g.hK (.inl rk2) hk'
      refine ⟨hp2, kd.nk, b, rfl, kb, ?_⟩
      obtain ⟨R4, le4⟩ := R3.wrB (o := ND C.P C.w p (nput [] kd.nk b v)) pB ptw prs (fun u hu => by rw [hp2] at hu; cases hu; exact .inr (.inr (.inl ⟨_, rfl⟩))) rfl
      refine w ow2 p _ (.dct true [(kd, vd)]) R4 BDf (((R.newLe hp).trans st.fr).trans le4) (fun b o h1 h2 h3 h4 h5 => ?_) rfl ⟨rfl, .inr ⟨[(kd.nk, b, v)], [kd], [vd], rfl, upd_same, .cons (rk2.mono le4) .nil, rfl, by simp [hk'], .cons (rv.mono le4) .nil, by simp [LIM], rfl⟩⟩
      rw [upd_ne (fun z => by subst z; rw [BDf] at h1; cases h1)]
      exact st.hd b o (hle b h1) h2 h3 (by rw [upd_ne (ne_of_none h4 hp)]; exact h4) h5
end
end Mn

set_option Elab.async false
set_option linter.all false
set_option maxRecDepth 100000
set_option maxHeartbeats 1000000
namespace Mn
open PySem L2

/-! ### stores into dicts -/
theorem eqb_kD {a b : Key} : D.eqb (kD a) (kD b) = decide (a = b) := by
  cases a <;> cases b <;> simp [kD, D.eqb, Bool.beq_eq_decide_eq]
section
variable {C : Cf} {G : Hp}
theorem store_kmap {key : Key} {v : V} {d : D} (rv : Rep C G v d) : ∀ {ks : List (Key × V)} {ds : List D}, RepA C G (ks.map (·.2)) ds →
    ∃ ds', RepA C G ((ks.map fun kv => if kv.1 = key then (kv.1, v) else kv).map (·.2)) ds' ∧ ((ks.map fun p => kD p.1).zip ds).map (fun p => if D.eqb p.1 (kD key) = true then (p.1, d) else p) = ((ks.map fun kv => if kv.1 = key then (kv.1, v) else kv).map fun p => kD p.1).zip ds' ∧ ds'.length = ds.length
  | [], _, .nil => ⟨[], .nil, rfl, rfl⟩
  | x :: ks, _, .cons (d := e) (ds := es) r rr => by
    obtain ⟨ds', h1, h2, h3⟩ := store_kmap rv rr
    by_cases q : x.1 = key
    · refine ⟨d :: ds', ?_, ?_, by simp [h3]⟩
      · simp only [List.map_cons, if_pos q]; exact .cons rv h1
      · simp only [List.map_cons, List.zip_cons_cons, if_pos q, h2, eqb_kD, q, decide_true, if_true]
    · refine ⟨e :: ds', ?_, ?_, by simp [h3]⟩
      · simp only [List.map_cons, if_neg q]; exact .cons r h1
      · have qq : D.eqb (kD x.1) (kD key) = false := by rw [eqb_kD]; exact decide_eq_false q
        simp only [List.map_cons, List.zip_cons_cons, if_neg q, h2, qq]
        simp
theorem any_k {key : Key} : ∀ {ks : List (Key × V)} {ds : List D}, RepA C G (ks.map (·.2)) ds → (((ks.map fun p => kD p.1).zip ds).any fun p => D.eqb p.1 (kD key)) = ks.any fun kv => decide (kv.1 = key)
  | [], _, .nil => rfl
  | x :: ks, _, .cons r rr => by simp only [List.map_cons, List.zip_cons_cons, List.any_cons, any_k rr, eqb_kD]
theorem zip_snoc {α β : Type} : ∀ {as : List α} {bs : List β} {a : α} {b : β}, as.length = bs.length → (as ++ [a]).zip (bs ++ [b]) = as.zip bs ++ [(a, b)]
  | [], [], _, _, _ => rfl
  | x :: as, y :: bs, a, b, h => by simp only [List.cons_append, List.zip_cons_cons, zip_snoc (as := as) (bs := bs) (by simpa using h)]
theorem store_k {key : Key} {v : V} {d : D} {ks : List (Key × V)} {ds : List D} (rv : Rep C G v d) (r : RepA C G (ks.map (·.2)) ds) :
    ∃ ds', RepA C G ((putK ks key v).map (·.2)) ds' ∧ store ((ks.map fun p => kD p.1).zip ds) (kD key) d = ((putK ks key v).map fun p => kD p.1).zip ds' ∧ ds'.length ≤ ds.length + 1 := by
  unfold store putK
  rw [any_k r]
  split
  · obtain ⟨ds', h1, h2, h3⟩ := store_kmap (key := key) rv r
    exact ⟨ds', h1, h2, by omega⟩
  · refine ⟨ds ++ [d], ?_, ?_, by simp⟩
    · rw [List.map_append]; exact r.app (.cons rv .nil)
    · rw [List.map_append]
      have hl := r.length
      simp only [List.map_cons, List.map_nil]
      rw [zip_snoc (by simpa using hl)]
theorem store_nmap {kd : D} {v : V} {d : D} (rv : Rep C G v d) (hk : keyN kd = true) : ∀ {xs : List (NestedKey × Addr × V)} {kds ds : List D}, RepA C G (xs.map fun x => x.2.2) ds → xs.map (·.1) = D.nks kds → kds.all keyN = true →
    ∃ ds', RepA C G ((xs.map fun x => if x.1 = kd.nk then (x.1, x.2.1, v) else x).map fun x => x.2.2) ds' ∧ (kds.zip ds).map (fun p => if D.eqb p.1 kd = true then (p.1, d) else p) = kds.zip ds' ∧ ds'.length = ds.length ∧
      ((kds.zip ds).any fun p => D.eqb p.1 kd) = (xs.any fun x => decide (x.1 = kd.nk)) ∧ (xs.map fun x => if x.1 = kd.nk then (x.1, x.2.1, v) else x).map (fun x => x.2.1) = xs.map (fun x => x.2.1) ∧ (xs.map fun x => if x.1 = kd.nk then (x.1, x.2.1, v) else x).map (fun x => x.1) = xs.map (fun x => x.1) ∧ kds.length = xs.length
  | [], kds, _, .nil, e, ka => by
    cases kds with
    | nil => exact ⟨[], .nil, rfl, rfl, rfl, rfl, rfl, rfl⟩
    | cons => simp [D.nks] at e
  | x :: xs, kds, _, .cons (d := e0) (ds := es) r rr, e, ka => by
    cases kds with
    | nil => simp [D.nks] at e
    | cons k kds =>
      simp only [List.map_cons, D.nks, List.cons.injEq] at e
      simp only [List.all_cons, Bool.and_eq_true] at ka
      obtain ⟨ds', h1, h2, h3, h4, h5, h6, h7⟩ := store_nmap rv hk rr e.2 ka.2
      have q : D.eqb k kd = decide (x.1 = kd.nk) := by
        have := D.eqb_nk 8 8 k kd (keyN_kyb ka.1) (keyN_kyb hk)
        rw [e.1]
        cases z : D.eqb k kd with
        | true => rw [decide_eq_true (this.mp z)]
        | false => rw [decide_eq_false fun y => by rw [this.mpr y] at z; cases z]
      by_cases qq : x.1 = kd.nk
      · refine ⟨d :: ds', ?_, ?_, by simp [h3], ?_, ?_, ?_, by simp [h7]⟩
        · simp only [List.map_cons, if_pos qq]; exact .cons rv h1
        · simp only [List.map_cons, List.zip_cons_cons, q, qq, decide_true, if_true, h2]
        · simp only [List.zip_cons_cons, List.any_cons, q, h4]
        · simp only [List.map_cons, if_pos qq, h5]
        · simp only [List.map_cons, if_pos qq, h6]
      · refine ⟨e0 :: ds', ?_, ?_, by simp [h3], ?_, ?_, ?_, by simp [h7]⟩
        · simp only [List.map_cons, if_neg qq]; exact .cons r h1
        · simp only [List.map_cons, List.zip_cons_cons, q, qq, decide_false, h2]
          simp
        · simp only [List.zip_cons_cons, List.any_cons, q, h4]
        · simp only [List.map_cons, if_neg qq, h5]
        · simp only [List.map_cons, if_neg qq, h6]
theorem nks_app : ∀ xs ys : List D, D.nks (xs ++ ys) = D.nks xs ++ D.nks ys
  | [], _ => rfl
  | x :: xs, ys => by simp [D.nks, nks_app xs ys]
theorem store_n {kd : D} {b : Addr} {v : V} {d : D} {xs : List (NestedKey × Addr × V)} {kds ds : List D} (rv : Rep C G v d) (rk : Rep C G (.ref b) kd) (hk : keyN kd = true) (rks : RepA C G (xs.map fun x => .ref x.2.1) kds) (e : xs.map (·.1) = D.nks kds) (ka : kds.all keyN = true) (r : RepA C G (xs.map fun x => x.2.2) ds) :
    ∃ kds' ds', RepA C G ((nput xs kd.nk b v).map fun x => .ref x.2.1) kds' ∧ (nput xs kd.nk b v).map (·.1) = D.nks kds' ∧ kds'.all keyN = true ∧ RepA C G ((nput xs kd.nk b v).map fun x => x.2.2) ds' ∧ store (kds.zip ds) kd d = kds'.zip ds' ∧ ds'.length ≤ ds.length + 1 := by
  obtain ⟨ds', h1, h2, h3, h4, h5, h6, h7⟩ := store_nmap rv hk r e ka
  unfold store nput
  rw [h4]
  split
  · refine ⟨kds, ds', ?_, by rw [h6]; exact e, ka, h1, h2, by omega⟩
    have : ((xs.map fun x => if x.1 = kd.nk then (x.1, x.2.1, v) else x).map fun x => V.ref x.2.1) = xs.map fun x => V.ref x.2.1 := by
      have := congrArg (List.map V.ref) h5
      simpa [List.map_map, Function.comp_def] using this
    rw [this]; exact rks
  · refine ⟨kds ++ [kd], ds ++ [d], ?_, ?_, by simp [ka, hk], ?_, ?_, by simp⟩
    · rw [List.map_append]; exact rks.app (.cons rk .nil)
    · rw [List.map_append, nks_app, e]; rfl
    · rw [List.map_append]; exact r.app (.cons rv .nil)
    · have hl := r.length
      rw [zip_snoc (by simp at hl; omega)]
end
/-- o[i] = v: lists, and dicts of both kinds -/
def rSetN (X : Cx) : TSet := fun o i v H Q => ∃ a xs k b, o = .ref a ∧ i = .ref b ∧ H a = some (ND X.prog X.w a xs) ∧ (∀ x ∈ xs, KeyAt X.K H x.1 x.2.1) ∧ KeyAt X.K H k b ∧ xs.length < sizeLine ∧ Q (upd H a (ND X.prog X.w a (nput xs k b v)))
theorem set_nd {X : Cx} (hu : X.A.units + 65 < cLine) : PSet X (rSetN X) := by
  intro pins s σ H o i v ov iv u Q I ro ri rv h
  obtain ⟨a, xs, k, b, rfl, rfl, h1, h2, h3, h4, q⟩ := h
  cases ro
  cases ri
  exact n_setItem hu I h1 h2 h3 h4 rv fun s' I' => ⟨_, I', q⟩
theorem PSet.or {X : Cx} {t u : TSet} (h1 : PSet X t) (h2 : PSet X u) : PSet X (fun o i v H Q => t o i v H Q ∨ u o i v H Q) := by
  intro pins s σ H o i v ov iv u' Q I ro ri rv h
  rcases h with h | h
  · exact h1 pins s σ H o i v ov iv u' Q I ro ri rv h
  · exact h2 pins s σ H o i v ov iv u' Q I ro ri rv h
abbrev rSetA (X : Cx) : TSet := fun o i v H Q => rSetL o i v H Q ∨ (rSetD o i v H Q ∨ rSetN X o i v H Q)
theorem set_any {X : Cx} (h1 : X.A.units + 1 < cLine) (hu : X.A.units + 65 < cLine) : PSet X (rSetA X) := PSet.or set_list (PSet.or (set_dict h1) (set_nd hu))
end Mn

set_option Elab.async false
set_option linter.all false
set_option maxRecDepth 100000
set_option maxHeartbeats 1000000
namespace Mn
open PySem L2
/-! ### dict(xs), xs a list of pairs whose first is a tuple -/
def nputs (acc zs : List (NestedKey × Addr × V)) : List (NestedKey × Addr × V) := zs.foldl (fun a z => nput a z.1 z.2.1 z.2.2) acc
theorem npair_puts : ∀ {zs : List (NestedKey × Addr × V)} {ws : List (NestedKey × Addr × Value)} {acc : List (NestedKey × Addr × V)} {acc' : List (NestedKey × Addr × Value)}, Paired NPair zs ws → Paired NPair acc acc' → Paired NPair (nputs acc zs) (storedAllH acc' ws)
  | _, _, _, _, .nil, r => r
  | z :: zs, y :: ws, acc, acc', .cons q t, r => by
    show Paired NPair (nputs (nput acc z.1 z.2.1 z.2.2) zs) (storedAllH (storedH acc' y.1 y.2.1 y.2.2) ws)
    refine npair_puts t ?_
    rw [← q.1, ← q.2.1]
    exact npair_put q.2.2 r
theorem nputs_len : ∀ {zs acc : List (NestedKey × Addr × V)}, (nputs acc zs).length ≤ acc.length + zs.length
  | [], _ => Nat.le_refl _
  | z :: zs, acc => by
    have h1 := nputs_len (zs := zs) (acc := nput acc z.1 z.2.1 z.2.2)
    have h2 := nput_len (xs := acc) (k := z.1) (b := z.2.1) (v := z.2.2)
    show (nputs (nput acc z.1 z.2.1 z.2.2) zs).length ≤ _
    rw [List.length_cons]
    omega
section
variable {X : Cx} {pins : List (Addr × Obj)} {σ : St} {H : Hp} {s : Shared}
abbrev NPr (X : Cx) (H : Hp) : Addr → NestedKey × Addr × V → Prop := fun p z => SqT X.K H p [.ref z.2.1, z.2.2]
theorem npairs_of (I : Inv X pins σ H s) : ∀ {ps : List Addr} {zs : List (NestedKey × Addr × V)}, Paired (NPr X H) ps zs → ∃ ws : List (NestedKey × Addr × Value), Paired NPair zs ws ∧ ws.length = ps.length ∧ ∀ (j : Nat) y, ws[j]? = some y → ∃ b, ps[j]? = some b ∧ s.heap.IsTuple b #[Value.ref y.2.1, y.2.2]
  | _, _, .nil => ⟨[], .nil, rfl, fun j y e => by simp at e⟩
  | p :: ps, z :: zs, .cons h t => by
    obtain ⟨ws, r, hl, hw⟩ := npairs_of I t
    obtain ⟨its, rv, ht, _⟩ := I.tuple h
    obtain ⟨u, y, ei, ru, ry⟩ := vals2 rv
    subst ei
    cases (show u = Value.ref z.2.1 from ru)
    refine ⟨(z.1, z.2.1, y) :: ws, .cons ⟨rfl, rfl, ry⟩ r, by rw [List.length_cons, List.length_cons, hl], fun j q e => ?_⟩
    cases j with
    | zero =>
      have e' : (z.1, z.2.1, y) = q := Option.some.inj e
      subst e'
      obtain ⟨o, h1, h2, n, h3⟩ := ht
      exact ⟨p, rfl, o, h1, h2, n, h3⟩
    | succ j =>
      obtain ⟨b, e1, e2⟩ := hw j q (by simpa using e)
      exact ⟨b, by simpa using e1, e2⟩
abbrev rDictN (X : Cx) : R1 := fun xs H Q => ∃ (a : Addr) (ps : List Addr) (zs : List (NestedKey × Addr × V)), xs = [.ref a] ∧ SqL X.K H a (ps.map V.ref) ∧ Paired (NPr X H) ps zs ∧ (∀ z ∈ zs, KeyAt X.K H z.1 z.2.1) ∧ ∀ p, H p = none → Q (.ref p) (upd H p (ND X.prog X.w p (nputs [] zs)))
theorem call_dictN (hc : X.calm = true) (hu : X.A.units + 65 < cLine) : CallR X (.type "dict") (rDictN X) := by
  intro pins s σ H xs us Q I r q
  obtain ⟨a, ps, zs, ex, hq, hp, hk, q⟩ := q
  subst ex
  obtain ⟨u, eu, rx⟩ := vals1 r
  subst eu
  cases rx
  obtain ⟨its, rv, pl, hz⟩ := I.list hq
  have ei := refs_at rv
  subst ei
  rw [List.length_map] at hz
  obtain ⟨ws, rel, hl, hw⟩ := npairs_of I hp
  have hkw : ∀ y ∈ ws, (nestedKind X.prog X.w).is s.heap y.1 y.2.1 := npair_keys (p := fun k b => (nestedKind X.prog X.w).is s.heap k b) rel fun z hz => (hk z hz).is I
  have room : (nestedKind X.prog X.w).room X.A.in1.in1 := by show X.A.units + 1 + 1 + 8 < cLine; omega
  obtain ⟨o, n, ho, hcl, hd, hdat⟩ := pl
  refine call_dict_pairsH (knd := nestedKind X.prog X.w) (ps := ws) (PairArg.list a (ps.map Value.ref).toArray (fun j => ps.getD j 0) (ws.map fun y => (Value.ref y.2.1, y.2.2))) (I.ok.hd hc) room ⟨⟨o, n, ho, hcl, hd, hdat⟩, by simp [hl], fun j k v e => ?_⟩ ⟨by simp, fun i key v e => ?_⟩ (fun h' hk' y hy => ?_) (by rw [List.length_map, hl]; exact hz) fun h' tk hd' k => ?_
  · rw [List.getElem?_map] at e
    obtain ⟨y, hy, ey⟩ := Option.map_eq_some_iff.mp e
    cases ey
    obtain ⟨b, e1, e2⟩ := hw j y hy
    have eg : ps.getD j 0 = b := by rw [List.getD_eq_getElem?_getD, e1]; rfl
    show _ = some (Value.ref (ps.getD j 0)) ∧ PairAt s.heap (ps.getD j 0) _ _
    rw [eg]
    exact ⟨by simp [e1], .inl e2⟩
  · have e : (ws.map fun y => (Value.ref y.2.1, y.2.2))[i]? = some (key, v) := e
    rw [List.getElem?_map] at e
    obtain ⟨y, hy, ey⟩ := Option.map_eq_some_iff.mp e
    cases ey
    exact ⟨y.1, y.2.1, hy, rfl⟩
  · exact nestedKind_stays.stays (fun b o vs n e _ => hk' b o (Nat.ne_of_lt (Heap.lt_size e)) (by simp) e) (hkw y hy)
  · have rel' := npair_puts rel (acc := []) (acc' := []) .nil
    obtain ⟨q1, es, ep, hq1, h2, h3, h4, _, h5⟩ := hd'
    have fst : (nputs [] zs).map (·.1) = (storedAllH [] ws).map (·.1) := npair_fst rel'
    have hm : (s.heap.objs.size == sysModules) = false := beq_eq_false_iff_ne.mpr (Nat.ne_of_gt I.big)
    have hlen : (nputs [] zs).length ≤ sizeLine := by
      have e1 := nputs_len (zs := zs) (acc := [])
      have e2 := rel.length
      rw [List.length_nil] at e1
      omega
    refine ⟨.ref s.heap.objs.size, upd H s.heap.objs.size (ND X.prog X.w s.heap.objs.size (nputs [] zs)), I.laid (t' := tk) (fun b o e => k b o (by simp) e) (Nat.le_refl _) ?_, rfl, q _ (I.hok.fresh (Nat.le_refl _))⟩
    refine ⟨⟨hm, hlen, by rw [fst]; exact h5, _, rel', q1, es, ep, hq1, h2, h3, h4⟩, ⟨q1, hq1⟩, fun h1 h2' x hx => ?_⟩
    obtain ⟨x1, x2, x3, ys', x4, o', es', ep', x5, x6⟩ := x
    exact ⟨x1, x2, x3, ys', x4, o', es', ep', hx _ x5, x6⟩
end
section
variable {Φ : Nat → Fn} {gc : Nat → D} {C : Cf} {E : XK} {X : Cx} {k : Nat}
theorem pairs_rep {B : Addr → Bool} {ow : Ow} {H : Hp} (hK : X.K = C.K) : ∀ {ds : List D} {vs : List V} {ps : List (D × D)}, RepA C (hid B ow H) vs ds → pairsD ds = some ps → (ps.all fun p => keyN p.1) = true →
    ∃ (as : List Addr) (zs : List (NestedKey × Addr × V)), vs = as.map V.ref ∧ Paired (NPr X H) as zs ∧ (∀ z ∈ zs, KeyAt X.K H z.1 z.2.1) ∧ Paired (fun z p => z.1 = p.1.nk ∧ Rep C (hid B ow H) (.ref z.2.1) p.1 ∧ Rep C (hid B ow H) z.2.2 p.2) zs ps
  | [], _, ps, .nil, e, _ => by
    cases e
    exact ⟨[], [], rfl, .nil, fun z hz => (by cases hz), .nil⟩
  | d :: ds, _, ps, .cons (v := v) (vs := vs) r t, e, ha => by
    have key : ∃ kd vd ps', d = .tup [kd, vd] ∧ pairsD ds = some ps' ∧ ps = (kd, vd) :: ps' := by
      unfold pairsD at e
      split at e
      · rename_i h; cases h
      · rename_i k0 v0 r0 h
        cases h
        obtain ⟨ps', h1, h2⟩ := Option.map_eq_some_iff.mp e
        exact ⟨k0, v0, ps', rfl, h1, h2.symm⟩
      · cases e
    obtain ⟨kd, vd, ps', rfl, h1, rfl⟩ := key
    simp only [List.all_cons, Bool.and_eq_true] at ha
    obtain ⟨as, zs, q1, q2, q3, q4⟩ := pairs_rep hK t h1 ha.2
    cases r with
    | @tup a us _ hs hr hl =>
      cases hr with
      | cons rk hr' =>
        cases hr' with
        | cons rv hr'' =>
          cases hr''
          obtain ⟨b, rfl, kb⟩ := keyAt_of (X := X) hK (.inl rk) ha.1
          refine ⟨a :: as, (kd.nk, b, _) :: zs, by rw [q1]; rfl, .cons ?_ q2, fun z hz => ?_, .cons ⟨rfl, rk, rv⟩ q4⟩
          · show SqT X.K H a [.ref b, _]
            rw [hK]
            exact hid_sqT hs
          · rcases List.mem_cons.mp hz with rfl | hz
            · exact kb
            · exact q3 z hz
theorem puts_rep {G : Hp} : ∀ {zs : List (NestedKey × Addr × V)} {ps : List (D × D)} {acc : List (NestedKey × Addr × V)} {kds ds : List D}, Paired (fun z p => z.1 = p.1.nk ∧ Rep C G (.ref z.2.1) p.1 ∧ Rep C G z.2.2 p.2) zs ps → (ps.all fun p => keyN p.1) = true → RepA C G (acc.map fun x => .ref x.2.1) kds → acc.map (·.1) = D.nks kds → kds.all keyN = true → RepA C G (acc.map fun x => x.2.2) ds →
    ∃ kds' ds', RepA C G ((nputs acc zs).map fun x => .ref x.2.1) kds' ∧ (nputs acc zs).map (·.1) = D.nks kds' ∧ kds'.all keyN = true ∧ RepA C G ((nputs acc zs).map fun x => x.2.2) ds' ∧ ps.foldl (fun a p => store a p.1 p.2) (kds.zip ds) = kds'.zip ds' ∧ ds'.length ≤ ds.length + ps.length
  | _, _, acc, kds, ds, .nil, _, h1, h2, h3, h4 => ⟨kds, ds, h1, h2, h3, h4, rfl, by simp⟩
  | z :: zs, p :: ps, acc, kds, ds, .cons q t, ha, h1, h2, h3, h4 => by
    simp only [List.all_cons, Bool.and_eq_true] at ha
    obtain ⟨k1, d1, a1, a2, a3, a4, a5, a6⟩ := store_n q.2.2 q.2.1 ha.1 h1 h2 h3 h4
    rw [← q.1] at a1 a2 a4
    obtain ⟨k2, d2, b1, b2, b3, b4, b5, b6⟩ := puts_rep t ha.2 a1 a2 a3 a4
    refine ⟨k2, d2, b1, b2, b3, b4, ?_, by rw [List.length_cons]; omega⟩
    rw [List.foldl_cons, a5]
    exact b5
theorem pairsD_len : ∀ {ds : List D} {ps : List (D × D)}, pairsD ds = some ps → ps.length = ds.length
  | [], _, e => by cases e; rfl
  | d :: ds, ps, e => by
    unfold pairsD at e
    split at e
    · rename_i h; cases h
    · rename_i k0 v0 r0 h
      cases h
      obtain ⟨ps', h1, h2⟩ := Option.map_eq_some_iff.mp e
      rw [← h2, List.length_cons, List.length_cons, pairsD_len h1]
    · cases e
abbrev rFrz (r : R1) : R1 := fun xs H Q => r xs H fun v H1 => ∃ p u, v = .ref p ∧ H1 p = some u ∧ Mut (some u) ∧ ∀ od, Q v (upd H1 p (.frz od u))
theorem cd_dictN (g : Gd C E X k) : CallD C (rFrz (rDictN X)) (prim1 .dictN) := by
  intro B ow s σ H E Q v x R r w
  cases x with
  | lst xs =>
    obtain ⟨a, vs, rfl, h1, h2⟩ := r.list
    have hlim := r.lenL
    simp only [prim1] at w
    cases q : pairsD xs with
    | none => rw [q] at w; exact w.elim
    | some ps =>
      rw [q] at w
      simp only [Option.bind_some] at w
      split at w
      · rename_i ha
        obtain ⟨as, zs, e1, e2, e3, e4⟩ := pairs_rep (X := X) g.hK h2 q ha
        refine ⟨a, as, zs, rfl, by rw [← e1]; exact .inl (.inl h1), e2, e3, fun p hp => ⟨p, _, rfl, upd_same, trivial, fun od => ?_⟩⟩
        obtain ⟨kds, ds, b1, b2, b3, b4, b5, b6⟩ := puts_rep (acc := []) (kds := []) (ds := []) e4 ha .nil rfl rfl .nil
        have b5 : ps.foldl (fun a p => store a p.1 p.2) [] = kds.zip ds := b5
        rw [b5] at w
        rw [upd_upd, g.hP, g.hw]
        refine wpE.giveNew w R hp (.dN (R.visNew hp) (b1.mono (R.growNew hp)) b2 b3 (b4.mono (R.growNew hp)) ?_)
        have := pairsD_len q
        simp at b6
        omega
      · exact w.elim
  | _ => exact w.elim
def isDN : P1 → Bool
  | .dictN => true
  | .dict => true
  | _ => false
theorem sd_dictN {a : Ex} {e : Expr} {ta : TE} {p1 pos : Pos} (g : Gd C E X k) (ha : Sd Φ gc C E X a e ta) (hp : plainE e = true) (h1 : glB X.env.scope "dict" = true) :
    ∃ u, Sd Φ gc C E X (.prm .dictN a) (.Call (.Name "dict" p1) [e] [] pos) u := by
  have pa : PA X [e] (tCons ta tNil) := pa_cons ha.pe pa_nil (starEach_plain hp)
  exact ⟨_, pe_frz (pe_callTy (call_dictN g.calm g.u65) (gl_of h1) (g.blt _ (by decide +kernel)) (by decide +kernel) pa (by decide +kernel) (by decide +kernel) (starEach_plain hp) (noStar rfl)), ok_prm (cd_dictN g) ha, fun z => by cases z⟩
end
end Mn

set_option Elab.async false
set_option linter.all false
set_option maxRecDepth 100000
set_option maxHeartbeats 1000000
namespace Mn
open PySem L2
/-! ### {k: v, k2: v2, ..}: constants, the keys tuples -/
abbrev TPr := TE × TE
def tPs : List TPr → St → Hp → (List (V × V) → Hp → Prop) → Prop
  | [], _, H, Q => Q [] H
  | p :: r, σ, H, Q => p.1 σ H fun x H1 => p.2 σ H1 fun y H2 => tPs r σ H2 fun zs H3 => Q ((x, y) :: zs) H3
inductive PPs (X : Cx) : List (Option Expr) → List Expr → List TPr → Prop
  | nil : PPs X [] [] []
  | cons {e e' : Expr} {ks : List (Option Expr)} {vs : List Expr} {t t' : TE} {r : List TPr} : PE X e t → PE X e' t' → PPs X ks vs r → PPs X (some e :: ks) (e' :: vs) ((t, t') :: r)
abbrev RelVV : V × V → Value × Value → Prop := fun x y => RelV x.1 y.1 ∧ RelV x.2 y.2
theorem pps_walk {X : Cx} {pos : Pos} {pins : List (Addr × Obj)} {σ : St} : ∀ {ks : List (Option Expr)} {vs : List Expr} {ts : List TPr}, PPs X ks vs ts → ∀ {s : Shared} {H : Hp} {Q : List (V × V) → Hp → Prop}, Inv X pins σ H s → tPs ts σ H Q →
    wpAny (model X.prog X.w) X.A (evalPairs (pairTrees ks vs X.env pos)) (fun us s1 => ∃ xs H1, Inv X pins σ H1 s1 ∧ Paired RelVV xs us ∧ Q xs H1) X.xe s
  | _, _, _, .nil, s, H, Q, I, q => pairTrees_nil_walk ⟨[], H, I, .nil, q⟩
  | _, _, _, .cons hk hv r, s, H, Q, I, q => by
    refine pairTrees_cons_walk (thn (hk.run pins s σ H _ I q) fun u s1 ⟨x, H1, I1, rx, q1⟩ => thn (hv.run pins s1 σ H1 _ I1 q1) fun v s2 ⟨y, H2, I2, ry, q2⟩ => thn (pps_walk r I2 q2) fun us s3 ⟨zs, H3, I3, rz, q3⟩ => ?_)
    exact ⟨(x, y) :: zs, H3, I3, .cons ⟨rx, ry⟩ rz, q3⟩
theorem PPs.len {X : Cx} : ∀ {ks : List (Option Expr)} {vs : List Expr} {ts : List TPr}, PPs X ks vs ts → ks.length = vs.length ∧ ks.all (·.isSome) = true ∧ ∀ (env : Env) (pos : Pos), (pairTrees ks vs env pos).length = ks.length
  | _, _, _, .nil => ⟨rfl, rfl, fun _ _ => rfl⟩
  | _, _, _, .cons _ _ r => by
    obtain ⟨h1, h2, h3⟩ := r.len
    exact ⟨by rw [List.length_cons, List.length_cons, h1], by rw [List.all_cons, h2]; rfl, fun env pos => by simp [pairTrees, h3]⟩
abbrev VZ : V × V → NestedKey × Addr × V → Prop := fun x z => x.1 = .ref z.2.1 ∧ x.2 = z.2.2
theorem carries {P : Program} {w : World} {h : Heap} : ∀ {xs : List (V × V)} {us : List (Value × Value)} {zs : List (NestedKey × Addr × V)}, Paired RelVV xs us → Paired VZ xs zs → (∀ z ∈ zs, (nestedKind P w).is h z.1 z.2.1) → ∃ ws, CarriesH (nestedKind P w) h us ws ∧ Paired NPair zs ws
  | _, _, _, .nil, .nil, _ => ⟨[], trivial, .nil⟩
  | _, (u, v) :: us, z :: zs, .cons r t, .cons q t', hk => by
    obtain ⟨ws, h1, h2⟩ := carries t t' fun z hz => hk z (List.mem_cons_of_mem _ hz)
    obtain ⟨r1, r2⟩ := r
    rw [q.1] at r1
    rw [q.2] at r2
    cases (show u = Value.ref z.2.1 from r1)
    exact ⟨(z.1, z.2.1, v) :: ws, ⟨rfl, rfl, hk z (by simp), h1⟩, .cons ⟨rfl, rfl, r2⟩ h2⟩
def tDsC (X : Cx) (ts : List TPr) : TE := fun σ H Q => ∀ p, H p = none → tPs ts σ (upd H p (ND X.prog X.w p [])) fun xs H2 => H2 p = some (ND X.prog X.w p []) ∧ ∃ zs, Paired VZ xs zs ∧ (∀ z ∈ zs, KeyAt X.K H2 z.1 z.2.1) ∧ Q (.ref p) (upd H2 p (ND X.prog X.w p (nputs [] zs)))
theorem paired_len {α β : Type} {F : α → β → Prop} : ∀ {a : List α} {b : List β}, Paired F a b → a.length = b.length
  | _, _, .nil => rfl
  | _, _, .cons _ t => by rw [List.length_cons, List.length_cons, paired_len t]
theorem pe_dspC {X : Cx} {pos : Pos} {ks : List (Option Expr)} {vs : List Expr} {ts : List TPr} (hu : X.A.units + 65 < cLine) (h : PPs X ks vs ts) (h1 : 1 ≤ ks.length) (h15 : ks.length ≤ 15) : PE X (.Dict ks vs pos) (tDsC X ts) := by
  refine ⟨fun pins s σ H Q I q => ?_⟩
  obtain ⟨l1, l2, l3⟩ := h.len
  have hn := I.hok.fresh (Nat.le_refl s.heap.objs.size)
  have I1 := I.laid (a := s.heap.objs.size) (o := ND X.prog X.w s.heap.objs.size []) (h' := s.heap.push { cls := .type "dict", data := .dict #[] }) (t' := s.toks) (fun _ _ q => Heap.get?_push_of_some _ q) (Nat.le_refl _) (nd_empty s.heap I.big)
  have hz := zip_pairTrees ks vs X.env pos l2 l1
  have lp := l3 X.env pos
  rw [arm_eval_Dict, hz, dictDisplay_pairs _ (by intro z; rw [z] at lp; simp at lp; omega) (by rw [lp]; omega)]
  have hu8 : (nestedKind X.prog X.w).room X.A := by show X.A.units + 8 < cLine; omega
  refine wpAny_bind (wpAny_standAt (wpAny_bind (wpAny_subDictH (knd := nestedKind X.prog X.w) hu8 (by rw [lp]; omega) ?_)))
  refine thn (wpAny_evalPairs_len (pps_walk h I1 (q _ hn))) fun us s2 ⟨lu, xs, H2, I3, rv, e2, zs, vz, kz, q3⟩ => ?_
  obtain ⟨hd, z, ys, rel, dd⟩ := nd_at I3 (.inl e2) (fun x hx => by cases hx)
  cases rel
  obtain ⟨ws, cw, nw⟩ := carries (P := X.prog) (w := X.w) (h := s2.heap) rv vz fun z hz => (kz z hz).is I3
  refine ⟨ws, cw, dd, fun h' tk dd' hs => wpAny_pure ⟨.ref s.heap.objs.size, _, ?_, rfl, q3⟩⟩
  have rel' := npair_puts nw (acc := []) (acc' := []) .nil
  obtain ⟨o, es, ep, hq, h2, h3, h4, _, h5⟩ := dd'
  have fst : (nputs [] zs).map (·.1) = (storedAllH [] ws).map (·.1) := npair_fst rel'
  have hl' : (nputs [] zs).length ≤ sizeLine := by
    have e1 := nputs_len (zs := zs) (acc := [])
    have e3 := paired_len nw
    have e4 := cw.length
    rw [sizeLine_eq]
    rw [List.length_nil] at e1
    rw [lp] at lu
    omega
  refine d_write I3 (by rw [e2]; exact True.intro) hs ⟨o, hq⟩ ⟨⟨hd, hl', by rw [fst]; exact h5, _, rel', o, es, ep, hq, h2, h3, h4⟩, ⟨o, hq⟩, fun h1 h2' x hx => ?_⟩
  obtain ⟨x1, x2, x3, ys', x4, o', es', ep', x5, x6⟩ := x
  exact ⟨x1, x2, x3, ys', x4, o', es', ep', hx _ x5, x6⟩
/-! ### the constants -/
def cAs : List D → Ex
  | [] => .anil
  | d :: ds => .acons (.cst d) (cAs ds)
def ccB : D → Expr → Bool
  | d, .Constant c _ _ => cstOk d c
  | _, _ => false
def ccsB : List D → List Expr → Bool
  | [], [] => true
  | d :: ds, e :: es => ccB d e && ccsB ds es
  | _, _ => false
def kcB : D → Expr → Bool
  | .tup ds, .Tuple es _ _ => ccsB ds es && decide (es.length ≤ 1000)
  | _, _ => false
def dcB : List (D × D) → List (Option Expr) → List Expr → Bool
  | [], [], [] => true
  | p :: l, some e :: ks, e' :: vs => kcB p.1 e && ccB p.2 e' && dcB l ks vs
  | _, _, _ => false
section
variable {Φ : Nat → Fn} {gc : Nat → D} {C : Cf} {E : XK} {X : Cx} {k : Nat} {B : Addr → Bool} {ow : Ow} {s : S} {σ : St} {H : Hp}
theorem cc_sd {d : D} {e : Expr} (h : ccB d e = true) : plainE e = true ∧ ∃ t, Sd Φ gc C E X (.cst d) e t := by
  unfold ccB at h
  split at h
  · exact ⟨rfl, sd_cst h⟩
  · cases h
theorem ccs_sda : ∀ {ds : List D} {es : List Expr}, ccsB ds es = true → ∃ t, SdA Φ gc C E X (cAs ds) es t
  | [], [], _ => ⟨_, sda_nil⟩
  | d :: ds, e :: es, h => by
    simp only [ccsB, Bool.and_eq_true] at h
    obtain ⟨hp, t, st⟩ := cc_sd (Φ := Φ) (gc := gc) (C := C) (E := E) (X := X) h.1
    obtain ⟨u, su⟩ := ccs_sda h.2
    exact ⟨_, sda_cons st su hp⟩
  | [], _ :: _, h => by simp [ccsB] at h
  | _ :: _, [], h => by simp [ccsB] at h
theorem ev_cAs : ∀ {ds : List D} {s : S}, ev Φ gc (cAs ds) s = .ok (.tup ds) s
  | [], s => by unfold cAs ev; rfl
  | d :: ds, s => by
    have ec : ev Φ gc (.cst d) s = .ok d s := by unfold ev; rfl
    unfold cAs ev
    rw [ec]
    show (ev Φ gc (cAs ds) s).bind _ = _
    rw [ev_cAs]
    rfl
theorem kc_sd {d : D} {e : Expr} (h : kcB d e = true) : ∃ a t, Sd Φ gc C E X a e t ∧ ∀ s, ev Φ gc a s = .ok d s := by
  unfold kcB at h
  split at h
  · simp only [Bool.and_eq_true, decide_eq_true_eq] at h
    obtain ⟨t, st⟩ := ccs_sda (Φ := Φ) (gc := gc) (C := C) (E := E) (X := X) h.1
    exact ⟨_, _, sd_tup st h.2, fun s => by unfold ev; rw [ev_cAs]⟩
  · cases h
abbrev RepP (C : Cf) (G : Hp) : V × V → D × D → Prop := fun x p => Rep C G x.1 p.1 ∧ Rep C G x.2 p.2
theorem dc_ok (Φ : Nat → Fn) (gc : Nat → D) (E : XK) : ∀ {l : List (D × D)} {ks : List (Option Expr)} {vs : List Expr}, dcB l ks vs = true → ∃ ts, PPs X ks vs ts ∧ ks.length = l.length ∧ ∀ (B : Addr → Bool) (ow : Ow) (s : S) (σ : St) (H : Hp) (Q : List (V × V) → Hp → Prop), SR C B ow s σ H →
      (∀ ow' H' xs, SR C B ow' s σ H' → Stp C B ow H ow' H' → Paired (RepP C (hid B ow' H')) xs l → Q xs H') → tPs ts σ H Q
  | [], [], [], _ => ⟨[], .nil, rfl, fun B ow s σ H Q R q => q ow H [] R Stp.refl .nil⟩
  | p :: l, some e :: ks, e' :: vs, h => by
    simp only [dcB, Bool.and_eq_true] at h
    obtain ⟨a, t, st, ea⟩ := kc_sd (Φ := Φ) (gc := gc) (C := C) (E := E) (X := X) h.1.1
    obtain ⟨_, u, su⟩ := cc_sd (Φ := Φ) (gc := gc) (C := C) (E := E) (X := X) h.1.2
    obtain ⟨ts, pp, hl, ih⟩ := dc_ok Φ gc E h.2
    refine ⟨(t, u) :: ts, .cons st.pe su.pe pp, by rw [List.length_cons, List.length_cons, hl], fun B ow s σ H Q R q => ?_⟩
    refine st.ok B ow s σ H _ R ?_
    rw [ea s]
    intro ow1 x H1 R1 st1 rx
    refine su.ok B ow1 s σ H1 _ R1 ?_
    have ec : ev Φ gc (.cst p.2) s = .ok p.2 s := by unfold ev; rfl
    rw [ec]
    intro ow2 y H2 R2 st2 ry
    refine ih B ow2 s σ H2 _ R2 fun ow3 H3 xs R3 st3 rz => q ow3 H3 _ R3 ((st1.trans st2).trans st3) (.cons ⟨rx.mono (st2.trans st3).fr, ry.mono st3.fr⟩ rz)
  | [], _ :: _, _, h => by simp [dcB] at h
  | [], [], _ :: _, h => by simp [dcB] at h
  | _ :: _, [], _, h => by simp [dcB] at h
  | _ :: _, none :: _, _, h => by simp [dcB] at h
  | _ :: _, some _ :: _, [], h => by simp [dcB] at h
theorem keys_of (hK : X.K = C.K) {B : Addr → Bool} {ow : Ow} {H : Hp} : ∀ {xs : List (V × V)} {l : List (D × D)}, Paired (RepP C (hid B ow H)) xs l → (l.all fun p => keyN p.1) = true →
    ∃ zs : List (NestedKey × Addr × V), Paired VZ xs zs ∧ (∀ z ∈ zs, KeyAt X.K H z.1 z.2.1) ∧ Paired (fun z p => z.1 = p.1.nk ∧ Rep C (hid B ow H) (.ref z.2.1) p.1 ∧ Rep C (hid B ow H) z.2.2 p.2) zs l
  | _, _, .nil, _ => ⟨[], .nil, fun z hz => (by cases hz), .nil⟩
  | x :: xs, p :: l, .cons q t, h => by
    simp only [List.all_cons, Bool.and_eq_true] at h
    obtain ⟨zs, h1, h2, h3⟩ := keys_of hK t h.2
    obtain ⟨b, eb, kb⟩ := keyAt_of (X := X) hK (.inl q.1) h.1
    refine ⟨(p.1.nk, b, x.2) :: zs, .cons ⟨eb, rfl⟩ h1, fun z hz => ?_, .cons ⟨rfl, ?_, q.2⟩ h3⟩
    · rcases List.mem_cons.mp hz with rfl | hz
      · exact kb
      · exact h2 z hz
    · rw [← eb]; exact q.1
theorem paired_mono {G G' : Hp} (h : Sm' G G') : ∀ {zs : List (NestedKey × Addr × V)} {l : List (D × D)}, Paired (fun z p => z.1 = p.1.nk ∧ Rep C G (.ref z.2.1) p.1 ∧ Rep C G z.2.2 p.2) zs l → Paired (fun z p => z.1 = p.1.nk ∧ Rep C G' (.ref z.2.1) p.1 ∧ Rep C G' z.2.2 p.2) zs l
  | _, _, .nil => .nil
  | _, _, .cons q t => .cons ⟨q.1, q.2.1.mono h, q.2.2.mono h⟩ (paired_mono h t)
theorem sdf_dspC {l : List (D × D)} {ks : List (Option Expr)} {vs : List Expr} {pos : Pos} (g : Gd C E X k) (h : dcB l ks vs = true) (h1 : 1 ≤ l.length) (h15 : l.length ≤ 15) : ∃ t, SdF Φ gc C E X (.dspC l) (.Dict ks vs pos) t := by
  obtain ⟨ts, pp, hl, hok⟩ := dc_ok (C := C) (X := X) Φ gc E h
  refine ⟨_, pe_dspC g.u65 pp (by omega) (by omega), fun B ow s σ H Q R w p hp => ?_⟩
  unfold ev at w
  split at w
  case isFalse => exact w.elim
  rename_i hkk
  rw [g.hP, g.hw]
  have BDf : B p = false := R.freeB hp
  have ptw : p ≠ C.tw := fun z => by rw [z, R.twB] at BDf; cases BDf
  have prs : p ≠ C.rs := fun z => by rw [z, R.rsB] at BDf; cases BDf
  have R1 : SR C (addB B p) ow s σ (upd H p (ND C.P C.w p [])) := R.newB hp rfl
  have pB : addB B p p = true := addB_iff.mpr (.inr rfl)
  have hle : ∀ b, B b = true → addB B p b = true := fun b h => addB_iff.mpr (.inl h)
  refine hok (addB B p) ow s σ _ _ R1 fun ow2 H2 xs R3 st rz => ?_
  have hp2 : H2 p = some (ND C.P C.w p []) := st.hd p _ pB ptw prs upd_same rfl
  obtain ⟨zs, vz, kz, pz⟩ := keys_of g.hK rz hkk
  refine ⟨hp2, zs, vz, kz, ?_⟩
  obtain ⟨R4, le4⟩ := R3.wrB (o := ND C.P C.w p (nputs [] zs)) pB ptw prs (fun u hu => by rw [hp2] at hu; cases hu; exact .inr (.inr (.inl ⟨_, rfl⟩))) rfl
  obtain ⟨kds, ds, b1, b2, b3, b4, b5, b6⟩ := puts_rep (acc := []) (kds := []) (ds := []) (paired_mono le4 pz) hkk .nil rfl rfl .nil
  have b5 : l.foldl (fun a p => store a p.1 p.2) [] = kds.zip ds := b5
  rw [b5] at w
  refine w ow2 p _ (.dct true (kds.zip ds)) R4 BDf (((R.newLe hp).trans st.fr).trans le4) (fun b o h1 h2 h3 h4 h5 => ?_) rfl ⟨rfl, .inr ⟨nputs [] zs, kds, ds, rfl, upd_same, b1, b2, b3, b4, ?_, rfl⟩⟩
  · rw [upd_ne (fun z => by subst z; rw [BDf] at h1; cases h1)]
    exact st.hd b o (hle b h1) h2 h3 (by rw [upd_ne (ne_of_none h4 hp)]; exact h4) h5
  · simp at b6
    unfold LIM
    omega
end
end Mn

set_option Elab.async false
set_option linter.all false
set_option maxRecDepth 100000
set_option maxHeartbeats 1000000
namespace Mn
open PySem L2
/-! ### dict(xs), xs a list of pairs whose first is a number or a text -/
abbrev rDictP (X : Cx) : R1 := fun xs H Q => ∃ (a : Addr) (ps : List Addr) (kvs : List (Key × V)), xs = [.ref a] ∧ SqL X.K H a (ps.map V.ref) ∧ Paired (fun p kv => SqT X.K H p [kV kv.1, kv.2]) ps kvs ∧ ∀ p, H p = none → Q (.ref p) (upd H p (.dK (mergeK [] kvs)))
section
variable {Φ : Nat → Fn} {gc : Nat → D} {C : Cf} {E : XK} {X : Cx} {k : Nat}
theorem pairs_repK {B : Addr → Bool} {ow : Ow} {H : Hp} (hK : X.K = C.K) : ∀ {ds : List D} {vs : List V} {ps : List (D × D)}, RepA C (hid B ow H) vs ds → pairsD ds = some ps → (ps.all fun p => keyK p.1) = true →
    ∃ (as : List Addr) (kvs : List (Key × V)), vs = as.map V.ref ∧ Paired (fun p kv => SqT X.K H p [kV kv.1, kv.2]) as kvs ∧ Paired (fun kv p => kD kv.1 = p.1 ∧ Rep C (hid B ow H) kv.2 p.2) kvs ps
  | [], _, ps, .nil, e, _ => by
    cases e
    exact ⟨[], [], rfl, .nil, .nil⟩
  | d :: ds, _, ps, .cons (v := v) (vs := vs) r t, e, ha => by
    have key : ∃ kd vd ps', d = .tup [kd, vd] ∧ pairsD ds = some ps' ∧ ps = (kd, vd) :: ps' := by
      unfold pairsD at e
      split at e
      · rename_i h; cases h
      · rename_i k0 v0 r0 h
        cases h
        obtain ⟨ps', h1, h2⟩ := Option.map_eq_some_iff.mp e
        exact ⟨k0, v0, ps', rfl, h1, h2.symm⟩
      · cases e
    obtain ⟨kd, vd, ps', rfl, h1, rfl⟩ := key
    simp only [List.all_cons, Bool.and_eq_true] at ha
    obtain ⟨as, zs, q1, q2, q4⟩ := pairs_repK hK t h1 ha.2
    cases r with
    | @tup a us _ hs hr hl =>
      cases hr with
      | cons rk hr' =>
        cases hr' with
        | cons rv hr'' =>
          cases hr''
          have fin : ∀ key : Key, ∀ {kv : V}, kv = kV key → kD key = kd → SqT C.K (hid B ow H) a [kv, _] → _ := fun key kv e1 e2 hs => (⟨a :: as, (key, _) :: zs, by rw [q1]; rfl, .cons (by
            show SqT X.K H a [kV key, _]
            rw [hK, ← e1]
            exact hid_sqT hs) q2, .cons ⟨e2, rv⟩ q4⟩ : ∃ (as : List Addr) (kvs : List (Key × V)), V.ref a :: vs = as.map V.ref ∧ Paired (fun p kv => SqT X.K H p [kV kv.1, kv.2]) as kvs ∧ Paired (fun kv p => kD kv.1 = p.1 ∧ Rep C (hid B ow H) kv.2 p.2) kvs ((kd, vd) :: ps'))
          have hk' : keyK kd = true := ha.1
          cases kd with
          | int i => cases rk; exact fin (.inl i) rfl rfl hs
          | str i => cases rk; exact fin (.inr i) rfl rfl hs
          | _ => simp [keyK] at hk'
theorem puts_repK {G : Hp} : ∀ {zs : List (Key × V)} {ps : List (D × D)} {acc : List (Key × V)} {ds : List D}, Paired (fun kv p => kD kv.1 = p.1 ∧ Rep C G kv.2 p.2) zs ps → RepA C G (acc.map (·.2)) ds →
    ∃ ds', RepA C G ((mergeK acc zs).map (·.2)) ds' ∧ ps.foldl (fun a p => store a p.1 p.2) ((acc.map fun p => kD p.1).zip ds) = ((mergeK acc zs).map fun p => kD p.1).zip ds' ∧ ds'.length ≤ ds.length + ps.length
  | _, _, acc, ds, .nil, h => ⟨ds, h, rfl, by simp⟩
  | z :: zs, p :: ps, acc, ds, .cons q t, h => by
    obtain ⟨d1, a1, a2, a3⟩ := store_k (key := z.1) q.2 h
    obtain ⟨d2, b1, b2, b3⟩ := puts_repK t a1
    refine ⟨d2, b1, ?_, by rw [List.length_cons]; omega⟩
    rw [List.foldl_cons, ← q.1, a2]
    exact b2
theorem cd_dictP (g : Gd C E X k) : CallD C (rFrz (rDictP X)) (prim1 .dict) := by
  intro B ow s σ H E Q v x R r w
  cases x with
  | lst xs =>
    obtain ⟨a, vs, rfl, h1, h2⟩ := r.list
    have hlim := r.lenL
    simp only [prim1] at w
    cases q : pairsD xs with
    | none => rw [q] at w; exact w.elim
    | some ps =>
      rw [q] at w
      simp only [Option.bind_some] at w
      split at w
      · rename_i ha
        obtain ⟨as, zs, e1, e2, e4⟩ := pairs_repK (X := X) g.hK h2 q ha
        refine ⟨a, as, zs, rfl, by rw [← e1]; exact .inl (.inl h1), e2, fun p hp => ⟨p, _, rfl, upd_same, trivial, fun od => ?_⟩⟩
        obtain ⟨ds, b1, b5, b6⟩ := puts_repK (acc := []) (ds := []) e4 .nil
        have b5 : ps.foldl (fun a p => store a p.1 p.2) [] = ((mergeK [] zs).map fun p => kD p.1).zip ds := b5
        rw [b5] at w
        rw [upd_upd]
        refine wpE.giveNew w R hp (.dK (R.visNew hp) (b1.mono (R.growNew hp)) ?_)
        have := pairsD_len q
        simp at b6
        omega
      · exact w.elim
  | _ => exact w.elim
theorem sd_dictP {a : Ex} {e : Expr} {ta : TE} {p1 pos : Pos} (g : Gd C E X k) (ha : Sd Φ gc C E X a e ta) (hp : plainE e = true) (h1 : glB X.env.scope "dict" = true) :
    ∃ u, Sd Φ gc C E X (.prm .dict a) (.Call (.Name "dict" p1) [e] [] pos) u := by
  have pa : PA X [e] (tCons ta tNil) := pa_cons ha.pe pa_nil (starEach_plain hp)
  exact ⟨_, pe_frz (pe_callTy (call_dictP g.calm) (gl_of h1) (g.blt _ (by decide +kernel)) (by decide +kernel) pa (by decide +kernel) (by decide +kernel) (starEach_plain hp) (noStar rfl)), ok_prm (cd_dictP g) ha, fun z => by cases z⟩
end
end Mn

set_option Elab.async false
set_option linter.all false
set_option maxRecDepth 100000
set_option maxHeartbeats 1000000
namespace Mn
open PySem L2
/-! ### a list comprehension whose list a slot is to own -/
section
variable {Φ : Nat → Fn} {gc : Nat → D} {C : Cf} {E : XK} {X : Cx} {k : Nat}
theorem ok_lcF {w : List Nat} {e : Ex} {p : Pat} {it c : Ex} (hw : ∀ j ∈ p.slots, j ∈ w) : ∀ (B : Addr → Bool) (ow : Ow) (s : S) (σ : St) (H : Hp) (Q : VK), SR C B ow s σ H → wpR C E B ow H σ (ev Φ gc (.lc w e p it c) s) Q → tLc (iEv Φ gc C E it) (gEv C p) (tTv Φ gc C EF c) (tEv Φ gc C EF e) w σ H Q := by
  intro B ow s σ H Q R wq
  rw [ev_lc] at wq
  show iEv Φ gc C E it σ H _
  refine ⟨B, ow, s, R, ?_⟩
  cases q : ev Φ gc it s with
  | exc c τ => rw [q] at wq; exact wq
  | bad => rw [q] at wq; exact wq
  | ok x s1 =>
    rw [q] at wq
    simp only [Out.bind] at wq
    cases hx : items x with
    | none => rw [hx] at wq; exact wq.elim
    | some xs =>
      rw [hx] at wq
      simp only at wq
      refine ⟨xs, hx, fun ow1 J H1 G R1 st1 hlim W hG q0 hD => ?_⟩
      split at wq
      case isFalse => exact wq.elim
      rename_i hpl
      have wq1 := wpR.step st1 wq
      clear wq
      generalize hB' : addB B q0 = B'
      have R2 : SR C B' ow1 s1 σ (upd H1 q0 (.lst [])) := by rw [← hB']; exact R1.newB hD rfl
      have BD : B' q0 = true := by rw [← hB']; exact addB_iff.mpr (.inr rfl)
      have BDf : B q0 = false := R1.freeB hD
      have hBle : ∀ b, B b = true → B' b = true := fun b h => by rw [← hB']; exact addB_iff.mpr (.inl h)
      have Dtw : q0 ≠ C.tw := fun z => by rw [z, R1.twB] at BDf; cases BDf
      have Drs : q0 ≠ C.rs := fun z => by rw [z, R1.rsB] at BDf; cases BDf
      have le2 : Sm' (hid B ow1 H1) (hid B' ow1 (upd H1 q0 (.lst []))) := by rw [← hB']; exact R1.newLe hD
      let f := lcF Φ gc e p c
      let gw : S → S := fun s2 => { s2 with ρ := wipeS s2.ρ w }
      let fin : List D → S → Out D := fun ys s5 => .ok (.lst ys) { s5 with ρ := backS s5.ρ s1.ρ w }
      have wq2 : wpR C E B ow1 H1 σ ((lcL f gw xs [] s1).bind fin) Q := wq1
      clear wq1
      -- the word
      let Pv : Nat → Hp → Prop := fun i H => i ≤ xs.length ∧ ∃ (s : S) (ow : Ow) (σ' : St) (acc : List V) (ds : List D), SR C B' ow s σ' H ∧ OffSame w σ σ' ∧ Sm' (hid B' ow1 (upd H1 q0 (.lst []))) (hid B' ow H) ∧
        (∀ b o, B b = true → b ≠ C.tw → b ≠ C.rs → H1 b = some o → nt o = true → H b = some o) ∧ H q0 = some (.lst acc) ∧ RepA C (hid B' ow H) acc ds ∧ ds.length ≤ i ∧ wpR C E B ow1 H1 σ ((lcL f gw (xs.drop i) ds s).bind fin) Q
      let n := xs.length
      have walk : L2.Walk J n (fun H => ∃ ow, G (hid B' ow H)) (fun i H x H' => J.yld i H x H') := ⟨fun i H hi ⟨ow, h⟩ => W.goes i B' ow H hi h, fun H ⟨ow, h⟩ => W.stops B' ow H h, fun i H x H' _ _ y => y⟩
      refine L2.lc_it walk Pv ?_ ?_ ?_ ?_
      · refine ⟨Nat.zero_le _, s1, ow1, σ, [], [], R2, OffSame.refl, Sm'.refl _, fun b o hb _ _ h n => ?_, upd_same, .nil, Nat.le_refl _, wq2⟩
        rw [upd_ne (ne_of_none h hD)]; exact h
      · rintro i H hi ⟨_, s, ow, σ', acc, ds, R', _, fr, _⟩
        exact ⟨ow, W.mono _ _ fr (W.mono _ _ le2 hG)⟩
      · rintro i x H H' hi ⟨_, s, ow, σ', acc, ds, R', o', fr, hd, hacc, ra, hlen, wk⟩ y
        have ex : xs[i]? = some xs[i] := List.getElem?_eq_getElem hi
        rw [List.drop_eq_getElem_cons hi] at wk
        obtain ⟨Rw, stw⟩ := R'.wipe w
        have ew : L2.wipe σ' w = L2.wipe σ w := o'.wipe
        rw [ew] at Rw
        obtain ⟨R3, st3, rx⟩ := W.yields B' (wipeO ow w) _ _ i H x H' xs[i] Rw ex (W.mono _ _ stw.fr (W.mono _ _ fr (W.mono _ _ le2 hG))) y
        have wk' : wpR C E B ow1 H1 σ (((f xs[i] (gw s)).bind fun o s1 => match o with
          | some d => lcL f gw (xs.drop (i + 1)) (ds ++ [d]) s1
          | none => lcL f gw (xs.drop (i + 1)) ds s1).bind fin) Q := wk
        clear wk
        have ef : f xs[i] (gw s) = match bindP p [xs[i]] (gw s).ρ with
          | none => .bad
          | some ρ => Out.quiet ((evT Φ gc c { (gw s) with ρ := ρ }).bind fun k s3 => if k then (ev Φ gc e s3).bind fun r s4 => .ok (some r) s4 else .ok none s3) := rfl
        rw [ef] at wk'
        cases hb : bindP p [xs[i]] (gw s).ρ with
        | none => rw [hb] at wk'; exact wk'.elim
        | some ρ' =>
          rw [hb] at wk'
          simp only at wk'
          refine ⟨B', wipeO ow w, gw s, xs[i], ρ', R3, rx, hb, fun ow4 σ4 R4 st4 o4 => ?_⟩
          have o4w : OffSame w (L2.wipe σ w) σ4 := o4.mono hw
          have offw : OffSame w σ (L2.wipe σ w) := by
            refine ⟨wipe_length _ _, fun j hj => ?_⟩
            exact wipe_out hj
          refine ⟨by rw [o4w.wipe, offw.wipe], B', ow4, _, R4, ?_⟩
          cases hc : evT Φ gc c { (gw s) with ρ := ρ' } with
          | exc cc τ => rw [hc] at wk'; exact wk'.elim
          | bad => rw [hc] at wk'; exact wk'.elim
          | ok kk s5 =>
            rw [hc] at wk'
            intro ow5 H5 R5 st5
            have sta : Stp C B' (wipeO ow w) H ow5 H5 := st3.trans (st4.trans st5)
            have st0 : Stp C B' ow H ow5 H5 := stw.trans sta
            have hd5 : ∀ b o, B b = true → b ≠ C.tw → b ≠ C.rs → H1 b = some o → nt o = true → H5 b = some o := fun b o h1 h2 h3 h4 h5 => st0.hd b o (hBle b h1) h2 h3 (hd b o h1 h2 h3 h4 h5) h5
            have acc5 : H5 q0 = some (.lst acc) := st0.hd q0 _ BD Dtw Drs hacc rfl
            cases kk with
            | false =>
              simp only [Bool.false_eq_true, if_false]
              exact ⟨hi, s5, ow5, σ4, acc, ds, R5, offw.trans o4w, fr.trans st0.fr, hd5, acc5, ra.mono st0.fr, Nat.le_succ_of_le hlen, wk'⟩
            | true =>
              simp only [if_true]
              refine ⟨B', ow5, s5, R5, ?_⟩
              cases he : ev Φ gc e s5 with
              | exc cc τ =>
                simp only [Out.bind, if_true, he, Out.quiet] at wk'
                exact wk'.elim
              | bad =>
                simp only [Out.bind, if_true, he, Out.quiet] at wk'
                exact wk'.elim
              | ok r s6 =>
                simp only [Out.bind, if_true, he, Out.quiet] at wk'
                intro ow6 v H6 R6 st6 rr
                have st06 : Stp C B' ow H ow6 H6 := st0.trans st6
                have acc6 : H6 q0 = some (.lst acc) := st06.hd q0 _ BD Dtw Drs hacc rfl
                have ll : acc.length = ds.length := ra.length
                obtain ⟨R7, le7⟩ := R6.wrB (o := .lst (acc ++ [v])) BD Dtw Drs (fun u hu => by rw [acc6] at hu; cases hu; exact .inl ⟨_, rfl⟩) rfl
                refine ⟨acc, acc6, ?_, hi, s6, ow6, σ4, acc ++ [v], ds ++ [r], R7, offw.trans o4w, (fr.trans st06.fr).trans le7, fun b o h1 h2 h3 h4 h5 => ?_, upd_same, (ra.mono (st06.fr.trans le7)).app (.cons (rr.mono le7) .nil), by simp; omega, wk'⟩
                · rw [ll, ← LIM_eq]; omega
                · rw [upd_ne (fun z => by subst z; rw [BDf] at h1; cases h1)]
                  exact st6.hd b o (hBle b h1) h2 h3 (hd5 b o h1 h2 h3 h4 h5) h5
      · rintro H ⟨_, s, ow, σ', acc, ds, R', o', fr, hd, hacc, ra, hlen, wk⟩
        have e0 : xs.drop n = [] := List.drop_length
        rw [e0] at wk
        have wk' : wpR C E B ow1 H1 σ (.ok (.lst ds) { s with ρ := backS s.ρ s1.ρ w }) Q := wk
        have le0 : Sm' (hid B' ow H) (hid B' (wipeO ow w) H) := hid_ow_le (fun b q => .inl q) (fun p q => .inl (mem_wipeO q)) (Sm'.refl _)
        have R1' : SR C B' ow1 s1 σ (upd H1 q0 (.lst [])) := R2
        have bk := R1'.back R' o' fr hpl
        rw [← hB'] at bk le0 fr le2 ra
        refine wk' (wipeO ow w) q0 H (.lst ds) bk BDf ((le2.trans fr).trans le0) hd rfl ⟨rfl, acc, hacc, ra.mono le0, Nat.le_trans hlen hlim⟩
end
end Mn

set_option Elab.async false
set_option linter.all false
set_option maxRecDepth 100000
set_option maxHeartbeats 1000000
namespace Mn
open PySem L2

/-! ### statements -/
def wpS (C : Cf) (E : XK) (B : Addr → Bool) (ow : Ow) (H : Hp) (o : SO) (D : Ends) : Prop := match o with
  | .next s' => ∀ ow' σ' H', SR C B ow' s' σ' H' → Stp C B ow H ow' H' → D.nx σ' H'
  | .brk s' => ∀ ow' σ' H', SR C B ow' s' σ' H' → Stp C B ow H ow' H' → D.bk σ' H'
  | .cnt s' => ∀ ow' σ' H', SR C B ow' s' σ' H' → Stp C B ow H ow' H' → D.ct σ' H'
  | .ret d s' => ∀ ow' σ' v H', SR C B ow' s' σ' H' → Stp C B ow H ow' H' → Rep C (hid B ow' H') v d → D.rt v H'
  | .exc c τ => ∀ H', Fin C B ow H τ H' → E (.ref (C.cls c)) none H'
  | .bad => False
theorem wpS.step {C : Cf} {E : XK} {B : Addr → Bool} {ow ow1 : Ow} {H H1 : Hp} {o : SO} {D : Ends} (a : Stp C B ow H ow1 H1) (h : wpS C E B ow H o D) : wpS C E B ow1 H1 o D := by
  cases o with
  | next s' => exact fun ow' σ' H' R st => h ow' σ' H' R (a.trans st)
  | brk s' => exact fun ow' σ' H' R st => h ow' σ' H' R (a.trans st)
  | cnt s' => exact fun ow' σ' H' R st => h ow' σ' H' R (a.trans st)
  | ret d s' => exact fun ow' σ' v H' R st r => h ow' σ' v H' R (a.trans st) r
  | exc c τ => exact fun H' f => h H' (f.step a)
  | bad => exact h
def OkS (C : Cf) (E : XK) (t : TS) (f : S → SO) : Prop := ∀ (B : Addr → Bool) (ow : Ow) (s : S) (σ : St) (H : Hp) (D : Ends), SR C B ow s σ H → wpS C E B ow H (f s) D → t D σ H
section
variable (Φ : Nat → Fn) (gc : Nat → D) (C : Cf) (E : XK)
def tSx (b : Sm) : TS := fun D σ H => ∃ B ow s, SR C B ow s σ H ∧ wpS C E B ow H (ex Φ gc b s) D
abbrev DS (X : Cx) (b : Sm) (st : Stmt) : Prop := PS X st (tSx Φ gc C E b)
abbrev DSs (X : Cx) (b : Sm) (sts : List Stmt) : Prop := PSs X sts (tSx Φ gc C E b)
end
structure Gs (C : Cf) (E : XK) (X : Cx) (k : Nat) : Prop extends Gd C E X k where
  own : PassesOwn (model X.prog X.w) X.A X.env X.xe
  takes : Takes X (fun cls d _ H => E cls d H)
  kindF : X.env.scope.kind = .function
  fn : ∀ x, X.fn x = true
section
variable {Φ : Nat → Fn} {gc : Nat → D} {C : Cf} {E : XK} {X : Cx} {k : Nat} {B : Addr → Bool} {ow : Ow} {s : S} {σ : St} {H : Hp}
theorem ds_of {b : Sm} {st : Stmt} {t : TS} (h : PS X st t) (ok : OkS C E t (ex Φ gc b)) : DS Φ gc C E X b st := ⟨fun pins s σ H D I ⟨B, ow, s', R, w⟩ => h.run pins s σ H D I (ok B ow s' σ H D R w)⟩
theorem dss_of {b : Sm} {sts : List Stmt} {t : TS} (h : PSs X sts t) (ok : OkS C E t (ex Φ gc b)) : DSs Φ gc C E X b sts := ⟨fun pins s σ H D I ⟨B, ow, s', R, w⟩ => h.run pins s σ H D I (ok B ow s' σ H D R w)⟩
theorem dss_nil : DSs Φ gc C E X .nop [] := dss_of pss_nil fun B ow s σ H D R w => w ow σ H R Stp.refl
theorem dss_cons {a b : Sm} {st : Stmt} {sts : List Stmt} (h1 : DS Φ gc C E X a st) (h2 : DSs Φ gc C E X b sts) : DSs Φ gc C E X (.seq a b) (st :: sts) := by
  refine dss_of (pss_cons h1 h2) fun B ow s σ H D R w => ?_
  show tSx Φ gc C E a { D with nx := tSx Φ gc C E b D } σ H
  refine ⟨B, ow, s, R, ?_⟩
  unfold ex at w
  cases q : ex Φ gc a s with
  | next s1 =>
    rw [q] at w
    exact fun ow' σ' H' R' st => ⟨B, ow', s1, R', wpS.step st w⟩
  | brk s1 => rw [q] at w; exact w
  | cnt s1 => rw [q] at w; exact w
  | ret d s1 => rw [q] at w; exact w
  | exc c τ => rw [q] at w; exact w
  | bad => rw [q] at w; exact w
/-- an expression, then a step -/
theorem bindS {a : Ex} {e : Expr} {t : TE} {g : D → S → SO} {D : Ends} {Q : VK} (ha : Sd Φ gc C E X a e t) (R : SR C B ow s σ H) (w : wpS C E B ow H ((ev Φ gc a s).so g) D)
    (hk : ∀ d s1 ow1 v H1, SR C B ow1 s1 σ H1 → Stp C B ow H ow1 H1 → Rep C (hid B ow1 H1) v d → wpS C E B ow1 H1 (g d s1) D → Q v H1) : t σ H Q := by
  refine ha.ok B ow s σ H Q R ?_
  cases q : ev Φ gc a s with
  | ok d s1 =>
    rw [q] at w
    exact fun ow1 v H1 R1 st r => hk d s1 ow1 v H1 R1 st r (wpS.step st w)
  | exc c τ => rw [q] at w; exact w
  | bad => rw [q] at w; exact w
def notComp : Expr → Bool
  | .ListComp .. => false
  | .SetComp .. => false
  | .DictComp .. => false
  | _ => true
theorem sw_no {e : Expr} {t : Option Expr} {l : Nat} {env : Env} (h : notComp e = true) : swapsWith e t l env = pure false := by
  cases e <;> first | rfl | (simp [notComp] at h)
def locB (sc : Scope) (x : Str) : Bool := sc.names.lookup x == some .local || sc.names.lookup x == some .cell
theorem loc_of {sc : Scope} {x : Str} (h : locB sc x = true) : Loc sc x := by
  simp only [locB, Bool.or_eq_true, beq_iff_eq] at h
  exact h
/-- name = e -/
theorem ok_asg {i : Nat} {a : Ex} {e : Expr} {t : TE} (h : Sd Φ gc C E X a e t) : OkS C E (tAsg t (gName i)) (ex Φ gc (.set i a)) := fun B ow s σ H D R w => by
  unfold ex at w
  refine bindS h R w fun d s1 ow1 v H1 R1 st r w1 => ?_
  unfold setS at w1
  split at w1
  · exact w1 _ _ _ (R1.setVal r) Stp.drop
  · exact w1.elim
theorem ds_set {i : Nat} {x : Str} {a : Ex} {e : Expr} {t : TE} {p pos : Pos} (g : Gs C E X k) (hi : X.N[i]? = some x) (hx : locB X.env.scope x = true) (h : Sd Φ gc C E X a e t) (hc : notComp e = true) : DS Φ gc C E X (.set i a) (.Assign [.Name x p] e pos) :=
  ds_of (ps_set g.nd hi (loc_of hx) h.pe (sw_no hc) (.inl (g.fn x))) (ok_asg h)
theorem ok_own {i : Nat} {a : Ex} {t : TE} (h : ∀ (B : Addr → Bool) (ow : Ow) (s : S) (σ : St) (H : Hp) (Q : VK), SR C B ow s σ H → wpR C E B ow H σ (ev Φ gc a s) Q → t σ H Q) : OkS C E (tAsg t (gName i)) (ex Φ gc (.own i a)) := fun B ow s σ H D R w => by
  unfold ex at w
  show t σ H fun v H1 => D.nx (σ.set i (some v)) H1
  refine h B ow s σ H _ R ?_
  cases q : ev Φ gc a s with
  | exc c τ => rw [q] at w; exact w
  | bad => rw [q] at w; exact w
  | ok d s1 =>
    rw [q] at w
    intro ow1 p H1 x R1 nb fr hd hx so
    simp only [Out.so, hx, setS] at w
    split at w
    · refine w _ _ _ (R1.setOwn nb R.twB R.rsB so) ⟨fr.trans ?_, hd⟩
      exact own_le
    · exact w.elim
/-- name = e, where the name comes to own what is new -/
theorem ds_own {i : Nat} {x : Str} {a : Ex} {e : Expr} {t : TE} {p pos : Pos} (g : Gs C E X k) (hi : X.N[i]? = some x) (hx : locB X.env.scope x = true) (h : SdF Φ gc C E X a e t) (hc : notComp e = true) : DS Φ gc C E X (.own i a) (.Assign [.Name x p] e pos) := by
  exact ds_of (ps_set g.nd hi (loc_of hx) h.pe (sw_no hc) (.inl (g.fn x))) (ok_own h.ok)
/-- (a, b) = e -/
def notTup : Expr → Bool
  | .Tuple .. => false
  | _ => true
/-- a row of targets of which one is no plain local name -/
def cellT (sc : Scope) : Expr → Bool
  | .Tuple ts _ _ => ts.any fun e => match e with
    | .Name x _ => !(sc.names.lookup x == some .local)
    | _ => true
  | _ => false
theorem filterMap_short {α β : Type} {f : α → Option β} : ∀ {l : List α}, (∃ a ∈ l, f a = none) → (l.filterMap f).length < l.length
  | [], h => by obtain ⟨a, ha, _⟩ := h; cases ha
  | x :: l, h => by
    have hl : (l.filterMap f).length ≤ l.length := List.length_filterMap_le ..
    cases q : f x with
    | none => rw [List.filterMap_cons_none q, List.length_cons]; omega
    | some b =>
      obtain ⟨a, ha, e⟩ := h
      rcases List.mem_cons.mp ha with rfl | ha
      · rw [q] at e; cases e
      · have := filterMap_short (f := f) ⟨a, ha, e⟩
        rw [List.filterMap_cons_some q, List.length_cons, List.length_cons]; omega
theorem sw_cell {ts vs : List Expr} {kt k2 : Nat} {pt pt2 : Pos} (h : cellT X.env.scope (.Tuple ts kt pt) = true) : swappedStores [.Tuple ts kt pt] (.Tuple vs k2 pt2) X.env = pure none := by
  unfold swappedStores
  dsimp only
  split
  · rfl
  · split
    · rfl
    · split
      · rfl
      · rename_i c
        exfalso
        apply c
        rw [Bool.or_eq_true]
        left
        simp only [cellT, List.any_eq_true] at h
        obtain ⟨e, he, h⟩ := h
        rw [bne_iff_ne]
        refine Nat.ne_of_lt (filterMap_short ⟨e, he, ?_⟩)
        cases e <;> first | rfl | skip
        rename_i x px
        have : (X.env.kindOf x == some NameKind.local) = false := by
          show (X.env.scope.names.lookup x == some NameKind.local) = false
          simpa using h
        simp only [this]
        rfl
/-- a row of constants -/
def foldT : Expr → Bool
  | .Tuple vs _ _ => vs.all (foldedForSure 8)
  | _ => false
theorem sw_fold {ts vs : List Expr} {kt k2 : Nat} {pt pt2 : Pos} (h : foldT (.Tuple vs k2 pt2) = true) : swappedStores [.Tuple ts kt pt] (.Tuple vs k2 pt2) X.env = pure none := by
  have h : vs.all (foldedForSure 8) = true := h
  unfold swappedStores
  dsimp only
  rw [h]
  split
  · rfl
  · split
    · rfl
    · split
      · rfl
      · rfl
theorem sw_foldL {ts vs : List Expr} {k2 : Nat} {pt pt2 : Pos} (h : foldT (.Tuple vs k2 pt2) = true) : swappedStores [.List ts pt] (.Tuple vs k2 pt2) X.env = pure none := by
  have h : vs.all (foldedForSure 8) = true := h
  unfold swappedStores
  dsimp only
  rw [h]
  split
  · rfl
  · split
    · rfl
    · split
      · rfl
      · rfl
theorem ds_unp {p : Pat} {a : Ex} {e tg : Expr} {t : TE} {tgt : TG} {pos : Pos} (g : Gs C E X k) (hp : plainE tg = true) (hg : SdG C X p tg tgt) (h : Sd Φ gc C E X a e t) (hc : notComp e = true) (ht : (notTup e || cellT X.env.scope tg || foldT e) = true) : DS Φ gc C E X (.unp p a) (.Assign [tg] e pos) := by
  have hw : swappedStores [tg] e X.env = pure none := by
    by_cases hn : notTup e = true
    · cases e <;> first | rfl | (simp [notTup] at hn; done) | (cases tg <;> rfl)
    · cases e <;> first | rfl | (exact absurd rfl hn) | skip
      cases tg <;> first | rfl | skip
      · simp only [notTup, cellT, Bool.false_or] at ht
        exact sw_foldL ht
      · simp only [notTup, Bool.false_or, Bool.or_eq_true] at ht
        rcases ht with ht | ht
        · exact sw_cell ht
        · exact sw_fold ht
  refine ds_of (ps_asg h.pe hg.pg (sw_no hc) hw (by rw [plain_assign hp]; rfl)) fun B ow s σ H D R w => ?_
  unfold ex at w
  refine bindS h R w fun d s1 ow1 v H1 R1 st r w1 => ?_
  cases q : bindP p [d] s1.ρ with
  | none => rw [q] at w1; exact w1.elim
  | some ρ' =>
    rw [q] at w1
    exact hg.ok B ow1 s1 σ H1 v d ρ' _ R1 r q fun ow2 σ2 R2 st2 _ => w1 ow2 σ2 H1 R2 st2

/-! ### a, b = x, y -/
theorem row_len {G H : Hp} : ∀ {fl : List Bool} {ps : List Addr} {vs : List V} {ds : List D}, Row C G H fl ps vs ds → vs.length = fl.length ∧ ds.length = fl.length
  | [], [], [], [], _ => ⟨rfl, rfl⟩
  | false :: fl, ps, v :: vs, d :: ds, h => by have := row_len h.2; simp [this.1, this.2]
  | true :: fl, p :: ps, v :: vs, d :: ds, h => by have := row_len h.2; simp [this.1, this.2]
  | [], [], [], _ :: _, h => by simp [Row] at h
  | [], [], _ :: _, _, h => by simp [Row] at h
  | [], _ :: _, _, _, h => by simp [Row] at h
  | false :: _, _, [], _, h => by simp [Row] at h
  | false :: _, _, _ :: _, [], h => by simp [Row] at h
  | true :: _, [], _, _, h => by simp [Row] at h
  | true :: _, _ :: _, [], _, h => by simp [Row] at h
  | true :: _, _ :: _, _ :: _, [], h => by simp [Row] at h
theorem par_ok {a : Ex} {es : List Expr} {t : TA} {ts : List (Nat × Bool)} {D : Ends} {Q : List V → Hp → Prop} (h : SdN Φ gc C E X a (ts.map (·.2)) es t) (R : SR C B ow s σ H) (w : wpS C E B ow H (ex Φ gc (.par ts a) s) D)
    (hk : ∀ vs H1 ow1 σ1 s1, vs.length = ts.length → SR C B ow1 s1 σ1 H1 → Stp C B ow H ow1 H1 → wpS C E B ow H (.next s1) D → σ1 = ((ts.map (·.1)).zip vs).foldl (fun σ p => σ.set p.1 (some p.2)) σ → Q vs H1) : t σ H Q := by
  refine h.ok B ow s σ H Q R ?_
  unfold ex at w
  cases q : ev Φ gc a s with
  | exc c τ => rw [q] at w; exact w
  | bad => rw [q] at w; exact w
  | ok d s1 =>
    obtain ⟨ds, rfl, hl⟩ := h.len _ _ _ q
    rw [q] at w
    simp only [Out.so] at w
    intro ow1 vs H1 ps R1 nd nb fr hd row
    cases q2 : parS ts ds s1.ρ with
    | none => rw [q2] at w; exact w.elim
    | some ρ' =>
      rw [q2] at w
      obtain ⟨ow', σ', h1, h2, h3⟩ := row_set R1 nd nb R.twB R.rsB row q2
      exact hk vs H1 ow' σ' _ (by have := (row_len row).1; simpa using this) h1 ⟨fr.trans h2, hd⟩ w h3
/-- the names of a row of targets -/
def nmsOk (N : List Str) : List (Nat × Bool) → List Expr → Bool
  | [], [] => true
  | (i, _) :: ts, .Name x _ :: es => N[i]? == some x && nmsOk N ts es
  | _, _ => false
def lineOf : Expr → Nat := fun e => e.pos.line
theorem sw_some2 {x y : Str} {px py pt pt2 : Pos} {kt k2 : Nat} {a b : Expr} (hf : X.env.scope.kind = .function) (hx : X.env.scope.names.lookup x = some .local) (hy : X.env.scope.names.lookup y = some .local) (hl : (py.line == px.line) = true) (hxy : x ≠ y) (pa : plainE a = true) (pb : plainE b = true)
    (hfo : (foldedForSure 8 a && foldedForSure 8 b) = false) (hco : (constantsAlone 8 a && constantsAlone 8 b) = false) : swappedStores [.Tuple [.Name x px, .Name y py] kt pt] (.Tuple [a, b] k2 pt2) X.env = pure (some [x, y]) := by
  have hb : X.env.blockKind = .function := by unfold Env.blockKind; rw [hf]; rfl
  have kx : X.env.kindOf x = some .local := hx
  have ky : X.env.kindOf y = some .local := hy
  have st : ([a, b].any fun | .Starred .. => true | _ => false) = false := by
    cases a <;> cases b <;> first | rfl | (simp [plainE] at pa; done) | (simp [plainE] at pb; done)
  unfold swappedStores
  have hl' : py.line = px.line := by simpa using hl
  have e1 : ([a, b].all (foldedForSure 8)) = false := by simpa using hfo
  have e2 : ([a, b].all (constantsAlone 8)) = false := by simpa using hco
  simp only [hb, st, e1, e2, kx, ky, List.filterMap_cons, List.filterMap_nil, List.head?_cons, Option.map_some, Option.getD_some, Expr.pos, hl', beq_self_eq_true, Bool.and_self, if_true]
  have : ([x, y].eraseDups).length = 2 := by
    have : (y == x) = false := by simpa using Ne.symm hxy
    simp [List.eraseDups_cons, this]
  simp [this]
  intro h
  rcases h with h | h
  · cases a <;> first | (cases h; done) | (simp [plainE] at pa; done)
  · cases b <;> first | (cases h; done) | (simp [plainE] at pb; done)
theorem ds_par2 {i j : Nat} {f f' : Bool} {x y : Str} {px py pt pt2 pos : Pos} {kt k2 : Nat} {a b : Expr} {r : Ex} {t : TA} (g : Gs C E X k) (hi : X.N[i]? = some x) (hj : X.N[j]? = some y) (hij : i ≠ j) (hx : X.env.scope.names.lookup x = some .local) (hy : X.env.scope.names.lookup y = some .local) (hl : (py.line == px.line) = true)
    (hfo : (foldedForSure 8 a && foldedForSure 8 b) = false) (hco : (constantsAlone 8 a && constantsAlone 8 b) = false) (h : SdN Φ gc C E X r [f, f'] [a, b] t) : DS Φ gc C E X (.par [(i, f), (j, f')] r) (.Assign [.Tuple [.Name x px, .Name y py] kt pt] (.Tuple [a, b] k2 pt2) pos) := by
  have hxy : x ≠ y := fun z => by
    subst z
    have l1 := (List.getElem?_eq_some_iff.mp hi).1
    have l2 := (List.getElem?_eq_some_iff.mp hj).1
    exact hij ((List.getElem?_inj l1 g.nd).mp (hi.trans hj.symm))
  have pl := h.pl
  simp only [List.all_cons, List.all_nil, Bool.and_true, Bool.and_eq_true] at pl
  refine ds_of (ps_par g.calm g.nd hi hj hij hx hy h.pa (sw_some2 g.kindF hx hy hl hxy pl.1 pl.2 hfo hco) rfl) fun B ow s σ H D R w => ?_
  refine par_ok (ts := [(i, f), (j, f')]) h R w fun vs H1 ow1 σ1 s1 hv R1 st w1 e => ?_
  match vs, hv with
  | [v, u], _ =>
    refine ⟨v, u, rfl, ?_⟩
    have e' : σ1 = (σ.set i (some v)).set j (some u) := e
    rw [← e']
    exact w1 ow1 σ1 H1 R1 st

theorem sw_some3 {x y z : Str} {px py pz pt pt2 : Pos} {kt k2 : Nat} {a b c : Expr} (hf : X.env.scope.kind = .function) (hx : X.env.scope.names.lookup x = some .local) (hy : X.env.scope.names.lookup y = some .local) (hz : X.env.scope.names.lookup z = some .local) (hl : (py.line == px.line) = true) (hl2 : (pz.line == px.line) = true) (hxy : x ≠ y) (hxz : x ≠ z) (hyz : y ≠ z) (pa : plainE a = true) (pb : plainE b = true) (pc : plainE c = true)
    (hfo : (foldedForSure 8 a && foldedForSure 8 b && foldedForSure 8 c) = false) (hco : (constantsAlone 8 a && constantsAlone 8 b && constantsAlone 8 c) = false) : swappedStores [.Tuple [.Name x px, .Name y py, .Name z pz] kt pt] (.Tuple [a, b, c] k2 pt2) X.env = pure (some [x, y, z]) := by
  have hb : X.env.blockKind = .function := by unfold Env.blockKind; rw [hf]; rfl
  have kx : X.env.kindOf x = some .local := hx
  have ky : X.env.kindOf y = some .local := hy
  have kz : X.env.kindOf z = some .local := hz
  unfold swappedStores
  have hl' : py.line = px.line := by simpa using hl
  have hl2' : pz.line = px.line := by simpa using hl2
  have e1 : ([a, b, c].all (foldedForSure 8)) = false := by simpa [Bool.and_assoc] using hfo
  have e2 : ([a, b, c].all (constantsAlone 8)) = false := by simpa [Bool.and_assoc] using hco
  simp only [hb, e1, e2, kx, ky, kz, List.filterMap_cons, List.filterMap_nil, List.head?_cons, Option.map_some, Option.getD_some, Expr.pos, hl', hl2', beq_self_eq_true, Bool.and_self, if_true]
  have : ([x, y, z].eraseDups).length = 3 := by
    have h1 : (y == x) = false := by simpa using Ne.symm hxy
    have h2 : (z == x) = false := by simpa using Ne.symm hxz
    have h3 : (z == y) = false := by simpa using Ne.symm hyz
    simp [List.eraseDups_cons, h1, h2, h3]
  simp [this]
  intro h
  rcases h with h | h | h
  · cases a <;> first | (cases h; done) | (simp [plainE] at pa; done)
  · cases b <;> first | (cases h; done) | (simp [plainE] at pb; done)
  · cases c <;> first | (cases h; done) | (simp [plainE] at pc; done)
theorem ne_names {i j : Nat} {x y : Str} (nd : X.N.Nodup) (hi : X.N[i]? = some x) (hj : X.N[j]? = some y) (hij : i ≠ j) : x ≠ y := fun z => by
  subst z
  have l1 := (List.getElem?_eq_some_iff.mp hi).1
  exact hij ((List.getElem?_inj l1 nd).mp (hi.trans hj.symm))
theorem ds_par3 {i j l : Nat} {f f' f'' : Bool} {x y z : Str} {px py pz pt pt2 pos : Pos} {kt k2 : Nat} {a b c : Expr} {r : Ex} {t : TA} (g : Gs C E X k) (hi : X.N[i]? = some x) (hj : X.N[j]? = some y) (hz : X.N[l]? = some z) (hij : i ≠ j) (hil : i ≠ l) (hjl : j ≠ l) (kx : X.env.scope.names.lookup x = some .local) (ky : X.env.scope.names.lookup y = some .local) (kz : X.env.scope.names.lookup z = some .local) (hl : (py.line == px.line) = true) (hl2 : (pz.line == px.line) = true)
    (hfo : (foldedForSure 8 a && foldedForSure 8 b && foldedForSure 8 c) = false) (hco : (constantsAlone 8 a && constantsAlone 8 b && constantsAlone 8 c) = false) (h : SdN Φ gc C E X r [f, f', f''] [a, b, c] t) : DS Φ gc C E X (.par [(i, f), (j, f'), (l, f'')] r) (.Assign [.Tuple [.Name x px, .Name y py, .Name z pz] kt pt] (.Tuple [a, b, c] k2 pt2) pos) := by
  have pl := h.pl
  simp only [List.all_cons, List.all_nil, Bool.and_true, Bool.and_eq_true] at pl
  refine ds_of (ps_par3 g.calm g.nd hi hj hz hij hil hjl kx ky kz h.pa (sw_some3 g.kindF kx ky kz hl hl2 (ne_names g.nd hi hj hij) (ne_names g.nd hi hz hil) (ne_names g.nd hj hz hjl) pl.1 pl.2.1 pl.2.2 hfo hco) rfl) fun B ow s σ H D R w => ?_
  refine par_ok (ts := [(i, f), (j, f'), (l, f'')]) h R w fun vs H1 ow1 σ1 s1 hv R1 st w1 e => ?_
  match vs, hv with
  | [v, u, q], _ =>
    refine ⟨v, u, q, rfl, ?_⟩
    have e' : σ1 = ((σ.set i (some v)).set j (some u)).set l (some q) := e
    rw [← e']
    exact w1 ow1 σ1 H1 R1 st

/-! ### the same where a name is a cell: a tuple that is taken apart -/
theorem parC_end {H1 : Hp} {ow1 : Ow} {σ1 : St} {s1 : S} {D : Ends} {vs : List V} {p : Addr} (R1 : SR C B ow1 s1 σ1 H1) (st : Stp C B ow H ow1 H1) (w1 : wpS C E B ow H (.next s1) D) (hp : H1 p = none) : D.nx σ1 (upd H1 p (.tup vs)) := by
  have e0 : ∀ b u, H1 b = some u → upd H1 p (.tup vs) b = some u := fun b u h => by rw [upd_ne (ne_of_none h hp)]; exact h
  exact w1 ow1 σ1 _ (R1.grow e0) (st.trans ⟨R1.growNew hp, fun b u _ _ _ h _ => e0 b u h⟩)
theorem ds_parC2 {i j : Nat} {f f' : Bool} {x y : Str} {px py pt pt2 pos : Pos} {kt k2 : Nat} {a b : Expr} {r : Ex} {t : TA} (g : Gs C E X k) (hi : X.N[i]? = some x) (hj : X.N[j]? = some y) (kx : locB X.env.scope x = true) (ky : locB X.env.scope y = true)
    (hc : cellT X.env.scope (.Tuple [.Name x px, .Name y py] kt pt) = true) (h : SdN Φ gc C E X r [f, f'] [a, b] t) : DS Φ gc C E X (.par [(i, f), (j, f')] r) (.Assign [.Tuple [.Name x px, .Name y py] kt pt] (.Tuple [a, b] k2 pt2) pos) := by
  have hg : PG X (.Tuple [.Name x px, .Name y py] kt pt) (gTup X.K 2 (gCons (gName i) (gCons (gName j) gNil))) := pg_tup g.calm (pgs_cons (pg_name g.nd hi (loc_of kx) (.inl (g.fn x))) (pgs_cons (pg_name g.nd hj (loc_of ky) (.inl (g.fn y))) pgs_nil))
  refine ds_of (ps_asg (pe_tup h.pa) hg rfl (sw_cell hc) rfl) fun B ow s σ H D R w => ?_
  refine par_ok (ts := [(i, f), (j, f')]) h R w fun vs H1 ow1 σ1 s1 hv R1 st w1 e => ?_
  match vs, hv with
  | [v, u], _ =>
    refine ⟨small_line (by simp), fun p hp => ⟨p, _, rfl, .inl (.inl upd_same), rfl, v, _, rfl, u, _, rfl, rfl, ?_⟩⟩
    have e' : σ1 = (σ.set i (some v)).set j (some u) := e
    rw [← e']
    exact parC_end R1 st w1 hp
theorem ds_parC3 {i j l : Nat} {f f' f'' : Bool} {x y z : Str} {px py pz pt pt2 pos : Pos} {kt k2 : Nat} {a b c : Expr} {r : Ex} {t : TA} (g : Gs C E X k) (hi : X.N[i]? = some x) (hj : X.N[j]? = some y) (hz : X.N[l]? = some z) (kx : locB X.env.scope x = true) (ky : locB X.env.scope y = true) (kz : locB X.env.scope z = true)
    (hc : cellT X.env.scope (.Tuple [.Name x px, .Name y py, .Name z pz] kt pt) = true) (h : SdN Φ gc C E X r [f, f', f''] [a, b, c] t) : DS Φ gc C E X (.par [(i, f), (j, f'), (l, f'')] r) (.Assign [.Tuple [.Name x px, .Name y py, .Name z pz] kt pt] (.Tuple [a, b, c] k2 pt2) pos) := by
  have hg : PG X (.Tuple [.Name x px, .Name y py, .Name z pz] kt pt) (gTup X.K 3 (gCons (gName i) (gCons (gName j) (gCons (gName l) gNil)))) := pg_tup g.calm (pgs_cons (pg_name g.nd hi (loc_of kx) (.inl (g.fn x))) (pgs_cons (pg_name g.nd hj (loc_of ky) (.inl (g.fn y))) (pgs_cons (pg_name g.nd hz (loc_of kz) (.inl (g.fn z))) pgs_nil)))
  refine ds_of (ps_asg (pe_tup h.pa) hg rfl (sw_cell hc) rfl) fun B ow s σ H D R w => ?_
  refine par_ok (ts := [(i, f), (j, f'), (l, f'')]) h R w fun vs H1 ow1 σ1 s1 hv R1 st w1 e => ?_
  match vs, hv with
  | [v, u, q], _ =>
    refine ⟨small_line (by simp), fun p hp => ⟨p, _, rfl, .inl (.inl upd_same), rfl, v, _, rfl, u, _, rfl, q, _, rfl, rfl, ?_⟩⟩
    have e' : σ1 = ((σ.set i (some v)).set j (some u)).set l (some q) := e
    rw [← e']
    exact parC_end R1 st w1 hp

/-! ### methods of owned lists -/
theorem SR.lstAt (R : SR C B ow s σ H) {i : Nat} {ds : List D} (h : s.ρ[i]? = some (.lst ds)) : ∃ p vs, σ[i]? = some (some (.ref p)) ∧ ow[i]? = some (some p) ∧ H p = some (.lst vs) ∧ RepA C (hid B ow H) vs ds ∧ ds.length ≤ LIM := by
  obtain ⟨v, p, h1, h2, h3⟩ := R.at h
  cases v with
  | none => exact h3.elim
  | some v => cases p with
    | none => exact h3.elim
    | some p =>
      obtain ⟨rfl, vs, h4, h5, h6⟩ := h3
      exact ⟨p, vs, h1, h2, h4, h5, h6⟩
theorem SR.wrLst (R : SR C B ow s σ H) {i : Nat} {p : Addr} {us : List V} {es : List D} (hi : ow[i]? = some (some p)) (hσ : σ[i]? = some (some (.ref p))) (r : RepA C (hid B ow H) us es) (l : es.length ≤ LIM) :
    SR C B ow { s with ρ := s.ρ.set i (.lst es) } σ (upd H p (.lst us)) ∧ Stp C B ow H ow (upd H p (.lst us)) :=
  ⟨R.wrOwn hi hσ ⟨rfl, us, upd_same, r, l⟩, R.wrStp hi⟩
theorem ds_app {i : Nat} {x : Str} {a : Ex} {e : Expr} {t : TE} {p apos cpos pos : Pos} (g : Gs C E X k) (hi : X.N[i]? = some x) (hv : Vis X.env.scope x) (hd : (x == ("__debug__" : Str)) = false) (hcd : (x == ("__classdict__" : Str)) = false) (h : Sd Φ gc C E X a e t) (hp : plainE e = true) (hline : (apos.endLine == cpos.line) = true) (hb : baseE (.Name x p) = true) :
    DS Φ gc C E X (.app i a) (.Expr (.Call (.Attribute (.Name x p) "append" apos) [e] [] cpos) pos) := by
  refine ds_of (ps_expr (pe_bm PySem.F.plainAttrs_list PySem.F.slot_list_append PySem.F.type_list_append mt_append (pe_var hi hv hd hcd) (pa_cons h.pe pa_nil (starEach_plain hp)) (base_ok hb) (few_ok (by simp [hp]) (by simp)) hline (starEach_plain hp) (noStar rfl)) rfl) fun B ow s σ H D R w => ?_
  unfold ex at w
  split at w
  case h_2 => exact w.elim
  rename_i ds0 h0
  obtain ⟨q, vs0, k1, k2, k3, _⟩ := R.lstAt h0
  refine ⟨_, k1, .inl ⟨rfl, vs0, .inl (.inl k3)⟩, ?_⟩
  show t σ H _
  refine bindS h R w fun d s1 ow1 v H1 R1 st r w1 => ?_
  split at w1
  case h_2 => exact w1.elim
  rename_i ds1 h1
  split at w1
  case isFalse => exact w1.elim
  rename_i hlen
  obtain ⟨q', vs1, m1, m2, m3, m4, m5⟩ := R1.lstAt h1
  rw [k1] at m1
  cases m1
  obtain ⟨R2, st2⟩ := R1.wrLst m2 k1 (m4.app (.cons r .nil)) (by simp; omega)
  exact ⟨q, vs1, v, rfl, rfl, m3, by rw [m4.length, ← LIM_eq]; exact hlen, w1 _ _ _ R2 st2⟩
/-- xs.extend(t), t a tuple -/
theorem ext_tup (l : Addr) (items : Array Value) (n : Nat) (b : Addr) (items2 : Array Value) (n2 : Nat) (dd : Option Addr) (sl : Array (Option Value)) (z0 : ¬(!items.isEmpty && Builtin.List.listTooLong (items.size + items2.size)) = true) (z1 : items.size ≤ sizeLine) (z2 : items.size + items2.size ≤ sizeLine + 1) :
    Meets (Builtin.«list.extend» ⟨[.ref l, .ref b], []⟩) (fun _ R s => s.heap.get? l = some ⟨.type "list", none, .seq items n, #[]⟩ ∧ s.heap.get? b = some ⟨.type "tuple", dd, .seq items2 n2, sl⟩ ∧ R (.ok (.ret Value.none)) { s with heap := s.heap.update l (Obj.mapSeq fun x => x ++ items2), toks := s.toks }) := by
  refine .of_wp fun prog w A R s hyp => ?_
  obtain ⟨hp, g, d, tk, os⟩ := s
  obtain ⟨hl, hb, hyp⟩ := hyp
  have q1 := PySem.AutoSeq1.idx_int
  have q2 := PySem.AutoSeq1.sub_tuple_tuple
  have q3 := PySem.AutoSeq1.sub_list_list
  have q4 := PySem.AutoSeq1.sub_tuple_list
  have q5 := PySem.AutoSeq1.sub_list_tuple
  have z3 : (items ++ items2).size ≤ sizeLine + 1 := by
    rw [Array.size_append]; exact z2
  wp_walk using (wpAny_updateSeq hl rfl (hz := z1) (_hz' := z3)), PySem.AutoSeq1.wpAny_loadPart' hl, PySem.AutoSeq1.wpAny_loadPart' hb
  exact ⟨_, rfl, hyp⟩
def rExtT (K : PySem.W.Frag) : V → List V → Hp → VK → Prop := fun x vs H Q => ∃ l b xs zs, x = .ref l ∧ vs = [.ref b] ∧ H l = some (.lst xs) ∧ SqT K H b zs ∧ xs.length + zs.length ≤ sizeLine ∧ Q .non (upd H l (.lst (xs ++ zs)))
theorem mt_extT {X : Cx} : MtM X "list.extend" (rExtT X.K) := by
  intro pins s σ H x vs v us Q I rx rv hyp
  obtain ⟨l, b, xs, zs, rfl, rfl, hH, hB, hz, q⟩ := hyp
  cases rx
  obtain ⟨u, rfl, ru⟩ := rv.one
  cases ru
  obtain ⟨z, its, n, r, hl, e⟩ := I.lstM hH
  obtain ⟨its2, r2, ⟨o2, e2, c2, n2, d2⟩, _⟩ := I.tuple hB
  obtain ⟨oc, od, oda, os⟩ := o2
  simp only at c2 d2
  subst c2 d2
  have hl2 := r2.length
  have hl1 := r.length
  have sz : its.toArray.size + its2.toArray.size ≤ sizeLine := by
    rw [List.size_toArray, List.size_toArray]; omega
  have long : ¬ (!its.toArray.isEmpty && Builtin.List.listTooLong (its.toArray.size + its2.toArray.size)) = true := by
    rw [notLongL sz, Bool.and_false]; exact Bool.false_ne_true
  refine call_meets PySem.F.slot_list_extend ⟨_, e, rfl⟩ PySem.F.entry_list_extend (PySem.F.args_list_extend_2 _ _) (ext_tup l its.toArray n b its2.toArray n2 od os long (by omega) (by omega)) ⟨e, e2, ?_⟩
  exact ⟨.non, _, I.lset (its' := its ++ its2) hH e (by simp) (r.append r2) (by rw [List.length_append]; omega), rfl, q⟩
theorem MtM.or {X : Cx} {id : String} {r r' : V → List V → Hp → VK → Prop} (h : MtM X id r) (h' : MtM X id r') : MtM X id (fun x vs H Q => r x vs H Q ∨ r' x vs H Q) := fun pins s σ H x xs v us Q I rx rv q => by
  rcases q with q | q
  · exact h pins s σ H x xs v us Q I rx rv q
  · exact h' pins s σ H x xs v us Q I rx rv q
theorem ds_ext {i : Nat} {x : Str} {a : Ex} {e : Expr} {t : TE} {p apos cpos pos : Pos} (g : Gs C E X k) (hi : X.N[i]? = some x) (hv : Vis X.env.scope x) (hd : (x == ("__debug__" : Str)) = false) (hcd : (x == ("__classdict__" : Str)) = false) (h : Sd Φ gc C E X a e t) (hp : plainE e = true) (hline : (apos.endLine == cpos.line) = true) (hb : baseE (.Name x p) = true) :
    DS Φ gc C E X (.ext i a) (.Expr (.Call (.Attribute (.Name x p) "extend" apos) [e] [] cpos) pos) := by
  refine ds_of (ps_expr (pe_bm PySem.F.plainAttrs_list PySem.F.slot_list_extend PySem.F.type_list_extend (MtM.or mt_extend mt_extT) (pe_var hi hv hd hcd) (pa_cons h.pe pa_nil (starEach_plain hp)) (base_ok hb) (few_ok (by simp [hp]) (by simp)) hline (starEach_plain hp) (noStar rfl)) rfl) fun B ow s σ H D R w => ?_
  unfold ex at w
  split at w
  case h_2 => exact w.elim
  rename_i ds0 h0
  obtain ⟨q, vs0, k1, k2, k3, _⟩ := R.lstAt h0
  refine ⟨_, k1, .inl ⟨rfl, vs0, .inl (.inl k3)⟩, ?_⟩
  show t σ H _
  refine bindS h R w fun d s1 ow1 v H1 R1 st r w1 => ?_
  split at w1
  case h_2 => exact w1.elim
  rename_i ds1 es h1 hes
  split at w1
  case isFalse => exact w1.elim
  rename_i hlen
  obtain ⟨q', vs1, m1, m2, m3, m4, m5⟩ := R1.lstAt h1
  rw [k1] at m1
  cases m1
  cases r with
  | @lst b us _ rh rr rl =>
    cases hes
    obtain ⟨R2, st2⟩ := R1.wrLst m2 k1 (m4.app rr) (by simp; omega)
    exact .inl ⟨q, b, vs1, us, rfl, rfl, m3, (hid_le rh), by rw [m4.length, rr.length, ← LIM_eq]; exact hlen, w1 _ _ _ R2 st2⟩
  | @tup b us _ rh rr rl =>
    cases hes
    obtain ⟨R2, st2⟩ := R1.wrLst m2 k1 (m4.app rr) (by simp; omega)
    exact .inr ⟨q, b, vs1, us, rfl, rfl, m3, by rw [g.hK]; exact hid_sqT rh, by rw [m4.length, rr.length, ← LIM_eq]; exact hlen, w1 _ _ _ R2 st2⟩
  | _ => cases hes
/-- y = x.pop() -/
theorem ds_pop {i j : Nat} {x y : Str} {p p' apos cpos pos : Pos} (g : Gs C E X k) (hi : X.N[i]? = some y) (hy : locB X.env.scope y = true) (hj : X.N[j]? = some x) (hv : Vis X.env.scope x) (hd : (x == ("__debug__" : Str)) = false) (hcd : (x == ("__classdict__" : Str)) = false) (hline : (apos.endLine == cpos.line) = true) (hb : baseE (.Name x p) = true) :
    DS Φ gc C E X (.pop i j) (.Assign [.Name y p'] (.Call (.Attribute (.Name x p) "pop" apos) [] [] cpos) pos) := by
  refine ds_of (ps_set g.nd hi (loc_of hy) (pe_bm0 PySem.F.plainAttrs_list PySem.F.slot_list_pop PySem.F.type_list_pop mt_pop (pe_var hj hv hd hcd) (base_ok hb) hline) rfl (.inl (g.fn y))) fun B ow s σ H D R w => ?_
  unfold ex at w
  split at w
  case h_2 => exact w.elim
  rename_i ds h0
  obtain ⟨q, vs, k1, k2, k3, k4, k5⟩ := R.lstAt h0
  refine ⟨_, k1, .inl ⟨rfl, vs, .inl (.inl k3)⟩, ?_⟩
  split at w
  case h_2 => exact w.elim
  rename_i d hlast
  split at w
  case isFalse => exact w.elim
  rename_i hne
  have hg : ds[ds.length - 1]? = some d := by rw [← List.getLast?_eq_getElem?]; exact hlast
  obtain ⟨v, hv1, hv2⟩ := k4.get hg
  refine ⟨q, vs, v, rfl, rfl, k3, by rw [k4.length]; exact hv1, ?_⟩
  obtain ⟨R2, st2⟩ := R.wrLst k2 k1 k4.dropLast (by simp; omega)
  unfold setS at w
  split at w
  · exact w _ _ _ (R2.setVal (i := i) (hv2.mono st2.fr)) (st2.trans Stp.drop)
  · exact w.elim
/-- x += e, ints -/
theorem ds_aug {i : Nat} {x : Str} {a : Ex} {e : Expr} {t : TE} {p pos : Pos} (g : Gs C E X k) (hi : X.N[i]? = some x) (hx : locB X.env.scope x = true) (h : Sd Φ gc C E X a e t) : DS Φ gc C E X (.aug i a) (.AugAssign (.Name x p) .Add e pos) := by
  refine ds_of (ps_aug g.nd hi (loc_of hx) h.pe ip_add (.inl (g.fn x))) fun B ow s σ H D R w => ?_
  unfold ex at w
  split at w
  case h_2 => exact w.elim
  rename_i n h0
  obtain ⟨v, p, h1, h2, h3⟩ := R.at h0
  cases v with
  | none => exact h3.elim
  | some v => cases p with
    | some p => exact h3.elim
    | none =>
      have h3 : Rep C (hid B ow H) v (.int n) := h3
      cases h3
      refine ⟨_, h1, ?_⟩
      refine bindS h R w fun d s1 ow1 v H1 R1 st r w1 => ?_
      split at w1
      case h_2 => exact w1.elim
      rename_i m
      cases r
      refine ⟨n, m, rfl, rfl, ?_⟩
      unfold setS at w1
      split at w1
      · exact w1 _ _ _ (R1.setVal (.int _)) Stp.drop
      · exact w1.elim
/-- x[k] = e -/
theorem ds_sti {i : Nat} {x : Str} {a b : Ex} {e e' : Expr} {t t' : TE} {p spos pos : Pos} (g : Gs C E X k) (hi : X.N[i]? = some x) (hv : Vis X.env.scope x) (hd : (x == ("__debug__" : Str)) = false) (hcd : (x == ("__classdict__" : Str)) = false) (hk : Sd Φ gc C E X a e t) (h : Sd Φ gc C E X b e' t') (hp : plainE e = true) (hc : notComp e' = true) :
    DS Φ gc C E X (.sti i a b) (.Assign [.Subscript (.Name x p) e spos] e' pos) := by
  have ha : ∀ v, assign (.Subscript (.Name x p) e spos) X.env v = (do
      let ov ← holding [v] (eval (.Name x p) X.env)
      let iv ← holding [v, ov] (eval e X.env)
      standAt spos
      holding [v, ov, iv] (setItem ov iv v)
      release [v, ov, iv] []) := fun v => by
    cases e <;> first | rfl | (simp [plainE] at hp)
  have hsw : swapsWithSole [.Subscript (.Name x p) e spos] e' pos.line X.env = pure false := sw_no (t := some (.Subscript (.Name x p) e spos)) (l := pos.line) (env := X.env) hc
  refine ds_of (ps_asg h.pe (pg_sub (pe_var hi hv hd hcd) hk.pe (set_any g.u1 g.u65) ha) hsw (by cases e' <;> rfl) rfl) fun B ow s σ H D R w => ?_
  unfold ex at w
  refine bindS h R w fun d s1 ow1 v H1 R1 st r w1 => ?_
  split at w1
  case isTrue => exact w1.elim
  rename_i npl
  -- what the slot holds
  have hold : ∃ q, σ[i]? = some (some (.ref q)) := by
    cases q : s1.ρ[i]? with
    | none => rw [List.getD, q] at npl; exact absurd rfl npl
    | some sl =>
      rw [List.getD, q] at npl
      obtain ⟨v', p', k1, k2, k3⟩ := R1.at q
      cases sl with
      | emp => exact absurd rfl npl
      | val _ => exact absurd rfl npl
      | lst ds => cases v' with
        | none => exact k3.elim
        | some v' => cases p' with
          | none => exact k3.elim
          | some p' => obtain ⟨rfl, _⟩ := k3; exact ⟨p', k1⟩
      | dct n ds => cases v' with
        | none => exact k3.elim
        | some v' => cases p' with
          | none => exact k3.elim
          | some p' => obtain ⟨rfl, _⟩ := k3; exact ⟨p', k1⟩
  obtain ⟨q, hq⟩ := hold
  refine ⟨_, hq, ?_⟩
  refine bindS hk R1 w1 fun y s2 ow2 u H2 R2 st2 ru w2 => ?_
  have rv := r.mono st2.fr
  split at w2
  · -- a dict
    rename_i n kvs hs
    split at w2
    case isFalse => exact w2.elim
    rename_i hkl
    simp only [Bool.and_eq_true, decide_eq_true_eq] at hkl
    obtain ⟨v', p', k1, k2, k3⟩ := R2.at hs
    rw [hq] at k1
    cases k1
    cases p' with
    | none => exact k3.elim
    | some p' =>
      obtain ⟨e0, k3⟩ := k3
      cases e0
      rcases k3 with ⟨ks, ds, rfl, hH, rr, hl, rfl⟩ | ⟨xs, kds, ds, rfl, hH, rk, ek, ka, rr, hl, rfl⟩
      · have hlk : ks.length < LIM := by
          have h1 := rr.length
          have h2 := hkl.2
          simp only [List.length_zip, List.length_map] at h1 h2
          omega
        have done : ∀ key : Key, u = kV key → kD key = y → rSetA X (.ref q) u v H2 (fun H3 => D.nx σ H3) := fun key e1 e2 => by
          subst e1 e2
          obtain ⟨ds', h1, h2, h3⟩ := store_k (key := key) rv rr
          refine .inr (.inl ⟨q, _, rfl, DPut.k hH (by rw [← LIM_eq]; exact hlk), ?_⟩)
          have hdl : ds.length < LIM := by have := rr.length; simp only [List.length_map] at this; omega
          rw [h2] at w2
          exact w2 _ _ _ (R2.wrOwn k2 hq ⟨rfl, .inl ⟨_, ds', rfl, upd_same, h1, by omega, rfl⟩⟩) (R2.wrStp k2)
        have hk' : keyK y = true := hkl.1
        cases y with
        | int i => cases ru; exact done (.inl i) rfl rfl
        | str i => cases ru; exact done (.inr i) rfl rfl
        | _ => simp [keyK] at hk'
      · have hk' : keyN y = true := hkl.1
        have hlx : xs.length < LIM := by
          have h0 := congrArg List.length ek
          have h1 := rr.length
          have h3 := rk.length
          have h2 := hkl.2
          simp only [List.length_zip, List.length_map] at h1 h2 h3
          omega
        obtain ⟨b, rfl, kb⟩ := keyAt_of (X := X) g.hK (.inl ru) hk'
        obtain ⟨kds', ds', h1, h2, h3, h4, h5, h6⟩ := store_n rv ru hk' rk ek ka rr
        have hdl : ds.length < LIM := by have := rr.length; simp only [List.length_map] at this; omega
        refine .inr (.inr ⟨q, xs, y.nk, b, rfl, rfl, by rw [g.hP, g.hw]; exact hH, RepA.keys g.hK rk ek ka, kb, by rw [← LIM_eq]; exact hlx, ?_⟩)
        rw [h5] at w2
        rw [g.hP, g.hw]
        exact w2 _ _ _ (R2.wrOwn k2 hq ⟨rfl, .inr ⟨_, kds', ds', rfl, upd_same, h1, h2, h3, h4, by omega, rfl⟩⟩) (R2.wrStp k2)
  · -- a list
    rename_i ds hs
    split at w2
    case h_2 => exact w2.elim
    rename_i n
    cases ru
    obtain ⟨q', vs, m1, m2, m3, m4, m5⟩ := R2.lstAt hs
    rw [hq] at m1
    cases m1
    split at w2
    case h_2 => exact w2.elim
    rename_i j hj
    obtain ⟨R3, st3⟩ := R2.wrLst m2 hq (m4.set j rv) (by simp; omega)
    exact .inl ⟨q, vs, n, j, rfl, rfl, m3, by rw [m4.length]; exact hj, w2 _ _ _ R3 st3⟩
  · exact w2.elim

/-! ### the flow -/
theorem ds_ret {a : Ex} {e : Expr} {t : TE} {pos : Pos} (h : Sd Φ gc C E X a e t) : DS Φ gc C E X (.ret a) (.Return (some e) pos) := by
  refine ds_of (ps_ret h.pe) fun B ow s σ H D R w => ?_
  unfold ex at w
  exact bindS h R w fun d s1 ow1 v H1 R1 st r w1 => w1 ow1 σ v H1 R1 Stp.refl r
theorem ds_exp {a : Ex} {e : Expr} {t : TE} {pos : Pos} (h : Sd Φ gc C E X a e t) (hc : notComp e = true) : DS Φ gc C E X (.exp a) (.Expr e pos) := by
  refine ds_of (ps_expr h.pe (sw_no hc)) fun B ow s σ H D R w => ?_
  unfold ex at w
  exact bindS h R w fun d s1 ow1 v H1 R1 st r w1 => w1 ow1 σ H1 R1 Stp.refl
theorem ds_pass {pos : Pos} : DS Φ gc C E X .nop (.Pass pos) := ds_of ps_pass fun B ow s σ H D R w => w ow σ H R Stp.refl
theorem ds_doc {x : Str} {j : Nat} {p pos : Pos} : DS Φ gc C E X .nop (.Expr (.Constant (.str x) j p) pos) := ds_of ps_doc fun B ow s σ H D R w => w ow σ H R Stp.refl
theorem ds_brk {pos : Pos} : DS Φ gc C E X .brk (.Break pos) := ds_of ps_break fun B ow s σ H D R w => w ow σ H R Stp.refl
theorem ds_cnt {pos : Pos} : DS Φ gc C E X .cnt (.Continue pos) := ds_of ps_continue fun B ow s σ H D R w => w ow σ H R Stp.refl
/-- a test, then a step -/
theorem bindTS {a : Ex} {e : Expr} {t : TT} {g : Bool → S → SO} {D : Ends} {Q : Bool → Hp → Prop} (ha : SdT Φ gc C E X a e t) (R : SR C B ow s σ H) (w : wpS C E B ow H ((evT Φ gc a s).so g) D)
    (hk : ∀ b s1 ow1 H1, SR C B ow1 s1 σ H1 → Stp C B ow H ow1 H1 → wpS C E B ow1 H1 (g b s1) D → Q b H1) : t σ H Q := by
  refine ha.ok B ow s σ H Q R ?_
  cases q : evT Φ gc a s with
  | ok d s1 =>
    rw [q] at w
    exact fun ow1 H1 R1 st => hk d s1 ow1 H1 R1 st (wpS.step st w)
  | exc c τ => rw [q] at w; exact w
  | bad => rw [q] at w; exact w
theorem ds_if {c : Ex} {a b : Sm} {e : Expr} {t : TT} {p q : List Stmt} {pos : Pos} (hc : SdT Φ gc C E X c e t) (ha : DSs Φ gc C E X a p) (hb : DSs Φ gc C E X b q) : DS Φ gc C E X (.ife c a b) (.If e p q pos) := by
  refine ds_of (ps_if hc.pt ha hb) fun B ow s σ H D R w => ?_
  unfold ex at w
  refine bindTS hc R w fun k s1 ow1 H1 R1 st w1 => ?_
  cases k with
  | true => rw [if_pos rfl] at w1 ⊢; exact ⟨B, ow1, s1, R1, w1⟩
  | false => rw [if_neg (by decide)] at w1 ⊢; exact ⟨B, ow1, s1, R1, w1⟩
theorem ds_while {n : Nat} {c : Ex} {b : Sm} {e : Expr} {t : TT} {body : List Stmt} {pos : Pos} (g : Gs C E X k) (hc : SdT Φ gc C E X c e t) (hb : DSs Φ gc C E X b body) : DS Φ gc C E X (.whl n c b) (.While e body [] pos) := by
  refine ds_of (ps_while g.own hc.pt hb) fun B ow s σ H D R w => ?_
  unfold ex at w
  refine ⟨fun m σ' H' => ∃ ow' s', SR C B ow' s' σ' H' ∧ Stp C B ow H ow' H' ∧ wpS C E B ow' H' (whlL (evT Φ gc c) (ex Φ gc b) m s') D, ⟨n, ow, s, R, Stp.refl, w⟩, ?_⟩
  rintro m σ' H' ⟨ow', s', R', st, w'⟩
  cases m with
  | zero => exact w'.elim
  | succ m =>
    refine bindTS hc R' w' fun kk s1 ow1 H1 R1 st1 w1 => ?_
    cases kk with
    | false =>
      rw [if_neg (by decide)] at w1 ⊢
      exact w1 ow1 σ' H1 R1 Stp.refl
    | true =>
      rw [if_pos rfl] at w1 ⊢
      refine ⟨fun σ'' H'' => ∃ ow'' s'', SR C B ow'' s'' σ'' H'' ∧ Stp C B ow H ow'' H'' ∧ wpS C E B ow'' H'' (whlL (evT Φ gc c) (ex Φ gc b) m s'') D, fun σ'' H'' h => ⟨m, Nat.lt_succ_self m, h⟩, B, ow1, s1, R1, ?_⟩
      cases q : ex Φ gc b s1 with
      | next s2 => rw [q] at w1; exact fun ow2 σ2 H2 R2 st2 => ⟨ow2, s2, R2, (st.trans st1).trans st2, wpS.step st2 w1⟩
      | cnt s2 => rw [q] at w1; exact fun ow2 σ2 H2 R2 st2 => ⟨ow2, s2, R2, (st.trans st1).trans st2, wpS.step st2 w1⟩
      | brk s2 => rw [q] at w1; exact fun ow2 σ2 H2 R2 st2 => w1 ow2 σ2 H2 R2 st2
      | ret d s2 => rw [q] at w1; exact w1
      | exc c τ => rw [q] at w1; exact w1
      | bad => rw [q] at w1; exact w1
def forF (Φ : Nat → Fn) (gc : Nat → D) (p : Pat) (b : Sm) (d : D) (s2 : S) : SO := match bindP p [d] s2.ρ with
  | some ρ => ex Φ gc b { s2 with ρ := ρ }
  | none => .bad
theorem ex_for {p : Pat} {it : Ex} {b : Sm} {s : S} : ex Φ gc (.for_ p it b) s = (ev Φ gc it s).so fun x s1 => match items x with
    | some xs => forL (forF Φ gc p b) xs s1
    | none => .bad := by
  rw [ex]; rfl
theorem ds_for {p : Pat} {it : Ex} {b : Sm} {tg iter : Expr} {wi : TI} {tgt : TG} {body : List Stmt} {pos : Pos} (g : Gs C E X k) (hi : SdI Φ gc C E X it tg iter wi) (hg : SdG C X p tg tgt) (hb : DSs Φ gc C E X b body) (hp : plainE iter = true) : DS Φ gc C E X (.for_ p it b) (.For tg iter body [] pos) := by
  refine ds_of (ps_for g.own g.calm (pi_ev hi) (pg_ev hg) hb (fset_plain hp)) fun B ow s σ H D R w => ?_
  rw [ex_for] at w
  show iEv Φ gc C E it σ H _
  refine ⟨B, ow, s, R, ?_⟩
  cases q : ev Φ gc it s with
  | exc c τ => rw [q] at w; exact w
  | bad => rw [q] at w; exact w
  | ok x s1 =>
    rw [q] at w
    simp only [Out.so] at w
    cases hx : items x with
    | none => rw [hx] at w; exact w.elim
    | some xs =>
      rw [hx] at w
      simp only at w
      refine ⟨xs, hx, fun ow1 J H1 G R1 st1 hlim W hG => ?_⟩
      let Pv : Nat → St → Hp → Prop := fun i σ' H' => i ≤ xs.length ∧ ∃ (s' : S) (ow' : Ow), SR C B ow' s' σ' H' ∧ Stp C B ow1 H1 ow' H' ∧ wpS C E B ow' H' (forL (forF Φ gc p b) (xs.drop i) s') D
      have walk : L2.Walk J xs.length (fun H => ∃ ow, G (hid B ow H)) (fun i H x H' => J.yld i H x H') := ⟨fun i H hi ⟨ow, h⟩ => W.goes i B ow H hi h, fun H ⟨ow, h⟩ => W.stops B ow H h, fun i H x H' _ _ y => y⟩
      refine L2.for_it walk Pv ⟨Nat.zero_le _, s1, ow1, R1, Stp.refl, wpS.step st1 w⟩ ?_ ?_ ?_
      · rintro i σ' H' hi' ⟨_, s', ow', R', st', _⟩
        exact ⟨ow', W.mono _ _ st'.fr hG⟩
      · rintro i x σ' H' H'' hi' ⟨_, s', ow', R', st', w'⟩ y
        have ex' : xs[i]? = some xs[i] := List.getElem?_eq_getElem hi'
        rw [List.drop_eq_getElem_cons hi'] at w'
        obtain ⟨R3, st3, rx⟩ := W.yields B ow' s' σ' i H' x H'' xs[i] R' ex' (W.mono _ _ st'.fr hG) y
        simp only [forL] at w'
        have ef : forF Φ gc p b xs[i] s' = match bindP p [xs[i]] s'.ρ with
          | some ρ => ex Φ gc b { s' with ρ := ρ }
          | none => .bad := rfl
        cases hbp : bindP p [xs[i]] s'.ρ with
        | none => rw [ef, hbp] at w'; exact w'.elim
        | some ρ' =>
          rw [ef, hbp] at w'
          simp only at w'
          refine ⟨B, ow', s', xs[i], ρ', R3, rx, hbp, fun ow4 σ4 R4 st4 _ => ⟨B, ow4, _, R4, ?_⟩⟩
          have st04 : Stp C B ow' H' ow4 H'' := st3.trans st4
          have st14 := st'.trans st04
          cases hq : ex Φ gc b { s' with ρ := ρ' } with
          | next s2 => rw [hq] at w'; exact fun ow5 σ5 H5 R5 st5 => ⟨hi', s2, ow5, R5, st14.trans st5, wpS.step (st04.trans st5) w'⟩
          | cnt s2 => rw [hq] at w'; exact fun ow5 σ5 H5 R5 st5 => ⟨hi', s2, ow5, R5, st14.trans st5, wpS.step (st04.trans st5) w'⟩
          | brk s2 => rw [hq] at w'; exact fun ow5 σ5 H5 R5 st5 => w' ow5 σ5 H5 R5 (st04.trans st5)
          | ret d s2 => rw [hq] at w'; exact fun ow5 σ5 v H5 R5 st5 r => w' ow5 σ5 v H5 R5 (st04.trans st5) r
          | exc c τ => rw [hq] at w'; exact fun H5 f => w' H5 (f.step st04)
          | bad => rw [hq] at w'; exact w'
      · rintro σ' H' ⟨_, s', ow', R', st', w'⟩
        have e0 : xs.drop xs.length = [] := List.drop_length
        rw [e0] at w'
        exact w' ow' σ' H' R' Stp.refl
/-- what is known of an own error class -/
structure ExcAt (C : Cf) (mg : Str → Option Value) (c : Nat) (x : Str) : Prop where
  q : ∃ bmB B newId initId, ExcBaseFacts B newId initId bmB ∧ PySem.W.excIn C.K (C.cls c) bmB newId = true
  gC : mg x = some (.ref (C.cls c))
  kC : PySem.W.keepIn C.K (.ref (C.cls c)) = true
  r1 : PySem.W.subIn C.K (.ref (C.cls c)) (.type "BaseException") = some true
  r2 : PySem.W.typeIn C.K (.ref (C.cls c)) = some (.type "type")
theorem ds_raise {c : Nat} {x m : Str} {j : Nat} {p p2 p3 pos : Pos} (g : Gs C E X k) (hx : ExcAt C X.mg c x) (hg : glB X.env.scope x = true) (hd : (x == ("__debug__" : Str)) = false) : DS Φ gc C E X (.rse c) (.Raise (some (.Call (.Name x p) [.Constant (.str m) j p2] [] p3)) none pos) := by
  obtain ⟨bmB, B0, newId, initId, F, q⟩ := hx.q
  have k1 := hx.kC
  have k2 := hx.r1
  have k3 := hx.r2
  rw [← g.hK] at q k1 k2 k3
  refine ds_of (ps_raise g.calm g.takes (pmk_own F q hx.gC k1 (raises_own k2 k3) (gl_of hg) hd)) fun B ow s σ H D R w => ?_
  unfold ex at w
  exact w H R.fin
end
end Mn

set_option Elab.async false
set_option linter.all false
set_option maxRecDepth 100000
set_option maxHeartbeats 4000000
namespace Mn
open PySem L2

/-! ### an error that a name holds behind the clause -/
/-- an exception object of the class cls -/
def XO (cls : Value) (d : Option Addr) (a : Addr) : HO := .ext fun h => ∃ (oe : Obj) (vs : Array Value), h.get? a = some oe ∧ Zc cls d oe ∧ oe.data = .fields vs
section
variable {X : Cx} {pins : List (Addr × Obj)} {σ : L2.St} {H : Hp} {s : Shared}
theorem Inv.track {a : Addr} {oe : Obj} {vs : Array Value} {cls : Value} {d : Option Addr} (I : Inv X pins σ H s) (ha : s.heap.get? a = some oe) (hz : Zc cls d oe) (hd : oe.data = .fields vs) (na : H a = none) (n0 : X.s_0.heap.get? a = none) (nL : a ≠ X.env.locals) (np : ∀ p ∈ X.pn ++ pins, p.1 ≠ a) :
    Inv X pins σ (upd H a (XO cls d a)) s := by
  have nc : ∀ x c, X.env.cells.lookup x = some c → c ≠ a := fun x c e z => by
    obtain ⟨v, o, ho, hdc⟩ := I.cell x c e
    rw [z, ha] at ho
    cases ho
    rw [hd] at hdc
    cases hdc
  refine ⟨I.ok, I.os, I.bare, ⟨I.base.keep, I.base.slot, fun b o e n hx => ?_, I.base.there, fun b xs e => ?_, fun b o xs e => ?_, fun b ps e => ?_⟩, I.loc, I.cell, ?_, fun x c e => ?_, fun p hp => ?_, fun b u e => ?_, I.len⟩
  · rw [upd_ne (fun z => by rw [z, n0] at e; cases e)]; exact I.base.free b o e n hx
  · have q := I.base.tups b xs e
    rw [upd_ne (ne_of_none q na)]; exact q
  · have q := I.base.frzs b o xs e
    rw [upd_ne (ne_of_none q na)]; exact q
  · obtain ⟨m, q⟩ := I.base.tbls b ps e
    exact ⟨m, by rw [upd_ne (ne_of_none q na)]; exact q⟩
  · rw [upd_ne (Ne.symm nL)]; exact I.free
  · rw [upd_ne (nc x c e)]; exact I.freeC x c e
  · obtain ⟨e, n, r⟩ := I.pin p hp
    exact ⟨e, by rw [upd_ne (np p hp)]; exact n, r⟩
  · by_cases hb : b = a
    · subst hb
      rw [upd_same] at e
      cases e
      exact ⟨⟨oe, vs, ha, hz, hd⟩, ⟨oe, ha⟩, fun h1 h2 ⟨o', v', q1, q2⟩ k => ⟨o', v', k _ q1, q2⟩⟩
    · rw [upd_ne hb] at e
      exact (I.hok b u e).stay (fun c v _ q => q) (fun c q => by rw [upd_ne (ne_of_none q na)]; exact q) fun c xs q => by rw [upd_ne (ne_of_none q na)]; exact q
end
/-- what the clause wishes: the name r of the frame holds the error from then on -/
def wKept (K : PySem.W.Frag) (c : Value) (i r : Nat) (D : Ends) : WX := fun cls d σ H =>
  ∃ b, PySem.W.exmOne K cls c = some b ∧ b = true ∧ ∀ a, H a = none → D.nx (((σ.set i (some (.ref a))).set r (some (.ref a))).set i none) (upd H a (XO cls d a))
section
variable {X : Cx} {x n rn : Str} {c : Value} {i r : Nat} {body : List Stmt} {np np2 rp ap pos pos' : Pos} {tb : WX → TS}
/-- try: .. / except x as n: rn = n -/
theorem ps_try_kept (hs : X.stack = X.env :: X.outer) (hf : X.env.frame = some X.env.locals) (hex : X.ex = []) (hN : X.N.Nodup) (hi : X.N[i]? = some n) (hln : X.env.kindOf n = some .local) (hr : X.N[r]? = some rn) (hlr : X.env.kindOf rn = some .local) (hc : Names X x c)
    (hdn : (n == ("__debug__" : Str)) = false) (hcn : (n == ("__classdict__" : Str)) = false)
    (hb : ∀ (W : WX) (pn : List (Addr × Obj)) (xe : Value → Shared → Prop), Takes (X.tr pn xe) W → PassesOwn (model X.prog X.w) X.A X.env xe → PSs (X.tr pn xe) body (tb W)) :
    PS X (.Try body [.ExceptHandler (some (.Name x np)) (some n) [.Assign [.Name rn rp] (.Name n np2) ap] pos'] [] [] pos) (fun D σ H => tb (wKept X.K c i r D) D σ H) := by
  refine ⟨fun pins s σ H D I h => ?_⟩
  have ok := I.ok
  have hfr : X.A.frames = some (X.env :: X.outer) := by rw [ok.frames, hs]
  refine wpAny_Try_except (wpAny_mono ((hb (wKept X.K c i r D) (X.pn ++ pins) _ (fun u s' xx => ?_) PassesOwn.looking).run [] s σ H D (I.toTry _) h) (fun f s1 hsp => ?_) (fun e s1 he => he))
  · obtain ⟨a, B, sI, pins', σ', H', cls, d, rfl, J', nb, up, sky, na, os, ag, b, hb1, rfl, go⟩ := xx
    have J : Inv X pins σ' H' sI := J'.ofTry ok
    rw [show (X.tr (X.pn ++ pins) _).stack = X.env :: X.outer from hs] at sky
    show wpAny (model X.prog X.w) X.A (noteFrame (.ref a) X.env) _ _ _
    refine Sky.land Zc.steady hfr hf sky fun h3 fl3 up3 => ?_
    have J3 : Inv X pins σ' H' { s' with heap := h3 } := J.landed nb fl3.1 (up.trans up3) os ag
    obtain ⟨oe3, vs3, he3, hz3, hd3⟩ := fl3.there
    have nfr : a ∉ frs (X.env :: X.outer) := fun hm => by
      obtain ⟨_, o', e', hnf⟩ := fl3.2.2.1.mem hm
      rw [he3] at e'; cases e'
      exact hnf _ hd3
    have nL : a ≠ X.env.locals := fun z => nfr (List.mem_filterMap.mpr ⟨X.env, List.mem_cons_self, by rw [hf, z]⟩)
    have nF : a ∉ X.fs := fun hm => by
      obtain ⟨e, he, q⟩ := List.mem_filterMap.mp hm
      exact nfr (List.mem_filterMap.mpr ⟨e, List.mem_cons_of_mem _ he, q⟩)
    have nB : ∀ b o, sI.heap.get? b = some o → b ∉ frs X.stack → b ≠ a := fun b o e hb z => by
      have q := nb b o e hb
      rw [z, fl3.2.1] at q; cases q
    have n0 : X.s_0.heap.get? a = none := by
      cases q : X.s_0.heap.get? a with
      | none => rfl
      | some o =>
        obtain ⟨o', e⟩ := J.base.there a o q (by rw [hex]; simp)
        exact absurd rfl (nB a o' e (by rw [hs]; exact nfr))
    have npn : ∀ p ∈ X.pn ++ pins, p.1 ≠ a := fun p hp => by
      obtain ⟨e, _, q1, q2, _⟩ := J.pin p hp
      refine nB p.1 _ e fun hm => ?_
      rw [hs] at hm
      obtain ⟨en, he, q⟩ := List.mem_filterMap.mp hm
      rcases List.mem_cons.mp he with z | z
      · rw [z, hf] at q; exact q1 (Option.some.inj q).symm
      · exact q2 (List.mem_filterMap.mpr ⟨en, z, q⟩)
    have S3 := J3.suite he3 hd3 na nL nF
    refine wpAny_handleBy_cons (codeAny_handlers_test ?_) (by intro q; cases q)
    have LT : PySem.W.Looks (model X.prog X.w) h3 (typeOf (.ref a)) cls := fun A Q E s k q => wpAny_typeOf_ref (k _ _ he3) (by rw [hz3.1]; exact q)
    have LM := PySem.W.exm_one (M := model X.prog X.w) (J3.kIn) LT hb1
    have test : ∀ {Q : Value → Shared → Prop} {E : Value → Shared → Prop}, Q c { s' with heap := h3 } → wpAny (model X.prog X.w) (X.A.mark (some (.ref a))) (eval (.Name x np) X.env) Q E { s' with heap := h3 } := fun {Q E} q => by
      rcases hc with ⟨hg, hdbg, hm | ⟨hm, hv, hnn⟩⟩
      · exact ld_glob (X := X.suite a ((a, oe3) :: (X.pn ++ pins))) S3 hg hm q hdbg
      · exact ld_blt (X := X.suite a ((a, oe3) :: (X.pn ++ pins))) S3 hg hm hv q hnn hdbg
    refine test (LM.here (codeAny_handlers_suite_as (HandSPX.lands_againZ fl3 fun h4 fl4 up4 => ?_)))
    have J4 : Inv X pins σ' H' { s' with heap := h4 } := J.landed nb fl4.1 ((up.trans up3).trans up4) os ag
    obtain ⟨oe4, vs4, he4, hz4, hd4⟩ := fl4.there
    have S4 := J4.suite he4 hd4 na nL nF
    refine store_ok (X := X.suite a ((a, oe4) :: (X.pn ++ pins))) (v := .ref a) S4 hN hi (.inl hln) rfl (fun s5 S5 => ?_) (.inr hln)
    have ps := pss_one (ps_set (X := X.suite a ((a, oe4) :: (X.pn ++ pins))) (pos := ap) (pos' := rp) hN hr (.inl hlr) (pe_var (pos := np2) hi (.inl hln) hdn hcn) rfl (.inr hlr))
    have hl : i < σ'.length := by rw [J.len]; exact (List.getElem?_eq_some_iff.mp hi).1
    refine wpAny_mono (ps.run [] s5 _ H' { nx := fun σ6 H6 => σ6 = (σ'.set i (some (.ref a))).set r (some (.ref a)) ∧ H6 = H', rt := fun _ _ => False } S5 ⟨.ref a, by rw [List.getElem?_set_self hl], rfl, rfl⟩) (fun f s6 hsp => ?_) (fun _ _ z => False.elim z)
    cases f with
    | next =>
      obtain ⟨σ6, H6, S6, e6, eH⟩ := hsp
      subst e6 eH
      obtain ⟨hp6, _⟩ := S6.pin (a, oe4) (List.mem_append.mpr (.inl List.mem_cons_self))
      have J6 : Inv X pins _ H6 s6 := S6.unsuite ok
      exact gone_ok (Inv.track J6 hp6 hz4 hd4 na n0 nL npn) hN hi hln fun s7 J7 => ⟨_, _, J7, go a na⟩
    | brk => obtain ⟨_, _, _, q⟩ := hsp; exact q.elim
    | cont => obtain ⟨_, _, _, q⟩ := hsp; exact q.elim
    | ret u => obtain ⟨_, _, _, _, _, q⟩ := hsp; exact q.elim
  · cases f with
    | next => obtain ⟨σ', H', J', q⟩ := hsp; exact wpAny_execs_nil ⟨σ', H', J'.ofTry ok, q⟩
    | brk => obtain ⟨σ', H', J', q⟩ := hsp; exact ⟨σ', H', J'.ofTry ok, q⟩
    | cont => obtain ⟨σ', H', J', q⟩ := hsp; exact ⟨σ', H', J'.ofTry ok, q⟩
    | ret u => obtain ⟨v, σ', H', J', rr, q⟩ := hsp; exact ⟨v, σ', H', J'.ofTry ok, rr, q⟩
end

/-! ### isinstance of it -/
def rIsX (K : PySem.W.Frag) : List V → Hp → VK → Prop := fun xs H Q => ∃ (a D : Addr) (c : V) (cv : Value) (b : Bool), xs = [.ref a, c] ∧ H a = some (XO (.ref D) none a) ∧ ExcC K D ∧ (∀ u, RelV c u → u = cv) ∧ PySem.W.kitOne K (.ref D) cv = some b ∧ Q (.bl b) H
theorem call_isX {X : Cx} : CallR X (.builtin "isinstance") (rIsX X.K) := by
  intro pins s σ H xs us Q I r h
  obtain ⟨a, D, c, cv, b, rfl, hH, C, hcv, e, q⟩ := h
  cases r with
  | cons rx rr =>
    cases rr with
    | cons rt rr =>
      cases rr
      cases rx
      have ec := hcv _ rt
      subst ec
      obtain ⟨⟨oe, vs, hget, hz, hv⟩, _⟩ := I.hok a _ hH
      have J : PySem.W.InstAt s.heap a oe D none := by
        obtain ⟨oc, od, oda, osl⟩ := oe
        obtain ⟨h1, h2⟩ := hz
        dsimp only at h1 h2 hv
        subst h1 h2 hv
        exact ⟨hget, rfl, rfl, trivial⟩
      exact PySem.W.kia_one (PySem.W.handS_kitx_exc C.hg C.hk C.hs C.hd C.ha C.hn C.ht C.hm) I.kIn J e (fun z => nomatch z) fun tk => ⟨.bl b, H, I.kept (t' := tk) fun _ _ z => z, rfl, q⟩
/-! ### d.update(e), dicts with ints and texts -/
def rUpdD : V → List V → Hp → VK → Prop := fun x vs H Q => ∃ d e ks ms, x = .ref d ∧ vs = [.ref e] ∧ d ≠ e ∧ H d = some (.dK ks) ∧ H e = some (.dK ms) ∧ ks.length + ms.length ≤ sizeLine ∧ Q .non (upd H d (.dK (mergeK ks ms)))
theorem mt_update {X : Cx} : MtM X "dict.update" rUpdD := by
  intro pins s σ H x vs v us Q I rx rv h
  obtain ⟨d, e, ks, ms, rfl, rfl, hne, h1, h2, hl, q⟩ := h
  cases rx
  obtain ⟨u, rfl, ru⟩ := rv.one
  cases ru
  obtain ⟨z1, hd1, vs1, r1, dd1⟩ := dk_of I.hok h1
  obtain ⟨z2, hd2, vs2, r2, dd2⟩ := dk_of I.hok h2
  have l1 := Paired.length r1
  have l2 := Paired.length r2
  refine call_meetsIn PySem.F.slot_dict_update dd1.typeIs PySem.F.entry_dict_update (PySem.F.args_dict_update_2 _ _) (meets_dict_update (mixKind X.prog X.w) d e hne hd2) ⟨vs1, vs2, dd1, dd2, by rw [← l1, ← l2]; exact hl, fun h' dd' _ hs => ?_⟩
  have he : ∃ q, h'.get? d = some q := let ⟨q, _, _, hq, _⟩ := dd'; ⟨q, hq⟩
  have hz : (mergeK ks ms).length ≤ sizeLine := Nat.le_trans (length_mergeK ms ks) hl
  exact ⟨.non, _, d_write I (by rw [h1]; exact True.intro) hs he (dk_new hz hd1 (r2.merge r1) dd'), rfl, q⟩
end Mn

set_option Elab.async false
set_option linter.all false
set_option maxRecDepth 100000
set_option maxHeartbeats 4000000
namespace Mn
open PySem L2

/-! ### the law's own _law_result: its parts -/
theorem PS_imp {X : Cx} {st : Stmt} {t t' : TS} (h : PS X st t) (i : ∀ D σ H, t' D σ H → t D σ H) : PS X st t' := ⟨fun pins s σ H D I w => h.run pins s σ H D I (i D σ H w)⟩
theorem PE_imp {X : Cx} {e : Expr} {t t' : TE} (h : PE X e t) (i : ∀ σ H Q, t' σ H Q → t σ H Q) : PE X e t' := ⟨fun pins s σ H Q I w => h.run pins s σ H Q I (i σ H Q w)⟩
/-- slot i holds an error of a class that cv is asked of: b -/
def tIsX (K : PySem.W.Frag) (i : Nat) (cv : Value) : TE := fun σ H Q => ∃ a D0 b, σ[i]? = some (some (.ref a)) ∧ H a = some (XO (.ref D0) none a) ∧ ExcC K D0 ∧ PySem.W.kitOne K (.ref D0) cv = some b ∧ Q (.bl b) H
section
variable {X : Cx} {i : Nat} {r c : Str} {Cj : Addr} {p p1 p2 p3 : Pos}
theorem pe_isX (hg : Gl X "isinstance") (hm : X.mg "isinstance" = none) (hi : X.N[i]? = some r) (hv : Vis X.env.scope r) (hd : (r == ("__debug__" : Str)) = false) (hcd : (r == ("__classdict__" : Str)) = false) (hgc : Gl X c) (hmc : X.mg c = some (.ref Cj)) (hdc : (c == ("__debug__" : Str)) = false) :
    PE X (.Call (.Name "isinstance" p) [.Name r p1, .Name c p2] [] p3) (tIsX X.K i (.ref Cj)) := by
  refine PE_imp (pe_callB call_isX hg hm boot_isi (pa_cons (pe_var hi hv hd hcd) (pa_cons (pe_glob (v := .ref Cj) hgc hmc rfl hdc) pa_nil)) (by decide +kernel) (by decide +kernel)) fun σ H Q h => ?_
  obtain ⟨a, D0, b, h1, h2, h3, h4, q⟩ := h
  exact ⟨_, h1, a, D0, .ref Cj, .ref Cj, b, rfl, h2, h3, fun u e => e, h4, q⟩
theorem pe_isV (hg : Gl X "isinstance") (hm : X.mg "isinstance" = none) (hi : X.N[i]? = some r) (hv : Vis X.env.scope r) (hd : (r == ("__debug__" : Str)) = false) (hcd : (r == ("__classdict__" : Str)) = false) (hgc : Gl X "ValueError") (hmc : X.mg "ValueError" = none) :
    PE X (.Call (.Name "isinstance" p) [.Name r p1, .Name "ValueError" p2] [] p3) (tIsX X.K i (.type "ValueError")) := by
  refine PE_imp (pe_callB call_isX hg hm boot_isi (pa_cons (pe_var hi hv hd hcd) (pa_cons (pe_bltn (v := .ty "ValueError") hgc hmc (by decide +kernel : bootBuiltins ("ValueError" : Str) = some (.type "ValueError")) rfl (by decide +kernel) (by decide +kernel)) pa_nil)) (by decide +kernel) (by decide +kernel)) fun σ H Q h => ?_
  obtain ⟨a, D0, b, h1, h2, h3, h4, q⟩ := h
  exact ⟨_, h1, a, D0, .ty "ValueError", .type "ValueError", b, rfl, h2, h3, fun u e => e, h4, q⟩
end
theorem putK_new {ks : List (Key × V)} {k : Key} {v : V} (h : (ks.map (·.1)).all (fun x => decide (x ≠ k)) = true) : putK ks k v = ks ++ [(k, v)] := by
  unfold putK
  rw [if_neg]
  intro z
  obtain ⟨kv, hm, e⟩ := List.any_eq_true.mp z
  have := List.all_eq_true.mp h kv.1 (List.mem_map.mpr ⟨kv, hm, rfl⟩)
  simp only [decide_eq_true_eq] at this e
  exact this e
theorem merge2 {ks : List (Key × V)} {k1 k2 : Key} {v1 v2 : V} (h1 : (ks.map (·.1)).all (fun x => decide (x ≠ k1)) = true) (h2 : (ks.map (·.1)).all (fun x => decide (x ≠ k2)) = true) (h3 : k1 ≠ k2) : mergeK ks [(k1, v1), (k2, v2)] = ks ++ [(k1, v1), (k2, v2)] := by
  show putK (putK ks k1 v1) k2 v2 = _
  rw [putK_new h1, putK_new, List.append_assoc]
  · rfl
  · rw [List.map_append, List.all_append, h2]
    simpa using h3
/-- two entries n1: isinstance(r, c1), n2: isinstance(r, c2) -/
def tDisp2 (K : PySem.W.Frag) (i : Nat) (n1 n2 : Str) (v1 v2 : Value) : TE := fun σ H Q => ∃ a D0 b1 b2, σ[i]? = some (some (.ref a)) ∧ H a = some (XO (.ref D0) none a) ∧ ExcC K D0 ∧ PySem.W.kitOne K (.ref D0) v1 = some b1 ∧ PySem.W.kitOne K (.ref D0) v2 = some b2 ∧ n1 ≠ n2 ∧
  ∀ p, H p = none → Q (.ref p) (upd H p (.dK [(.inr n1, .bl b1), (.inr n2, .bl b2)]))
section
variable {X : Cx} {i : Nat} {n1 n2 : Str} {v1 v2 : Value} {e1 e2 : Expr} {j1 j2 : Nat} {q1 q2 q3 : Pos}
theorem pe_disp2 (h1 : PE X e1 (tIsX X.K i v1)) (h2 : PE X e2 (tIsX X.K i v2)) : PE X (.Dict [some (.Constant (.str n1) j1 q1), some (.Constant (.str n2) j2 q2)] [e1, e2] q3) (tDisp2 X.K i n1 n2 v1 v2) := by
  refine PE_imp (pe_disp (pps_cons pe_str h1 (pps_cons pe_str h2 pps_nil)) rfl rfl (by simp) (by simp)) fun σ H Q h => ?_
  obtain ⟨a, D0, b1, b2, k1, k2, k3, k4, k5, hn, q⟩ := h
  intro p hp
  have k2' : upd H p (.dK []) a = some (XO (.ref D0) none a) := by rw [upd_ne (ne_of_none k2 hp)]; exact k2
  refine ⟨a, D0, b1, k1, k2', k3, k4, a, D0, b2, k1, k2', k3, k5, upd_same, [(.inr n1, .bl b1), (.inr n2, .bl b2)], rfl, by simp, ?_⟩
  rw [upd_upd, merge2 rfl rfl (by simpa using hn)]
  exact q p hp
/-- s.update({n1: .., n2: ..}) -/
def tUpd2 (K : PySem.W.Frag) (i s : Nat) (n1 n2 : Str) (v1 v2 : Value) : TS := fun D σ H => ∃ a D0 b1 b2 p ks, σ[i]? = some (some (.ref a)) ∧ H a = some (XO (.ref D0) none a) ∧ ExcC K D0 ∧ PySem.W.kitOne K (.ref D0) v1 = some b1 ∧ PySem.W.kitOne K (.ref D0) v2 = some b2 ∧ n1 ≠ n2 ∧
  σ[s]? = some (some (.ref p)) ∧ H p = some (.dK ks) ∧ ks.length ≤ 1000 ∧ (ks.map (·.1)).all (fun x => decide (x ≠ .inr n1)) = true ∧ (ks.map (·.1)).all (fun x => decide (x ≠ .inr n2)) = true ∧
  ∀ q, H q = none → D.nx σ (upd (upd H q (.dK [(.inr n1, .bl b1), (.inr n2, .bl b2)])) p (.dK (ks ++ [(.inr n1, .bl b1), (.inr n2, .bl b2)])))
theorem ps_upd2 {s : Nat} {sn : Str} {ap cp p0 pos : Pos} (h1 : PE X e1 (tIsX X.K i v1)) (h2 : PE X e2 (tIsX X.K i v2)) (hs : X.N[s]? = some sn) (hv : Vis X.env.scope sn) (hd : (sn == ("__debug__" : Str)) = false) (hcd : (sn == ("__classdict__" : Str)) = false) (hb : baseE (.Name sn p0) = true) (hl : (ap.endLine == cp.line) = true) :
    PS X (.Expr (.Call (.Attribute (.Name sn p0) "update" ap) [.Dict [some (.Constant (.str n1) j1 q1), some (.Constant (.str n2) j2 q2)] [e1, e2] q3] [] cp) pos) (tUpd2 X.K i s n1 n2 v1 v2) := by
  refine PS_imp (ps_expr (pe_bm PySem.F.plainAttrs_dict PySem.F.slot_dict_update PySem.F.type_dict_update mt_update (pe_var hs hv hd hcd) (pa_cons (pe_disp2 (q1 := q1) (q2 := q2) (q3 := q3) (j1 := j1) (j2 := j2) (n1 := n1) (n2 := n2) h1 h2) pa_nil) (base_ok hb) (few_ok rfl (by simp)) hl rfl (noStar rfl)) rfl) fun D σ H h => ?_
  obtain ⟨a, D0, b1, b2, p, ks, k1, k2, k3, k4, k5, hn, k6, k7, k8, k9, k10, q⟩ := h
  refine ⟨_, k6, .inr (.inr (.inl ⟨rfl, .inl ⟨ks, k7⟩⟩)), a, D0, b1, b2, k1, k2, k3, k4, k5, hn, fun t ht => ?_⟩
  have pt : p ≠ t := ne_of_none k7 ht
  refine ⟨p, t, ks, _, rfl, rfl, pt, by rw [upd_ne pt]; exact k7, upd_same, by rw [sizeLine_eq]; simp; omega, ?_⟩
  rw [merge2 k9 k10 (by simpa using hn)]
  exact q t ht
/-- s = {n1: .., n2: ..} -/
theorem ps_dsp2 {s : Nat} {sn : Str} {p0 pos : Pos} (hN : X.N.Nodup) (h1 : PE X e1 (tIsX X.K i v1)) (h2 : PE X e2 (tIsX X.K i v2)) (hs : X.N[s]? = some sn) (hv : Loc X.env.scope sn) (hf : X.fn sn = true) :
    PS X (.Assign [.Name sn p0] (.Dict [some (.Constant (.str n1) j1 q1), some (.Constant (.str n2) j2 q2)] [e1, e2] q3) pos) (tAsg (tDisp2 X.K i n1 n2 v1 v2) (gName s)) :=
  ps_set hN hs hv (pe_disp2 h1 h2) rfl (.inl hf)
end

/-! ### [name for name in s if s[name]] -/
def yesOf (kvs : List (Key × V)) : List V := (kvs.filter fun kv => match kv.2 with | .bl true => true | _ => false).map fun kv => kV kv.1
theorem yes_snoc {kvs : List (Key × V)} {kv : Key × V} {b : Bool} (h : kv.2 = .bl b) : yesOf (kvs ++ [kv]) = if b = true then yesOf kvs ++ [kV kv.1] else yesOf kvs := by
  unfold yesOf
  rw [List.filter_append]
  cases b with
  | true => simp [List.filter_cons, h]
  | false => simp [List.filter_cons, h]
theorem valV_at : ∀ {kvs : List (Key × V)} {i : Nat} {k : Key} {v : V}, (kvs.map (·.1)).Nodup → kvs[i]? = some (k, v) → valV kvs k = some v
  | [], _, _, _, _, e => by simp at e
  | (k0, v0) :: kvs, 0, k, v, _, e => by
    simp at e
    exact valV_pos (p := (k0, v0)) e.1 ▸ by rw [e.2]
  | (k0, v0) :: kvs, i + 1, k, v, nd, e => by
    have e' : kvs[i]? = some (k, v) := by simpa using e
    obtain ⟨h1, h2⟩ := List.nodup_cons.mp nd
    have ne : ¬ k0 = k := fun z => h1 (List.mem_map.mpr ⟨(k, v), List.mem_of_getElem? e', z.symm⟩)
    rw [valV_neg (p := (k0, v0)) ne]
    exact valV_at h2 e'
end Mn

set_option Elab.async false
set_option linter.all false
set_option maxRecDepth 100000
set_option maxHeartbeats 4000000
namespace Mn
open PySem L2
theorem yes_len (kvs : List (Key × V)) : (yesOf kvs).length ≤ kvs.length := by
  unfold yesOf
  rw [List.length_map]
  exact List.length_filter_le _ _
/-- the dict at slot s holds bools: the list of the keys whose bool is True -/
def tNames (s n m : Nat) : TS := fun D σ H => m < σ.length ∧ ∃ p kvs, σ[s]? = some (some (.ref p)) ∧ H p = some (.dK kvs) ∧ (kvs.map (·.1)).Nodup ∧ (∀ kv ∈ kvs, ∃ b, kv.2 = .bl b) ∧ kvs.length ≤ 1000 ∧ ∀ q, H q = none → D.nx (σ.set n (some (.ref q))) (upd H q (.lst (yesOf kvs)))
section
variable {X : Cx} {s n m : Nat} {sn nn mn : Str} {scope : Scope} {p1 p2 p3 p4 p5 p6 p7 lpos spos : Pos}
theorem ps_names (hc : X.calm = true) (hu : X.A.units + 1 < cLine) (hN : X.N.Nodup) (hs : X.N[s]? = some sn) (hvs : Vis X.env.scope sn) (hds : (sn == ("__debug__" : Str)) = false) (hcs : (sn == ("__classdict__" : Str)) = false)
    (hn : X.N[n]? = some nn) (hln : X.env.scope.names.lookup nn = some .local) (hm : X.N[m]? = some mn) (hdm : (mn == ("__debug__" : Str)) = false) (hcm : (mn == ("__classdict__" : Str)) = false) (hsm : s ≠ m)
    (bo : BlkOk X.N X.env.scope scope [(mn, m)]) (hkf : X.env.scope.kind = .function) (hline : (p1.line == lpos.line) = true) (hnn : (scope.names.any fun (x, k) => x == nn && (k == .local || k == .cell)) = false)
    (hms : (relS scope X.env.scope).names.lookup mn = some .local) (hss : Vis (relS scope X.env.scope) sn) :
    PS X (.Assign [.Name nn p1] (.ListComp (.Name mn p2) [⟨.Name mn p3, .Name sn p4, [.Subscript (.Name sn p5) (.Name mn p6) p7], 0⟩] scope lpos) spos) (tNames s n m) := by
  refine PS_imp (ps_lock (ps_setLc (wi := iKeys (tVar s)) (g := gName m) (tt := tB (tDGet (tVar s) (tVar m))) (te := tVar m) hc hN hn hln (sw_true hkf hln hline hnn) (pi_keys (pe_var hs hvs hds hcs)) bo
    (fun s' H C cl fp => pg_name (X := X.blk s' H scope (compEnvC scope cl C X.env) fp) hN hm (.inl hms) (.inr hms))
    (fun s' H C cl fp => pts_one (pt_val (pe_dget (X := X.blk s' H scope (compEnvC scope cl C X.env) fp) hu (pe_var hs hss hds hcs) (pe_var hm (.inl hms) hdm hcm) (fun _ _ => rfl))))
    (fun s' H C cl fp => pe_var (X := X.blk s' H scope (compEnvC scope cl C X.env) fp) hm (.inl hms) hdm hcm))) fun D σ H h => ?_
  obtain ⟨hml, p, kvs, k1, k2, k3, k4, k5, q⟩ := h
  refine ⟨p, .dK kvs, k2, trivial, fun od => ?_⟩
  refine ⟨.ref p, k1, p, od, rfl, .inl ⟨kvs, upd_same, ?_⟩⟩
  intro L hL
  have pL : p ≠ L := fun z => by rw [← z, upd_same] at hL; cases hL
  have HL : H L = none := by rw [upd_ne (Ne.symm pL)] at hL; exact hL
  refine L2.lc_it (walk_keys (d := p) (o := od) (kvs := kvs)) (fun i H' => H' = upd (upd H p (.frz od (.dK kvs))) L (.lst (yesOf (kvs.take i)))) rfl ?_ ?_ ?_
  · rintro i H' hi rfl
    rw [upd_ne pL, upd_same]
  · rintro i x H' H'' hi rfl ⟨rfl, key, v, hkv, rfl⟩
    obtain ⟨b, hb⟩ := k4 (key, v) (List.mem_of_getElem? hkv)
    have hb : v = .bl b := hb
    have w0 : ([(mn, m)].map (·.2)) = [m] := rfl
    have w1 : L2.wipe σ [m] = σ.set m none := rfl
    have w2 : ∀ v, L2.wipe ((σ.set m none).set m v) [m] = σ.set m none := fun v => by
      show ((σ.set m none).set m v).set m none = _
      rw [List.set_set, List.set_set]
    have s1 : ((σ.set m none).set m (some (kV key)))[s]? = some (some (.ref p)) := by rw [List.getElem?_set_ne (Ne.symm hsm), List.getElem?_set_ne (Ne.symm hsm)]; exact k1
    have s2 : ((σ.set m none).set m (some (kV key)))[m]? = some (some (kV key)) := by rw [List.getElem?_set_self (by simpa using hml)]
    have tk : kvs.take (i + 1) = kvs.take i ++ [(key, v)] := by
      rw [List.take_add_one, hkv]; rfl
    have ys := yes_snoc (kvs := kvs.take i) (kv := (key, v)) hb
    rw [← tk] at ys
    have len : (yesOf (kvs.take i)).length < sizeLine := by
      have h1 := yes_len (kvs.take i)
      have h2 : (kvs.take i).length ≤ kvs.length := by rw [List.length_take]; omega
      rw [sizeLine_eq]
      omega
    refine ⟨w2 _, _, s1, _, s2, p, v, rfl, .inl ⟨kvs, key, .inr ⟨od, by rw [upd_ne pL, upd_same]⟩, rfl, (valV_at k3 hkv).symm⟩, b, hb, ?_⟩
    cases b with
    | false =>
      rw [if_neg (by decide)] at ys ⊢
      rw [ys]
    | true =>
      rw [if_pos rfl] at ys ⊢
      refine ⟨_, s2, yesOf (kvs.take i), upd_same, len, ?_⟩
      rw [ys, upd_upd]
  · rintro H' rfl
    rw [List.take_length]
    refine ⟨by rw [upd_ne pL, upd_same], ?_⟩
    have e : upd (upd (upd H p (.frz od (.dK kvs))) L (.lst (yesOf kvs))) p (.dK kvs) = upd H L (.lst (yesOf kvs)) := by
      funext b
      unfold upd
      by_cases h1 : b = p
      · subst h1; simp [pL, k2]
      · by_cases h2 : b = L
        · subst h2; simp [h1]
        · simp [h1, h2]
    rw [e]
    exact q L HL
end
end Mn

set_option Elab.async false
set_option linter.all false
set_option maxRecDepth 100000
set_option maxHeartbeats 4000000
namespace Mn
open PySem L2
def updN : List (Str × Str) := [("state", "kind"), ("event", "block"), ("word", "places"), ("table", "groups"), ("number", "method"), ("run", "transaction"), ("text", "compare"), ("reducible", "large"), ("many", "undo")]
def tUpds (K : PySem.W.Frag) (cl : Nat → Value) : Nat → List (Str × Str) → TS → TS
  | _, [], t => t
  | j, (a, b) :: r, t => tSeq (tUpd2 K 1 4 a b (cl j) (cl (j + 1))) (tUpds K cl (j + 2) r t)
def ents (bs : Nat → Bool) : Nat → List (Str × Str) → List (Key × V)
  | _, [] => []
  | j, (a, b) :: r => (.inr a, .bl (bs j)) :: (.inr b, .bl (bs (j + 1))) :: ents bs (j + 2) r
def keysN : List (Str × Str) → List Key
  | [] => []
  | (a, b) :: r => .inr a :: .inr b :: keysN r
theorem ents_keys (bs : Nat → Bool) : ∀ (r : List (Str × Str)) (j : Nat), (ents bs j r).map (·.1) = keysN r
  | [], _ => rfl
  | (a, b) :: r, j => by simp [ents, keysN, ents_keys bs r]
theorem ents_bl (bs : Nat → Bool) : ∀ (r : List (Str × Str)) (j : Nat), ∀ kv ∈ ents bs j r, ∃ b, kv.2 = .bl b
  | [], _, kv, h => by simp [ents] at h
  | (a, b) :: r, j, kv, h => by
    simp only [ents, List.mem_cons] at h
    rcases h with h | h | h
    · exact ⟨_, by rw [h]⟩
    · exact ⟨_, by rw [h]⟩
    · exact ents_bl bs r _ kv h
theorem upds_pure {K : PySem.W.Frag} {cl : Nat → Value} {bs : Nat → Bool} {D0 a p : Addr} (C : ExcC K D0) (hk : ∀ j, j < 20 → PySem.W.kitOne K (.ref D0) (cl j) = some (bs j)) {t : TS} {D : Ends} {σ : L2.St} (s1 : σ[1]? = some (some (.ref a))) (s4 : σ[4]? = some (some (.ref p))) :
    ∀ (r : List (Str × Str)) (j : Nat) (ks : List (Key × V)) (H : Hp), H a = some (XO (.ref D0) none a) → H p = some (.dK ks) → a ≠ p → ks.length + 2 * r.length ≤ 100 → j + 2 * r.length ≤ 20 → (ks.map (·.1) ++ keysN r).Nodup →
      (∀ H', (∀ b o, b ≠ p → H b = some o → H' b = some o) → H' p = some (.dK (ks ++ ents bs j r)) → t D σ H') → tUpds K cl j r t D σ H
  | [], j, ks, H, _, hp, _, _, _, _, q => q H (fun _ _ _ h => h) (by simpa [ents] using hp)
  | (x, y) :: r, j, ks, H, ha, hp, nap, l1, l2, nd, q => by
    simp only [List.length_cons] at l1 l2
    have nd' : (ks.map (·.1) ++ .inr x :: .inr y :: keysN r).Nodup := nd
    have hx : (ks.map (·.1)).all (fun z => decide (z ≠ .inr x)) = true := by
      rw [List.all_eq_true]
      intro z hz
      have := (List.nodup_append.mp nd').2.2 z hz (.inr x) (by simp)
      simpa using this
    have hy : (ks.map (·.1)).all (fun z => decide (z ≠ .inr y)) = true := by
      rw [List.all_eq_true]
      intro z hz
      have := (List.nodup_append.mp nd').2.2 z hz (.inr y) (by simp)
      simpa using this
    have hxy : x ≠ y := fun z => by
      have := (List.nodup_append.mp nd').2.1
      rw [z] at this
      simp at this
    refine ⟨a, D0, bs j, bs (j + 1), p, ks, s1, ha, C, hk j (by omega), hk (j + 1) (by omega), hxy, s4, hp, by omega, hx, hy, fun t' ht => ?_⟩
    have pt : p ≠ t' := ne_of_none hp ht
    refine upds_pure C hk s1 s4 r (j + 2) (ks ++ [(.inr x, .bl (bs j)), (.inr y, .bl (bs (j + 1)))]) _ ?_ upd_same nap (by simp; omega) (by omega) ?_ fun H' k1 k2 => q H' (fun b o hb h => k1 b o hb ?_) ?_
    · rw [upd_ne nap, upd_ne (ne_of_none ha ht)]; exact ha
    · simpa using nd'
    · rw [upd_ne hb, upd_ne (ne_of_none h ht)]; exact h
    · rw [k2]; simp [ents]
/-- the errors' names: those of the class's own index -/
theorem yes_one : ∀ c : Nat, c < 20 → yesOf ([(.inr "model", .bl (decide (0 = c))), (.inr "operations", .bl (decide (1 = c)))] ++ ents (fun j => decide (j = c)) 2 updN) = [.str (errN.getD c "")] := by
  intro c hc
  match c, hc with
  | 0, _ => rfl
  | 1, _ => rfl
  | 2, _ => rfl
  | 3, _ => rfl
  | 4, _ => rfl
  | 5, _ => rfl
  | 6, _ => rfl
  | 7, _ => rfl
  | 8, _ => rfl
  | 9, _ => rfl
  | 10, _ => rfl
  | 11, _ => rfl
  | 12, _ => rfl
  | 13, _ => rfl
  | 14, _ => rfl
  | 15, _ => rfl
  | 16, _ => rfl
  | 17, _ => rfl
  | 18, _ => rfl
  | 19, _ => rfl
  | n + 20, h => exact absurd h (by omega)
theorem keys_nd : ([.inr "model", .inr "operations"] ++ keysN updN : List Key).Nodup := by decide +kernel
theorem ifT {A B : Prop} (h : A) : if (true = true) then A else B := by rw [if_pos rfl]; exact h
theorem ifF {A B : Prop} (h : B) : if (false = true) then A else B := by rw [if_neg (by decide)]; exact h
/-- the last line -/
def tLastR (K : PySem.W.Frag) : TS := tRet (tIf (tAnd (tTest (tOp rEq (tCB (fun xs H Q => ∃ x n, xs = [x] ∧ LenV K x H n ∧ Q (.int n) H) (tCons (tVar 5) tNil)) (tC (.int 1)))) (tB (tIsX K 1 (.type "ValueError")))) (tTup (tCons (tOp (rIx K) (tVar 5) (tC (.int 0))) tNil)) (tTup (tCons (tC (.str "other error")) tNil)))
/-- behind the try -/
def tTail (K : PySem.W.Frag) (cl : Nat → Value) : TS := tSeq (tIfS (tB (tIsN (tVar 1))) (tSeq (tRet (tTup (tCons (tC (.str "returns")) (tCons (tVar 2) tNil)))) tNext) tNext)
  (tSeq (tAsg (tDisp2 K 1 "model" "operations" (cl 0) (cl 1)) (gName 4)) (tUpds K cl 2 updN (tSeq (tNames 4 5 6) (tSeq (tLastR K) tNext))))
theorem tail_ret {K : PySem.W.Frag} {cl : Nat → Value} {D : Ends} {σ : L2.St} {H : Hp} {v : V} (s1 : σ[1]? = some (some .non)) (s2 : σ[2]? = some (some v)) (q : ∀ p, H p = none → D.rt (.ref p) (upd H p (.tup [.str "returns", v]))) : tTail K cl D σ H := by
  refine ⟨_, s1, true, rfl, ifT ?_⟩
  exact ⟨_, s2, by rw [sizeLine_eq]; simp, q⟩
theorem tail_exc {K : PySem.W.Frag} {cl : Nat → Value} {D : Ends} {σ : L2.St} {H : Hp} {a D0 : Addr} {c : Nat} (hl : σ.length = 7) (C : ExcC K D0) (hc : c < 20) (hk : ∀ j, j < 20 → PySem.W.kitOne K (.ref D0) (cl j) = some (decide (j = c))) (hv : PySem.W.kitOne K (.ref D0) (.type "ValueError") = some true)
    (s1 : σ[1]? = some (some (.ref a))) (ha : H a = some (XO (.ref D0) none a)) (q : ∀ H' p, (∀ b o, H b = some o → H' b = some o) → H p = none → H' p = some (.tup [.str (errN.getD c "")]) → D.rt (.ref p) H') : tTail K cl D σ H := by
  refine ⟨_, s1, false, rfl, ifF ?_⟩
  refine ⟨a, D0, decide (0 = c), decide (1 = c), s1, ha, C, hk 0 (by decide), hk 1 (by decide), by decide +kernel, fun p hp => ?_⟩
  have ap : a ≠ p := ne_of_none ha hp
  have t1 : (σ.set 4 (some (.ref p)))[1]? = some (some (.ref a)) := by rw [List.getElem?_set_ne (by decide)]; exact s1
  have t4 : (σ.set 4 (some (.ref p)))[4]? = some (some (.ref p)) := by rw [List.getElem?_set_self (by omega)]
  refine upds_pure (bs := fun j => decide (j = c)) C hk t1 t4 updN 2 _ _ (by rw [upd_ne ap]; exact ha) upd_same ap (by simp [updN]) (by decide) keys_nd fun H1 k1 k2 => ?_
  refine ⟨by simp; omega, p, _, t4, k2, ?_, ?_, by simp [ents, updN], fun L hL => ?_⟩
  · rw [List.map_append, ents_keys]; exact keys_nd
  · intro kv hm
    rcases List.mem_append.mp hm with h | h
    · rcases List.mem_cons.mp h with h | h
      · exact ⟨_, by rw [h]⟩
      · rcases List.mem_cons.mp h with h | h
        · exact ⟨_, by rw [h]⟩
        · cases h
    · exact ents_bl _ _ _ kv h
  · rw [yes_one c hc]
    have u5 : ((σ.set 4 (some (.ref p))).set 5 (some (.ref L)))[5]? = some (some (.ref L)) := by rw [List.getElem?_set_self (by simp; omega)]
    have u1 : ((σ.set 4 (some (.ref p))).set 5 (some (.ref L)))[1]? = some (some (.ref a)) := by rw [List.getElem?_set_ne (by decide)]; exact t1
    have hLL : SqL K (upd H1 L (.lst [.str (errN.getD c "")])) L [.str (errN.getD c "")] := .inl (.inl upd_same)
    have ha1 : H1 a = some (XO (.ref D0) none a) := k1 a _ ap (by rw [upd_ne ap]; exact ha)
    have ha2 : upd H1 L (.lst [.str (errN.getD c "")]) a = some (XO (.ref D0) none a) := by rw [upd_ne (ne_of_none ha1 hL)]; exact ha1
    have st1 : ∀ b o, H b = some o → H1 b = some o := fun b o h => k1 b o (ne_of_none h hp) (by rw [upd_ne (ne_of_none h hp)]; exact h)
    have st2 : ∀ b o, H1 b = some o → upd H1 L (.lst [.str (errN.getD c "")]) b = some o := fun b o h => by rw [upd_ne (ne_of_none h hL)]; exact h
    refine ⟨_, u5, _, 1, rfl, .inl ⟨_, hLL, rfl⟩, rfl, true, by simp, ifT ?_⟩
    refine ⟨a, D0, true, u1, ha2, C, hv, true, rfl, ifT ?_⟩
    refine ⟨_, u5, .inl ⟨L, _, 0, _, rfl, rfl, hLL, rfl, by rw [sizeLine_eq]; simp, fun r hr => ?_⟩⟩
    have st3 : ∀ b o, H b = some o → upd (upd H1 L (.lst [.str (errN.getD c "")])) r (.tup [.str (errN.getD c "")]) b = some o := fun b o h => by
      have h' := st2 b o (st1 b o h)
      rw [upd_ne (ne_of_none h' hr)]; exact h'
    refine q _ r st3 ?_ upd_same
    cases z : H r with
    | none => rfl
    | some o => rw [st2 r o (st1 r o z)] at hr; cases hr
end Mn

set_option Elab.async false
set_option linter.all false
set_option maxRecDepth 100000
set_option maxHeartbeats 4000000
namespace Mn
open PySem L2
/-- an error that _law_result names -/
def EcR (K : PySem.W.Frag) (cl : Nat → Value) (LE : Value) (Q : VK) : XK := fun c d H' => d = none ∧ ∃ j D0, c = .ref D0 ∧ j < 20 ∧ ExcC K D0 ∧ (∀ i, i < 20 → PySem.W.kitOne K (.ref D0) (cl i) = some (decide (i = j))) ∧ PySem.W.kitOne K (.ref D0) (.type "ValueError") = some true ∧ PySem.W.exmOne K c LE = some true ∧
      ∀ H'' p, (∀ b o, H' b = some o → H'' b = some o) → H' p = none → H'' p = some (.tup [.str (errN.getD j "")]) → Q (.ref p) H''
/-- what _law_result makes of the reading of call() -/
def TTres (K : PySem.W.Frag) (cl : Nat → Value) (LE : Value) : (XK → Hp → VK → Prop) → Hp → VK → Prop := fun tl H Q => (∀ E H (Q Q' : VK), (∀ v H', Q v H' → Q' v H') → tl E H Q → tl E H Q') ∧ ∀ H1, (∀ b o, H b = some o → H1 b = some o) →
  tl (EcR K cl LE Q) H1 (fun v H' => ∀ p, H' p = none → Q (.ref p) (upd H' p (.tup [.str "returns", v])))
/-- the try's reading -/
def tTryR (K : PySem.W.Frag) (LE : Value) (f c' : Addr) (q : Str) (tl : XK → Hp → VK → Prop) : WX → TS := fun W D σ H => ∃ Ech : XK, (∀ cls d σ' H', Ech cls d H' → σ'.length = 7 → W cls d σ' H') ∧ σ[0]? = some (some (.ref f)) ∧ H c' = some (LamX.CodeO c' q) ∧ tl Ech H (fun v H' => D.nx (σ.set 2 (some v)) H')
def tResS (K : PySem.W.Frag) (cl : Nat → Value) (LE : Value) (f c' : Addr) (q : Str) (tl : XK → Hp → VK → Prop) : TS :=
  tSeq (tAsg (tTup (tCons (tC .non) (tCons (tC .non) tNil))) (gTup K 2 (gCons (gName 1) (gCons (gName 2) gNil)))) (tSeq (fun D σ H => tTryR K LE f c' q tl (wKept K LE 3 1 D) D σ H) (tTail K cl))
theorem res_pure {K : PySem.W.Frag} {cl : Nat → Value} {LE : Value} {f c' : Addr} {q : Str} {tl : XK → Hp → VK → Prop} {H : Hp} {Q : VK} (hc : H c' = some (LamX.CodeO c' q)) (h : TTres K cl LE tl H Q) :
    tResS K cl LE f c' q tl { nx := fun _ H' => Q .non H', rt := Q } [some (.ref f), none, none, none, none, none, none] H := by
  refine ⟨by rw [sizeLine_eq]; simp, fun p hp => ⟨p, _, rfl, .inl (.inl upd_same), rfl, _, _, rfl, _, _, rfl, rfl, ?_⟩⟩
  have e : ∀ b o, H b = some o → upd H p (.tup [.non, .non]) b = some o := fun b o h => by rw [upd_ne (ne_of_none h hp)]; exact h
  refine ⟨EcR K cl LE Q, fun cls d σ' H' hE hl => ?_, rfl, e _ _ hc, h.1 _ _ _ _ (fun v H' k => ?_) (h.2 _ e)⟩
  · obtain ⟨rfl, j, D0, rfl, hj, hx, hk, hv, he, k⟩ := hE
    refine ⟨true, he, rfl, fun a ha => ?_⟩
    match σ', hl with
    | [x0, x1, x2, x3, x4, x5, x6], _ =>
      refine tail_exc (a := a) rfl hx hj hk hv rfl upd_same fun H'' p' k1 k2 k3 => ?_
      have hpa : p' ≠ a := fun z => by rw [z, upd_same] at k2; cases k2
      rw [upd_ne hpa] at k2
      exact k H'' p' (fun b o hb => k1 b o (by rw [upd_ne (ne_of_none hb ha)]; exact hb)) k2 k3
  · exact tail_ret rfl rfl k
theorem takes_len {X : Cx} {W : WX} (t : Takes X W) : Takes X (fun cls d σ H => σ.length = X.N.length → W cls d σ H) := fun u s' ⟨a, B, sI, pins, σ, H, cls, d, e, I, nb, up, sky, na, os, ag, w⟩ =>
  t u s' ⟨a, B, sI, pins, σ, H, cls, d, e, I, nb, up, sky, na, os, ag, w I.len⟩
end Mn

set_option Elab.async false
set_option linter.all false
set_option maxRecDepth 100000
set_option maxHeartbeats 4000000
namespace Mn
open PySem L2
section
variable {C : Cf} {B : Addr → Bool} {ow : Ow} {s : S} {σ : L2.St} {H : Hp}
theorem bare_mem {n : Nat} {ob : List OA} {p : Addr} : some p ∈ Ow.bare n ob ↔ some p ∈ Ow.z ob := by
  rw [Ow.mem_iff, Ow.mem_iff]
  constructor
  · rintro (h | h)
    · cases List.eq_of_mem_replicate h
    · exact .inr h
  · rintro (h | h)
    · cases h
    · exact .inr h
theorem hid_nones {n : Nat} {ob : List OA} : hid B (.bare n ob) H = hid B (.z ob) H := by
  funext b
  unfold hid
  by_cases h : B b = true ∨ some b ∈ Ow.z ob
  · rw [if_pos h, if_pos (h.imp_right bare_mem.mpr)]
  · rw [if_neg h, if_neg fun z => h (z.imp_right bare_mem.mp)]
    rfl
theorem lend_get {ρ : List Slot} {i : Nat} {x : Slot} (h : (ρ.map Slot.lend)[i]? = some x) : ∃ y, ρ[i]? = some y ∧ x = y.lend := by
  rw [List.getElem?_map] at h
  cases q : ρ[i]? with
  | none => rw [q] at h; cases h
  | some y => rw [q] at h; cases h; exact ⟨y, rfl, rfl⟩
/-- all that slots own is hidden, the slots are emptied -/
theorem SR.lend (R : SR C B ow s σ H) : SR C (allB B ow) (.bare σ.length ow.ob) { s with ρ := s.ρ.map Slot.lend } σ H where
  len := by simpa using R.len
  lenO := List.length_replicate
  slot := fun i x v p h1 h2 h3 => by
    have hp : p = none := List.eq_of_mem_replicate (List.mem_of_getElem? h3)
    subst hp
    obtain ⟨y, hy, rfl⟩ := lend_get h1
    have hid0 : hid (allB B ow) (.bare σ.length ow.ob) H = hid B ow H := by rw [hid_nones, hid_all0]
    rw [hid0]
    cases y with
    | emp => trivial
    | val d =>
      obtain ⟨v', p', k1, k2, k3⟩ := R.at hy
      rw [h2] at k1; cases k1
      cases v with
      | none => exact k3.elim
      | some v => cases p' with
        | none => exact k3
        | some p' => exact k3.elim
    | lst ds => trivial
    | dct n ds => trivial
  st := (StoreOk.all (obs := []) R).mono (by rw [hid_nones]; exact Sm'.refl _) (fun _ _ _ h _ => h) (fun q h => (StoreOk.all (obs := []) R).hasB h) R.st.tag.bare
  nB := fun p h => by
    rcases mem_has (bare_mem.mp h) with z | z
    · cases z
    · exact (StoreOk.all (obs := []) R).hasB z
  tB := fun b hb => by
    rcases allB_iff.mp hb with z | z
    · exact R.tB b z
    · exact R.ownAt z
  twB := allB_iff.mpr (.inl R.twB)
  rsB := allB_iff.mpr (.inl R.rsB)
  town := R.town
end

/-! ### _law_result(lambda: e) -/
/-- what is known of an error class that the law names -/
structure NmC (C : Cf) (le : Addr) (c : Nat) : Prop where
  lt : c < 20
  ex : ExcC C.K (C.cls c)
  is : ∀ i, i < 20 → PySem.W.kitOne C.K (.ref (C.cls c)) (.ref (C.cls i)) = some (decide (i = c))
  ve : PySem.W.kitOne C.K (.ref (C.cls c)) (.type "ValueError") = some true
  le : PySem.W.exmOne C.K (.ref (C.cls c)) (.ref le) = some true
section
variable {Φ : Nat → Fn} {gc : Nat → D} {C : Cf} {E : XK}
theorem wpE.mono {E : XK} {B : Addr → Bool} {ow : Ow} {H : Hp} {σ : L2.St} {o : Out D} {Q Q' : VK} (h : wpE C E B ow H σ o Q) (i : ∀ v H', Q v H' → Q' v H') : wpE C E B ow H σ o Q' := by
  cases o with
  | ok d s' => exact fun ow' v H' R st r => i v H' (h ow' v H' R st r)
  | exc c τ => exact h
  | bad => exact h
theorem ok_res {rs : List Nat} {a : Ex} {le : Addr} (hn : ∀ c ∈ rs, NmC C le c) :
    Ok C E (LamX.tLam C.tbs (TTres C.K (fun j => .ref (C.cls j)) (.ref le)) (fun E' => tEv Φ gc C E' a)) (ev Φ gc (.res rs a)) := by
  intro B ow s σ H Q R w
  refine ⟨R.town.2.2.2, fun H1 eN T1 => ⟨fun E' H0 Q0 Q1 i h => ?_, fun H2 sm => ?_⟩⟩
  · obtain ⟨B0, ow0, s0, R0, w0⟩ := h
    exact ⟨B0, ow0, s0, R0, w0.mono i⟩
  · have keep : ∀ b o, H b = some o → nt o = true → H2 b = some o := fun b o h n => sm b o (eN b o h fun ps z => by rw [z] at n; cases n)
    have smH : Sm' H H2 := keep
    have tw2 : TownAt C H2 s.τ := ⟨keep _ _ R.town.1 rfl, keep _ _ R.town.2.1 rfl, R.town.2.2.1, T1.ext sm⟩
    have RL := R.lend
    have R2 : SR C (allB B ow) (.bare σ.length ow.ob) { s with ρ := s.ρ.map Slot.lend } σ H2 := by
      refine ⟨RL.len, RL.lenO, fun i x v p h1 h2 h3 => (RL.slot i x v p h1 h2 h3).mono (hid_ow_le (fun b q => .inl q) (fun p q => .inl q) smH) fun q o _ h n => keep q o h n, RL.st.mono (hid_ow_le (fun b q => .inl q) (fun p q => .inl q) smH) (fun q _ o h n => keep q o h n) (fun q h => RL.st.hasB h) RL.st.tag, RL.nB, fun b hb => ?_, RL.twB, RL.rsB, tw2⟩
      obtain ⟨o, h1, h2⟩ := RL.tB b hb
      exact ⟨o, keep b o h1 h2, h2⟩
    refine ⟨allB B ow, _, _, R2, ?_⟩
    unfold ev at w
    have vis : Sm' (hid B ow H) (hid (allB B ow) (.bare σ.length ow.ob) H2) := by
      rw [hid_nones, hid_all0]
      exact hid_ow_le (fun b q => .inl q) (fun p q => .inl q) smH
    cases q : ev Φ gc a { s with ρ := s.ρ.map Slot.lend } with
    | bad => rw [q] at w; exact w.elim
    | ok d s1 =>
      rw [q] at w
      intro ow' v H' R' st r p hp
      have hd : Hd C (allB B ow) H H' := fun b o h1 h2 h3 h4 h5 => st.hd b o h1 h2 h3 (keep b o h4 h5) h5
      have zl : Sm' (hid (allB B ow) ow' H') (hid B ⟨ow.sl, ow'.ob⟩ H') := by rw [← hid_all (ow := ow)]; exact hid_z fun _ h => h
      have fr : Sm' (hid B ow H) (hid B ⟨ow.sl, ow'.ob⟩ H') := (vis.trans st.fr).trans zl
      obtain ⟨RB, SB⟩ := R.again (τ := s1.τ) R'.tB R'.town (R'.st.z fun _ h => h) fr hd
      have rv : Rep C (hid B ⟨ow.sl, ow'.ob⟩ H') v d := r.mono zl
      have w' : wpE C E B ow H σ (.ok (.tup [.str "returns", d]) { s with τ := s1.τ }) Q := w
      exact wpE.giveNew (wpE.step SB w') RB hp (Rep.tupNew RB hp (.cons (.str _) (.cons rv .nil)) (by simp [LIM]))
    | exc c τ =>
      rw [q] at w
      simp only at w
      split at w
      case isFalse => exact w.elim
      rename_i hc
      have nm := hn c (by simpa using hc)
      intro H' fn
      refine ⟨rfl, c, C.cls c, rfl, nm.lt, nm.ex, nm.is, nm.ve, nm.le, fun H'' p k1 k2 k3 => ?_⟩
      have hd : Hd C (allB B ow) H H'' := fun b o h1 h2 h3 h4 h5 => k1 b o (fn.hd b o h1 h2 h3 (keep b o h4 h5) h5)
      obtain ⟨ob', fr1, st1⟩ := fn.fr
      have k1' : Sm' H' H'' := fun b o h _ => k1 b o h
      have fr : Sm' (hid B ow H) (hid B ⟨ow.sl, ob'⟩ H'') := by
        rw [← hid_all (ow := ow) (ob := ob')]
        exact (vis.trans fr1).trans (hid_ow_le (fun b q => .inl q) (fun p q => .inl q) k1')
      have st' : StoreOk C (allB B ow) (.z ob') H'' τ.ob := st1.mono (hid_ow_le (fun b q => .inl q) (fun p q => .inl q) k1') (fun q _ o h n => k1 q o h) (fun q h => st1.hasB h) st1.tag
      have tw' : TownAt C H'' τ := fn.town.same k1
      have hk : ∀ b, allB B ow b = true → ∃ o, H'' b = some o ∧ nt o = true := fun b hb => by
        obtain ⟨o, h1, h2⟩ := RL.tB b hb
        by_cases z1 : b = C.tw
        · rw [z1]; exact ⟨_, tw'.1, rfl⟩
        · by_cases z2 : b = C.rs
          · rw [z2]; exact ⟨_, tw'.2.1, rfl⟩
          · exact ⟨o, hd b o hb z1 z2 h1 h2, h2⟩
      obtain ⟨RB, SB⟩ := R.again (τ := τ) hk tw' st' fr hd
      have hpA : allB B ow p = false := by
        cases z : allB B ow p with
        | false => rfl
        | true =>
          obtain ⟨o, h1, h2⟩ := RL.tB p z
          by_cases z1 : p = C.tw
          · rw [z1, fn.town.1] at k2; cases k2
          · by_cases z2 : p = C.rs
            · rw [z2, fn.town.2.1] at k2; cases k2
            · rw [fn.hd p o z z1 z2 (keep p o h1 h2) h2] at k2; cases k2
      have hB : B p = false := by
        cases z : B p with
        | false => rfl
        | true => rw [allB_iff.mpr (.inl z)] at hpA; cases hpA
      have hH : ¬ (Ow.z ob').Has p := fun z => by
        obtain ⟨o, z1, _⟩ := st1.there z
        rw [k2] at z1; cases z1
      have hO : some p ∉ (⟨ow.sl, ob'⟩ : Ow) := fun z => by
        rcases mem_has z with z | z
        · have z' : some p ∈ ow.sl := z
          rw [allB_iff.mpr (.inr z')] at hpA; cases hpA
        · exact hH z
      have hM : ¬ ∃ m, MarkAt ob' p m := fun ⟨m, z⟩ => hH (mark_has (ow := .z ob') z)
      exact w ⟨ow.sl, ob'⟩ (.ref p) H'' RB SB (.tup (.inl (.inl (hid_some.mpr ⟨hB, hO, shw_of k3 rfl hM⟩))) (.cons (.str _) .nil) (by simp [LIM]))
end

def Nr : List Str := ["call", "raised", "result", "e", "some", "names", "name"]
/-- what the making of a lambda for _law_result wants of the context -/
structure LamC (C : Cf) (X : Cx) (rs : List Nat) : Prop where
  ex : ∃ (le g c P : Addr) (pg : Arguments) (bg : List Stmt) (sg : Scope) (dV kV doc pm cdv ct oc : Value) (an od : Option Addr) (osl : Array (Option Value)), X.mg "_law_result" = some (.ref g) ∧ PySem.W.keepIn X.K (.ref g) = true ∧
    X.K.lookup g = some ⟨oc, od, .func (PySem.W.fnOf "_law_result" "_law_result" pg bg sg dV kV doc pm an cdv ct), osl⟩ ∧ PySem.W.codeIn X.K cdv "_law_result" = true ∧ L2.Binds X.K (PySem.W.fnOf "_law_result" "_law_result" pg bg sg dV kV doc pm an cdv ct) ["call"] [] ∧ FnScope Nr ["call"] sg ∧ Vis sg "call" ∧
    LamX.GivesTo X Nr "_law_result" sg g cdv bg "call" (X.env.qual ++ "<lambda>") (TTres C.K (fun j => .ref (C.cls j)) (.ref le)) ∧ LamX.TabB X.base X.mg c P ∧ X.env.code = .ref c ∧ (P, X.env.qual ++ "<lambda>") ∈ C.tbs ∧ (∀ p ∈ C.tbs, p.1 = P → p.2 = X.env.qual ++ "<lambda>") ∧ ∀ c ∈ rs, NmC C le c
def noPar : Arguments → Bool
  | ⟨[], [], none, [], [], none, []⟩ => true
  | _ => false
section
variable {Φ : Nat → Fn} {gc : Nat → D} {C : Cf} {E : XK} {X : Cx} {k : Nat}
theorem sd_res {rs rsT : List Nat} {a : Ex} {params : Arguments} {body : Expr} {scope : Scope} {p lpos pos : Pos} (g : Gd C E X (k + 2)) (L : LamC C X rsT) (hrs : ∀ c ∈ rs, c ∈ rsT) (hg : glB X.env.scope "_law_result" = true) (hp : noPar params = true) (hl : LamX.lamSB X.env.scope scope = true)
    (hb : ∀ (A : Around) (outer : List Env) (s : Shared) (H : Hp) (E' : XK) (f c' : Addr), Room k (A.deeper (LamX.lamEnv X scope s.heap.objs.size f c')) → ∃ t, Sd Φ gc C E' (LamX.lamCx X A outer s H E' scope f c') a body t) :
    ∃ t, Sd Φ gc C E X (.res rs a) (.Call (.Name "_law_result" p) [.Lambda params body scope lpos] [] pos) t := by
  obtain ⟨le, gf, c, P, pg, bg, sg, dV, kV, doc, pm, cdv, ct, oc, an, od, osl, h1, h2, h3, h4, h5, h6, h7, h8, h9, h10, h11, h12, h13⟩ := L.ex
  have ep : params = ⟨[], [], none, [], [], none, []⟩ := by
    unfold noPar at hp
    split at hp
    · rfl
    · cases hp
  subst ep
  have pe := LamX.pe_lamcall (params := ⟨[], [], none, [], [], none, []⟩) (T := C.tbs) (TT := TTres C.K (fun j => .ref (C.cls j)) (.ref le)) (t := fun E' => tEv Φ gc C E' a) (p := p) (lpos := lpos) (pos := pos) (gl_of hg) h1 h2 h3 h4 h5 h6 rfl h7 h8 h9 h10 h11 h12 g.room (LamX.lamS_by hl) rfl (fun _ _ _ _ _ => rfl) (fun A outer s H E' f c' hr => by
    obtain ⟨t, st⟩ := hb A outer s H E' f c' hr
    exact pe_ev st) (by decide +kernel) (by decide +kernel) (by decide +kernel)
  exact ⟨_, pe, ok_res fun c hc => h13 c (hrs c hc), fun z => by cases z⟩
end
end Mn

set_option Elab.async false
set_option linter.all false
set_option maxRecDepth 100000
set_option maxHeartbeats 1000000
namespace Mn
open PySem L2
/-! ### a comprehension over a list that a slot goes on owning -/
section
variable {Φ : Nat → Fn} {gc : Nat → D} {C : Cf} {E : XK} {X : Cx} {k : Nat}
theorem ev_lcp {w : List Nat} {e : Ex} {p : Pat} {i0 : Nat} {c : Ex} {s : S} : ev Φ gc (.lcp w e p i0 c) s = match s.ρ[i0]? with
    | some (.lst xs) => if w.all (fun i => (s.ρ.getD i .emp).plain) && !w.contains i0 then (lcL (fun d s2 => (lcF Φ gc e p c d s2).bind fun o s4 => if keepL i0 xs s4 then .ok o s4 else .bad) (fun s2 => { s2 with ρ := wipeS s2.ρ w }) xs [] s).bind fun ys s5 => .ok (.lst ys) { s5 with ρ := backS s5.ρ s.ρ w } else .bad
    | _ => .bad := by
  rw [ev] <;> rfl
/-- the list that slot i0 owns -/
theorem SR.owned {B : Addr → Bool} {ow : Ow} {s : S} {σ : St} {H : Hp} {i0 : Nat} {ds : List D} {p : Addr} (R : SR C B ow s σ H) (h : s.ρ[i0]? = some (.lst ds)) (hσ : σ[i0]? = some (some (.ref p))) : ∃ vs, H p = some (.lst vs) ∧ RepA C (hid B ow H) vs ds := by
  obtain ⟨v, q, h1, h2, h3⟩ := R.at h
  rw [hσ] at h1
  cases h1
  cases q with
  | none => exact h3.elim
  | some q =>
    obtain ⟨e, vs, h4, h5, _⟩ := h3
    cases e
    exact ⟨vs, h4, h5⟩
theorem ok_lcp {w : List Nat} {e : Ex} {p : Pat} {i0 : Nat} {c : Ex} (hK : X.K = C.K) (hw : ∀ j ∈ p.slots, j ∈ w) : Ok C E (tLc (iSeq X.K (tVar i0)) (gEv C p) (tTv Φ gc C EF c) (tEv Φ gc C EF e) w) (ev Φ gc (.lcp w e p i0 c)) := by
  intro B ow s σ H Q R wq
  rw [ev_lcp] at wq
  cases hs : s.ρ[i0]? with
  | none => rw [hs] at wq; exact wq.elim
  | some x0 =>
    cases x0 with
    | emp => rw [hs] at wq; exact wq.elim
    | val _ => rw [hs] at wq; exact wq.elim
    | dct _ _ => rw [hs] at wq; exact wq.elim
    | lst xs =>
      rw [hs] at wq
      simp only at wq
      split at wq
      case isFalse => exact wq.elim
      rename_i hpl
      rw [Bool.and_eq_true] at hpl
      obtain ⟨hpl, hwi⟩ := hpl
      have hwi : i0 ∉ w := by simpa using hwi
      obtain ⟨v0, p0, hσ, ho, hsl⟩ := R.at hs
      obtain ⟨v1, rfl⟩ : ∃ v1, v0 = some v1 := by
        cases v0 with
        | none => exact hsl.elim
        | some v1 => exact ⟨v1, rfl⟩
      obtain ⟨p1, rfl⟩ : ∃ p1, p0 = some p1 := by
        cases p0 with
        | none => exact hsl.elim
        | some p1 => exact ⟨p1, rfl⟩
      obtain ⟨rfl, vs0, hp0, hr0, hlim⟩ := hsl
      rw [hK]
      refine ⟨_, hσ, p1, rfl, .inl ⟨⟨vs0, .inl (.inl hp0)⟩, fun q0 hD => ?_⟩⟩
      obtain ⟨ow1, eow⟩ : ∃ ow1, ow1 = ow := ⟨_, rfl⟩
      obtain ⟨H1, eH⟩ : ∃ H1, H1 = H := ⟨_, rfl⟩
      obtain ⟨s1, es⟩ : ∃ s1, s1 = s := ⟨_, rfl⟩
      rw [← eow, ← eH, ← es] at R
      rw [← eow, ← eH, ← es] at wq
      rw [← eH] at hD hp0
      rw [← es] at hs hpl
      rw [← eow] at ho
      rw [← eH]
      clear hr0 eow eH es
      have R1 := R
      have wq1 := wq
      clear wq
      generalize hB' : addB B q0 = B'
      have R2 : SR C B' ow1 s1 σ (upd H1 q0 (.lst [])) := by rw [← hB']; exact R1.newB hD rfl
      have BD : B' q0 = true := by rw [← hB']; exact addB_iff.mpr (.inr rfl)
      have BDf : B q0 = false := R1.freeB hD
      have hBle : ∀ b, B b = true → B' b = true := fun b h => by rw [← hB']; exact addB_iff.mpr (.inl h)
      have Dtw : q0 ≠ C.tw := fun z => by rw [z, R1.twB] at BDf; cases BDf
      have Drs : q0 ≠ C.rs := fun z => by rw [z, R1.rsB] at BDf; cases BDf
      have le2 : Sm' (hid B ow1 H1) (hid B' ow1 (upd H1 q0 (.lst []))) := by rw [← hB']; exact R1.newLe hD
      let f : D → S → Out (Option D) := fun d s2 => (lcF Φ gc e p c d s2).bind fun o s4 => if keepL i0 xs s4 then .ok o s4 else .bad
      let gw : S → S := fun s2 => { s2 with ρ := wipeS s2.ρ w }
      let fin : List D → S → Out D := fun ys s5 => .ok (.lst ys) { s5 with ρ := backS s5.ρ s1.ρ w }
      have wq2 : wpE C E B ow1 H1 σ ((lcL f gw xs [] s1).bind fin) Q := wq1
      clear wq1
      -- the word
      let Pv : Nat → Hp → Prop := fun i H => i ≤ xs.length ∧ ∃ (s : S) (ow : Ow) (σ' : St) (acc : List V) (ds : List D), SR C B' ow s σ' H ∧ s.ρ[i0]? = some (.lst xs) ∧ OffSame w σ σ' ∧ Sm' (hid B' ow1 (upd H1 q0 (.lst []))) (hid B' ow H) ∧
        (∀ b o, B b = true → b ≠ C.tw → b ≠ C.rs → H1 b = some o → nt o = true → H b = some o) ∧ H q0 = some (.lst acc) ∧ RepA C (hid B' ow H) acc ds ∧ ds.length ≤ i ∧ wpE C E B ow1 H1 σ ((lcL f gw (xs.drop i) ds s).bind fin) Q
      let n := xs.length
      have walk : L2.Walk (Itl C.K p1) n (fun H => ∃ vs, H p1 = some (.lst vs) ∧ vs.length = n) (fun i H x H' => (Itl C.K p1).yld i H x H') := ⟨fun i H hi ⟨vs, h, l⟩ => ⟨vs, vs[i]'(by omega), .inl (.inl h), List.getElem?_eq_getElem (by omega)⟩, fun H ⟨vs, h, l⟩ => ⟨vs, .inl (.inl h), by omega⟩, fun i H x H' _ _ y => y⟩
      have hσ' : ∀ σ', OffSame w σ σ' → σ'[i0]? = some (some (.ref p1)) := fun σ' o => by rw [o.2 i0 hwi]; exact hσ
      refine L2.lc_it walk Pv ?_ ?_ ?_ ?_
      · refine ⟨Nat.zero_le _, s1, ow1, σ, [], [], R2, hs, OffSame.refl, Sm'.refl _, fun b o hb _ _ h n => ?_, upd_same, .nil, Nat.le_refl _, wq2⟩
        rw [upd_ne (ne_of_none h hD)]; exact h
      · rintro i H hi ⟨_, s, ow, σ', acc, ds, R', hk, o', fr, _⟩
        obtain ⟨vs, h1, h2⟩ := R'.owned hk (hσ' σ' o')
        exact ⟨vs, h1, h2.length⟩
      · rintro i x H H' hi ⟨_, s, ow, σ', acc, ds, R', hk, o', fr, hd, hacc, ra, hlen, wk⟩ y
        have ex : xs[i]? = some xs[i] := List.getElem?_eq_getElem hi
        rw [List.drop_eq_getElem_cons hi] at wk
        obtain ⟨Rw, stw⟩ := R'.wipe w
        have ew : L2.wipe σ' w = L2.wipe σ w := o'.wipe
        rw [ew] at Rw
        have hkw : (gw s).ρ[i0]? = some (.lst xs) := by
          show (wipeS s.ρ w)[i0]? = _
          rw [wipeS, setW_out hwi]
          exact hk
        have hσw : (L2.wipe σ w)[i0]? = some (some (.ref p1)) := by rw [wipe_out hwi]; exact hσ
        obtain ⟨vs, v1, v2⟩ := Rw.owned hkw hσw
        obtain ⟨eH', y⟩ := y
        have eH2 := eH'.symm
        clear eH'
        subst eH2
        obtain ⟨dx, hdx, rx⟩ := v2.getV (y vs (.inl (.inl v1)))
        rw [ex] at hdx
        cases hdx
        have R3 := Rw
        have st3 : Stp C B' (wipeO ow w) H (wipeO ow w) H := Stp.refl
        have wk' : wpE C E B ow1 H1 σ (((f xs[i] (gw s)).bind fun o s1 => match o with
          | some d => lcL f gw (xs.drop (i + 1)) (ds ++ [d]) s1
          | none => lcL f gw (xs.drop (i + 1)) ds s1).bind fin) Q := wk
        clear wk
        have ef : f xs[i] (gw s) = Out.bind (match bindP p [xs[i]] (gw s).ρ with
          | none => (Out.bad : Out (Option D))
          | some ρ => Out.quiet ((evT Φ gc c { (gw s) with ρ := ρ }).bind fun k s3 => if k then (ev Φ gc e s3).bind fun r s4 => .ok (some r) s4 else .ok none s3)) fun o s4 => if keepL i0 xs s4 then .ok o s4 else .bad := rfl
        rw [ef] at wk'
        cases hb : bindP p [xs[i]] (gw s).ρ with
        | none => rw [hb] at wk'; exact wk'.elim
        | some ρ' =>
          rw [hb] at wk'
          simp only at wk'
          refine ⟨B', wipeO ow w, gw s, xs[i], ρ', R3, rx, hb, fun ow4 σ4 R4 st4 o4 => ?_⟩
          have o4w : OffSame w (L2.wipe σ w) σ4 := o4.mono hw
          have offw : OffSame w σ (L2.wipe σ w) := by
            refine ⟨wipe_length _ _, fun j hj => ?_⟩
            exact wipe_out hj
          refine ⟨by rw [o4w.wipe, offw.wipe], B', ow4, _, R4, ?_⟩
          cases hc : evT Φ gc c { (gw s) with ρ := ρ' } with
          | exc cc τ => rw [hc] at wk'; exact wk'.elim
          | bad => rw [hc] at wk'; exact wk'.elim
          | ok kk s5 =>
            rw [hc] at wk'
            intro ow5 H5 R5 st5
            have sta : Stp C B' (wipeO ow w) H ow5 H5 := st3.trans (st4.trans st5)
            have st0 : Stp C B' ow H ow5 H5 := stw.trans sta
            have hd5 : ∀ b o, B b = true → b ≠ C.tw → b ≠ C.rs → H1 b = some o → nt o = true → H5 b = some o := fun b o h1 h2 h3 h4 h5 => st0.hd b o (hBle b h1) h2 h3 (hd b o h1 h2 h3 h4 h5) h5
            have acc5 : H5 q0 = some (.lst acc) := st0.hd q0 _ BD Dtw Drs hacc rfl
            cases kk with
            | false =>
              simp only [Bool.false_eq_true, if_false]
              simp only [Out.bind, Bool.false_eq_true, if_false, Out.quiet] at wk'
              cases hkp : keepL i0 xs s5 with
              | false => rw [hkp] at wk'; exact wk'.elim
              | true =>
              rw [hkp] at wk'
              exact ⟨hi, s5, ow5, σ4, acc, ds, R5, keepL_eq hkp, offw.trans o4w, fr.trans st0.fr, hd5, acc5, ra.mono st0.fr, Nat.le_succ_of_le hlen, wk'⟩
            | true =>
              simp only [if_true]
              refine ⟨B', ow5, s5, R5, ?_⟩
              cases he : ev Φ gc e s5 with
              | exc cc τ =>
                simp only [Out.bind, if_true, he, Out.quiet] at wk'
                exact wk'.elim
              | bad =>
                simp only [Out.bind, if_true, he, Out.quiet] at wk'
                exact wk'.elim
              | ok r s6 =>
                simp only [Out.bind, if_true, he, Out.quiet] at wk'
                cases hkp : keepL i0 xs s6 with
                | false => rw [hkp] at wk'; exact wk'.elim
                | true =>
                rw [hkp] at wk'
                intro ow6 v H6 R6 st6 rr
                have st06 : Stp C B' ow H ow6 H6 := st0.trans st6
                have acc6 : H6 q0 = some (.lst acc) := st06.hd q0 _ BD Dtw Drs hacc rfl
                have ll : acc.length = ds.length := ra.length
                obtain ⟨R7, le7⟩ := R6.wrB (o := .lst (acc ++ [v])) BD Dtw Drs (fun u hu => by rw [acc6] at hu; cases hu; exact .inl ⟨_, rfl⟩) rfl
                refine ⟨acc, acc6, ?_, hi, s6, ow6, σ4, acc ++ [v], ds ++ [r], R7, keepL_eq hkp, offw.trans o4w, (fr.trans st06.fr).trans le7, fun b o h1 h2 h3 h4 h5 => ?_, upd_same, (ra.mono (st06.fr.trans le7)).app (.cons (rr.mono le7) .nil), by simp; omega, wk'⟩
                · rw [ll, ← LIM_eq]; omega
                · rw [upd_ne (fun z => by subst z; rw [BDf] at h1; cases h1)]
                  exact st6.hd b o (hBle b h1) h2 h3 (hd5 b o h1 h2 h3 h4 h5) h5
      · rintro H ⟨_, s, ow, σ', acc, ds, R', hk, o', fr, hd, hacc, ra, hlen, wk⟩
        have e0 : xs.drop n = [] := List.drop_length
        rw [e0] at wk
        have wk' : wpE C E B ow1 H1 σ (.ok (.lst ds) { s with ρ := backS s.ρ s1.ρ w }) Q := wk
        have R5 : SR C B ow s σ' H := by rw [← hB'] at R'; exact R'.unB R1.twB R1.rsB
        have leB : Sm' (hid B' ow H) (hid B ow H) := by rw [← hB']; exact hid_unB
        have frB : Sm' (hid B ow1 H1) (hid B ow H) := (le2.trans fr).trans leB
        have leo : Sm' (hid B ow H) (hid B (wipeO ow w) H) := hid_ow_le (fun b q => .inl q) (fun p q => .inl (mem_wipeO q)) (Sm'.refl _)
        have pn : some q0 ∉ ow := by rw [← hB'] at R'; exact R'.pNow
        refine wk' (wipeO ow w) (.ref q0) H (R1.back R5 o' frB hpl) ⟨frB.trans leo, hd⟩ (.lst (hid_some.mpr ⟨BDf, fun z => pn (mem_wipeO z), shw_of hacc rfl (R'.noMarkB BD)⟩) (ra.mono (leB.trans leo)) (Nat.le_trans hlen hlim))
end
end Mn

set_option Elab.async false
set_option linter.all false
set_option maxRecDepth 100000
set_option maxHeartbeats 1000000
/-! Mn: t[::-1] of a tuple. -/
namespace Mn
open PySem PySem.Spec PyProof.Rows L2 PySem.W
section
variable {prog : Program} {w : World} {A : Around} {E : Value → Shared → Prop} {s : Shared}
theorem adjust_rev (n : Nat) : Builtin.Slice.sliceAdjust none none (-1) (n : Int) = ((n : Int) - 1, -1) := rfl
theorem places_rev (n : Nat) : Builtin.Slice.slicePlaces ((n : Int) - 1) (-1) (-1) = n := by
  unfold Builtin.Slice.slicePlaces
  have h1 : ¬ ((-1 : Int) > 0) := by omega
  rw [if_neg h1]
  by_cases h : (n : Int) - 1 > -1
  · rw [if_pos h, show (- -1 : Int) = 1 by decide, Int.ediv_one]; omega
  · rw [if_neg h]; omega
theorem sliceApplied_rev {sl : Addr} {vk : Value} {n : Nat} {Q : Int × Int × Nat → Shared → Prop} (hs : s.heap.IsSliceOf sl .none .none vk) (pk : IsPart vk (some (-1)))
    (h : Q ((n : Int) - 1, -1, n) s) : wpAny (model prog w) A (Builtin.Slice.sliceApplied (.ref sl) (pure (n : Int))) Q E s := by
  obtain ⟨os, hos, hcs, hds⟩ := id hs
  unfold Builtin.Slice.sliceApplied Builtin.Slice.sliceFields
  refine wpAny_bind (wpAny_bind (wpAny_field hos hds (x := .none) rfl (wpAny_bind (wpAny_field hos hds (x := .none) rfl (wpAny_bind (wpAny_field hos hds (x := vk) rfl (wpAny_pure ?_)))))))
  refine wpAny_bind (HT.slicePart_ pk ?_)
  show wpAny _ _ (if ((-1 : Int) == 0) = true then _ else _) _ _ s
  rw [if_neg (by decide)]
  refine wpAny_bind (HT.slicePart_ .none (wpAny_bind (HT.slicePart_ .none (wpAny_bind (wpAny_pure ?_)))))
  show wpAny _ _ (match Builtin.Slice.sliceAdjust none none (-1) (n : Int) with | (lo, hi) => pure (lo, (-1 : Int), Builtin.Slice.slicePlaces lo hi (-1))) _ _ s
  rw [adjust_rev]
  show wpAny _ _ (pure ((n : Int) - 1, (-1 : Int), Builtin.Slice.slicePlaces ((n : Int) - 1) (-1) (-1))) _ _ s
  rw [places_rev]
  exact wpAny_pure h
theorem pick_rev (xs : Array Value) : ((List.range xs.size).filterMap fun (m : Nat) => xs[(((xs.size : Int) - 1) + (m : Int) * (-1)).toNat]?).toArray = xs.toList.reverse.toArray := by
  have e : (List.range xs.size).filterMap (fun (m : Nat) => xs[(((xs.size : Int) - 1) + (m : Int) * (-1)).toNat]?) = ((List.range xs.size).map fun k => xs.size - 1 - k).filterMap (xs[·]?) := by
    rw [List.filterMap_map]
    have go : ∀ l : List Nat, (∀ m ∈ l, m < xs.size) → l.filterMap (fun (m : Nat) => xs[(((xs.size : Int) - 1) + (m : Int) * (-1)).toNat]?) = l.filterMap ((fun x => xs[x]?) ∘ fun k => xs.size - 1 - k) := by
      intro l
      induction l with
      | nil => intro _; rfl
      | cons m l ih =>
        intro h
        have h1 := h m (by simp)
        have e2 : (((xs.size : Int) - 1) + (m : Int) * (-1)).toNat = xs.size - 1 - m := by omega
        rw [List.filterMap_cons, List.filterMap_cons, ih fun x hx => h x (by simp [hx]), e2]
        rfl
    exact go _ fun m hm => List.mem_range.mp hm
  rw [e, krv_range, List.filterMap_reverse, krv_all]
theorem getItem_tuple_rev {t sl : Addr} {items : Array Value} {vk : Value} {Q : Value → Shared → Prop} (ht : IsTup s.heap t items) (hs : s.heap.IsSliceOf sl .none .none vk) (pk : IsPart vk (some (-1)))
    (h : Q (.ref s.heap.objs.size) { s with heap := s.heap.push { cls := .type "tuple", data := .seq items.toList.reverse.toArray } })
    (hsz : items.size ≤ sizeLine) : wpAny (model prog w) A (getItem (.ref t) (.ref sl)) Q E s := by
  have htake : sizeOk (.seq items.toList.reverse.toArray) := by
    show items.toList.reverse.toArray.size ≤ sizeLine
    simpa using hsz
  obtain ⟨os, hos, hcs, hds⟩ := id hs
  have hTs : s.TypeIs (.ref sl) "slice" := ⟨os, hos, hcs⟩
  unfold getItem
  try with_reducible refine wpAny_holding ?_
  first | refine wpAny_bind (wpAny_pure ?_) | skip
  refine wpAny_bind (wpAny_sequenceKey ht.typeIs (by decide) ?_)
  refine wpAny_bind (wpAny_callSpecial?_slot (name := Str.ofString "__getitem__") ht.typeIs PyProof.Rows.slot_tuple_getitem
    (wpAny_call_entry PyProof.Rows.slot_tuple_getitem ht.typeIs entry_tuple_getitem ?_ (args_tuple_getitem _ _)))
  show wpAny _ _ (Builtin.Tuple.tupleItemsOf (.ref t) >>= _) _ _ s
  refine wpAny_bind (tupleItemsOf_ ht ?_)
  refine wpAny_bind (wpAny_typeOf hTs ?_)
  rw [if_pos (by decide)]
  refine wpAny_bind (sliceApplied_rev hs pk ?_)
  have hno : ¬ ((((items.size : Int) - 1) == 0 && (-1 : Int) == 1 && items.size == items.size) = true) := by
    intro q
    rw [Bool.and_eq_true, Bool.and_eq_true] at q
    exact absurd q.1.2 (by decide)
  show wpAny _ _ (if (((items.size : Int) - 1) == 0 && (-1 : Int) == 1 && items.size == items.size) = true then _ else _) _ _ s
  rw [if_neg hno, pick_rev]
  first
    | exact wpAny_bind (m := Builtin.Tuple.tupleExact _) (wpAny_newObj_type (wpAny_pure ⟨_, rfl, wpAny_pure h⟩) htake)
    | exact wpAny_bind (m := Builtin.Tuple.tupleExact _) (wpAny_newObj_type (wpAny_bind (wpAny_pure (wpAny_pure ⟨_, rfl, wpAny_pure h⟩))) htake)
    | exact wpAny_bind (wpAny_bind (m := Builtin.Tuple.tupleExact _) (wpAny_newObj_type (wpAny_pure (wpAny_pure ⟨_, rfl, wpAny_pure h⟩)) htake))
    | exact wpAny_bind (wpAny_bind (m := Builtin.Tuple.tupleExact _) (wpAny_newObj_type (wpAny_pure ⟨_, rfl, wpAny_pure h⟩) htake))
end
section
variable {X : Cx} {e : Expr} {te : TE} {pos p2 : Pos}
/-- t[::-1] -/
def tRevT (K : PySem.W.Frag) (te tk : TE) : TE := fun σ H Q => te σ H fun x H1 => tk σ H1 fun y H2 => ∃ a xs, x = .ref a ∧ y = .int (-1) ∧ SqT K H2 a xs ∧ ∀ p, H2 p = none → Q (.ref p) (upd H2 p (.tup xs.reverse))
theorem pe_revT {k : Expr} {tk : TE} (he : PE X e te) (hk : PE X k tk) : PE X (.Subscript e (.Slice none none (some k) p2) pos) (tRevT X.K te tk) := by
  refine ⟨fun pins s σ H Q I h => ?_⟩
  refine Subscript_ (thn (he.run pins s σ H _ I h) fun v s1 ⟨x, H1, I1, r1, q1⟩ => ?_)
  refine wpAny_Slice ?_
  rw [evalPart_none]
  refine wpAny_pure ?_
  refine wpAny_pure ?_
  rw [evalPart_some]
  refine thn (hk.run pins s1 σ H1 _ I1 q1) fun vk s2 ⟨y, H2, I2, ry, q2⟩ => ?_
  obtain ⟨a, xs, rfl, rfl, hq, q⟩ := q2
  cases r1
  obtain ⟨t, rfl⟩ := ry
  have I4 : Inv X pins σ H2 { s2 with heap := s2.heap.push { cls := .type "slice", data := .fields #[.none, .none, .int (-1) t] } } := I2.kept (t' := s2.toks) fun b ob q => Heap.get?_push_of_some _ q
  obtain ⟨its, r, ht, hz⟩ := I4.tuple hq
  show wpAny (model X.prog X.w) X.A (subscriptTail e (.Slice none none (some k) p2) (.ref a) (.ref s2.heap.objs.size)) (EP X pins σ Q) X.xe { s2 with heap := s2.heap.push { cls := .type "slice", data := .fields #[.none, .none, .int (-1) t] } }
  refine tail_any (ops := [.ref a, .ref s2.heap.objs.size]) ht.typeIs PyProof.Rows.slot_tuple_getitem.lookup ?_ (by with_unfolding_all rfl)
  have hlen : its.toArray.size = xs.length := by rw [List.size_toArray]; exact r.length.symm
  refine getItem_tuple_rev (vk := .int (-1) t) ht (Heap.IsSliceOf.new ..) (.int _ _) ?_ (by rw [hlen]; exact hz)
  refine ⟨.ref (s2.heap.push { cls := .type "slice", data := .fields #[.none, .none, .int (-1) t] }).objs.size, _, I4.laid (t' := s2.toks) (o := .tup xs.reverse) (fun b ob q => Heap.get?_push_of_some _ q) (Nat.le_refl _) ?_, rfl, q _ (I4.hok.fresh (Nat.le_refl _))⟩
  have rr : Vals xs.reverse its.reverse := by
    clear q hq hz hlen ht
    induction r with
    | nil => exact .nil
    | cons r1 r2 ih => rw [List.reverse_cons, List.reverse_cons]; exact ih.append (.cons r1 .nil)
  exact ⟨by rw [List.length_reverse]; exact hz, _, rr, IsTup.new _ _⟩
end
section
variable {Φ : Nat → Fn} {gc : Nat → D} {C : Cf} {E : XK} {X : Cx} {k : Nat}
theorem RepA.append {G : Hp} : ∀ {vs us : List V} {ds es : List D}, RepA C G vs ds → RepA C G us es → RepA C G (vs ++ us) (ds ++ es) := fun a b => a.app b
theorem RepA.reverse {G : Hp} : ∀ {vs : List V} {ds : List D}, RepA C G vs ds → RepA C G vs.reverse ds.reverse
  | _, _, .nil => .nil
  | _, _, .cons r t => by
    rw [List.reverse_cons, List.reverse_cons]
    exact (RepA.reverse t).app (.cons r .nil)
theorem sd_rev {a : Ex} {e : Expr} {ta : TE} {kk : Nat} {p1 p2 p3 pos : Pos} (g : Gd C E X k) (ha : Sd Φ gc C E X a e ta) : ∃ t, Sd Φ gc C E X (.prm .rev a) (.Subscript e (.Slice none none (some (.UnaryOp .USub (.Constant (.int 1) kk p1) p2)) p3) pos) t := by
  have hk : PE X (.UnaryOp .USub (.Constant (.int 1) kk p1) p2) (tC (.int (-1))) := ⟨fun pins s σ H Q I h => (pe_un un_neg pe_int).run pins s σ H Q I ⟨1, rfl, h⟩⟩
  refine ⟨_, pe_revT ha.pe hk, fun B ow s σ H Q R w => ?_, fun z => by cases z⟩
  unfold ev at w
  show ta σ H fun x H1 => ∃ a xs, x = .ref a ∧ V.int (-1) = .int (-1) ∧ SqT X.K H1 a xs ∧ ∀ p, H1 p = none → Q (.ref p) (upd H1 p (.tup xs.reverse))
  refine bindB ha R w fun x s1 ow1 v H1 R1 st r1 w1 => ?_
  cases x with
  | tup ds =>
    obtain ⟨a, vs, rfl, h1, h2, _⟩ := r1.tuple
    refine ⟨a, vs, rfl, rfl, by rw [g.hK]; exact h1, fun p hp => ?_⟩
    exact wpE.giveNew w1 R1 hp (Rep.tupNew R1 hp (RepA.reverse h2) (by rw [List.length_reverse]; exact r1.lenT))
  | _ => exact w1.elim
end
end Mn

set_option Elab.async false
set_option linter.all false
set_option maxRecDepth 100000
set_option maxHeartbeats 1000000
/-! sets whose members are tuples of ints and of such tuples -/
namespace Mn
open PySem PySem.Spec PyProof.Rows L2
mutual
def numK : NestedKey → Bool
  | .num _ => true
  | .tup ks => numKs ks
  | _ => false
def numKs : List NestedKey → Bool
  | [] => true
  | k :: ks => numK k && numKs ks
end
section
variable {P : Program} {w : World}
abbrev Calm (P : Program) (w : World) (s : Shared) (m : Sem Bool) (b : Bool) : Prop := ∀ (A : Around) (E : Value → Shared → Prop) (Q : Bool → Shared → Prop), Q b s → wpAny (model P w) A m Q E s
theorem calm_pure {s : Shared} {b : Bool} : Calm P w s (pure b) b := fun _ _ _ h => wpAny_pure h
/-- asking all items of a tuple, none of which says yes -/
theorem calm_none {s : Shared} {A : Around} {E : Value → Shared → Prop} {Q : Bool → Shared → Prop} {f : Value → Sem Bool} {vs : List Value} (hv : ∀ v ∈ vs, Calm P w s (f v) false) (h : Q false s) :
    wpAny (model P w) A (do
      let r ← forIn vs (none, PUnit.unit) fun y _ => do
        let b ← f y
        if b = true then pure (ForInStep.done (some true, PUnit.unit)) else pure (ForInStep.yield (none, PUnit.unit))
      match r.1 with
      | none => pure false
      | some a => pure a : Sem Bool) Q E s := by
  refine wpAny_bind (wpAny_forIn_list _ (fun rest r s' => r.1 = none ∧ s' = s ∧ ∀ v ∈ rest, v ∈ vs) _ ?_ ?_ _ _ ⟨rfl, rfl, fun _ q => q⟩)
  · rintro v rest r s' ⟨hr, rfl, sub⟩
    exact wpAny_bind (hv v (sub v List.mem_cons_self) _ _ _ (wpAny_pure ⟨rfl, rfl, fun u q => sub u (List.mem_cons_of_mem _ q)⟩))
  · rintro ⟨r1, r2⟩ s' ⟨hr, rfl, _⟩
    cases hr
    exact wpAny_pure h
end
mutual
theorem nk_class {P : Program} {w : World} : ∀ (k : NestedKey) (v : Value) (n : Nat) (s : Shared), NestedIs s.heap k v → k.depth ≤ n → Calm P w s (ofAClassStatement n v) false
  | .none, _, n, s, x, _ => by cases x; cases n <;> exact calm_pure
  | .num i, _, n, s, x, _ => by cases x <;> cases n <;> exact calm_pure
  | .text y, _, n, s, x, _ => by cases x; cases n <;> exact calm_pure
  | .tup ks, _, n, s, x, hn => by
    cases x with
    | @tup a o vs m _ hg hc hd hk =>
      simp only [NestedKey.depth] at hn
      cases n with
      | zero => omega
      | succ n =>
        have ih := nks_class (P := P) (w := w) ks vs.toList n s hk (by omega)
        intro A E Q h
        unfold ofAClassStatement
        refine wpAny_bind (wpAny_typeOf (T := "tuple") ⟨o, hg, hc⟩ ?_)
        dsimp only
        have e : (("tuple" : String) == "tuple") = true := rfl
        simp only [e, if_true, Bool.not_true, Bool.false_eq_true, if_false]
        try refine wpAny_bind (wpAny_pure ?_)
        try simp only [Bool.not_true, Bool.false_eq_true, if_false]
        refine wpAny_bind (wpAny_seqItems hg hd ?_)
        dsimp only
        refine wpAny_bind ?_
        rw [← Array.forIn_toList]
        refine wpAny_forIn_list _ (fun rest r s' => r.1 = none ∧ s' = s ∧ ∀ v ∈ rest, v ∈ vs.toList) _ ?_ ?_ _ _ ⟨rfl, rfl, fun _ q => q⟩
        · rintro v rest r s' ⟨hr, rfl, sub⟩
          refine wpAny_bind (ih v (sub v List.mem_cons_self) _ _ _ ?_)
          simp only [Bool.false_eq_true, if_false]
          exact wpAny_pure ⟨rfl, rfl, fun u q => sub u (List.mem_cons_of_mem _ q)⟩
        · rintro ⟨r1, r2⟩ s' ⟨hr, rfl, _⟩
          cases hr
          exact wpAny_pure h
theorem nks_class {P : Program} {w : World} : ∀ (ks : List NestedKey) (vs : List Value) (n : Nat) (s : Shared), NestedAll s.heap ks vs → NestedKey.depthAll ks ≤ n → ∀ v ∈ vs, Calm P w s (ofAClassStatement n v) false
  | [], _, n, s, x, _, v, hv => by cases x; cases hv
  | k :: ks, _, n, s, x, hn, v, hv => by
    cases x with
    | cons x1 x2 =>
      simp only [NestedKey.depthAll] at hn
      rcases List.mem_cons.mp hv with e | hv
      · rw [e]; exact nk_class k _ n s x1 (by omega)
      · exact nks_class ks _ n s x2 (by omega) v hv
end
mutual
theorem nk_hashBy {P : Program} {w : World} : ∀ (k : NestedKey) (v : Value) (n : Nat) (s : Shared), NestedIs s.heap k v → k.depth ≤ n → numK k = true → Calm P w s (hashByValue n v) true
  | .none, _, n, s, x, _, z => by cases z
  | .num i, _, n, s, x, _, _ => by cases x <;> cases n <;> exact calm_pure
  | .text y, _, n, s, x, _, z => by cases z
  | .tup ks, _, n, s, x, hn, z => by
    cases x with
    | @tup a o vs m _ hg hc hd hk =>
      simp only [NestedKey.depth] at hn
      cases n with
      | zero => omega
      | succ n =>
        have ih := nks_hashBy (P := P) (w := w) ks vs.toList n s hk (by omega) (by simpa [numK] using z)
        intro A E Q h
        unfold hashByValue
        refine wpAny_bind (wpAny_specialOf (T := "tuple") ⟨o, hg, hc⟩ F.slot_tuple_hash.lookup ?_)
        show wpAny _ _ (seqItems? (.ref a) >>= _) _ _ s
        refine wpAny_bind (wpAny_seqItems hg hd ?_)
        refine wpAny_bind ?_
        show wpAny _ _ (forIn vs _ _) _ _ s
        rw [← Array.forIn_toList]
        refine wpAny_forIn_list _ (fun rest r s' => r.1 = none ∧ s' = s ∧ ∀ v ∈ rest, v ∈ vs.toList) _ ?_ ?_ _ _ ⟨rfl, rfl, fun _ q => q⟩
        · rintro v rest r s' ⟨hr, rfl, sub⟩
          refine wpAny_bind (ih v (sub v List.mem_cons_self) _ _ _ ?_)
          simp only [Bool.not_true, Bool.false_eq_true, if_false]
          exact wpAny_pure ⟨rfl, rfl, fun u q => sub u (List.mem_cons_of_mem _ q)⟩
        · rintro ⟨r1, r2⟩ s' ⟨hr, rfl, _⟩
          cases hr
          exact wpAny_pure h
theorem nks_hashBy {P : Program} {w : World} : ∀ (ks : List NestedKey) (vs : List Value) (n : Nat) (s : Shared), NestedAll s.heap ks vs → NestedKey.depthAll ks ≤ n → numKs ks = true → ∀ v ∈ vs, Calm P w s (hashByValue n v) true
  | [], _, n, s, x, _, _, v, hv => by cases x; cases hv
  | k :: ks, _, n, s, x, hn, z, v, hv => by
    cases x with
    | cons x1 x2 =>
      simp only [NestedKey.depthAll] at hn
      simp only [numKs, Bool.and_eq_true] at z
      rcases List.mem_cons.mp hv with e | hv
      · rw [e]; exact nk_hashBy k _ n s x1 (by omega) z.1
      · exact nks_hashBy ks _ n s x2 (by omega) z.2 v hv
end
section
variable {P : Program} {w : World} {A : Around} {E : Value → Shared → Prop} {s : Shared}
/-- the tuple at b is the key k -/
abbrev Kat (P : Program) (w : World) (h : Heap) (k : NestedKey) (b : Addr) : Prop := (nestedKind P w).is h k b
/-- a search among such tuples shows nothing of the table -/
theorem nk_seen {k : NestedKey} {b : Addr} {Q : Bool → Shared → Prop} (hk : Kat P w s.heap k b) {ys : List Value} (hy : ∀ y ∈ ys, ∃ k' c, y = Value.ref c ∧ Kat P w s.heap k' c) (h : Q false s) :
    wpAny (model P w) A (searchCouldBeSeen (.ref b) ys) Q E s := by
  unfold searchCouldBeSeen
  refine wpAny_bind (wpAny_forIn_list _ (fun rest r s' => r.1 = none ∧ s' = s ∧ ∀ y ∈ rest, y ∈ ys) _ ?_ ?_ _ _ ⟨rfl, rfl, fun _ q => q⟩)
  · rintro v rest r s' ⟨hr, rfl, sub⟩
    have rest' : ∀ y ∈ rest, y ∈ ys := fun u q => sub u (List.mem_cons_of_mem _ q)
    obtain ⟨k', c, rfl, hc⟩ := hy v (sub v List.mem_cons_self)
    dsimp only
    by_cases hv : (b == c || (carriedByValue (.ref b) && carriedByValue (.ref c))) = true
    · exact wp_if_pos hv (wpAny_pure ⟨rfl, rfl, rest'⟩)
    · refine wp_if_neg hv (wpAny_bind ((nestedKind P w).quiet hk ?_))
      simp only [Bool.not_true, Bool.false_eq_true, if_false]
      refine wpAny_bind ((nestedKind P w).quiet hc ?_)
      simp only [Bool.not_true, Bool.false_eq_true, if_false]
      refine wpAny_bind (nk_class k _ 8 _ hk.1 hk.2 _ _ _ ?_)
      simp only [Bool.false_eq_true, if_false]
      refine wpAny_bind (nk_class k' _ 8 _ hc.1 hc.2 _ _ _ ?_)
      simp only [Bool.false_eq_true, if_false]
      exact wpAny_pure ⟨rfl, rfl, rest'⟩
  · rintro ⟨r1, r2⟩ s' ⟨hr, rfl, _⟩
    cases hr
    exact wpAny_pure h
end
end Mn

set_option Elab.async false
set_option linter.all false
set_option maxRecDepth 100000
set_option maxHeartbeats 1000000
namespace Mn
open PySem PySem.Spec PyProof.Rows L2
abbrev KA := NestedKey × Addr
def rowN (w : World) (p : KA) : Int × Value := (p.1.hash w, Value.ref p.2)
abbrev hsN (w : World) (L : List KA) : List Int := L.map fun p => p.1.hash w
/-- at a stands a set of the tuples L, few of them -/
structure NSet (P : Program) (w : World) (h : Heap) (a : Addr) (L : List KA) (es : Array (Int × Value)) (ep : Nat) (t : SetTable) : Prop where
  obj : ∃ o, h.get? a = some o ∧ o.ExactSet ∧ o.data = .set es ep t
  row : es.toList = L.map (rowN w)
  tab : TabOk t (hsN w L)
  nod : (L.map (·.1)).Nodup
  key : ∀ p ∈ L, Kat P w h p.1 p.2
  pla : t.plain = true
  led : w.params.followText "set-order" = true ∨ t.led = true
  roo : L.length * 5 < t.mask * 3
  few : L.length < 19
section
variable {P : Program} {w : World} {A : Around} {E : Value → Shared → Prop} {s : Shared} {a : Addr} {L : List KA} {es : Array (Int × Value)} {ep : Nat} {t : SetTable}
theorem rowN_len {L : List KA} {es : Array (Int × Value)} (h : es.toList = L.map (rowN w)) : es.size = L.length := by
  have := congrArg List.length h
  simpa using this
theorem rowN_at {L : List KA} {es : Array (Int × Value)} (h : es.toList = L.map (rowN w)) {i : Nat} {p : KA} (hp : L[i]? = some p) : es[i]? = some (rowN w p) := by
  have : es.toList[i]? = some (rowN w p) := by rw [h, List.getElem?_map, hp]; rfl
  simpa using this
theorem fits_of {n : Nat} (h1 : t.place.size = n) (h2 : t.dummies = #[]) (h3 : n ≤ t.mask) : t.fits n = true := by
  unfold SetTable.fits SetTable.fill
  rw [h2, Bool.and_eq_true, beq_iff_eq, decide_eq_true_eq]
  refine ⟨h1, ?_⟩
  show t.place.size + 0 ≤ t.mask
  omega
theorem NSet.len (R : NSet P w s.heap a L es ep t) : es.size = L.length := rowN_len R.row
theorem NSet.plc (R : NSet P w s.heap a L es ep t) : t.place.size = L.length := by
  have := R.tab.sz
  simpa using this
theorem NSet.fit (R : NSet P w s.heap a L es ep t) : t.fits es.size = true := by
  have := R.roo
  exact fits_of (R.plc.trans R.len.symm) R.tab.dm (by rw [R.len]; omega)
theorem probe_plain {m : Nat} : ∀ (n : Nat) (p : SetTable.Probe), p.dummy = none → (nth m p n).dummy = none
  | 0, p, h => h
  | n + 1, p, h => by
    refine probe_plain n (adv m p) ?_
    unfold adv
    split <;> exact h
/-- the search of a key from the c-th step of its way; K is the first empty place -/
theorem nset_from (R : NSet P w s.heap a L es ep t) {x : Addr} {k : NestedKey} (hx : Kat P w s.heap k x) (hu : A.units + 8 < cLine) {K : Nat} (hKf : K < 10 * SetTable.turns t.mask)
    (hK : way t.mask (k.hash w) K ∉ t.place.toList) (hKb : ∀ c, c < K → way t.mask (k.hash w) c ∈ t.place.toList) {Q : SetFound → Shared → Prop}
    (hin : k ∈ L.map (·.1) → Q (.there none) s) (hout : k ∉ L.map (·.1) → Q (.free (way t.mask (k.hash w) K) false) s) {p0 : SetTable.Probe} (hp0 : p0 = runAt t.mask (SetTable.bits (k.hash w) % (t.mask + 1)) (SetTable.bits (k.hash w))) :
    ∀ (f c : Nat) (stand : Option SetTable.Probe), stand.getD (t.probeStart (k.hash w)) = nth t.mask p0 c → c ≤ K → K - c < f →
      (∀ (i : Nat) p, L[i]? = some p → p.1 = k → ∃ c', c ≤ c' ∧ c' < K ∧ t.place.toList[i]? = some (way t.mask (k.hash w) c')) →
      wpAny (model P w) A (setSearchFrom a (.ref x) (k.hash w) true f stand) Q E s := by
  intro f
  have wj : ∀ n, (nth t.mask p0 n).j = way t.mask (k.hash w) n := fun n => by subst hp0; rfl
  induction f with
  | zero => intro c stand _ _ hf; omega
  | succ f ih =>
    intro c stand hst hc hf hre
    obtain ⟨o, ho, hex, hd⟩ := R.obj
    have ng : ¬ t.gaveWay = true := by
      unfold SetTable.gaveWay
      rw [mask_odd R.tab.mok]
      decide
    rw [setSearchFrom_succ]
    refine wpAny_bind (wpAny_setState_of ho hd R.fit ?_)
    dsimp only
    refine wp_if_neg ng ?_
    try refine wpAny_bind (wpAny_pure ?_)
    have shift : ∀ q, nth t.mask (nth t.mask p0 c) q = nth t.mask p0 (c + q) := fun q => (nth_add t.mask c p0 q).symm
    have shj : ∀ q, (nth t.mask (nth t.mask p0 c) q).j = way t.mask (k.hash w) (c + q) := fun q => by rw [shift, wj]
    have hashAt : ∀ (i : Nat) p, L[i]? = some p → (es[i]?.map (·.1)).getD 0 = p.1.hash w := fun i p hp => by rw [rowN_at R.row hp]; rfl
    have spec := go_spec t R.tab.ris R.tab.dm (fun i => (es[i]?.map (·.1)).getD 0) (k.hash w) (10 * SetTable.turns t.mask) (K - c) (nth t.mask p0 c) (probe_plain c p0 (by rw [hp0]; rfl)) (by omega)
      (fun q hq => by rw [shj]; exact hKb (c + q) (by omega)) (by rw [shj, Nat.add_sub_cancel' hc]; exact hK)
    rcases spec with ⟨q, i, hq, hi, hh, hno, hpr⟩ | ⟨hno, hpr⟩
    · rw [shj] at hi
      rw [shj, shift] at hpr
      have met : t.probe (fun i => (es[i]?.map (·.1)).getD 0) (k.hash w) (stand.getD (t.probeStart (k.hash w))) = some (.candidate (way t.mask (k.hash w) (c + q)) i (nth t.mask p0 (c + (q + 1)))) := by
        rw [hst]; exact hpr
      rw [met]
      dsimp only
      have il : i < L.length := by
        have h1 := (List.getElem?_eq_some_iff.mp hi).1
        rw [Array.length_toList, R.plc] at h1
        exact h1
      obtain ⟨p, hp⟩ : ∃ p, L[i]? = some p := ⟨_, List.getElem?_eq_getElem il⟩
      have pm := List.mem_of_getElem? hp
      have slv : t.slot (way t.mask (k.hash w) (c + q)) = .live i := slot_live R.tab.ris hi
      have rest : wpAny (model P w) A (searchRest a (.ref x) (k.hash w) true f es t (way t.mask (k.hash w) (c + q)) i (nth t.mask p0 (c + (q + 1)))) Q E s := by
        unfold searchRest
        rw [rowN_at R.row hp]
        dsimp only [rowN]
        refine wpAny_bind (wpAny_holding ((nestedKind P w).eqBool hu (R.key p pm) hx ?_))
        refine wpAny_bind (wpAny_setState_of ho hd R.fit ?_)
        dsimp only
        by_cases same : p.1 = k
        · exact wp_if_pos (by simp [same]) (wpAny_pure (hin (List.mem_map.mpr ⟨p, pm, same⟩)))
        · refine wp_if_neg (by simp [same]) ?_
          try refine wpAny_bind (wpAny_pure ?_)
          rw [sameMem]
          dsimp only
          simp only [if_true, slv, rowN_at R.row hp, rowN]
          refine wpAny_bind (wpAny_isSame_ref_self (wpAny_bind (wpAny_pure ?_)))
          simp only [if_true]
          refine wp_if_neg (by simp [same]) ?_
          refine ih (c + (q + 1)) (some (nth t.mask p0 (c + (q + 1)))) rfl (by omega) (by omega) fun i0 p1 h0 hk0 => ?_
          obtain ⟨c', a1, a2, a3⟩ := hre i0 p1 h0 hk0
          refine ⟨c', ?_, a2, a3⟩
          rcases Nat.lt_trichotomy c' (c + q) with z | z | z
          · refine absurd ?_ (hno (c' - c) i0 (by omega) (by rw [shj, Nat.add_sub_cancel' a1]; exact a3))
            rw [hashAt i0 p1 h0, hk0]
          · rw [z] at a3
            have s0 := slot_live R.tab.ris a3
            rw [slv] at s0
            injection s0 with s0
            rw [← s0, hp] at h0
            cases h0
            exact absurd hk0 same
          · omega
      by_cases hl : t.led = true
      · refine wp_if_neg (by simp [hl]) ?_
        try refine wpAny_bind (wpAny_pure ?_)
        exact rest
      · refine wp_if_pos (by simp [hl]) (wpAny_bind (nk_seen hx (fun y hy => ?_) ?_))
        · obtain ⟨e, he, rfl⟩ := List.mem_map.mp hy
          have he2 : e ∈ es.toList := by
            have := (by simpa using he : e ∈ es ∧ e.1 = k.hash w).1
            simpa using this
          rw [R.row] at he2
          obtain ⟨p2, hp2, rfl⟩ := List.mem_map.mp he2
          exact ⟨p2.1, p2.2, rfl, R.key p2 hp2⟩
        · refine wp_if_neg (by decide) ?_
          try refine wpAny_bind (wpAny_pure ?_)
          exact rest
    · rw [shj, Nat.add_sub_cancel' hc] at hpr
      have met : t.probe (fun i => (es[i]?.map (·.1)).getD 0) (k.hash w) (stand.getD (t.probeStart (k.hash w))) = some (.empty (way t.mask (k.hash w) K) none) := by
        rw [hst]; exact hpr
      rw [met]
      dsimp only
      refine wpAny_pure (hout fun hm => ?_)
      obtain ⟨p1, h1, hk1⟩ := List.mem_map.mp hm
      obtain ⟨i0, hi0, e0⟩ := List.getElem_of_mem h1
      have h00 : L[i0]? = some p1 := by rw [List.getElem?_eq_getElem hi0, e0]
      obtain ⟨c', a1, a2, a3⟩ := hre i0 p1 h00 hk1
      refine absurd ?_ (hno (c' - c) i0 (by omega) (by rw [shj, Nat.add_sub_cancel' a1]; exact a3))
      rw [hashAt i0 p1 h00, hk1]
theorem nset_search (R : NSet P w s.heap a L es ep t) {x : Addr} {k : NestedKey} (hx : Kat P w s.heap k x) (hu : A.units + 8 < cLine) {Q : SetFound → Shared → Prop} (hin : k ∈ L.map (·.1) → Q (.there none) s)
    (hout : ∀ K, k ∉ L.map (·.1) → way t.mask (k.hash w) K ∉ t.place.toList → (∀ c, c < K → way t.mask (k.hash w) c ∈ t.place.toList) → Q (.free (way t.mask (k.hash w) K) false) s) :
    wpAny (model P w) A (setSearch a (.ref x) (k.hash w) true) Q E s := by
  have ro := R.roo
  obtain ⟨K, hKf, hK, hKb⟩ := R.tab.first (by rw [List.length_map]; omega) (k.hash w)
  have big : K < 100000 := by
    have : 10 * SetTable.turns t.mask ≤ 1420 := by
      unfold SetTable.turns
      rcases R.tab.mok with e | e | e <;> omega
    omega
  unfold setSearch
  refine nset_from R hx hu hKf hK hKb hin (fun hn => hout K hn hK hKb) rfl 100000 0 none rfl (Nat.zero_le _) (by omega) fun i p hp hk => ?_
  have hi : (hsN w L)[i]? = some (k.hash w) := by
    show (L.map fun p => p.1.hash w)[i]? = _
    rw [List.getElem?_map, hp, ← hk]; rfl
  have il : i < t.place.toList.length := by
    have h1 := (List.getElem?_eq_some_iff.mp hp).1
    rw [Array.length_toList, R.plc]
    exact h1
  have hj := List.getElem?_eq_getElem il
  obtain ⟨c, hc, e⟩ := R.tab.before hK hi hj
  exact ⟨c, Nat.zero_le _, hc, by rw [hj, e]⟩
end
end Mn

set_option Elab.async false
set_option linter.all false
set_option maxRecDepth 100000
set_option maxHeartbeats 1000000
namespace Mn
open PySem PySem.Spec PyProof.Rows L2
section
variable {P : Program} {w : World} {A : Around} {E : Value → Shared → Prop} {s : Shared} {a : Addr} {L : List KA} {es : Array (Int × Value)} {ep : Nat} {t : SetTable}
theorem Kat.stay {h h' : Heap} {k : NestedKey} {b : Addr} {o : Obj} (x : Kat P w h k b) (ho : h.get? a = some o) (hd : o.data = .set es ep t) (sb : Heap.SameBut a h h') : Kat P w h' k b :=
  nestedKind_stays.stays (fun c oc vs n e1 e2 => (sb.2 c fun z => by
    subst z
    rw [ho] at e1
    cases e1
    rw [hd] at e2
    cases e2).trans e1) x
theorem Kat.grow {h h' : Heap} {k : NestedKey} {b : Addr} (x : Kat P w h k b) (g : ∀ c o, h.get? c = some o → h'.get? c = some o) : Kat P w h' k b :=
  nestedKind_stays.stays (fun c oc _ _ e1 _ => g c oc e1) x
theorem range_pick {α : Type} (l : List α) : (List.range l.length).filterMap (fun i => l[i]?) = l := by
  have go : ∀ n, n ≤ l.length → (List.range n).filterMap (fun i => l[i]?) = l.take n := by
    intro n
    induction n with
    | zero => intro _; rfl
    | succ n ih =>
      intro hn
      rw [List.range_succ, List.filterMap_append, ih (by omega), List.take_add_one]
      have : l[n]? = some l[n] := List.getElem?_eq_getElem (by omega)
      rw [List.filterMap_cons_some this, this]
      rfl
  rw [go _ (Nat.le_refl _), List.take_length]
theorem rows_order (hr : es.toList = L.map (rowN w)) {order : Array Nat} (hp : order.toList.Perm (List.range L.length)) :
    ∃ L2 : List KA, (order.filterMap (es[·]?)).toList = L2.map (rowN w) ∧ L2.Perm L ∧ hsN w L2 = order.toList.map fun i => (es.map (·.1)).getD i 0 := by
  have ent : ∀ i, es[i]? = (L[i]?).map (rowN w) := fun i => by
    rw [← Array.getElem?_toList, hr, List.getElem?_map]
  refine ⟨order.toList.filterMap (fun i => L[i]?), ?_, ?_, ?_⟩
  · rw [Array.toList_filterMap, List.map_filterMap]
    exact congrArg (fun f => List.filterMap f order.toList) (funext ent)
  · have := hp.filterMap (fun i => L[i]?)
    rw [range_pick] at this
    exact this
  · have key : ∀ l : List Nat, (∀ i ∈ l, i < L.length) → hsN w (l.filterMap fun i => L[i]?) = l.map fun i => (es.map (·.1)).getD i 0 := by
      intro l
      induction l with
      | nil => intro _; rfl
      | cons i l ih =>
        intro h
        obtain ⟨q, e⟩ : ∃ q, L[i]? = some q := ⟨_, List.getElem?_eq_getElem (h i (by simp))⟩
        rw [List.filterMap_cons_some e]
        show q.1.hash w :: hsN w (l.filterMap fun i => L[i]?) = _
        rw [ih fun j hj => h j (by simp [hj]), List.map_cons]
        congr 1
        have e2 : (es.map (·.1))[i]? = some (q.1.hash w) := by rw [Array.getElem?_map, ent, e]; rfl
        simp [Array.getD_eq_getD_getElem?, e2]
    exact key _ fun i hi => List.mem_range.mp (hp.mem_iff.mp hi)
/-- the table laid anew -/
theorem nset_relay {o : Obj} (ho : s.heap.get? a = some o) (hex : o.ExactSet) (hd : o.data = .set es ep t) (hr : es.toList = L.map (rowN w)) (hpl : t.place.size = es.size) (hdm : t.dummies = #[]) (hfl : es.size ≤ t.mask) (nod : (L.map (·.1)).Nodup) (key : ∀ p ∈ L, Kat P w s.heap p.1 p.2) (pla : t.plain = true)
    (led : w.params.followText "set-order" = true ∨ t.led = true) (few : L.length < 19) {wanted M : Nat} (hw : SetTable.sizeAbove wanted - 1 = M) (hM : MaskOk M) (big : SetTable.sizeAbove wanted ≤ 128) (roo : L.length * 5 < M * 3) {Q : Unit → Shared → Prop}
    (hQ : ∀ h' L' es' ep' t', Heap.SameBut a s.heap h' → NSet P w h' a L' es' ep' t' → L'.Perm L → Q () { s with heap := h' }) : wpAny (model P w) A (setRelay a wanted) Q E s := by
  have hl := rowN_len hr
  have fit := fits_of (t := t) hpl hdm hfl
  obtain ⟨t', order, e1, pm, T, em, el, epl, ed⟩ := relaid_ok t (hs := es.map (·.1)) (wanted := wanted) hw hM (by rw [Array.size_map, hl]; omega)
  rw [Array.size_map, hl] at pm
  obtain ⟨L2, r1, r2, r3⟩ := rows_order hr pm
  rw [← r3] at T
  have l2 := rowN_len r1
  have l3 := r2.length_eq
  have hz : (order.filterMap (es[·]?)).size = es.size := by omega
  rw [setRelay_eq]
  refine wpAny_bind (wpAny_setState_of ho hd fit ?_)
  dsimp only
  refine wp_if_neg (by rw [sizeLine_eq]; omega) ?_
  try refine wpAny_bind (wpAny_pure ?_)
  rw [e1]
  dsimp only
  refine wpAny_bind (wp_if_neg (by rw [hz]; simp) ?_)
  try refine wpAny_bind (wpAny_pure ?_)
  refine wpAny_pure ?_
  dsimp only
  refine wpAny_storeSet_of ho hd ?_ (by rw [hz, hl, sizeLine_eq]; omega)
  have sb : Heap.SameBut a s.heap (s.heap.update a (Obj.putSet (order.filterMap (es[·]?)) t')) := Heap.SameBut.update ..
  exact hQ _ L2 _ (ep + 1) t' sb ⟨⟨_, store_at ho hd, ⟨hex.1, hex.2.1, hex.2.2⟩, rfl⟩, r1, T, (r2.map (·.1)).nodup_iff.mpr nod, fun p hp => (key p (r2.mem_iff.mp hp)).stay ho hd sb, by rw [epl]; exact pla, by rw [el]; exact led, by rw [l3, em]; exact roo, by omega⟩ r2
theorem nset_add (R : NSet P w s.heap a L es ep t) {x : Addr} {k : NestedKey} (hx : Kat P w s.heap k x) (hn : numK k = true) (hu : A.units + 8 < cLine) (room : L.length + 1 < 19) {Q : Bool → Shared → Prop}
    (hQ : ∀ b h' L' es' ep' t', Heap.SameBut a s.heap h' → NSet P w h' a L' es' ep' t' → (k ∈ L.map (·.1) → L' = L) → (k ∉ L.map (·.1) → L'.Perm ((k, x) :: L)) → Q b { s with heap := h' }) :
    wpAny (model P w) A (setAddHashed a (.ref x) (k.hash w)) Q E s := by
  obtain ⟨o, ho, hex, hd⟩ := R.obj
  have hl := R.len
  have ro := R.roo
  unfold setAddHashed
  refine wpAny_holding ?_
  rw [show (100000 : Nat) = 99999 + 1 from rfl, setAddHashedIn_succ]
  refine wpAny_bind (wpAny_setState_of ho hd R.fit ?_)
  dsimp only
  refine wp_if_neg (by simp [byScan, Value.scannable]) ?_
  try refine wpAny_bind (wpAny_pure ?_)
  refine wpAny_bind (nset_search R hx hu (fun hm => ?_) fun K hm hK hb => ?_)
  · dsimp only
    exact wpAny_pure (hQ false s.heap L es ep t (Heap.SameBut.refl a s.heap) R (fun _ => rfl) fun z => absurd hm z)
  · dsimp only
    refine wpAny_bind (wpAny_setState_of ho hd R.fit ?_)
    dsimp only
    obtain ⟨q1, q2, q3, q4, q5, q6, q7, q8, q9⟩ := R.tab.put hK hb
    generalize way t.mask (k.hash w) K = j at q1 q2 q3 q4 q5 q6 q7 q8 q9 ⊢
    have pla : (t.put j).1.plain = true := by rw [q6]; exact R.pla
    have led : w.params.followText "set-order" = true ∨ (t.put j).1.led = true := by rw [q5]; exact R.led
    rw [List.length_map] at q2
    generalize hpp : SetTable.below t.place j = p at q1 q2 q3
    generalize hpt : t.put j = pt at q1 q3 q4 q5 q6 q7 q8 q9 pla led ⊢
    obtain ⟨t1, p'⟩ := pt
    dsimp only at q1 q3 q4 q5 q6 q7 q8 q9 pla led ⊢
    subst q1
    first
      | (refine wpAny_bind ?_; refine wp_if_pos pla ?_; refine nk_hashBy k _ 8 _ hx.1 hx.2 hn _ _ _ ?_)
      | refine wp_if_pos pla (wpAny_bind (nk_hashBy k _ 8 _ hx.1 hx.2 hn _ _ _ ?_))
    simp only [if_true]
    obtain ⟨L1, hL1⟩ : ∃ L1, L1 = L.take p' ++ (k, x) :: L.drop p' := ⟨_, rfl⟩
    have pm : L1.Perm ((k, x) :: L) := by rw [hL1]; exact put_perm L p' (k, x)
    have ln : L1.length = L.length + 1 := pm.length_eq
    have row1 : (SetTable.insertAt es p' (k.hash w, Value.ref x)).toList = L1.map (rowN w) := by
      rw [SetTable.toList_insertAt, R.row, hL1, List.map_append, List.map_cons, List.map_take, List.map_drop]
      rfl
    have hs1 : hsN w L1 = (hsN w L).take p' ++ k.hash w :: (hsN w L).drop p' := by
      rw [hL1]
      show List.map _ _ = _
      rw [List.map_append, List.map_cons, List.map_take, List.map_drop]
    rw [← hs1] at q3
    have nd1 : (L1.map (·.1)).Nodup := by
      refine (pm.map (·.1)).nodup_iff.mpr ?_
      rw [List.map_cons]
      exact List.nodup_cons.mpr ⟨hm, R.nod⟩
    have sz1 := rowN_len row1
    generalize SetTable.insertAt es p' (k.hash w, Value.ref x) = es1 at row1 sz1 ⊢
    refine wpAny_bind (wpAny_storeSet_of ho hd ?_ (by rw [sz1, ln, sizeLine_eq]; omega))
    have sb : Heap.SameBut a s.heap (s.heap.update a (Obj.putSet es1 t1)) := Heap.SameBut.update ..
    have ho1 := store_at (es' := es1) (t' := t1) ho hd
    generalize s.heap.update a (Obj.putSet es1 t1) = h1 at sb ho1 ⊢
    have key1 : ∀ p ∈ L1, Kat P w h1 p.1 p.2 := fun p hp => by
      rcases List.mem_cons.mp (pm.mem_iff.mp hp) with e | hp
      · rw [e]; exact hx.stay ho hd sb
      · exact (R.key p hp).stay ho hd sb
    have plc1 : t1.place.size = es1.size := by
      have := q3.sz
      rw [List.length_map] at this
      omega
    have full : t1.tooFull = true ↔ (L.length + 1) * 5 ≥ t1.mask * 3 := by
      unfold SetTable.tooFull
      rw [decide_eq_true_eq, q9, List.length_map]
    by_cases hf : t1.tooFull = true
    · first
        | (refine wpAny_bind ?_; refine wp_if_pos (by simp [hf]) ?_)
        | (refine wp_if_pos (by simp [hf]) ?_; refine wpAny_bind ?_)
      have hfull := full.mp hf
      have c7 : t.mask = 7 ∧ L.length = 4 := by
        rw [q4] at hfull
        rcases R.tab.mok with e | e | e <;> rw [e] at hfull ro <;> refine ⟨?_, ?_⟩ <;> omega
      rw [hl]
      refine nset_relay (s := { s with heap := h1 }) (M := 31) ho1 ⟨hex.1, hex.2.1, hex.2.2⟩ rfl row1 plc1 q3.dm (by omega) nd1 key1 pla led (by omega) (by rw [c7.2, size_20]) (.inr (.inl rfl)) (by rw [c7.2, size_20]; decide) (by omega) ?_
      intro h2 L2 es2 ep2 t2 sb2 R2 pm2
      exact wpAny_pure (hQ true h2 L2 es2 ep2 t2 (sb.trans sb2) R2 (fun z => absurd z hm) fun _ => pm2.trans pm)
    · first
        | refine wp_if_neg (by simp [hf]) ?_
        | (refine wpAny_bind ?_; refine wp_if_neg (by simp [hf]) ?_; refine wpAny_pure ?_)
      refine wpAny_pure (hQ true h1 L1 es1 (ep + 1) t1 sb ⟨⟨_, ho1, ⟨hex.1, hex.2.1, hex.2.2⟩, rfl⟩, row1, q3, nd1, key1, pla, led, ?_, by omega⟩ (fun z => absurd z hm) fun _ => pm)
      rw [ln]
      have : ¬ (L.length + 1) * 5 ≥ t1.mask * 3 := fun z => hf (full.mpr z)
      omega
end
end Mn

set_option Elab.async false
set_option linter.all false
set_option maxRecDepth 100000
set_option maxHeartbeats 3200000
namespace Mn
open PySem PySem.Spec PyProof.Rows L2
/-- what a set holds of the first i members of a list -/
structure NGot (ks : List KA) (i : Nat) (L : List KA) : Prop where
  sub : ∀ p ∈ L, p ∈ ks.take i
  all : ∀ p ∈ ks.take i, p.1 ∈ L.map (·.1)
  len : L.length ≤ i
theorem NGot.same {ks L : List KA} {i : Nat} {x : KA} (g : NGot ks i L) (h : ks[i]? = some x) (hm : x.1 ∈ L.map (·.1)) : NGot ks (i + 1) L := by
  rw [← List.take_append_drop i ks] at h
  have e : ks.take (i + 1) = ks.take i ++ [x] := by
    rw [List.take_append_drop] at h
    rw [List.take_add_one, h]; rfl
  refine ⟨fun p hp => by rw [e]; exact List.mem_append_left _ (g.sub p hp), fun p hp => ?_, Nat.le_succ_of_le g.len⟩
  rw [e] at hp
  rcases List.mem_append.mp hp with z | z
  · exact g.all p z
  · cases List.mem_singleton.mp z; exact hm
theorem NGot.more {ks L L' : List KA} {i : Nat} {x : KA} (g : NGot ks i L) (h : ks[i]? = some x) (pm : L'.Perm (x :: L)) : NGot ks (i + 1) L' := by
  have e : ks.take (i + 1) = ks.take i ++ [x] := by rw [List.take_add_one, h]; rfl
  refine ⟨fun p hp => ?_, fun p hp => ?_, by rw [pm.length_eq, List.length_cons]; exact Nat.succ_le_succ g.len⟩
  · rw [e]
    rcases List.mem_cons.mp (pm.mem_iff.mp hp) with z | z
    · exact List.mem_append_right _ (by rw [z]; simp)
    · exact List.mem_append_left _ (g.sub p z)
  · rw [(pm.map (·.1)).mem_iff, List.map_cons]
    rw [e] at hp
    rcases List.mem_append.mp hp with z | z
    · exact List.mem_cons_of_mem _ (g.all p z)
    · cases List.mem_singleton.mp z; exact List.mem_cons_self
section
variable {P : Program} {w : World} {A : Around} {E : Value → Shared → Prop} {s : Shared}
theorem NSet.grow {h h' : Heap} {a : Addr} {L : List KA} {es : Array (Int × Value)} {ep : Nat} {t : SetTable} (R : NSet P w h a L es ep t) (ha : ∀ o, h.get? a = some o → h'.get? a = some o) (ht : ∀ p ∈ L, Kat P w h' p.1 p.2) : NSet P w h' a L es ep t := by
  obtain ⟨o, ho, r⟩ := R.obj
  exact ⟨⟨o, ha o ho, r⟩, R.row, R.tab, R.nod, ht, R.pla, R.led, R.roo, R.few⟩
abbrev newSetObj (w : World) : Obj := { cls := .type "set", dict := none, data := .set #[] 0 (.fresh 0 0 (!w.params.followText "set-order")) }
theorem nset_new {h : Heap} {a : Addr} (ho : h.get? a = some (newSetObj w)) : NSet P w h a [] #[] 0 (.fresh 0 0 (!w.params.followText "set-order")) where
  obj := ⟨_, ho, ⟨rfl, rfl, rfl⟩, rfl⟩
  row := rfl
  tab := ⟨List.Pairwise.nil, rfl, rfl, .inl rfl, fun x hx => (by cases hx), fun i h j hi => (by simp at hi)⟩
  nod := List.nodup_nil
  key := fun p hp => nomatch hp
  pla := rfl
  led := by
    show w.params.followText "set-order" = true ∨ (!w.params.followText "set-order") = true
    cases w.params.followText "set-order" <;> simp
  roo := show 0 * 5 < 7 * 3 by decide
  few := show 0 < 19 by decide
/-- the loop of set.update -/
theorem nset_loop {I : Addr} {fp wr : List Addr} {G : Array GenState → Array GenState → Prop} {n : Nat} {Pv : Nat → Value → Prop} {St : Nat → Shared → Prop} {R : Result → Shared → Prop} (W : WalksS P w A.in1 I fp wr G n Pv St) (S : Addr) (hSf : S ∉ fp) (ks : List KA) (hn : n = ks.length) (few : ks.length < 19) (hval : ∀ i v, Pv i v → ∃ p, ks[i]? = some p ∧ v = .ref p.2)
    (h0 : Heap) (hk : ∀ p ∈ ks, Kat P w h0 p.1 p.2 ∧ numK p.1 = true) (hS0 : h0.get? S = none) (hw0 : ∀ b ∈ wr, h0.get? b = none) (hu : A.in1.units + 8 < cLine)
    (hR : ∀ s' L es ep t, NSet P w s'.heap S L es ep t → NGot ks n L → (∀ b o, h0.get? b = some o → s'.heap.get? b = some o) → s'.gens = s.gens ∧ s'.drawn = s.drawn ∧ s'.os = s.os → R (.ok (.ret .none)) s') (hG : ∀ {x y : Shared}, Moved wr G x y → y.gens = x.gens ∧ y.drawn = x.drawn ∧ y.os = x.os) :
    ∀ (d i : Nat) (s2 : Shared), n - i = d → i ≤ n → St i s2 → (∀ b o, h0.get? b = some o → s2.heap.get? b = some o) → (s2.gens = s.gens ∧ s2.drawn = s.drawn ∧ s2.os = s.os) → (∃ L es ep t, NSet P w s2.heap S L es ep t ∧ NGot ks i L) →
      codeAny (model P w) A (.builtin "set.update.loop" ⟨[.ref S, .ref I], []⟩) R s2 := by
  have hSw : S ∉ wr := fun h => hSf (W.sub _ h)
  have keep : ∀ {x y : Shared}, Moved wr G x y → (∀ b o, h0.get? b = some o → x.heap.get? b = some o) → ∀ b o, h0.get? b = some o → y.heap.get? b = some o := fun hm q b o e =>
    hm.heap b o (fun z => by rw [hw0 b z] at e; cases e) (q b o e)
  intro d
  induction d with
  | zero =>
    rintro i s2 hd hi hst hkp hg ⟨L, es, ep, t, hS, g⟩
    have e : i = n := by omega
    subst e
    refine codeAny_builtin F.entry_set_update_loop ?_
    rw [Around.under_plainId F.plain_set_update_loop _]
    show wpAny _ A.in1 (pyNext (.ref I) >>= _) _ _ s2
    refine wpAny_bind (W.done s2 _ _ hst fun s3 hm => ?_)
    show wpAny _ A.in1 (ret Value.none) _ _ s3
    have hkp3 := keep hm hkp
    have hg3 := hG hm
    exact wpAny_pure (hR s3 L es ep t (hS.grow (fun o e => hm.heap S o hSw e) fun p hp => (hk p (List.mem_of_mem_take (g.sub p hp))).1.grow hkp3) g hkp3 ⟨hg3.1.trans hg.1, hg3.2.1.trans hg.2.1, hg3.2.2.trans hg.2.2⟩)
  | succ d ih =>
    rintro i s2 hd hi hst hkp hg ⟨L, es, ep, t, hS, g⟩
    have hlt : i < n := by omega
    refine codeAny_builtin F.entry_set_update_loop ?_
    rw [Around.under_plainId F.plain_set_update_loop _]
    show wpAny _ A.in1 (pyNext (.ref I) >>= _) _ _ s2
    refine wpAny_bind (W.item i s2 _ _ hlt hst fun v s3 hP hst3 hm => ?_)
    obtain ⟨p, hp, rfl⟩ := hval i v hP
    have hkp3 := keep hm hkp
    have hg3 := hG hm
    have hS3 : NSet P w s3.heap S L es ep t := hS.grow (fun o e => hm.heap S o hSw e) fun q hq => (hk q (List.mem_of_mem_take (g.sub q hq))).1.grow hkp3
    obtain ⟨hx0, hnum⟩ := hk p (List.mem_of_getElem? hp)
    have hx : Kat P w s3.heap p.1 p.2 := hx0.grow hkp3
    show wpAny _ A.in1 (holding [Value.ref p.2] (setAdd S (.ref p.2)) >>= _) _ _ s3
    refine wpAny_bind (wpAny_holding ?_)
    unfold setAdd
    refine wpAny_holding (wpAny_bind ((nestedKind P w).pyHash hu hx ?_))
    refine nset_add (s := { s3 with toks := s3.toks + (nestedKind P w).draws p.1 }) hS3 hx hnum hu (by have := g.len; omega) fun b h4 L4 es4 ep4 t4 sb hS4 c1 c2 => ?_
    have g4 : NGot ks (i + 1) L4 := by
      by_cases c : p.1 ∈ L.map (·.1)
      · rw [c1 c]; exact g.same hp c
      · exact g.more hp (c2 c)
    have hkp4 : ∀ b o, h0.get? b = some o → h4.get? b = some o := fun b o e => (sb.2 b fun z => by rw [z, hS0] at e; cases e).trans (hkp3 b o e)
    refine wpAny_pure ⟨plainId_quiet F.plain_set_update_loop _, ih (i + 1) _ (by omega) hlt (W.frame _ s3 _ _ hst3 (Nat.le_add_right _ _) fun b hb o e => ?_) hkp4 ⟨hg3.1.trans hg.1, hg3.2.1.trans hg.2.1, hg3.2.2.trans hg.2.2⟩ ⟨L4, es4, ep4, t4, hS4, g4⟩⟩
    rw [sb.2 b fun z => hSf (by rw [← z]; exact hb)]
    exact e
/-- making a set: __new__, then __init__ -/
theorem set_made {args : List Value} {Q Q1 : Value → Shared → Prop} (hct : checkTypeCall "set" ⟨args, []⟩ = pure ()) (hnew : codeAny (model P w) A.in1 (.call (.builtin "set.__new__") ⟨.type "set" :: args, []⟩) (wants Q1 E) s)
    (hini : ∀ obj s1, Q1 obj s1 → s1.TypeIs obj "set" ∧ codeAny (model P w) A.in1 (.call (.builtin "set.__init__") ⟨obj :: args, []⟩) (wants (fun r s2 => r = .none ∧ Q obj s2) E) s1) : wpAny (model P w) A (call (.type "set") args) Q E s := by
  have ft := F.called_set
  obtain ⟨c, tl, m1⟩ := ft.mro
  have m2 := ft.made; have m3 := ft.sub; have m4 := ft.notType; have m5 := ft.canCreate
  refine wpAny_call (codeAny_of_tree ?_); show wpAny _ _ (callAny (.type "set") _) _ _ _
  refine wpAny_pure ⟨Code.quiet_builtin _ (by decide +kernel), codeAny_builtin F.entry_type_call ?_⟩; rw [Around.under_plain (weight_type_call_type "set" args []) rfl]
  iterate 1 (repeat (any_goals (first | assumption | wp_step)))
  refine codeAny_mono hnew fun r1 s1 hr => ?_
  rcases r1 with e | fl
  · exact hr
  · cases fl <;> first | exact hr.elim | skip
    rename_i obj
    obtain ⟨hT, hc⟩ := hini _ _ hr
    have m6 := ft.init.lookup; have m7 := ft.init.bind obj
    iterate 1 (repeat (any_goals (first | assumption | wp_step)))
    refine codeAny_mono hc fun r2 s2 hr2 => ?_
    rcases r2 with e | fl2
    · exact hr2
    · cases fl2 <;> first | exact hr2.elim | skip
      obtain ⟨rfl, hq⟩ := hr2
      iterate 1 (repeat (any_goals (first | assumption | wp_step)))
theorem none_above {h : Heap} {b : Addr} (hb : h.objs.size ≤ b) : h.get? b = none := by
  cases q : h.get? b with
  | none => rfl
  | some o => exact absurd (Heap.lt_size q) (Nat.not_lt.mpr hb)
/-- set(xs) -/
theorem nset_call {l : Addr} {items : Array Value} (ks : List KA) {Q : Value → Shared → Prop} (hh : A.handled = none) (hl : s.heap.IsList l items) (hit : items.toList = ks.map fun p => Value.ref p.2) (hk : ∀ p ∈ ks, Kat P w s.heap p.1 p.2 ∧ numK p.1 = true) (few : ks.length < 19) (hu : A.units + 16 < cLine)
    (h : ∀ (h' : Heap) (tk : Nat) L es ep t, NSet P w h' s.heap.objs.size L es ep t → NGot ks ks.length L → (∀ b o, s.heap.get? b = some o → h'.get? b = some o) → Q (.ref s.heap.objs.size) { s with heap := h', toks := tk }) :
    wpAny (model P w) A (call (.type "set") [.ref l]) Q E s := by
  have sz : items.size = ks.length := by
    have := congrArg List.length hit
    simpa using this
  have hval : ∀ (i : Nat) (v : Value), items[i]? = some v → ∃ p, ks[i]? = some p ∧ v = .ref p.2 := fun i v hv => by
    have q : items.toList[i]? = some v := by simpa using hv
    rw [hit, List.getElem?_map] at q
    obtain ⟨p, hp, e⟩ := Option.map_eq_some_iff.mp q
    exact ⟨p, hp, e.symm⟩
  refine set_made (Q1 := fun obj s1 => obj = .ref s.heap.objs.size ∧ s1 = { s with heap := s.heap.push (newSetObj w) }) (F.typeCall_set_1 _) (code_set_led1 _ ⟨rfl, rfl⟩) ?_
  rintro obj s1 ⟨rfl, rfl⟩
  have hS : (s.heap.push (newSetObj w)).get? s.heap.objs.size = some (newSetObj w) := Heap.get?_push_size _ rfl
  have hT : Shared.TypeIs { s with heap := s.heap.push (newSetObj w) } (.ref s.heap.objs.size) "set" := ⟨_, hS, rfl⟩
  refine ⟨hT, codeAny_call_builtin F.called_set.init.plain F.entry_set_init (check_set_init_1 hT ?_)⟩
  have lS : l < s.heap.objs.size := by
    obtain ⟨ol, hol, _⟩ := hl
    exact Heap.lt_size hol
  have hl1 : (s.heap.push (newSetObj w)).IsList l items := by
    obtain ⟨ol, hol, r⟩ := hl
    exact ⟨ol, Heap.get?_push_of_some _ hol, r⟩
  obtain ⟨ol, hol, hcl, nl, hdl⟩ := id hl1
  obtain ⟨oc, od, oda, osl⟩ := ol
  simp only at hcl hdl
  subst hcl hdl
  have f1 := F.sub_list_set
  have f2 := F.sub_list_frozenset
  have f3 : (Value.type "list" == Value.type "dict") = false := by decide
  unfold Builtin.«set.__init__» noKeywords Builtin.Frozenset.updateFrom
  generalize hPI : pyIter = PI
  wp_walk
  subst hPI
  refine wpAny_pyIter_list hl1 (wpAny_bind (wpAny_runValue ?_))
  have z1 : (s.heap.push (newSetObj w)).objs.size = s.heap.objs.size + 1 := Heap.size_push ..
  have hne : l ≠ (s.heap.push (newSetObj w)).objs.size := by rw [z1]; exact Nat.ne_of_lt (Nat.lt_succ_of_lt lS)
  have hfp : s.heap.objs.size ∉ [(s.heap.push (newSetObj w)).objs.size, l] := by
    rw [z1]
    intro z
    simp only [List.mem_cons, List.not_mem_nil, or_false] at z
    rcases z with z | z
    · exact absurd z (Nat.ne_of_lt (Nat.lt_succ_self _))
    · exact absurd z.symm (Nat.ne_of_lt lS)
  refine nset_loop (s := { s with heap := s.heap.push (newSetObj w) }) ((Walks.list (by simp [hh] : A.in1.in1.in1.handled = none) _ l hne items).toS) s.heap.objs.size hfp ks sz few hval s.heap hk (none_above (Nat.le_refl _)) (fun b hb => none_above (by rw [List.mem_singleton.mp hb, z1]; omega)) (by show A.units + 1 + 1 + 1 + 8 < cLine; omega) ?hR (fun hm => ⟨hm.gens, hm.drawn, hm.os⟩) (items.size - 0) 0 _ rfl (Nat.zero_le _)
    ⟨⟨_, Heap.get?_push_size _ rfl, rfl, rfl⟩, hl1.push _⟩ (fun b o e => Heap.get?_push_of_some _ (Heap.get?_push_of_some _ e)) ⟨rfl, rfl, rfl⟩ ⟨[], #[], 0, _, nset_new (Heap.get?_push_of_some _ hS), ⟨fun p hp => (by cases hp), fun p hp => (by simp at hp), Nat.le_refl _⟩⟩
  case hR =>
    rintro s' L es ep t hS' g' hkp ⟨e1, e2, e3⟩
    obtain ⟨h', g2, d2, tk2, os2⟩ := s'
    simp only at e1 e2 e3
    subst e1 e2 e3
    rw [sz] at g'
    refine wpAny_pure ?_
    show wpAny _ _ (ret Value.none) _ _ _
    exact wpAny_pure ⟨rfl, h h' tk2 L es ep t hS' g' hkp⟩
end
end Mn

set_option Elab.async false
set_option linter.all false
set_option maxRecDepth 100000
set_option maxHeartbeats 3200000
namespace Mn
open PySem PySem.Spec PyProof.Rows L2
section
variable {P : Program} {w : World} {A : Around} {E : Value → Shared → Prop} {s : Shared}
/-- set(xs), xs a list of ints -/
theorem iset_call {l : Addr} {items : Array Value} (ns : List Int) {Q : Value → Shared → Prop} (hh : A.handled = none) (hl : s.heap.IsList l items) (hit : IntsAre items.toList ns) (few : ns.length < 64)
    (h : ∀ (h' : Heap) (tk : Nat) (c : Nat), SetR w h' s.heap.objs.size (fun j => decide (j ∈ ns)) c → c ≤ ns.length → (∀ b o, s.heap.get? b = some o → h'.get? b = some o) → Q (.ref s.heap.objs.size) { s with heap := h', toks := tk }) :
    wpAny (model P w) A (call (.type "set") [.ref l]) Q E s := by
  have sz : items.size = ns.length := by
    have := hit.length
    simpa using this
  have hval : ∀ (i : Nat) (v : Value), items[i]? = some v → ∃ k t, ns[i]? = some k ∧ v = .int k t := fun i v hv => by
    have hi : i < ns.length := by rw [← sz]; exact (Array.getElem?_eq_some_iff.mp hv).1
    obtain ⟨t, e⟩ := IntsAre.int_at hit i v (by simpa using hv)
    exact ⟨ns[i], t, List.getElem?_eq_getElem hi, by rw [e, List.getD_eq_getElem?_getD, List.getElem?_eq_getElem hi]; rfl⟩
  refine set_made (Q1 := fun obj s1 => obj = .ref s.heap.objs.size ∧ s1 = { s with heap := s.heap.push (newSetObj w) }) (F.typeCall_set_1 _) (code_set_led1 _ ⟨rfl, rfl⟩) ?_
  rintro obj s1 ⟨rfl, rfl⟩
  have hS : (s.heap.push (newSetObj w)).get? s.heap.objs.size = some (newSetObj w) := Heap.get?_push_size _ rfl
  have hT : Shared.TypeIs { s with heap := s.heap.push (newSetObj w) } (.ref s.heap.objs.size) "set" := ⟨_, hS, rfl⟩
  refine ⟨hT, codeAny_call_builtin F.called_set.init.plain F.entry_set_init (check_set_init_1 hT ?_)⟩
  have lS : l < s.heap.objs.size := by
    obtain ⟨ol, hol, _⟩ := hl
    exact Heap.lt_size hol
  have hl1 : (s.heap.push (newSetObj w)).IsList l items := by
    obtain ⟨ol, hol, r⟩ := hl
    exact ⟨ol, Heap.get?_push_of_some _ hol, r⟩
  obtain ⟨ol, hol, hcl, nl, hdl⟩ := id hl1
  obtain ⟨oc, od, oda, osl⟩ := ol
  simp only at hcl hdl
  subst hcl hdl
  have f1 := F.sub_list_set
  have f2 := F.sub_list_frozenset
  have f3 : (Value.type "list" == Value.type "dict") = false := by decide
  unfold Builtin.«set.__init__» noKeywords Builtin.Frozenset.updateFrom
  generalize hPI : pyIter = PI
  wp_walk
  subst hPI
  refine wpAny_pyIter_list hl1 (wpAny_bind (wpAny_runValue ?_))
  have z1 : (s.heap.push (newSetObj w)).objs.size = s.heap.objs.size + 1 := Heap.size_push ..
  have hne : l ≠ (s.heap.push (newSetObj w)).objs.size := by rw [z1]; exact Nat.ne_of_lt (Nat.lt_succ_of_lt lS)
  have hfp : s.heap.objs.size ∉ [(s.heap.push (newSetObj w)).objs.size, l] := by
    rw [z1]
    intro z
    simp only [List.mem_cons, List.not_mem_nil, or_false] at z
    rcases z with z | z
    · exact absurd z (Nat.ne_of_lt (Nat.lt_succ_self _))
    · exact absurd z.symm (Nat.ne_of_lt lS)
  refine set_update_ints ((Walks.list (by simp [hh] : A.in1.in1.in1.handled = none) _ l hne items).toS) s.heap.objs.size hfp ns sz (by unfold scanBound; omega) hval (items.size - 0) 0 _ rfl (Nat.zero_le _) ⟨⟨_, Heap.get?_push_size _ rfl, rfl, rfl⟩, hl1.push _⟩ ⟨0, Nat.le_refl 0, setR_new_at (Heap.get?_push_of_some _ hS)⟩ ?hR
  case hR =>
    intro s' c hm hc hS'
    obtain ⟨h', g2, d2, tk2, os2⟩ := s'
    have e1 : g2 = s.gens := hm.gens
    have e2 : d2 = s.drawn := hm.drawn
    have e3 : os2 = s.os := hm.os
    subst e1 e2 e3
    rw [sz] at hc
    refine wpAny_pure ?_
    show wpAny _ _ (ret Value.none) _ _ _
    refine wpAny_pure ⟨rfl, h h' tk2 c hS' hc fun b o e => ?_⟩
    have hb := Heap.lt_size e
    exact hm.heap b o (fun z => by
      simp only [List.mem_cons, List.not_mem_nil, or_false] at z
      rcases z with z | z
      · exact absurd z (Nat.ne_of_lt hb)
      · rw [z1] at z
        exact absurd z (Nat.ne_of_lt (Nat.lt_succ_of_lt hb))) (Heap.get?_push_of_some _ (Heap.get?_push_of_some _ e))
end
end Mn

set_option Elab.async false
set_option linter.all false
set_option maxRecDepth 100000
set_option maxHeartbeats 1000000
namespace Mn
open PySem PyProof.Rows L2
/-! ### sorted(set(xs)), len(set(xs)) -/
mutual
theorem numb_nk : ∀ (n : Nat) (d : D), D.numb n d = true → numK d.nk = true
  | 0, _, h => by cases h
  | n + 1, d, h => by
    cases d <;> first | (simp [D.numb] at h; done) | rfl | skip
    rename_i xs
    have : ∀ x ∈ xs, D.numb n x = true := by simpa [D.numb] using h
    simpa [D.nk, numK] using numbs_nk n xs this
theorem numbs_nk : ∀ (n : Nat) (ds : List D), (∀ d ∈ ds, D.numb n d = true) → numKs (D.nks ds) = true
  | _, [], _ => rfl
  | n, d :: ds, h => by
    simp only [D.nks, numKs, Bool.and_eq_true]
    exact ⟨numb_nk n d (h d (by simp)), numbs_nk n ds fun x hx => h x (by simp [hx])⟩
end
theorem dedup_sub : ∀ {xs : List D} {x : D}, x ∈ dedup xs → x ∈ xs
  | [], _, h => h
  | y :: xs, x, h => by
    unfold dedup at h
    split at h
    · exact List.mem_cons_of_mem _ (dedup_sub h)
    · rcases List.mem_cons.mp h with rfl | h
      · exact List.mem_cons_self
      · exact List.mem_cons_of_mem _ (dedup_sub h)
theorem dedup_all {zs : List D} (S : SB zs) : ∀ {xs : List D}, (∀ x ∈ xs, x ∈ zs) → ∀ x ∈ xs, x ∈ dedup xs
  | [], _, _, h => h
  | y :: xs, hs, x, h => by
    have ih := dedup_all S (xs := xs) fun z hz => hs z (List.mem_cons_of_mem _ hz)
    unfold dedup
    split
    · rename_i c
      rcases List.mem_cons.mp h with rfl | h
      · obtain ⟨z, hz, e⟩ := List.any_eq_true.mp c
        have : z = x := D.alk_eqb z x (S.al z (hs z (List.mem_cons_of_mem _ (dedup_sub hz))) x (hs x List.mem_cons_self)) e
        rw [← this]; exact hz
      · exact ih x h
    · rcases List.mem_cons.mp h with rfl | h
      · exact List.mem_cons_self
      · exact List.mem_cons_of_mem _ (ih x h)
theorem dedup_nd {zs : List D} (S : SB zs) : ∀ {xs : List D}, (∀ x ∈ xs, x ∈ zs) → (dedup xs).Nodup
  | [], _ => List.nodup_nil
  | y :: xs, hs => by
    have ih := dedup_nd S (xs := xs) fun z hz => hs z (List.mem_cons_of_mem _ hz)
    unfold dedup
    split
    · exact ih
    · rename_i c
      refine List.nodup_cons.mpr ⟨fun h => c ?_, ih⟩
      exact List.any_eq_true.mpr ⟨y, h, D.eqb_self DEP y (S.ok y (hs y List.mem_cons_self))⟩
theorem SB.sub {xs zs : List D} (S : SB zs) (h : ∀ x ∈ xs, x ∈ zs) : SB xs := ⟨fun x hx => S.ok x (h x hx), fun x hx y hy => S.al x (h x hx) y (h y hy)⟩
theorem sortL_same {xs ys zs : List D} (S : SB zs) (hx : ∀ x ∈ xs, x ∈ zs) (p : xs.Perm ys) : sortL xs = sortL ys := by
  have hy : ∀ y ∈ ys, y ∈ zs := fun y h => hx y (p.mem_iff.mpr h)
  exact uniq S (fun x h => hx x ((sortL_perm xs).mem_iff.mp h)) ((sortL_perm xs).trans (p.trans (sortL_perm ys).symm)) (sortL_sorted S hx) (sortL_sorted S hy)
theorem pick_map {α β : Type} {f : α → β} {zs : List α} : ∀ {L : List β}, (∀ p ∈ L, p ∈ zs.map f) → ∃ M : List α, L = M.map f ∧ ∀ z ∈ M, z ∈ zs
  | [], _ => ⟨[], rfl, fun z h => nomatch h⟩
  | p :: L, h => by
    obtain ⟨z, hz, e⟩ := List.mem_map.mp (h p List.mem_cons_self)
    obtain ⟨M, e1, h1⟩ := pick_map (zs := zs) (L := L) fun q hq => h q (List.mem_cons_of_mem _ hq)
    refine ⟨z :: M, by rw [List.map_cons, e, e1], fun y hy => ?_⟩
    rcases List.mem_cons.mp hy with rfl | hy
    · exact hz
    · exact h1 y hy
section
variable {X : Cx}
theorem perm_pre {α β : Type} {f : α → β} : ∀ {out : List β} {M : List α}, out.Perm (M.map f) → ∃ M' : List α, out = M'.map f ∧ M'.Perm M
  | [], M, p => by
    have : M = [] := by
      have := p.length_eq
      simpa using this.symm
    subst this
    exact ⟨[], rfl, .nil⟩
  | b :: out, M, p => by
    obtain ⟨z, hz, rfl⟩ := List.mem_map.mp (p.mem_iff.mp List.mem_cons_self)
    obtain ⟨M1, M2, rfl⟩ := List.append_of_mem hz
    rw [List.map_append, List.map_cons] at p
    have p2 := (p.trans List.perm_middle).cons_inv
    rw [← List.map_append] at p2
    obtain ⟨M', e, q⟩ := perm_pre p2
    exact ⟨z :: M', by rw [List.map_cons, e], (q.cons z).trans List.perm_middle.symm⟩
theorem sortable_sub {xs zs : List D} (h : sortable zs = true) (hs : ∀ x ∈ xs, x ∈ zs) : sortable xs = true := by
  unfold sortable at h ⊢
  simp only [Bool.and_eq_true, Bool.or_eq_true, List.all_eq_true] at h ⊢
  obtain ⟨⟨h1, h2⟩, h3⟩ := h
  refine ⟨⟨fun x hx => h1 x (hs x hx), fun x hx y hy => h2 x (hs x hx) y (hs y hy)⟩, ?_⟩
  rcases h3 with h3 | h3
  · exact .inl fun x hx => h3 x (hs x hx)
  · exact .inr fun x hx => h3 x (hs x hx)
/-- sorted(set(a)): the members tuples of ints and of such, or ints -/
def SsN (X : Cx) (x : V) (H1 : Hp) (Q : VK) : Prop := ∃ (l : Addr) (zs : List (Addr × D)), x = V.ref l ∧ SqL X.K H1 l (zs.map fun z => V.ref z.1) ∧ (∀ z ∈ zs, D.kyb 8 z.2 = true ∧ Dp X.K H1 (.ref z.1) z.2.py ∧ numK z.2.nk = true) ∧ zs.length < 19 ∧ sortable (zs.map (·.2)) = true ∧
  ∀ (ps : List (V × D)) (p : Addr), (∀ q ∈ ps, ∃ z ∈ zs, q = (V.ref z.1, z.2)) → ps.map (·.2) = sortL (dedup (zs.map (·.2))) → H1 p = none → Q (.ref p) (upd H1 p (.lst (ps.map (·.1))))
def SsI (X : Cx) (x : V) (H1 : Hp) (Q : VK) : Prop := ∃ (l : Addr) (ns : List Int), x = V.ref l ∧ SqL X.K H1 l (ns.map V.int) ∧ ns.length < 64 ∧ ∀ (ms : List Int) (p : Addr), ms.Pairwise (· < ·) → (∀ k, k ∈ ms ↔ k ∈ ns) → H1 p = none → Q (.ref p) (upd H1 p (.lst (ms.map V.int)))
def tSortSet (X : Cx) (ta : TE) : TE := fun σ H Q => ta σ H fun x H1 => SsN X x H1 Q ∨ SsI X x H1 Q
theorem vals_refs : ∀ (ks : List (Addr × D)) (us : List Value), Vals (ks.map fun z => V.ref z.1) us → us = ks.map fun z => Value.ref z.1
  | [], _, .nil => rfl
  | z :: ks, _, .cons r t => by
    cases r
    rw [vals_refs ks _ t]
    rfl
theorem vals_of : ∀ (M : List (Addr × D)), Vals ((M.map fun z => (V.ref z.1, z.2)).map (·.1)) (M.map fun z => Value.ref z.1)
  | [] => .nil
  | z :: M => .cons rfl (vals_of M)
theorem pe_sortSet {a : Expr} {ta : TE} {p p2 q pos : Pos} (hc : X.calm = true) (hu : X.A.units + 65 < cLine) (hg : Gl X "sorted") (hm : X.mg "sorted" = none) (hg2 : Gl X "set") (hm2 : X.mg "set" = none) (ha : PE X a ta)
    (na : starEach [a] X.env = (false, eval a X.env) :: starEach [] X.env) : PE X (.Call (.Name "sorted" p) [.Call (.Name "set" p2) [a] [] q] [] pos) (tSortSet X ta) := by
  refine ⟨fun pins s σ H Q I h => ?_⟩
  refine Call_ (ld_blt I hg hm (show bootBuiltins ("sorted" : Str) = some (.builtin "sorted") by decide +kernel) (PyProof.Rows.callWith_builtin1 (PyProof.Rows.args_cons ?_ rfl) rfl rfl))
  refine Call_ (ld_blt I hg2 hm2 PyProof.Rows.boot_set (PyProof.Rows.callWith_type1 (PyProof.Rows.args_cons (thn (ha.run pins s σ H _ I h) fun v s1 ⟨x, H1, I1, r1, q1⟩ => PyProof.Rows.args_nil ?_) na) na rfl))
  rcases q1 with q1 | ⟨l, ns, rfl, hq, h64, q1⟩
  case inr =>
    cases r1
    obtain ⟨its, rv, pl, _⟩ := I1.list hq
    refine iset_call (P := X.prog) (w := X.w) ns (I1.ok.hd hc) pl.isList (by simpa using rv.ints) h64 fun h2 tk c R hcl k => ?_
    refine PyProof.Rows.args_nil ?_
    have I2 : Inv X pins σ H1 { s1 with heap := h2, toks := tk } := I1.kept k
    refine sorted_set (s := { s1 with heap := h2, toks := tk }) R (I2.ok.hd hc) (by omega) fun s' p' out c' ms k3 g3 o3 z3 hg hi hs hm hl => ?_
    have fr := I2.hok.fresh (a := p') z3
    refine ⟨.ref p', upd H1 p' (.lst (ms.map V.int)), ?_, rfl, q1 ms p' hs (fun k => by rw [hm]; simp) fr⟩
    exact I2.call' (ch := []) o3 (Un.laid k3 z3 fr) (I2.hok.laid k3 z3 ⟨by rw [List.length_map, hl, sizeLine_eq]; omega, out.toList, c', vals_of_ints hi, hg⟩) (by rw [g3]; exact I2.bare) (fun _ z => nomatch z)
  obtain ⟨l, zs, rfl, hq, hz, few, hsr, q1⟩ := q1
  cases r1
  obtain ⟨its, rv, pl, _⟩ := I1.list hq
  have S := sb_of hsr
  obtain ⟨ks, hks⟩ : ∃ ks : List KA, ks = zs.map fun z => (z.2.nk, z.1) := ⟨_, rfl⟩
  have hit : its.toArray.toList = ks.map fun p => Value.ref p.2 := by
    rw [hks, List.map_map]
    simpa [Function.comp_def] using vals_refs zs its rv
  refine nset_call (P := X.prog) (w := X.w) ks (I1.ok.hd hc) pl.isList hit (fun p hp => ?_) (by rw [hks, List.length_map]; exact few) (by omega) fun h2 tk L es ep t R g k => ?_
  · rw [hks] at hp
    obtain ⟨z, hz', rfl⟩ := List.mem_map.mp hp
    obtain ⟨z1, z2, z3⟩ := hz z hz'
    exact ⟨KeyAt.is I1 ⟨z.2, z1, z2, rfl⟩, z3⟩
  refine PyProof.Rows.args_nil ?_
  have I2 : Inv X pins σ H1 { s1 with heap := h2, toks := tk } := I1.kept k
  obtain ⟨o, ho, hex, hd⟩ := R.obj
  obtain ⟨M, hM, hMz⟩ := pick_map (f := fun z : Addr × D => (z.2.nk, z.1)) (zs := zs) (L := L) fun p hp => by
    have := g.sub p hp
    rw [List.take_length] at this
    rw [← hks]; exact this
  have esL : es.toList.map (·.2) = M.map fun z => Value.ref z.1 := by
    rw [R.row, List.map_map, hM, List.map_map]
    rfl
  have ndM : (M.map (·.2)).Nodup := by
    have := R.nod
    rw [hM, List.map_map] at this
    refine nodup_of_map (f := fun d : D => d.nk) ?_
    rw [List.map_map]
    exact this
  have xsub : ∀ z ∈ M, z.2 ∈ zs.map (·.2) := fun z hz => List.mem_map.mpr ⟨z, hMz z hz, rfl⟩
  have pmD : (M.map (·.2)).Perm (dedup (zs.map (·.2))) := by
    refine (List.perm_ext_iff_of_nodup ndM (dedup_nd S fun x hx => hx)).mpr fun x => ⟨fun hx => ?_, fun hx => ?_⟩
    · obtain ⟨z, hz, rfl⟩ := List.mem_map.mp hx
      exact dedup_all S (fun x hx => hx) _ (xsub z hz)
    · obtain ⟨z0, h0, rfl⟩ := List.mem_map.mp (dedup_sub hx)
      have hin : (z0.2.nk, z0.1) ∈ ks.take ks.length := by
        rw [List.take_length, hks]
        exact List.mem_map.mpr ⟨z0, h0, rfl⟩
      have := g.all _ hin
      rw [hM, List.map_map] at this
      obtain ⟨z, hz', e⟩ := List.mem_map.mp this
      have e : z.2.nk = z0.2.nk := e
      have eb := (D.eqb_nk 8 8 z.2 z0.2 (hz z (hMz z hz')).1 (hz z0 h0).1).mpr e
      exact List.mem_map.mpr ⟨z, hz', D.alk_eqb _ _ (S.al _ (xsub z hz') _ (List.mem_map.mpr ⟨z0, h0, rfl⟩)) eb⟩
  refine Calls.call_function_entry PyProof.Rows.kind_sorted PyProof.Rows.plain_sorted PyProof.Rows.entry_sorted (PyProof.Rows.args_sorted1 _) ?_
  unfold Builtin.«sorted»
  refine wpAny_bind (m := checkCount "sorted" 1 1 _) (wpAny_pure ?_)
  refine wpAny_bind (collect_set (A := X.A.in1) (I2.ok.hd hc) ⟨o, ho, hex.1, hd⟩ (NSet.fit (s := { s1 with heap := h2, toks := tk }) R) (by have := R.few; rw [NSet.len (s := { s1 with heap := h2, toks := tk }) R]; unfold scanBound; omega) R.tab.ris R.led fun s3 out k3 z3 g3 o3 pm => ?_)
  rw [esL] at pm
  obtain ⟨M', rfl, pmM⟩ := perm_pre pm
  obtain ⟨ps, hps⟩ : ∃ ps : List (V × D), ps = M'.map fun z => (V.ref z.1, z.2) := ⟨_, rfl⟩
  have ps2 : ps.map (·.2) = M'.map (·.2) := by rw [hps, List.map_map]; rfl
  have mz : ∀ z ∈ M', z ∈ zs := fun z hz' => hMz z (pmM.mem_iff.mp hz')
  have psz : ∀ q ∈ ps, ∃ z ∈ zs, q = (V.ref z.1, z.2) := fun q hq => by
    rw [hps] at hq
    obtain ⟨z, hz', rfl⟩ := List.mem_map.mp hq
    exact ⟨z, mz z hz', rfl⟩
  have dsub : ∀ x ∈ ps.map (·.2), x ∈ zs.map (·.2) := fun x hx => by
    obtain ⟨q, hq, rfl⟩ := List.mem_map.mp hx
    obtain ⟨z, hz', rfl⟩ := psz q hq
    exact List.mem_map.mpr ⟨z, hz', rfl⟩
  have sps := sortable_sub hsr dsub
  have sb := sb_of sps
  have lM : M'.length < 19 := by
    rw [pmM.length_eq]
    have := R.few
    rw [hM, List.length_map] at this
    exact this
  have lps : ps.length = M'.length := by rw [hps, List.length_map]
  have hN : ps.length ≤ sizeLine := by rw [lps, sizeLine_eq]; omega
  have rv' : Vals (ps.map (·.1)) (M'.map fun z => Value.ref z.1) := by rw [hps]; exact vals_of M'
  have hdp : ∀ q ∈ ps, Dp X.K H1 q.1 q.2.py := fun q hq => by
    obtain ⟨z, hz', rfl⟩ := psz q hq
    exact (hz z hz').2.1
  generalize hout : (M'.map fun z => Value.ref z.1) = out at rv' ⊢
  have lout : out.length = M'.length := by rw [← hout, List.length_map]
  refine wpAny_bind (wpAny_newList ?_ (by rw [lout, sizeLine_eq]; omega))
  have hoL : (s3.heap.push (PyProof.Rows.seqObj "list" out.toArray 0)).get? s3.heap.objs.size = some (PyProof.Rows.seqObj "list" out.toArray 0) := Heap.get?_push_size _ rfl
  show wpAny _ _ _ _ _ { s3 with heap := s3.heap.push (PyProof.Rows.seqObj "list" out.toArray 0) }
  refine wpAny_bind (wpAny_holding (PySem.W.list_sort_data (s := { s3 with heap := s3.heap.push (PyProof.Rows.seqObj "list" out.toArray 0) }) (vs := out) (bs := ps) (enc := fun p => p.2.py) (R := fun u p => RelV p.1 u) hoL (each_vals rv') ?_ (allAlike_of sb) (sortable_py sps) hN (fun p hp => ?_) fun out2 hlen ho2 => ?_))
  · have := each_reads I2 rv' hdp
    refine this.mono fun u p ⟨as, rd⟩ => ?_
    exact reads_notNew rd (fun b o e => Heap.get?_push_of_some _ (k3 b o e)) (none_above z3)
  · have := depth_of sb p hp
    show X.A.units + 1 + 1 + p.2.py.depth < cLine
    omega
  · have hv := vals_each ho2
    obtain ⟨e', he'⟩ := PyProof.Rows.sortedHeap_at (vs := out) (out := out2.toArray) hoL
    have pm2 := List.mergeSort_perm ps (PySem.W.dataLe false fun p : V × D => p.2.py)
    have gr : ∀ b u, h2.get? b = some u → (PyProof.Rows.sortedHeap (s3.heap.push (PyProof.Rows.seqObj "list" out.toArray 0)) s3.heap.objs.size out out2.toArray).get? b = some u := fun b u e => by
      have e3 := k3 b u e
      have hb : b < s3.heap.objs.size := Heap.lt_size e3
      rw [PyProof.Rows.sortedHeap_old (Nat.ne_of_lt hb) (by rw [PyProof.Rows.size_push']; exact Nat.lt_succ_of_lt hb)]
      exact Heap.get?_push_of_some _ e3
    have fr := I2.hok.fresh (a := s3.heap.objs.size) z3
    have eD : (ps.mergeSort (PySem.W.dataLe false fun p : V × D => p.2.py)).map (·.2) = sortL (dedup (zs.map (·.2))) := by
      rw [merge_is sb]
      refine sortL_same S dsub ?_
      rw [ps2]
      exact (pmM.map (·.2)).trans pmD
    refine wpAny_pure ⟨_, rfl, .ref s3.heap.objs.size, upd H1 s3.heap.objs.size (.lst ((ps.mergeSort (PySem.W.dataLe false fun p : V × D => p.2.py)).map (·.1))), ?_, rfl, q1 _ _ (fun q hq => psz q (pm2.mem_iff.mp hq)) eD fr⟩
    exact I2.call' (ch := []) o3 (Un.laid gr z3 fr) (I2.hok.laid gr z3 ⟨by rw [List.length_map, pm2.length_eq]; exact hN, out2, e', hv, he'⟩) (by show AllBare s3.gens; rw [g3]; exact I2.bare) (fun _ z => nomatch z)
end
end Mn

set_option Elab.async false
set_option linter.all false
set_option maxRecDepth 100000
set_option maxHeartbeats 1000000
namespace Mn
open PySem PyProof.Rows L2
theorem step_mem {l : List Int} : ∀ {acc : List Int}, (∀ x, x ∈ l.foldl step_dedup acc ↔ x ∈ acc ∨ x ∈ l) ∧ (acc.Nodup → (l.foldl step_dedup acc).Nodup) := by
  induction l with
  | nil => intro acc; exact ⟨fun x => by simp, fun h => h⟩
  | cons y l ih =>
    intro acc
    obtain ⟨h1, h2⟩ := ih (acc := step_dedup acc y)
    have e : ∀ x, x ∈ step_dedup acc y ↔ x ∈ acc ∨ x = y := fun x => by
      unfold step_dedup
      split
      · rename_i c
        have : y ∈ acc := by simpa using c
        exact ⟨.inl, fun h => h.elim id fun z => by rw [z]; exact this⟩
      · simp
    refine ⟨fun x => ?_, fun hn => h2 ?_⟩
    · rw [List.foldl_cons, h1, e, List.mem_cons, or_assoc]
    · unfold step_dedup
      split
      · exact hn
      · rename_i c
        have : y ∉ acc := by simpa using c
        refine List.nodup_append.mpr ⟨hn, by simp, fun a ha b hb z => ?_⟩
        have : b = y := by simpa using hb
        rw [this] at z
        rw [z] at ha
        exact absurd ha (by assumption)
theorem met_fold (ns : List Int) : firstMet (fun i => ns.getD i 0) ns.length = ns.foldl step_dedup [] := by
  unfold firstMet
  congr 1
  apply List.ext_getElem?
  intro i
  by_cases h : i < ns.length
  · rw [List.getElem?_map, List.getElem?_range h, List.getElem?_eq_getElem h]
    simp [List.getD_eq_getElem?_getD, List.getElem?_eq_getElem h]
  · rw [List.getElem?_eq_none (by simpa using h), List.getElem?_eq_none (by simpa using h)]
theorem intsD_map : ∀ {xs : List D} {ns : List Int}, intsD xs = some ns → xs = ns.map D.int
  | [], _, e => by cases e; rfl
  | x :: xs, ns, e => by
    unfold intsD at e
    split at e
    · rename_i h; cases h
    · rename_i i r h
      cases h
      obtain ⟨ms, h1, h2⟩ := Option.map_eq_some_iff.mp e
      rw [← h2, List.map_cons, ← intsD_map h1]
    · cases e
theorem sb_ints (ns : List Int) : SB (ns.map D.int) where
  ok := fun x hx => by obtain ⟨i, _, rfl⟩ := List.mem_map.mp hx; rfl
  al := fun x hx y hy => by
    obtain ⟨i, _, rfl⟩ := List.mem_map.mp hx
    obtain ⟨j, _, rfl⟩ := List.mem_map.mp hy
    simp [D.alk]
theorem fold_dedup (ns : List Int) : (ns.foldl step_dedup []).length = (dedup (ns.map D.int)).length := by
  have S := sb_ints ns
  obtain ⟨h1, h2⟩ := step_mem (l := ns) (acc := [])
  have nd : ((ns.foldl step_dedup []).map D.int).Nodup := by
    rw [List.nodup_iff_pairwise_ne, List.pairwise_map]
    exact (List.nodup_iff_pairwise_ne.mp (h2 List.nodup_nil)).imp fun h e => h (by cases e; rfl)
  have := (List.perm_ext_iff_of_nodup nd (dedup_nd S fun x hx => hx)).mpr fun x => ⟨fun hx => ?_, fun hx => ?_⟩
  · have := this.length_eq
    rw [List.length_map] at this
    exact this
  · obtain ⟨i, hi, rfl⟩ := List.mem_map.mp hx
    have : i ∈ ns := by simpa using (h1 i).mp hi
    exact dedup_all S (fun x hx => hx) _ (List.mem_map.mpr ⟨i, this, rfl⟩)
  · obtain ⟨i, hi, rfl⟩ := List.mem_map.mp (dedup_sub hx)
    exact List.mem_map.mpr ⟨i, (h1 i).mpr (.inr hi), rfl⟩
section
variable {X : Cx}
def tLenSetG (X : Cx) (ta : TE) : TE := fun σ H Q => ta σ H fun x H1 => ∃ (l : Addr) (ns : List Int), x = V.ref l ∧ SqL X.K H1 l (ns.map V.int) ∧ ns.length ≤ 1000 ∧ Q (.int (ns.foldl step_dedup []).length) H1
theorem pe_lenSetG {a : Expr} {ta : TE} {p p2 q pos : Pos} (hc : X.calm = true) (hg : Gl X "len") (hm : X.mg "len" = none) (hg2 : Gl X "set") (hm2 : X.mg "set" = none) (ha : PE X a ta) (na : starEach [a] X.env = (false, eval a X.env) :: starEach [] X.env) :
    PE X (.Call (.Name "len" p) [.Call (.Name "set" p2) [a] [] q] [] pos) (tLenSetG X ta) := by
  refine ⟨fun pins s σ H Q I h => ?_⟩
  refine Call_ (ld_blt I hg hm PySem.boot_len (PyProof.Rows.callWith_builtin1 (PyProof.Rows.args_cons ?_ rfl) rfl rfl))
  refine Call_ (ld_blt I hg2 hm2 PyProof.Rows.boot_set (PyProof.Rows.callWith_type1 (PyProof.Rows.args_cons (thn (ha.run pins s σ H _ I h) fun v s1 ⟨x, H1, I1, r1, q1⟩ => PyProof.Rows.args_nil ?_) na) na rfl))
  obtain ⟨l, ns, rfl, hq, h1, q1⟩ := q1
  cases r1
  obtain ⟨its, r, pl, _⟩ := I1.list hq
  have hl : its.toArray.size = ns.length := by
    have := r.length
    rw [List.size_toArray]
    simpa using this.symm
  refine call_set_list (I1.ok.hd hc) pl.isList (ns := ns) (by simpa using r.ints) (by unfold scanBound; omega) fun h' tk hS hk => ?_
  rw [hl, met_fold] at hS
  refine PyProof.Rows.args_nil ?_
  obtain ⟨o, es, ep, t, ho, hex, hd, _, _, _, hf, hn⟩ := hS
  have le : (ns.foldl step_dedup []).length ≤ ns.length := by
    rw [← met_fold]
    exact firstMet_length_le _ _
  have I2 : Inv X pins σ H1 { s1 with heap := h', toks := tk } := I1.kept fun b o e => hk b o (Heap.lt_size e) e
  exact call_len_set ho hex hd hf (by rw [hn]; omega) ⟨.int (ns.foldl step_dedup []).length, H1, I2.tok _, ⟨_, by rw [hn]⟩, q1⟩
end
section
variable {Φ : Nat → Fn} {gc : Nat → D} {C : Cf} {E : XK} {X : Cx} {k : Nat}
theorem refs_rep {G : Hp} : ∀ {ds : List D} {vs : List V}, RepA C G vs ds → (∀ d ∈ ds, keyN d = true) → ∃ zs : List (Addr × D), vs = zs.map (fun z => V.ref z.1) ∧ ds = zs.map (·.2) ∧ ∀ z ∈ zs, Rep C G (.ref z.1) z.2
  | [], _, .nil, _ => ⟨[], rfl, rfl, fun z hz => nomatch hz⟩
  | d :: ds, _, .cons (v := v) r t, h => by
    obtain ⟨zs, e1, e2, e3⟩ := refs_rep t fun x hx => h x (List.mem_cons_of_mem _ hx)
    have hd := h d List.mem_cons_self
    have : ∃ b, v = V.ref b := by
      cases d <;> first | (simp [keyN] at hd; done) | skip
      cases r with
      | tup _ _ _ => exact ⟨_, rfl⟩
    obtain ⟨b, rfl⟩ := this
    refine ⟨(b, d) :: zs, by rw [e1]; rfl, by rw [e2]; rfl, fun z hz => ?_⟩
    rcases List.mem_cons.mp hz with rfl | hz
    · exact r
    · exact e3 z hz
theorem repI {G : Hp} : ∀ (ms : List Int), RepA C G (ms.map V.int) (ms.map D.int)
  | [] => .nil
  | i :: ms => .cons (.int i) (repI ms)
theorem sd_sortset {a : Ex} {e : Expr} {ta : TE} {p1 p2 q pos : Pos} (g : Gd C E X k) (ha : Sd Φ gc C E X a e ta) (hp : plainE e = true) (h1 : glB X.env.scope "sorted" = true) (h2 : glB X.env.scope "set" = true) :
    ∃ u, Sd Φ gc C E X (.prm .sortset a) (.Call (.Name "sorted" p1) [.Call (.Name "set" p2) [e] [] q] [] pos) u := by
  refine ⟨_, pe_sortSet g.calm g.u65 (gl_of h1) (g.blt _ (by decide +kernel)) (gl_of h2) (g.blt _ (by decide +kernel)) ha.pe (starEach_plain hp), fun B ow s σ H Q R w => ?_, fun z => by cases z⟩
  unfold ev at w
  show ta σ H fun v H1 => _
  refine bindB ha R w fun x s1 ow1 v H1 R1 st r1 w1 => ?_
  cases x with
  | lst xs =>
    obtain ⟨l, vs, rfl, h3, h4⟩ := r1.list
    have hlim := r1.lenL
    simp only [prim1] at w1
    split at w1
    · rename_i hc
      simp only [Bool.and_eq_true, decide_eq_true_eq, List.all_eq_true] at hc
      obtain ⟨⟨c1, c2⟩, c3⟩ := hc
      obtain ⟨zs, rfl, rfl, e3⟩ := refs_rep h4 fun d hd => (c2 d hd).1
      have S := sb_of c3
      refine .inl ⟨l, zs, rfl, .inl (.inl h3), fun z hz => ?_, by simpa using c1, c3, fun ps p hps eD hn => ?_⟩
      · have hm : z.2 ∈ zs.map (·.2) := List.mem_map.mpr ⟨z, hz, rfl⟩
        refine ⟨keyN_kyb (c2 z.2 hm).1, ?_, numb_nk 9 _ (c2 z.2 hm).2⟩
        rw [g.hK]
        exact Rep.dp hid_sn DEP (e3 z hz) (S.ok _ hm)
      · refine wpE.giveNew w1 R1 hn ?_
        rw [← eD]
        refine Rep.lstNew R1 hn (repA_of fun q hq => ?_) ?_
        · obtain ⟨z, hz, rfl⟩ := hps q hq
          exact e3 z hz
        · rw [eD, (sortL_perm _).length_eq]
          have : ∀ l : List D, (dedup l).length ≤ l.length := fun l => by
            induction l with
            | nil => exact Nat.le_refl _
            | cons y l ih =>
              unfold dedup
              split
              · rw [List.length_cons]; omega
              · rw [List.length_cons, List.length_cons]; omega
          exact Nat.le_trans (this _) hlim
    · cases qn : intsD xs with
      | none => rw [qn] at w1; exact w1.elim
      | some ns =>
        rw [qn] at w1
        simp only [Option.bind_some] at w1
        split at w1
        · rename_i hlen
          have ev := ints_rep h4 qn
          subst ev
          have ex := intsD_map qn
          subst ex
          refine .inr ⟨l, ns, rfl, .inl (.inl h3), hlen, fun ms p hs hm hn => ?_⟩
          have S := sb_ints ns
          have S2 := sb_ints ms
          have nd : (ms.map D.int).Nodup := by
            rw [List.nodup_iff_pairwise_ne, List.pairwise_map]
            exact hs.imp fun h e => by cases e; exact absurd h (Int.lt_irrefl _)
          have sub : ∀ x ∈ ms.map D.int, x ∈ ns.map D.int := fun x hx => by
            obtain ⟨i, hi, rfl⟩ := List.mem_map.mp hx
            exact List.mem_map.mpr ⟨i, (hm i).mp hi, rfl⟩
          have pm : (ms.map D.int).Perm (dedup (ns.map D.int)) := (List.perm_ext_iff_of_nodup nd (dedup_nd S fun x hx => hx)).mpr fun x => ⟨fun hx => dedup_all S (fun x hx => hx) _ (sub x hx), fun hx => by
            obtain ⟨i, hi, rfl⟩ := List.mem_map.mp (dedup_sub hx)
            exact List.mem_map.mpr ⟨i, (hm i).mpr hi, rfl⟩⟩
          have sl : (ms.map D.int).Pairwise fun a b => D.le a b = true := by
            rw [List.pairwise_map]
            refine hs.imp fun {a b} h => ?_
            show (!decide (b < a)) = true
            rw [decide_eq_false (by omega)]
            rfl
          have eq : ms.map D.int = sortL (dedup (ns.map D.int)) := uniq S sub (pm.trans (sortL_perm _).symm) sl (sortL_sorted S fun x hx => dedup_sub hx)
          refine wpE.giveNew w1 R1 hn ?_
          rw [← eq]
          refine Rep.lstNew R1 hn (repI ms) ?_
          have := pm.length_eq
          rw [this]
          have le : ∀ l : List D, (dedup l).length ≤ l.length := fun l => by
            induction l with
            | nil => exact Nat.le_refl _
            | cons y l ih =>
              unfold dedup
              split
              · rw [List.length_cons]; omega
              · rw [List.length_cons, List.length_cons]; omega
          exact Nat.le_trans (le _) hlim
        · exact w1.elim
  | _ => exact w1.elim
theorem sd_lenset {a : Ex} {e : Expr} {ta : TE} {p1 p2 q pos : Pos} (g : Gd C E X k) (ha : Sd Φ gc C E X a e ta) (hp : plainE e = true) (h1 : glB X.env.scope "len" = true) (h2 : glB X.env.scope "set" = true) :
    ∃ u, Sd Φ gc C E X (.prm .lenset a) (.Call (.Name "len" p1) [.Call (.Name "set" p2) [e] [] q] [] pos) u := by
  refine ⟨_, pe_lenSetG g.calm (gl_of h1) (g.blt _ (by decide +kernel)) (gl_of h2) (g.blt _ (by decide +kernel)) ha.pe (starEach_plain hp), fun B ow s σ H Q R w => ?_, fun z => by cases z⟩
  unfold ev at w
  show ta σ H fun v H1 => _
  refine bindB ha R w fun x s1 ow1 v H1 R1 st r1 w1 => ?_
  cases x with
  | lst xs =>
    obtain ⟨l, vs, rfl, h3, h4⟩ := r1.list
    simp only [prim1] at w1
    cases qn : intsD xs with
    | none => rw [qn] at w1; exact w1.elim
    | some ns =>
      rw [qn] at w1
      simp only [Option.bind_some] at w1
      split at w1
      · rename_i hlen
        have ev := ints_rep h4 qn
        subst ev
        rw [intsD_map qn, ← fold_dedup] at w1
        exact ⟨l, ns, rfl, .inl (.inl h3), hlen, wpE.give w1 rfl R1 (.int _)⟩
      · exact w1.elim
  | _ => exact w1.elim
def isSS : P1 → Bool
  | .sortset => true
  | _ => false
def isLS : P1 → Bool
  | .lenset => true
  | _ => false
end
end Mn

set_option Elab.async false
set_option linter.all false
set_option maxRecDepth 100000
set_option maxHeartbeats 1000000
namespace Mn
open PySem L2

/-! ### the text against the IR -/
structure Tab where
  fns : List (Str × List Str × List Nat × Nat)
  gcs : List (Str × D)
  exs : List Str
  rs : List Nat := []
  lam : Bool := false
def Tab.gc (T : Tab) : Nat → D := fun i => (T.gcs[i]?.map (·.2)).getD .non
structure Chk where
  e : Scope → (Str → Bool) → Expr → Bool
  t : Scope → (Str → Bool) → Expr → Bool
  b : Scope → (Str → Bool) → BoolOp → List Expr → Bool
  bt : Scope → (Str → Bool) → BoolOp → List Expr → Bool
  a : Scope → (Str → Bool) → List Expr → Bool
  k : Scope → (Str → Bool) → List Expr → List Keyword → Bool
  i : Scope → (Str → Bool) → Expr → Expr → Bool
  f : Scope → (Str → Bool) → Expr → Bool
  n : Scope → (Str → Bool) → List Bool → List Expr → Bool
def visB' (sc : Scope) (x : Str) : Bool := (sc.names.lookup x == some .local || sc.names.lookup x == some .cell || sc.names.lookup x == some .free) && !(x == ("__debug__" : Str)) && !(x == ("__classdict__" : Str))
def gloB (sc : Scope) (x : Str) : Bool := glB sc x && !(x == ("__debug__" : Str))
def Chk.of (e t : Scope → (Str → Bool) → Expr → Bool) : Chk where
  e := e
  t := t
  b := fun sc fc _ es => match es with
    | [x] => e sc fc x
    | _ => false
  bt := fun sc fc _ es => match es with
    | [x] => t sc fc x
    | _ => false
  a := fun _ _ _ => false
  k := fun _ _ _ _ => false
  i := fun sc fc _ it => e sc fc it
  f := fun _ _ _ => false
  n := fun _ _ _ _ => false
def Chk.pl (e : Scope → (Str → Bool) → Expr → Bool) : Chk := Chk.of e fun sc fc x => plainT x && e sc fc x
def isAnd : BoolOp → Bool
  | .And => true
  | .Or => false
def endOk (c : Chk) (sc : Scope) (fc : Str → Bool) (a : Ex) : Option Expr → Bool
  | none => a.isNil
  | some e => !a.isNil && c.e sc fc e
/-- the names of a block -/
def blkB (N : List Str) (sc scope : Scope) (w : List Nat) : Bool :=
  (scope.kind == .function) && scope.names.all (fun y => scope.names.lookup y.1 == some y.2) && w.all (fun i => decide (i < N.length)) &&
  scope.names.all (fun y => if y.2 == .free then sc.names.lookup y.1 == some .cell || sc.names.lookup y.1 == some .free else true) &&
  scope.names.all (fun y => if y.2 == .local || y.2 == .cell then w.any (fun i => N[i]? == some y.1) || !N.contains y.1 else true)
def isLR : P1 → Bool
  | .lrng => true
  | _ => false
section
variable (T : Tab) (N : List Str) (k : Nat)
def chk : Ex → Chk
  | .var i => .pl fun sc _ x => match x with
    | .Name x _ => N[i]? == some x && visB' sc x
    | _ => false
  | .cst d => .pl fun _ _ x => match x with
    | .Constant c _ _ => cstOk d c
    | _ => false
  | .gcs j => .pl fun sc _ x => match x with
    | .Name x _ => (T.gcs[j]?.map (·.1)) == some x && gloB sc x
    | _ => false
  | .anil => { Chk.of (fun _ _ _ => false) (fun _ _ _ => false) with a := fun _ _ es => es.isEmpty, k := fun _ _ es ks => es.isEmpty && ks.isEmpty, n := fun _ _ fl es => fl.isEmpty && es.isEmpty }
  | .acons e r => { Chk.of (fun _ _ _ => false) (fun _ _ _ => false) with
      a := fun sc fc es => match es with
        | x :: xs => (chk e).e sc fc x && (chk r).a sc fc xs
        | [] => false
      k := fun sc fc es ks => match es with
        | x :: xs => (chk e).e sc fc x && (chk r).k sc fc xs ks
        | [] => match ks with
          | ⟨_, v, _⟩ :: ks => (chk e).e sc fc v && (chk r).k sc fc [] ks
          | [] => false
      n := fun sc fc fl es => match fl, es with
        | false :: fl, x :: xs => (chk e).e sc fc x && (chk r).n sc fc fl xs
        | true :: fl, x :: xs => (chk e).f sc fc x && (chk r).n sc fc fl xs
        | _, _ => false }
  | .tup a => .pl fun sc fc x => match x with
    | .Tuple es _ _ => (chk a).a sc fc es && decide (es.length ≤ 1000)
    | _ => false
  | .lst a =>
    let e : Scope → (Str → Bool) → Expr → Bool := fun sc fc x => match x with
      | .List es _ => (chk a).a sc fc es && decide (es.length ≤ 1000)
      | _ => false
    { Chk.pl e with f := e }
  | .dnew n =>
    let e : Scope → (Str → Bool) → Expr → Bool := fun _ _ x => match x with
      | .Dict [] [] _ => true
      | _ => false
    { Chk.pl e with f := e }
  | .dsp n a b => { Chk.of (fun _ _ _ => false) (fun _ _ _ => false) with
      f := fun sc fc x => match x with
        | .Dict [some x] [y] _ => (chk a).e sc fc x && (chk b).e sc fc y
        | _ => false }
  | .dspC l => { Chk.of (fun _ _ _ => false) (fun _ _ _ => false) with
      f := fun _ _ x => match x with
        | .Dict ks vs _ => dcB l ks vs && decide (1 ≤ l.length) && decide (l.length ≤ 15)
        | _ => false }
  | .bin o a b => .pl fun sc fc x => match x with
    | .BinOp x op y _ => op == boA o && (chk a).e sc fc x && (chk b).e sc fc y
    | _ => false
  | .cmp o a b =>
    let e : Scope → (Str → Bool) → Expr → Bool := fun sc fc x => match x with
      | .Compare x [op] [y] _ => op == coA o && (chk a).e sc fc x && (chk b).e sc fc y
      | _ => false
    .of e e
  | .chn o o' a b c =>
    let e : Scope → (Str → Bool) → Expr → Bool := fun sc fc x => match x with
      | .Compare x [op, op'] [y, z] _ => op == coA o && op' == coA o' && (chk a).e sc fc x && (chk b).e sc fc y && (chk c).e sc fc z
      | _ => false
    .of e e
  | .isN yes a =>
    let e : Scope → (Str → Bool) → Expr → Bool := fun sc fc x => match x with
      | .Compare x [op] [.Constant .none _ _] _ => op == (if yes then CmpOp.Is else .IsNot) && (chk a).e sc fc x
      | _ => false
    .of e e
  | .isB yes b a =>
    let e : Scope → (Str → Bool) → Expr → Bool := fun sc fc x => match x with
      | .Compare x [op] [.Constant (.bool c) _ _] _ => op == (if yes then CmpOp.Is else .IsNot) && c == b && (chk a).e sc fc x
      | _ => false
    .of e e
  | .and_ a b =>
    let bb : Scope → (Str → Bool) → BoolOp → List Expr → Bool := fun sc fc op es => match es with
      | x :: y :: r => isAnd op && (chk a).e sc fc x && (chk b).b sc fc op (y :: r)
      | _ => false
    let bt : Scope → (Str → Bool) → BoolOp → List Expr → Bool := fun sc fc op es => match es with
      | x :: y :: r => isAnd op && (chk a).t sc fc x && (chk b).bt sc fc op (y :: r)
      | _ => false
    let e : Scope → (Str → Bool) → Expr → Bool := fun sc fc x => match x with
      | .BoolOp op es _ => bb sc fc op es
      | _ => false
    let t : Scope → (Str → Bool) → Expr → Bool := fun sc fc x => match x with
      | .BoolOp op es _ => bt sc fc op es
      | _ => false
    { Chk.of e t with
      b := fun sc fc op es => match es with
        | [x] => e sc fc x
        | _ => bb sc fc op es
      bt := fun sc fc op es => match es with
        | [x] => t sc fc x
        | _ => bt sc fc op es }
  | .or_ a b =>
    let bb : Scope → (Str → Bool) → BoolOp → List Expr → Bool := fun sc fc op es => match es with
      | x :: y :: r => !isAnd op && (chk a).e sc fc x && (chk b).b sc fc op (y :: r)
      | _ => false
    let bt : Scope → (Str → Bool) → BoolOp → List Expr → Bool := fun sc fc op es => match es with
      | x :: y :: r => !isAnd op && (chk a).t sc fc x && (chk b).bt sc fc op (y :: r)
      | _ => false
    let e : Scope → (Str → Bool) → Expr → Bool := fun sc fc x => match x with
      | .BoolOp op es _ => bb sc fc op es
      | _ => false
    let t : Scope → (Str → Bool) → Expr → Bool := fun sc fc x => match x with
      | .BoolOp op es _ => bt sc fc op es
      | _ => false
    { Chk.of e t with
      b := fun sc fc op es => match es with
        | [x] => e sc fc x
        | _ => bb sc fc op es
      bt := fun sc fc op es => match es with
        | [x] => t sc fc x
        | _ => bt sc fc op es }
  | .not_ a => .of (fun sc fc x => match x with
      | .UnaryOp .Not x _ => (chk a).e sc fc x
      | _ => false) (fun sc fc x => match x with
      | .UnaryOp .Not x _ => (chk a).t sc fc x
      | _ => false)
  | .ite c a b => .of (fun sc fc x => match x with
      | .IfExp x y z _ => (chk c).t sc fc x && (chk a).e sc fc y && (chk b).e sc fc z
      | _ => false) (fun _ _ _ => false)
  | .idx a i => .pl fun sc fc x => match x with
    | .Subscript x y _ => (chk a).e sc fc x && (chk i).e sc fc y
    | _ => false
  | .slc a lo hi => .pl fun sc fc x => match x with
    | .Subscript x (.Slice l h none _) _ => (chk a).e sc fc x && endOk (chk lo) sc fc lo l && endOk (chk hi) sc fc hi h
    | _ => false
  | .prm p a => .pl fun sc fc x => match x with
    | .Call (.Name n _) [.Call (.Name n' p') [x'] [] q'] [] _ => (isLR p && n == "list" && n' == "range" && glB sc "list" && glB sc "range" && (chk a).e sc fc x') || (isSS p && n == "sorted" && n' == "set" && glB sc "sorted" && glB sc "set" && (chk a).e sc fc x') || (isLS p && n == "len" && n' == "set" && glB sc "len" && glB sc "set" && (chk a).e sc fc x') ||
        (((p1Ok p && n == p1N p && glB sc (p1N p)) || (isDN p && n == "dict" && glB sc "dict")) && (chk a).e sc fc (.Call (.Name n' p') [x'] [] q'))
    | .Call (.Name n _) [x] [] _ => ((p1Ok p && n == p1N p && glB sc (p1N p)) || (isDN p && n == "dict" && glB sc "dict")) && (chk a).e sc fc x
    | .UnaryOp .USub x _ => (match p with | .neg => true | _ => false) && (chk a).e sc fc x
    | .Subscript x (.Slice none none (some (.UnaryOp .USub (.Constant (.int 1) _ _) _)) _) _ => (match p with | .rev => true | _ => false) && (chk a).e sc fc x
    | _ => false
  | .isi ty a => .pl fun sc fc x => match x with
    | .Call (.Name n _) [x, .Name m _] [] _ => n == "isinstance" && m == Str.ofString (tyS ty) && glB sc "isinstance" && glB sc (Str.ofString (tyS ty)) && (chk a).e sc fc x
    | _ => false
  | .index o i => .pl fun sc fc x => match x with
    | .Call (.Attribute x n ap) [y] [] cp => n == "index" && (ap.endLine == cp.line) && baseE x && (chk o).e sc fc x && (chk i).e sc fc y
    | _ => false
  | .get o i d => .pl fun sc fc x => match x with
    | .Call (.Attribute x n ap) [y, z] [] cp => n == "get" && (ap.endLine == cp.line) && baseE x && (chk o).e sc fc x && (chk i).e sc fc y && (chk d).e sc fc z
    | _ => false
  | .cal f a => .pl fun sc fc x => match x with
    | .Call (.Name n _) es ks _ => match T.fns[f]? with
      | some (n', ps, js, l) => n == n' && decide (l + 2 ≤ k) && gloB sc n && (match ks with
        | [] => match es with
          | [] => ps.isEmpty && (match a with | .anil => true | _ => false)
          | _ :: _ => decide (es.length = ps.length) && (chk a).a sc fc es
        | _ :: _ => decide (es.length ≤ ps.length) && js.contains es.length && kwN ks (ps.drop es.length) && (chk a).k sc fc es ks)
      | none => false
    | _ => false
  | .lc w e p it c => .pl fun sc fc x => match x with
    | .ListComp elt [⟨tg, iter, ifs, 0⟩] scope _ => blkB N sc scope w && p.slots.all (fun j => w.contains j) && (chk it).i sc fc tg iter &&
        (let sc' := relS scope sc
         let fc' : Str → Bool := fun x => scope.names.lookup x == some .cell && !(x == "_law_result")
         patOk N sc' fc' p tg && (chk e).e sc' fc' elt && (match ifs with
          | [] => (match c with | .cst (.bl true) => true | _ => false)
          | [q] => (chk c).t sc' fc' q
          | _ => false))
    | _ => false
  | .lcp w e p i c => .pl fun sc fc x => match x with
    | .ListComp elt [⟨tg, .Name nm _, ifs, 0⟩] scope _ => blkB N sc scope w && p.slots.all (fun j => w.contains j) && (N[i]? == some nm && visB' sc nm) &&
        (let sc' := relS scope sc
         let fc' : Str → Bool := fun x => scope.names.lookup x == some .cell && !(x == "_law_result")
         patOk N sc' fc' p tg && (chk e).e sc' fc' elt && (match ifs with
          | [] => (match c with | .cst (.bl true) => true | _ => false)
          | [q] => (chk c).t sc' fc' q
          | _ => false))
    | _ => false
  | .rng a => { Chk.of (fun _ _ _ => false) (fun _ _ _ => false) with
      i := fun sc fc _ it => match it with
        | .Call (.Name n _) [x] [] _ => n == "range" && glB sc "range" && (chk a).e sc fc x
        | _ => false }
  | .rng2 a b => { Chk.of (fun _ _ _ => false) (fun _ _ _ => false) with
      i := fun sc fc _ it => match it with
        | .Call (.Name n _) [x, y] [] _ => n == "range" && glB sc "range" && (chk a).e sc fc x && (chk b).e sc fc y
        | _ => false }
  | .enm a => { Chk.of (fun _ _ _ => false) (fun _ _ _ => false) with
      i := fun sc fc tg it => match tg, it with
        | .Tuple _ _ _, .Call (.Name n _) [x] [] _ => n == "enumerate" && glB sc "enumerate" && (chk a).e sc fc x
        | _, _ => false }
  | .zip a b => { Chk.of (fun _ _ _ => false) (fun _ _ _ => false) with
      i := fun sc fc tg it => match tg, it with
        | .Tuple _ _ _, .Call (.Name n _) [x, y] [] _ => n == "zip" && glB sc "zip" && (chk a).e sc fc x && (chk b).e sc fc y
        | _, _ => false }
  | .enmzip a b => { Chk.of (fun _ _ _ => false) (fun _ _ _ => false) with
      i := fun sc fc tg it => match tg, it with
        | .Tuple _ _ _, .Call (.Name n _) [.Call (.Name m _) [x, y] [] _] [] _ => n == "enumerate" && m == "zip" && glB sc "enumerate" && glB sc "zip" && (chk a).e sc fc x && (chk b).e sc fc y
        | _, _ => false }
  | .bad => .pl fun _ _ x => plainE x
  | .calv i fs a => .pl fun sc fc x => match x with
    | .Call (.Name n _) (e :: es) [] _ => N[i]? == some n && visB' sc n && (chk a).a sc fc (e :: es) && fs.all (fun q => match T.fns[q.2]? with
      | some (y, ps, _, l) => decide (l + 2 ≤ k) && decide ((e :: es).length = ps.length) && T.gcs.any (fun c => c.1 == y && (match c.2 with | .tok m => m == q.1 + 2 | _ => false))
      | none => false)
    | _ => false
  | .res rs e => .pl fun sc fc x => match x with
    | .Call (.Name n _) [.Lambda ps body scope _] [] _ => T.lam && fc "_law_result" && decide (2 ≤ k) && rs.all (fun c => T.rs.contains c) && n == "_law_result" && glB sc "_law_result" && noPar ps && LamX.lamSB sc scope && (chk e).e scope (fun _ => false) body
    | _ => false
end
end Mn

set_option Elab.async false
set_option linter.all false
set_option maxRecDepth 100000
set_option maxHeartbeats 4000000
namespace Mn
open PySem L2

structure Cc (T : Tab) (Φ : Nat → Fn) (N : List Str) (k kr : Nat) (C : Cf) (E : XK) (X : Cx) (sc : Scope) (fc : Str → Bool) : Prop where
  g : Gd C E X kr
  hk : k ≤ kr + 2
  lam : fc "_law_result" = true → T.lam = true → k ≤ kr ∧ LamC C X T.rs
  N : X.N = N
  sc : X.env.scope = sc
  fc : ∀ x, fc x = true → X.fn x = true
  fn : ∀ (i : Nat) x ps js l, T.fns[i]? = some (x, ps, js, l) → l ≤ k → FG C X.mg X.base x ps js l (Φ i)
  gc : ∀ (i : Nat) x d, T.gcs[i]? = some (x, d) → ∃ u v, X.mg x = some u ∧ RelV v u ∧ ∀ G, Rep C G v d
section
variable {T : Tab} {Φ : Nat → Fn} {N : List Str} {k kr : Nat} {C : Cf} {E : XK} {X : Cx} {sc : Scope} {fc : Str → Bool}
theorem Cc.blk (c : Cc T Φ N k kr C E X sc fc) (s : Shared) (H : Hp) (scope : Scope) (a : Addr) (cl : List (Str × Addr)) (fp : List Addr) :
    Cc T Φ N k kr C EF (X.blk s H scope (compEnvC scope cl a X.env) fp) (relS scope sc) (fun x => scope.names.lookup x == some .cell && !(x == "_law_result")) where
  hk := c.hk
  lam := fun h => by simp at h
  g := ⟨c.g.hP, c.g.hw, c.g.hK, c.g.calm, c.g.nd, c.g.room, fun pins σ H s e s' I h => by obtain ⟨_, _, _, _, _, _, _, _, _, _, _, _, z⟩ := h; exact z.elim, c.g.blt⟩
  N := c.N
  sc := by show relS scope X.env.scope = _; rw [c.sc]
  fc := fun x h => (Bool.and_eq_true _ _ ▸ h : _ ∧ _).1
  fn := c.fn
  gc := c.gc
theorem blk_ok {scope : Scope} {w : List Nat} (h : blkB N sc scope w = true) : BlkOk N sc scope (w.filterMap fun i => N[i]?.map fun x => (x, i)) ∧ (w.filterMap fun i => N[i]?.map fun x => (x, i)).map (·.2) = w := by
  simp only [blkB, Bool.and_eq_true, List.all_eq_true, beq_iff_eq, decide_eq_true_eq] at h
  obtain ⟨⟨⟨⟨h1, h2⟩, h3⟩, h4⟩, h5⟩ := h
  refine ⟨⟨h1, fun y hy => h2 y hy, fun p hp => ?_, fun y hy e => ?_, fun y hy e => ?_⟩, ?_⟩
  · obtain ⟨i, hi, e⟩ := List.mem_filterMap.mp hp
    cases q : N[i]? with
    | none => rw [q] at e; cases e
    | some x => rw [q] at e; cases e; exact q
  · have := h4 y hy
    rw [e, if_pos rfl] at this
    simpa using this
  · have := h5 y hy
    have c : (y.2 == NameKind.local || y.2 == NameKind.cell) = true := by rcases e with e | e <;> rw [e] <;> rfl
    rw [if_pos c] at this
    simp only [Bool.or_eq_true, List.any_eq_true, beq_iff_eq, Bool.not_eq_true', List.contains_eq_mem, decide_eq_false_iff_not] at this
    rcases this with ⟨i, hi, e'⟩ | z
    · exact .inl (List.mem_map.mpr ⟨(y.1, i), List.mem_filterMap.mpr ⟨i, hi, by rw [e']; rfl⟩, rfl⟩)
    · exact .inr z
  · clear h4 h5 h2
    induction w with
    | nil => rfl
    | cons i w ih =>
      have hi := h3 i (by simp)
      have e : N[i]? = some N[i] := List.getElem?_eq_getElem hi
      have e2 : (N[i]?.map fun x => (x, i)) = some (N[i], i) := by rw [e]; rfl
      rw [List.filterMap_cons, e2]
      simp only [List.map_cons]
      rw [ih fun j hj => h3 j (by simp [hj])]
/-- what the checks are good for -/
structure Good (T : Tab) (Φ : Nat → Fn) (N : List Str) (k : Nat) (C : Cf) (a : Ex) : Prop where
  e : ∀ {kr E X sc fc} (c : Cc T Φ N k kr C E X sc fc) (x : Expr), (chk T N k a).e sc fc x = true → plainE x = true ∧ ∃ t, Sd Φ T.gc C E X a x t
  t : ∀ {kr E X sc fc} (c : Cc T Φ N k kr C E X sc fc) (x : Expr), (chk T N k a).t sc fc x = true → ∃ t, SdT Φ T.gc C E X a x t
  b : ∀ {kr E X sc fc} (c : Cc T Φ N k kr C E X sc fc) (op : BoolOp) (es : List Expr) (pos : Pos), (chk T N k a).b sc fc op es = true → ∃ t, Sd Φ T.gc C E X a (.BoolOp op es pos) t
  bt : ∀ {kr E X sc fc} (c : Cc T Φ N k kr C E X sc fc) (op : BoolOp) (es : List Expr) (pos : Pos), (chk T N k a).bt sc fc op es = true → ∃ t, PW X (.BoolOp op es pos) t ∧ OkT C E t (evT Φ T.gc a)
  ra : ∀ {kr E X sc fc} (c : Cc T Φ N k kr C E X sc fc) (es : List Expr), (chk T N k a).a sc fc es = true → ∃ t, SdA Φ T.gc C E X a es t
  rk : ∀ {kr E X sc fc} (c : Cc T Φ N k kr C E X sc fc) (es : List Expr) (ks : List Keyword), (chk T N k a).k sc fc es ks = true → ∃ t1 t2, SdK Φ T.gc C E X a es ks t1 t2
  ri : ∀ {kr E X sc fc} (c : Cc T Φ N k kr C E X sc fc) (tg it : Expr), (chk T N k a).i sc fc tg it = true → plainE it = true ∧ ∃ wi, SdI Φ T.gc C E X a tg it wi
  rf : ∀ {kr E X sc fc} (c : Cc T Φ N k kr C E X sc fc) (x : Expr), (chk T N k a).f sc fc x = true → plainE x = true ∧ ∃ t, SdF Φ T.gc C E X a x t
  rn : ∀ {kr E X sc fc} (c : Cc T Φ N k kr C E X sc fc) (fl : List Bool) (es : List Expr), (chk T N k a).n sc fc fl es = true → ∃ t, SdN Φ T.gc C E X a fl es t
theorem pw_one {op : BoolOp} {x : Expr} {pos : Pos} {t : TT} (h : PT X x t) : PW X (.BoolOp op [x] pos) t := by
  cases op with
  | And => exact pw_and1 h
  | Or => exact pw_or1 h
/-- a form whose checks are those of Chk.of -/
theorem good_of {a : Ex} {ce ct : Scope → (Str → Bool) → Expr → Bool} (q : chk T N k a = Chk.of ce ct)
    (he : ∀ {kr E X sc fc} (c : Cc T Φ N k kr C E X sc fc) (x : Expr), ce sc fc x = true → plainE x = true ∧ ∃ t, Sd Φ T.gc C E X a x t)
    (ht : ∀ {kr E X sc fc} (c : Cc T Φ N k kr C E X sc fc) (x : Expr), ct sc fc x = true → ∃ t, SdT Φ T.gc C E X a x t) : Good T Φ N k C a := by
  refine ⟨fun c x h => ?_, fun c x h => ?_, fun c op es pos h => ?_, fun c op es pos h => ?_, fun c es h => ?_, fun c es ks h => ?_, fun c tg it h => ?_, fun c x h => ?_, fun c fl es h => ?_⟩ <;> rw [q] at h
  · exact he c x h
  · exact ht c x h
  · match es, h with
    | [x], h =>
      obtain ⟨_, t, st⟩ := he c x h
      exact ⟨t, pe_one st.pe, st.ok, st.vr⟩
  · match es, h with
    | [x], h =>
      obtain ⟨t, st⟩ := ht c x h
      exact ⟨t, pw_one st.pt, st.ok⟩
  · exact Bool.noConfusion h
  · exact Bool.noConfusion h
  · obtain ⟨p, t, st⟩ := he c it h
    exact ⟨p, _, sdi_seq c.g st⟩
  · exact Bool.noConfusion h
  · exact Bool.noConfusion h
theorem good_pl {a : Ex} {ce : Scope → (Str → Bool) → Expr → Bool} (q : chk T N k a = Chk.pl ce)
    (he : ∀ {kr E X sc fc} (c : Cc T Φ N k kr C E X sc fc) (x : Expr), ce sc fc x = true → plainE x = true ∧ ∃ t, Sd Φ T.gc C E X a x t) : Good T Φ N k C a :=
  good_of q he fun c x h => by
    simp only [Bool.and_eq_true] at h
    obtain ⟨_, t, st⟩ := he c x h.2
    exact ⟨_, sdT_plain c.g.hK st h.1⟩
theorem glo_of {x : Str} (h : gloB sc x = true) : glB sc x = true ∧ (x == ("__debug__" : Str)) = false := by
  simpa [gloB] using h
theorem vis_of {x : Str} (h : visB' sc x = true) : Vis sc x ∧ (x == ("__debug__" : Str)) = false ∧ (x == ("__classdict__" : Str)) = false := by
  simp only [visB', Bool.and_eq_true, Bool.not_eq_true'] at h
  exact ⟨visB h.1.1, h.1.2, h.2⟩
theorem end_ok {a : Ex} {e : Option Expr} (G : Good T Φ N k C a) (c : Cc T Φ N k kr C E X sc fc) (h : endOk (chk T N k a) sc fc a e = true) : ∃ t, SdO Φ T.gc C E X a e t := by
  cases e with
  | none =>
    cases a <;> first | (simp [endOk, Ex.isNil] at h; done) | skip
    exact ⟨_, sdo_none⟩
  | some e =>
    simp only [endOk, Bool.and_eq_true, Bool.not_eq_true'] at h
    obtain ⟨_, t, st⟩ := G.e c e h.2
    exact ⟨_, sdo_some st h.1⟩
theorem good_var (i : Nat) : Good T Φ N k C (.var i) := good_pl rfl fun c x h => by
  split at h <;> first | exact Bool.noConfusion h | skip
  simp only [Bool.and_eq_true, beq_iff_eq] at h
  have hv := h.2
  rw [← c.sc] at hv
  obtain ⟨h1, h2, h3⟩ := vis_of hv
  exact ⟨rfl, _, sd_var (by rw [c.N]; exact h.1) h1 h2 h3⟩
theorem good_cst (d : D) : Good T Φ N k C (.cst d) := good_pl rfl fun c x h => by
  split at h <;> first | exact Bool.noConfusion h | skip
  exact ⟨rfl, sd_cst h⟩
theorem good_gcs (j : Nat) : Good T Φ N k C (.gcs j) := good_pl rfl fun {kr E X sc fc} c x h => by
  split at h <;> first | exact Bool.noConfusion h | skip
  rename_i x pos
  simp only [Bool.and_eq_true, beq_iff_eq] at h
  cases q : T.gcs[j]? with
  | none => rw [q] at h; cases h.1
  | some p =>
    obtain ⟨x', d⟩ := p
    rw [q] at h
    obtain ⟨h1, h2⟩ := h
    cases h1
    obtain ⟨u, v, k1, k2, k3⟩ := c.gc j _ d q
    rw [← c.sc] at h2
    obtain ⟨g1, g2⟩ := glo_of h2
    have ed : T.gc j = d := by unfold Tab.gc; rw [q]; rfl
    refine ⟨rfl, _, pe_glob (gl_of g1) k1 k2 g2, fun B ow s σ H Q R w => ?_, fun z => by cases z⟩
    unfold ev at w
    rw [ed] at w
    exact w ow v H R Stp.refl (k3 _)
theorem good_none {a : Ex} (q : chk T N k a = Chk.of (fun _ _ _ => false) (fun _ _ _ => false)) : Good T Φ N k C a := good_of q (fun c x h => Bool.noConfusion h) fun c x h => Bool.noConfusion h
theorem false_b {es : List Expr} (h : (match es with | [_] => false | _ => false) = true) : False := by
  split at h <;> exact Bool.noConfusion h
theorem good_anil : Good T Φ N k C .anil := by
  refine ⟨fun c x h => Bool.noConfusion h, fun c x h => Bool.noConfusion h, fun c op es pos h => (false_b h).elim, fun c op es pos h => (false_b h).elim, fun c es h => ?_, fun c es ks h => ?_, fun c tg it h => Bool.noConfusion h, fun c x h => Bool.noConfusion h, fun c fl es h => ?_⟩
  · have : es = [] := by simpa [chk] using h
    subst this; exact ⟨_, sda_nil⟩
  · have : es = [] ∧ ks = [] := by simpa [chk] using h
    obtain ⟨rfl, rfl⟩ := this; exact ⟨_, _, sdk_nil⟩
  · have : fl = [] ∧ es = [] := by simpa [chk] using h
    obtain ⟨rfl, rfl⟩ := this; exact ⟨_, sdn_nil⟩
theorem good_acons {a r : Ex} (Ga : Good T Φ N k C a) (Gr : Good T Φ N k C r) : Good T Φ N k C (.acons a r) := by
  refine ⟨fun c x h => Bool.noConfusion h, fun c x h => Bool.noConfusion h, fun c op es pos h => (false_b h).elim, fun c op es pos h => (false_b h).elim, fun c es h => ?_, fun c es ks h => ?_, fun c tg it h => Bool.noConfusion h, fun c x h => Bool.noConfusion h, fun c fl es h => ?_⟩
  · simp only [chk] at h
    split at h <;> first | exact Bool.noConfusion h | skip
    simp only [Bool.and_eq_true] at h
    obtain ⟨p, t, st⟩ := Ga.e c _ h.1
    obtain ⟨u, su⟩ := Gr.ra c _ h.2
    exact ⟨_, sda_cons st su p⟩
  · simp only [chk] at h
    split at h
    · simp only [Bool.and_eq_true] at h
      obtain ⟨p, t, st⟩ := Ga.e c _ h.1
      obtain ⟨u1, u2, su⟩ := Gr.rk c _ _ h.2
      exact ⟨_, _, sdk_pos st su p⟩
    · split at h <;> first | exact Bool.noConfusion h | skip
      simp only [Bool.and_eq_true] at h
      obtain ⟨p, t, st⟩ := Ga.e c _ h.1
      obtain ⟨u1, u2, su⟩ := Gr.rk c _ _ h.2
      have e := su.nl rfl
      subst e
      exact ⟨_, _, sdk_kw st su⟩
  · simp only [chk] at h
    split at h <;> first | exact Bool.noConfusion h | skip
    · simp only [Bool.and_eq_true] at h
      obtain ⟨p, t, st⟩ := Ga.e c _ h.1
      obtain ⟨u, su⟩ := Gr.rn c _ _ h.2
      exact ⟨_, sdn_cons st su p⟩
    · simp only [Bool.and_eq_true] at h
      obtain ⟨p, t, st⟩ := Ga.rf c _ h.1
      obtain ⟨u, su⟩ := Gr.rn c _ _ h.2
      exact ⟨_, sdn_own st su p⟩
theorem good_tup {a : Ex} (Ga : Good T Φ N k C a) : Good T Φ N k C (.tup a) := good_pl rfl fun c x h => by
  split at h <;> first | exact Bool.noConfusion h | skip
  simp only [Bool.and_eq_true, decide_eq_true_eq] at h
  obtain ⟨t, st⟩ := Ga.ra c _ h.1
  exact ⟨rfl, _, sd_tup st h.2⟩
theorem good_plF {a : Ex} {ce cf : Scope → (Str → Bool) → Expr → Bool} (q : chk T N k a = { Chk.pl ce with f := cf })
    (he : ∀ {kr E X sc fc} (c : Cc T Φ N k kr C E X sc fc) (x : Expr), ce sc fc x = true → plainE x = true ∧ ∃ t, Sd Φ T.gc C E X a x t)
    (hf : ∀ {kr E X sc fc} (c : Cc T Φ N k kr C E X sc fc) (x : Expr), cf sc fc x = true → plainE x = true ∧ ∃ t, SdF Φ T.gc C E X a x t) : Good T Φ N k C a := by
  have ht : ∀ {kr E X sc fc} (c : Cc T Φ N k kr C E X sc fc) (x : Expr), (plainT x && ce sc fc x) = true → ∃ t, SdT Φ T.gc C E X a x t := fun c x h => by
    simp only [Bool.and_eq_true] at h
    obtain ⟨_, t, st⟩ := he c x h.2
    exact ⟨_, sdT_plain c.g.hK st h.1⟩
  refine ⟨fun c x h => ?_, fun c x h => ?_, fun c op es pos h => ?_, fun c op es pos h => ?_, fun c es h => ?_, fun c es ks h => ?_, fun c tg it h => ?_, fun c x h => ?_, fun c fl es h => ?_⟩ <;> rw [q] at h
  · exact he c x h
  · exact ht c x h
  · match es, h with
    | [x], h =>
      obtain ⟨_, t, st⟩ := he c x h
      exact ⟨t, pe_one st.pe, st.ok, st.vr⟩
  · match es, h with
    | [x], h =>
      obtain ⟨t, st⟩ := ht c x h
      exact ⟨t, pw_one st.pt, st.ok⟩
  · exact Bool.noConfusion h
  · exact Bool.noConfusion h
  · obtain ⟨p, t, st⟩ := he c it h
    exact ⟨p, _, sdi_seq c.g st⟩
  · exact hf c x h
  · exact Bool.noConfusion h
theorem good_lst {a : Ex} (Ga : Good T Φ N k C a) : Good T Φ N k C (.lst a) := by
  refine good_plF rfl (fun c x h => ?_) (fun c x h => ?_)
  · split at h <;> first | exact Bool.noConfusion h | skip
    simp only [Bool.and_eq_true, decide_eq_true_eq] at h
    obtain ⟨t, st⟩ := Ga.ra c _ h.1
    exact ⟨rfl, _, sd_lst st h.2⟩
  · split at h <;> first | exact Bool.noConfusion h | skip
    simp only [Bool.and_eq_true, decide_eq_true_eq] at h
    obtain ⟨t, st⟩ := Ga.ra c _ h.1
    exact ⟨rfl, _, sdf_lst st h.2⟩
theorem good_dnew (n : Bool) : Good T Φ N k C (.dnew n) := by
  refine good_plF rfl (fun c x h => ?_) (fun c x h => ?_)
  · split at h <;> first | exact Bool.noConfusion h | skip
    exact ⟨rfl, sd_dnew c.g⟩
  · split at h <;> first | exact Bool.noConfusion h | skip
    exact ⟨rfl, sdf_dnew c.g⟩
theorem good_dsp (n : Bool) {a b : Ex} (Ga : Good T Φ N k C a) (Gb : Good T Φ N k C b) : Good T Φ N k C (.dsp n a b) := by
  refine ⟨fun c x h => Bool.noConfusion h, fun c x h => Bool.noConfusion h, fun c op es pos h => (false_b h).elim, fun c op es pos h => (false_b h).elim, fun c es h => Bool.noConfusion h, fun c es ks h => Bool.noConfusion h, fun c tg it h => Bool.noConfusion h, fun c x h => ?_, fun c fl es h => Bool.noConfusion h⟩
  simp only [chk] at h
  split at h <;> first | exact Bool.noConfusion h | skip
  simp only [Bool.and_eq_true] at h
  obtain ⟨h1, h2⟩ := h
  obtain ⟨_, t, st⟩ := Ga.e c _ h1
  obtain ⟨_, u, su⟩ := Gb.e c _ h2
  cases n with
  | false => exact ⟨rfl, _, sdf_dsp st su⟩
  | true => exact ⟨rfl, _, sdf_dspN c.g st su⟩
theorem good_dspC (l : List (D × D)) : Good T Φ N k C (.dspC l) := by
  refine ⟨fun c x h => Bool.noConfusion h, fun c x h => Bool.noConfusion h, fun c op es pos h => (false_b h).elim, fun c op es pos h => (false_b h).elim, fun c es h => Bool.noConfusion h, fun c es ks h => Bool.noConfusion h, fun c tg it h => Bool.noConfusion h, fun c x h => ?_, fun c fl es h => Bool.noConfusion h⟩
  simp only [chk] at h
  split at h <;> first | exact Bool.noConfusion h | skip
  simp only [Bool.and_eq_true, decide_eq_true_eq] at h
  exact ⟨rfl, sdf_dspC c.g h.1.1 h.1.2 h.2⟩
theorem good_bin (o : BO) {a b : Ex} (Ga : Good T Φ N k C a) (Gb : Good T Φ N k C b) : Good T Φ N k C (.bin o a b) := good_pl rfl fun c x h => by
  split at h <;> first | exact Bool.noConfusion h | skip
  simp only [Bool.and_eq_true, beq_iff_eq] at h
  obtain ⟨⟨rfl, h1⟩, h2⟩ := h
  obtain ⟨_, t, st⟩ := Ga.e c _ h1
  obtain ⟨_, u, su⟩ := Gb.e c _ h2
  exact ⟨rfl, sd_binop c.g.hK st su⟩
theorem good_cmp (o : CO) {a b : Ex} (Ga : Good T Φ N k C a) (Gb : Good T Φ N k C b) : Good T Φ N k C (.cmp o a b) := by
  have both : ∀ {kr E X sc fc} (c : Cc T Φ N k kr C E X sc fc) (x : Expr), (chk T N k (.cmp o a b)).e sc fc x = true → plainE x = true ∧ ∃ t, Sd Φ T.gc C E X (.cmp o a b) x t ∧ SdT Φ T.gc C E X (.cmp o a b) x (tB t) := fun c x h => by
    simp only [chk, Chk.of] at h
    split at h <;> first | exact Bool.noConfusion h | skip
    simp only [Bool.and_eq_true, beq_iff_eq] at h
    obtain ⟨⟨rfl, h1⟩, h2⟩ := h
    obtain ⟨_, t, st⟩ := Ga.e c _ h1
    obtain ⟨p, u, su⟩ := Gb.e c _ h2
    exact ⟨rfl, sd_cmp c.g st su p⟩
  exact good_of rfl (fun c x h => let ⟨p, t, st, _⟩ := both c x h; ⟨p, t, st⟩) fun c x h => let ⟨p, t, _, st⟩ := both c x h; ⟨_, st⟩
theorem good_chn (o o' : CO) {a b d : Ex} (Ga : Good T Φ N k C a) (Gb : Good T Φ N k C b) (Gd' : Good T Φ N k C d) : Good T Φ N k C (.chn o o' a b d) := by
  have both : ∀ {kr E X sc fc} (c : Cc T Φ N k kr C E X sc fc) (x : Expr), (chk T N k (.chn o o' a b d)).e sc fc x = true → plainE x = true ∧ ∃ t, Sd Φ T.gc C E X (.chn o o' a b d) x t ∧ SdT Φ T.gc C E X (.chn o o' a b d) x (tB t) := fun c x h => by
    simp only [chk, Chk.of] at h
    split at h <;> first | exact Bool.noConfusion h | skip
    simp only [Bool.and_eq_true, beq_iff_eq] at h
    obtain ⟨⟨⟨⟨rfl, rfl⟩, h1⟩, h2⟩, h3⟩ := h
    obtain ⟨_, t, st⟩ := Ga.e c _ h1
    obtain ⟨_, u, su⟩ := Gb.e c _ h2
    obtain ⟨p, v, sv⟩ := Gd'.e c _ h3
    exact ⟨rfl, sd_chn c.g st su sv p⟩
  exact good_of rfl (fun c x h => let ⟨p, t, st, _⟩ := both c x h; ⟨p, t, st⟩) fun c x h => let ⟨p, t, _, st⟩ := both c x h; ⟨_, st⟩
theorem good_isN (yes : Bool) {a : Ex} (Ga : Good T Φ N k C a) : Good T Φ N k C (.isN yes a) := by
  have both : ∀ {kr E X sc fc} (c : Cc T Φ N k kr C E X sc fc) (x : Expr), (chk T N k (.isN yes a)).e sc fc x = true → plainE x = true ∧ ∃ t, Sd Φ T.gc C E X (.isN yes a) x t ∧ SdT Φ T.gc C E X (.isN yes a) x (tB t) := fun c x h => by
    simp only [chk, Chk.of] at h
    split at h <;> first | exact Bool.noConfusion h | skip
    simp only [Bool.and_eq_true, beq_iff_eq] at h
    obtain ⟨rfl, h1⟩ := h
    obtain ⟨_, t, st⟩ := Ga.e c _ h1
    exact ⟨rfl, sd_isN yes st⟩
  exact good_of rfl (fun c x h => let ⟨p, t, st, _⟩ := both c x h; ⟨p, t, st⟩) fun c x h => let ⟨p, t, _, st⟩ := both c x h; ⟨_, st⟩
theorem good_isB (yes b : Bool) {a : Ex} (Ga : Good T Φ N k C a) : Good T Φ N k C (.isB yes b a) := by
  have both : ∀ {kr E X sc fc} (c : Cc T Φ N k kr C E X sc fc) (x : Expr), (chk T N k (.isB yes b a)).e sc fc x = true → plainE x = true ∧ ∃ t, Sd Φ T.gc C E X (.isB yes b a) x t ∧ SdT Φ T.gc C E X (.isB yes b a) x (tB t) := fun c x h => by
    simp only [chk, Chk.of] at h
    split at h <;> first | exact Bool.noConfusion h | skip
    simp only [Bool.and_eq_true, beq_iff_eq] at h
    obtain ⟨⟨rfl, rfl⟩, h1⟩ := h
    obtain ⟨_, t, st⟩ := Ga.e c _ h1
    exact ⟨rfl, sd_isB yes _ st⟩
  exact good_of rfl (fun c x h => let ⟨p, t, st, _⟩ := both c x h; ⟨p, t, st⟩) fun c x h => let ⟨p, t, _, st⟩ := both c x h; ⟨_, st⟩
theorem okT_of_b {b : Ex} {t : TT} (h : OkT C E t (evT Φ T.gc b)) : OkT C E t (evT Φ T.gc b) := h
theorem good_and {a b : Ex} (Ga : Good T Φ N k C a) (Gb : Good T Φ N k C b) : Good T Φ N k C (.and_ a b) := by
  have hb : ∀ {kr E X sc fc} (c : Cc T Φ N k kr C E X sc fc) (op : BoolOp) (x y : Expr) (r : List Expr) (pos : Pos), (isAnd op && (chk T N k a).e sc fc x && (chk T N k b).b sc fc op (y :: r)) = true → ∃ t, Sd Φ T.gc C E X (.and_ a b) (.BoolOp op (x :: y :: r) pos) t := fun c op x y r pos h => by
    simp only [Bool.and_eq_true] at h
    cases op <;> simp only [isAnd, Bool.false_eq_true, false_and] at h
    obtain ⟨_, t, st⟩ := Ga.e c _ h.1.2
    obtain ⟨u, su⟩ := Gb.b c _ _ pos h.2
    exact ⟨_, pe_and st.pe su.pe, ok_and st.ok su.ok, fun z => by cases z⟩
  have hbt : ∀ {kr E X sc fc} (c : Cc T Φ N k kr C E X sc fc) (op : BoolOp) (x y : Expr) (r : List Expr) (pos : Pos), (isAnd op && (chk T N k a).t sc fc x && (chk T N k b).bt sc fc op (y :: r)) = true → ∃ t, PW X (.BoolOp op (x :: y :: r) pos) t ∧ OkT C E t (evT Φ T.gc (.and_ a b)) := fun c op x y r pos h => by
    simp only [Bool.and_eq_true] at h
    cases op <;> simp only [isAnd, Bool.false_eq_true, false_and] at h
    obtain ⟨t, st⟩ := Ga.t c _ h.1.2
    obtain ⟨u, su, ou⟩ := Gb.bt c _ _ pos h.2
    exact ⟨_, pw_and st.pt su, okT_and st.ok ou⟩
  have he : ∀ {kr E X sc fc} (c : Cc T Φ N k kr C E X sc fc) (x : Expr), (chk T N k (.and_ a b)).e sc fc x = true → plainE x = true ∧ ∃ t, Sd Φ T.gc C E X (.and_ a b) x t := fun c x h => by
    simp only [chk, Chk.of] at h
    split at h <;> first | exact Bool.noConfusion h | skip
    split at h <;> first | exact Bool.noConfusion h | skip
    exact ⟨rfl, hb c _ _ _ _ _ h⟩
  have ht : ∀ {kr E X sc fc} (c : Cc T Φ N k kr C E X sc fc) (x : Expr), (chk T N k (.and_ a b)).t sc fc x = true → ∃ t, SdT Φ T.gc C E X (.and_ a b) x t := fun c x h => by
    simp only [chk, Chk.of] at h
    split at h <;> first | exact Bool.noConfusion h | skip
    split at h <;> first | exact Bool.noConfusion h | skip
    obtain ⟨t, pw, ok⟩ := hbt c _ _ _ _ _ h
    exact ⟨t, pw.pt, ok⟩
  refine ⟨he, ht, fun c op es pos h => ?_, fun c op es pos h => ?_, fun c es h => Bool.noConfusion h, fun c es ks h => Bool.noConfusion h, fun c tg it h => ?_, fun c x h => Bool.noConfusion h, fun c fl es h => Bool.noConfusion h⟩
  · match es, h with
    | [x], h =>
      obtain ⟨_, t, st⟩ := he c x h
      exact ⟨t, pe_one st.pe, st.ok, st.vr⟩
    | x :: y :: r, h => exact hb c op x y r pos h
  · match es, h with
    | [x], h =>
      obtain ⟨t, st⟩ := ht c x h
      exact ⟨t, pw_one st.pt, st.ok⟩
    | x :: y :: r, h => exact hbt c op x y r pos h
  · obtain ⟨p, t, st⟩ := he c it h
    exact ⟨p, _, sdi_seq c.g st⟩
theorem good_or {a b : Ex} (Ga : Good T Φ N k C a) (Gb : Good T Φ N k C b) : Good T Φ N k C (.or_ a b) := by
  have hb : ∀ {kr E X sc fc} (c : Cc T Φ N k kr C E X sc fc) (op : BoolOp) (x y : Expr) (r : List Expr) (pos : Pos), (!isAnd op && (chk T N k a).e sc fc x && (chk T N k b).b sc fc op (y :: r)) = true → ∃ t, Sd Φ T.gc C E X (.or_ a b) (.BoolOp op (x :: y :: r) pos) t := fun c op x y r pos h => by
    simp only [Bool.and_eq_true] at h
    cases op <;> simp only [isAnd, Bool.not_true, Bool.false_eq_true, false_and] at h
    obtain ⟨_, t, st⟩ := Ga.e c _ h.1.2
    obtain ⟨u, su⟩ := Gb.b c _ _ pos h.2
    exact ⟨_, pe_or st.pe su.pe, ok_or st.ok su.ok, fun z => by cases z⟩
  have hbt : ∀ {kr E X sc fc} (c : Cc T Φ N k kr C E X sc fc) (op : BoolOp) (x y : Expr) (r : List Expr) (pos : Pos), (!isAnd op && (chk T N k a).t sc fc x && (chk T N k b).bt sc fc op (y :: r)) = true → ∃ t, PW X (.BoolOp op (x :: y :: r) pos) t ∧ OkT C E t (evT Φ T.gc (.or_ a b)) := fun c op x y r pos h => by
    simp only [Bool.and_eq_true] at h
    cases op <;> simp only [isAnd, Bool.not_true, Bool.false_eq_true, false_and] at h
    obtain ⟨t, st⟩ := Ga.t c _ h.1.2
    obtain ⟨u, su, ou⟩ := Gb.bt c _ _ pos h.2
    exact ⟨_, pw_or st.pt su, okT_or st.ok ou⟩
  have he : ∀ {kr E X sc fc} (c : Cc T Φ N k kr C E X sc fc) (x : Expr), (chk T N k (.or_ a b)).e sc fc x = true → plainE x = true ∧ ∃ t, Sd Φ T.gc C E X (.or_ a b) x t := fun c x h => by
    simp only [chk, Chk.of] at h
    split at h <;> first | exact Bool.noConfusion h | skip
    split at h <;> first | exact Bool.noConfusion h | skip
    exact ⟨rfl, hb c _ _ _ _ _ h⟩
  have ht : ∀ {kr E X sc fc} (c : Cc T Φ N k kr C E X sc fc) (x : Expr), (chk T N k (.or_ a b)).t sc fc x = true → ∃ t, SdT Φ T.gc C E X (.or_ a b) x t := fun c x h => by
    simp only [chk, Chk.of] at h
    split at h <;> first | exact Bool.noConfusion h | skip
    split at h <;> first | exact Bool.noConfusion h | skip
    obtain ⟨t, pw, ok⟩ := hbt c _ _ _ _ _ h
    exact ⟨t, pw.pt, ok⟩
  refine ⟨he, ht, fun c op es pos h => ?_, fun c op es pos h => ?_, fun c es h => Bool.noConfusion h, fun c es ks h => Bool.noConfusion h, fun c tg it h => ?_, fun c x h => Bool.noConfusion h, fun c fl es h => Bool.noConfusion h⟩
  · match es, h with
    | [x], h =>
      obtain ⟨_, t, st⟩ := he c x h
      exact ⟨t, pe_one st.pe, st.ok, st.vr⟩
    | x :: y :: r, h => exact hb c op x y r pos h
  · match es, h with
    | [x], h =>
      obtain ⟨t, st⟩ := ht c x h
      exact ⟨t, pw_one st.pt, st.ok⟩
    | x :: y :: r, h => exact hbt c op x y r pos h
  · obtain ⟨p, t, st⟩ := he c it h
    exact ⟨p, _, sdi_seq c.g st⟩
theorem good_not {a : Ex} (Ga : Good T Φ N k C a) : Good T Φ N k C (.not_ a) := by
  refine good_of rfl (fun c x h => ?_) (fun c x h => ?_)
  · split at h <;> first | exact Bool.noConfusion h | skip
    obtain ⟨_, t, st⟩ := Ga.e c _ h
    exact ⟨rfl, _, pe_not st.pe, ok_not st.ok, fun z => by cases z⟩
  · split at h <;> first | exact Bool.noConfusion h | skip
    obtain ⟨t, st⟩ := Ga.t c _ h
    exact ⟨_, pt_not st.pt, okT_not st.ok⟩
theorem good_ite {q a b : Ex} (Gq : Good T Φ N k C q) (Ga : Good T Φ N k C a) (Gb : Good T Φ N k C b) : Good T Φ N k C (.ite q a b) := by
  refine good_of rfl (fun c x h => ?_) (fun c x h => Bool.noConfusion h)
  split at h <;> first | exact Bool.noConfusion h | skip
  simp only [Bool.and_eq_true] at h
  obtain ⟨t, st⟩ := Gq.t c _ h.1.1
  obtain ⟨_, u, su⟩ := Ga.e c _ h.1.2
  obtain ⟨_, v, sv⟩ := Gb.e c _ h.2
  exact ⟨rfl, _, pe_ifExp st.pt su.pe sv.pe, ok_ite st.ok su.ok sv.ok, fun z => by cases z⟩
theorem good_idx {a i : Ex} (Ga : Good T Φ N k C a) (Gi : Good T Φ N k C i) : Good T Φ N k C (.idx a i) := good_pl rfl fun c x h => by
  split at h <;> first | exact Bool.noConfusion h | skip
  simp only [Bool.and_eq_true] at h
  obtain ⟨_, t, st⟩ := Ga.e c _ h.1
  obtain ⟨p, u, su⟩ := Gi.e c _ h.2
  exact ⟨rfl, sd_idx c.g st su p⟩
theorem good_slc {a lo hi : Ex} (Ga : Good T Φ N k C a) (Gl : Good T Φ N k C lo) (Gh : Good T Φ N k C hi) : Good T Φ N k C (.slc a lo hi) := good_pl rfl fun c x h => by
  split at h <;> first | exact Bool.noConfusion h | skip
  simp only [Bool.and_eq_true] at h
  obtain ⟨_, t, st⟩ := Ga.e c _ h.1.1
  obtain ⟨u, su⟩ := end_ok Gl c h.1.2
  obtain ⟨v, sv⟩ := end_ok Gh c h.2
  exact ⟨rfl, sd_slc c.g st su sv⟩
theorem good_prm (p : P1) {a : Ex} (Ga : Good T Φ N k C a) : Good T Φ N k C (.prm p a) := good_pl rfl fun c x h => by
  split at h <;> first | exact Bool.noConfusion h | skip
  · simp only [Bool.and_eq_true, Bool.or_eq_true, beq_iff_eq] at h
    rcases h with ((⟨⟨⟨⟨⟨h1, rfl⟩, rfl⟩, h2⟩, h3⟩, h4⟩ | ⟨⟨⟨⟨⟨h1, rfl⟩, rfl⟩, h2⟩, h3⟩, h4⟩) | ⟨⟨⟨⟨⟨h1, rfl⟩, rfl⟩, h2⟩, h3⟩, h4⟩) | ⟨h0, h3⟩
    · obtain ⟨pl, t, st⟩ := Ga.e c _ h4
      cases p <;> first | (exact Bool.noConfusion h1; done) | skip
      rw [← c.sc] at h2 h3
      exact ⟨rfl, sd_lrng c.g st pl h2 h3⟩
    · obtain ⟨pl, t, st⟩ := Ga.e c _ h4
      cases p <;> first | (exact Bool.noConfusion h1; done) | skip
      rw [← c.sc] at h2 h3
      exact ⟨rfl, sd_sortset c.g st pl h2 h3⟩
    · obtain ⟨pl, t, st⟩ := Ga.e c _ h4
      cases p <;> first | (exact Bool.noConfusion h1; done) | skip
      rw [← c.sc] at h2 h3
      exact ⟨rfl, sd_lenset c.g st pl h2 h3⟩
    · obtain ⟨pl, t, st⟩ := Ga.e c _ h3
      rcases h0 with ⟨⟨h1, rfl⟩, h2⟩ | ⟨⟨h1, rfl⟩, h2⟩
      · exact ⟨rfl, sd_prm c.g st pl h1 (by rw [c.sc]; exact h2)⟩
      · cases p <;> first | (exact Bool.noConfusion h1; done) | exact ⟨rfl, sd_dictN c.g st pl (by rw [c.sc]; exact h2)⟩ | exact ⟨rfl, sd_dictP c.g st pl (by rw [c.sc]; exact h2)⟩
  · simp only [Bool.and_eq_true, Bool.or_eq_true, beq_iff_eq] at h
    obtain ⟨h0, h3⟩ := h
    obtain ⟨pl, t, st⟩ := Ga.e c _ h3
    rcases h0 with ⟨⟨h1, rfl⟩, h2⟩ | ⟨⟨h1, rfl⟩, h2⟩
    · exact ⟨rfl, sd_prm c.g st pl h1 (by rw [c.sc]; exact h2)⟩
    · cases p <;> first | (exact Bool.noConfusion h1; done) | exact ⟨rfl, sd_dictN c.g st pl (by rw [c.sc]; exact h2)⟩ | exact ⟨rfl, sd_dictP c.g st pl (by rw [c.sc]; exact h2)⟩
  · simp only [Bool.and_eq_true] at h
    obtain ⟨_, t, st⟩ := Ga.e c _ h.2
    cases p <;> first | (exact Bool.noConfusion h.1; done) | skip
    exact ⟨rfl, sd_neg st⟩
  · simp only [Bool.and_eq_true] at h
    obtain ⟨_, t, st⟩ := Ga.e c _ h.2
    cases p <;> first | (exact Bool.noConfusion h.1; done) | skip
    exact ⟨rfl, sd_rev c.g st⟩
theorem good_isi (ty : Ty) {a : Ex} (Ga : Good T Φ N k C a) : Good T Φ N k C (.isi ty a) := good_pl rfl fun c x h => by
  split at h <;> first | exact Bool.noConfusion h | skip
  simp only [Bool.and_eq_true, beq_iff_eq] at h
  obtain ⟨⟨⟨⟨rfl, rfl⟩, h2⟩, h3⟩, h4⟩ := h
  obtain ⟨p, t, st⟩ := Ga.e c _ h4
  rw [← c.sc] at h2 h3
  exact ⟨rfl, sd_isi c.g st p h2 h3⟩
theorem good_index {o i : Ex} (Go : Good T Φ N k C o) (Gi : Good T Φ N k C i) : Good T Φ N k C (.index o i) := good_pl rfl fun c x h => by
  split at h <;> first | exact Bool.noConfusion h | skip
  simp only [Bool.and_eq_true, beq_iff_eq] at h
  obtain ⟨⟨⟨⟨rfl, h2⟩, h3⟩, h4⟩, h5⟩ := h
  obtain ⟨_, t, st⟩ := Go.e c _ h4
  obtain ⟨p, u, su⟩ := Gi.e c _ h5
  exact ⟨rfl, sd_index c.g st su h3 p (by simpa using h2)⟩
theorem good_get {o i d : Ex} (Go : Good T Φ N k C o) (Gi : Good T Φ N k C i) (Gd' : Good T Φ N k C d) : Good T Φ N k C (.get o i d) := good_pl rfl fun c x h => by
  split at h <;> first | exact Bool.noConfusion h | skip
  simp only [Bool.and_eq_true, beq_iff_eq] at h
  obtain ⟨⟨⟨⟨⟨rfl, h2⟩, h3⟩, h4⟩, h5⟩, h6⟩ := h
  obtain ⟨_, t, st⟩ := Go.e c _ h4
  obtain ⟨p, u, su⟩ := Gi.e c _ h5
  obtain ⟨p', v, sv⟩ := Gd'.e c _ h6
  exact ⟨rfl, sd_get c.g st su sv h3 p p' (by simpa using h2)⟩
theorem good_cal (f : Nat) {a : Ex} (Ga : Good T Φ N k C a) : Good T Φ N k C (.cal f a) := good_pl rfl fun {kr E X sc fc} c x h => by
  split at h <;> first | exact Bool.noConfusion h | skip
  split at h <;> first | exact Bool.noConfusion h | skip
  rename_i n p es ks pos q n' ps js l hT
  simp only [Bool.and_eq_true, beq_iff_eq, decide_eq_true_eq] at h
  obtain ⟨⟨⟨rfl, hl2⟩, hg⟩, h⟩ := h
  rw [← c.sc] at hg
  obtain ⟨g1, g2⟩ := glo_of hg
  have hl : l ≤ kr := by have := c.hk; omega
  have G := c.fn f _ _ _ _ hT (by omega)
  split at h
  · split at h
    · simp only [Bool.and_eq_true, List.isEmpty_iff] at h
      obtain ⟨rfl, h2⟩ := h
      cases a <;> first | (exact Bool.noConfusion h2; done) | skip
      exact ⟨rfl, sd_cal0 c.g G hl rfl g1 g2⟩
    · simp only [Bool.and_eq_true, decide_eq_true_eq] at h
      obtain ⟨t, st⟩ := Ga.ra c _ h.2
      exact ⟨rfl, sd_cal c.g G hl st h.1 g1 g2⟩
  · simp only [Bool.and_eq_true, decide_eq_true_eq, List.contains_eq_mem] at h
    obtain ⟨⟨⟨h1, h2⟩, h3⟩, h4⟩ := h
    obtain ⟨t1, t2, st⟩ := Ga.rk c _ _ h4
    exact ⟨rfl, sd_calK c.g G hl st h1 h2 h3 g1 g2⟩
theorem ok_yes : OkT C E tYes (evT Φ T.gc (.cst (.bl true))) := fun B ow s σ H Q R w => w ow H R Stp.refl
theorem cst_true {q : Ex} (h : (match q with | .cst (.bl true) => true | _ => false) = true) : q = .cst (.bl true) := by
  split at h
  · rfl
  · exact Bool.noConfusion h
structure LcP (Φ : Nat → Fn) (gc : Nat → D) (C : Cf) (E : XK) (X : Cx) (w : List Nat) (e : Ex) (p : Pat) (it q : Ex) (elt tg iter : Expr) (ifs : List Expr) (scope : Scope) (own : List (Str × Nat)) : Prop where
  ew : own.map (·.2) = w
  bo : BlkOk X.N X.env.scope scope own
  pi : PI X tg iter (iEv Φ gc C E it)
  pg : ∀ (s : Shared) (H : Hp) (a : Addr) (cl : List (Str × Addr)) (fp : List Addr), PG (X.blk s H scope (compEnvC scope cl a X.env) fp) tg (gEv C p)
  pt : ∀ (s : Shared) (H : Hp) (a : Addr) (cl : List (Str × Addr)) (fp : List Addr), PTs (X.blk s H scope (compEnvC scope cl a X.env) fp) ifs (tTv Φ gc C EF q)
  pe : ∀ (s : Shared) (H : Hp) (a : Addr) (cl : List (Str × Addr)) (fp : List Addr), PE (X.blk s H scope (compEnvC scope cl a X.env) fp) elt (tEv Φ gc C EF e)
  pl : plainE iter = true
  hw : ∀ j ∈ p.slots, j ∈ w
theorem lc_parts {w : List Nat} {e : Ex} {p : Pat} {it q : Ex} {elt tg iter : Expr} {ifs : List Expr} {scope : Scope} {pos : Pos} (Ge : Good T Φ N k C e) (Gi : Good T Φ N k C it) (Gq : Good T Φ N k C q) (c : Cc T Φ N k kr C E X sc fc) (h : (chk T N k (.lc w e p it q)).e sc fc (.ListComp elt [⟨tg, iter, ifs, 0⟩] scope pos) = true) :
    ∃ own, LcP Φ T.gc C E X w e p it q elt tg iter ifs scope own := by
  simp only [chk, Chk.pl, Chk.of, Bool.and_eq_true] at h
  obtain ⟨⟨⟨h1, h2⟩, h3⟩, ⟨⟨h4, h5⟩, h6⟩⟩ := h
  obtain ⟨bo, ew⟩ := blk_ok h1
  obtain ⟨pi, wi, si⟩ := Gi.ri c tg iter h3
  have hw : ∀ j ∈ p.slots, j ∈ w := fun j hj => by simpa using List.all_eq_true.mp h2 j hj
  have cb := fun s H a cl fp => c.blk s H scope a cl fp
  rw [← c.N, ← c.sc] at bo
  have ew' : (w.filterMap fun i => X.N[i]?.map fun x => (x, i)).map (·.2) = w := by rw [c.N]; exact ew
  refine ⟨_, ew', bo, pi_ev si, fun s H a cl fp => ?_, fun s H a cl fp => ?_, fun s H a cl fp => ?_, pi, hw⟩
  · have b := cb s H a cl fp
    have h4' := h4
    rw [← b.N, ← b.sc] at h4'
    obtain ⟨_, g, sg⟩ := patOk_sd (C := C) b.g.nd b.g.calm b.g.hK b.fc p tg h4'
    exact pg_ev sg
  · have b := cb s H a cl fp
    match ifs, h6 with
    | [], h6 =>
      have eq : q = .cst (.bl true) := cst_true h6
      subst eq
      exact ⟨fun pins s σ H Q I ⟨B, ow, s', R, wq⟩ => pts_nil.run pins s σ H Q I (ok_yes (T := T) (Φ := Φ) (C := C) (E := EF) B ow s' σ H Q R wq)⟩
    | [qe], h6 =>
      obtain ⟨t, st⟩ := Gq.t b qe h6
      exact pts_one (pt_ev st)
  · have b := cb s H a cl fp
    obtain ⟨_, t, st⟩ := Ge.e b elt h5
    exact pe_ev st
theorem LcP.sd {w : List Nat} {e : Ex} {p : Pat} {it q : Ex} {elt tg iter : Expr} {ifs : List Expr} {scope : Scope} {own : List (Str × Nat)} {pos : Pos} (L : LcP Φ T.gc C E X w e p it q elt tg iter ifs scope own) (g : Gd C E X k) : Sd Φ T.gc C E X (.lc w e p it q) (.ListComp elt [⟨tg, iter, ifs, 0⟩] scope pos) (tLc (iEv Φ T.gc C E it) (gEv C p) (tTv Φ T.gc C EF q) (tEv Φ T.gc C EF e) w) := by
  have pe := pe_lc (pos := pos) g.calm g.nd L.pi L.bo L.pg L.pt L.pe (fset_plain L.pl)
  rw [L.ew] at pe
  exact ⟨pe, ok_lc L.hw, fun z => by cases z⟩
theorem good_lc (w : List Nat) {e : Ex} (p : Pat) {it q : Ex} (Ge : Good T Φ N k C e) (Gi : Good T Φ N k C it) (Gq : Good T Φ N k C q) : Good T Φ N k C (.lc w e p it q) := good_pl rfl fun {kr E X sc fc} c x h => by
  have h0 := h
  split at h <;> first | exact Bool.noConfusion h | skip
  obtain ⟨own, L⟩ := lc_parts (pos := ⟨0, 0, 0, 0⟩) Ge Gi Gq c h
  exact ⟨rfl, _, L.sd c.g⟩
theorem good_lcp (w : List Nat) {e : Ex} (p : Pat) (i : Nat) {q : Ex} (Ge : Good T Φ N k C e) (Gq : Good T Φ N k C q) : Good T Φ N k C (.lcp w e p i q) := good_pl rfl fun {kr E X sc fc} c x h => by
  split at h <;> first | exact Bool.noConfusion h | skip
  rename_i elt tg nm npos ifs scope pos
  simp only [Bool.and_eq_true, beq_iff_eq] at h
  obtain ⟨⟨⟨h1, h2⟩, ⟨h3, h3v⟩⟩, ⟨⟨h4, h5⟩, h6⟩⟩ := h
  obtain ⟨bo, ew⟩ := blk_ok h1
  have hw : ∀ j ∈ p.slots, j ∈ w := fun j hj => by simpa using List.all_eq_true.mp h2 j hj
  have cb := fun s H a cl fp => c.blk s H scope a cl fp
  rw [← c.N, ← c.sc] at bo
  rw [← c.sc] at h3v
  obtain ⟨v1, v2, v3⟩ := vis_of h3v
  have ew' : (w.filterMap fun i => X.N[i]?.map fun x => (x, i)).map (·.2) = w := by rw [c.N]; exact ew
  have pi : PI X tg (.Name nm npos) (iSeq X.K (tVar i)) := pi_seq (pe_var (by rw [c.N]; exact h3) v1 v2 v3)
  have pg : ∀ (s : Shared) (H : Hp) (a : Addr) (cl : List (Str × Addr)) (fp : List Addr), PG (X.blk s H scope (compEnvC scope cl a X.env) fp) tg (gEv C p) := fun s H a cl fp => by
    have b := cb s H a cl fp
    have h4' := h4
    rw [← b.N, ← b.sc] at h4'
    obtain ⟨_, g, sg⟩ := patOk_sd (C := C) b.g.nd b.g.calm b.g.hK b.fc p tg h4'
    exact pg_ev sg
  have pt : ∀ (s : Shared) (H : Hp) (a : Addr) (cl : List (Str × Addr)) (fp : List Addr), PTs (X.blk s H scope (compEnvC scope cl a X.env) fp) ifs (tTv Φ T.gc C EF q) := fun s H a cl fp => by
    have b := cb s H a cl fp
    match ifs, h6 with
    | [], h6 =>
      have eq : q = .cst (.bl true) := cst_true h6
      subst eq
      exact ⟨fun pins s σ H Q I ⟨B, ow, s', R, wq⟩ => pts_nil.run pins s σ H Q I (ok_yes (T := T) (Φ := Φ) (C := C) (E := EF) B ow s' σ H Q R wq)⟩
    | [qe], h6 =>
      obtain ⟨t, st⟩ := Gq.t b qe h6
      exact pts_one (pt_ev st)
  have pe : ∀ (s : Shared) (H : Hp) (a : Addr) (cl : List (Str × Addr)) (fp : List Addr), PE (X.blk s H scope (compEnvC scope cl a X.env) fp) elt (tEv Φ T.gc C EF e) := fun s H a cl fp => by
    have b := cb s H a cl fp
    obtain ⟨_, t, st⟩ := Ge.e b elt h5
    exact pe_ev st
  have pe' := pe_lc (pos := pos) c.g.calm c.g.nd pi bo pg pt pe (fset_plain (e := .Name nm npos) rfl)
  rw [ew'] at pe'
  exact ⟨rfl, _, pe', ok_lcp c.g.hK hw, fun z => by cases z⟩
theorem good_i {a : Ex} {ci : Scope → (Str → Bool) → Expr → Expr → Bool} (q : chk T N k a = { Chk.of (fun _ _ _ => false) (fun _ _ _ => false) with i := ci })
    (hi : ∀ {kr E X sc fc} (c : Cc T Φ N k kr C E X sc fc) (tg it : Expr), ci sc fc tg it = true → plainE it = true ∧ ∃ wi, SdI Φ T.gc C E X a tg it wi) : Good T Φ N k C a := by
  refine ⟨fun c x h => ?_, fun c x h => ?_, fun c op es pos h => ?_, fun c op es pos h => ?_, fun c es h => ?_, fun c es ks h => ?_, fun c tg it h => ?_, fun c x h => ?_, fun c fl es h => ?_⟩ <;> rw [q] at h
  · exact Bool.noConfusion h
  · exact Bool.noConfusion h
  · exact (false_b h).elim
  · exact (false_b h).elim
  · exact Bool.noConfusion h
  · exact Bool.noConfusion h
  · exact hi c tg it h
  · exact Bool.noConfusion h
  · exact Bool.noConfusion h
theorem good_rng {a : Ex} (Ga : Good T Φ N k C a) : Good T Φ N k C (.rng a) := good_i rfl fun c tg it h => by
  split at h <;> first | exact Bool.noConfusion h | skip
  simp only [Bool.and_eq_true, beq_iff_eq] at h
  obtain ⟨⟨rfl, h1⟩, h2⟩ := h
  obtain ⟨p, t, st⟩ := Ga.e c _ h2
  rw [← c.sc] at h1
  exact ⟨rfl, sdi_rng c.g st p h1⟩
theorem good_rng2 {a b : Ex} (Ga : Good T Φ N k C a) (Gb : Good T Φ N k C b) : Good T Φ N k C (.rng2 a b) := good_i rfl fun c tg it h => by
  split at h <;> first | exact Bool.noConfusion h | skip
  simp only [Bool.and_eq_true, beq_iff_eq] at h
  obtain ⟨⟨⟨rfl, h1⟩, h2⟩, h3⟩ := h
  obtain ⟨p, t, st⟩ := Ga.e c _ h2
  obtain ⟨p', u, su⟩ := Gb.e c _ h3
  rw [← c.sc] at h1
  exact ⟨rfl, sdi_rng2 c.g st su p p' h1⟩
theorem good_enm {a : Ex} (Ga : Good T Φ N k C a) : Good T Φ N k C (.enm a) := good_i rfl fun c tg it h => by
  split at h <;> first | exact Bool.noConfusion h | skip
  simp only [Bool.and_eq_true, beq_iff_eq] at h
  obtain ⟨⟨rfl, h1⟩, h2⟩ := h
  obtain ⟨p, t, st⟩ := Ga.e c _ h2
  rw [← c.sc] at h1
  exact ⟨rfl, sdi_enm c.g st p h1⟩
theorem good_zip {a b : Ex} (Ga : Good T Φ N k C a) (Gb : Good T Φ N k C b) : Good T Φ N k C (.zip a b) := good_i rfl fun c tg it h => by
  split at h <;> first | exact Bool.noConfusion h | skip
  simp only [Bool.and_eq_true, beq_iff_eq] at h
  obtain ⟨⟨⟨rfl, h1⟩, h2⟩, h3⟩ := h
  obtain ⟨p, t, st⟩ := Ga.e c _ h2
  obtain ⟨p', u, su⟩ := Gb.e c _ h3
  rw [← c.sc] at h1
  exact ⟨rfl, sdi_zip c.g st su p p' h1⟩
theorem good_ezip {a b : Ex} (Ga : Good T Φ N k C a) (Gb : Good T Φ N k C b) : Good T Φ N k C (.enmzip a b) := good_i rfl fun c tg it h => by
  split at h <;> first | exact Bool.noConfusion h | skip
  simp only [Bool.and_eq_true, beq_iff_eq] at h
  obtain ⟨⟨⟨⟨⟨rfl, rfl⟩, h0⟩, h1⟩, h2⟩, h3⟩ := h
  obtain ⟨p, t, st⟩ := Ga.e c _ h2
  obtain ⟨p', u, su⟩ := Gb.e c _ h3
  rw [← c.sc] at h0 h1
  exact ⟨rfl, sdi_ezip c.g st su p p' h0 h1⟩
/-- every form -/
theorem Cc.lamC {kr : Nat} (c : Cc T Φ N k (kr + 2) C E X sc fc) (hk : k ≤ kr + 2) {A : Around} {outer : List Env} {s : Shared} {H : Hp} {E' : XK} {scope : Scope} {f c' : Addr} (hr : Room kr (A.deeper (LamX.lamEnv X scope s.heap.objs.size f c'))) :
    Cc T Φ N k kr C E' (LamX.lamCx X A outer s H E' scope f c') scope (fun _ => false) where
  g := by
    refine ⟨c.g.hP, c.g.hw, c.g.hK, rfl, c.g.nd, hr, ?_, c.g.blt⟩
    have tk : Takes (LamX.lamCx X A outer s H E' scope f c') (fun cls d _ H => E' cls d H) := takes_of rfl rfl rfl rfl
    exact passes_call tk fun _ _ _ _ h => h
  hk := hk
  lam := fun h => by cases h
  N := c.N
  sc := rfl
  fc := fun x h => by cases h
  fn := c.fn
  gc := c.gc
theorem good_res (rs : List Nat) {e : Ex} (Ge : Good T Φ N k C e) : Good T Φ N k C (.res rs e) := good_pl rfl fun {kr E X sc fc} c x h => by
  split at h <;> first | exact Bool.noConfusion h | skip
  simp only [Bool.and_eq_true, beq_iff_eq, decide_eq_true_eq, List.all_eq_true, List.contains_eq_mem] at h
  obtain ⟨⟨⟨⟨⟨⟨⟨⟨h1, h2⟩, h3⟩, h4⟩, rfl⟩, h6⟩, h7⟩, h8⟩, h9⟩ := h
  obtain ⟨l1, l2⟩ := c.lam h2 h1
  obtain ⟨kq, rfl⟩ : ∃ kq, kr = kq + 2 := ⟨kr - 2, by omega⟩
  have e := c.sc
  rw [← e] at h6 h8
  exact ⟨rfl, sd_res c.g l2 (fun c hc => h4 c hc) h6 h7 h8 fun A outer s H E' f c' hr => (Ge.e (c.lamC l1 hr) _ h9).2⟩
theorem good_bad : Good T Φ N k C .bad := good_pl rfl fun {kr E X sc fc} c x h => ⟨h, fun _ _ _ => False, ⟨fun pins s σ H Q I z => z.elim⟩, fun B ow s σ H Q R w => by unfold ev at w; exact w, fun z => by cases z⟩
theorem good_calv (i : Nat) (fs : List (Nat × Nat)) {a : Ex} (Ga : Good T Φ N k C a) : Good T Φ N k C (.calv i fs a) := good_pl rfl fun {kr E X sc fc} c x h => by
  split at h <;> first | exact Bool.noConfusion h | skip
  rename_i n pn e es pos
  simp only [Bool.and_eq_true, beq_iff_eq, List.all_eq_true] at h
  obtain ⟨⟨⟨h1, h2⟩, h3⟩, h4⟩ := h
  obtain ⟨t, st⟩ := Ga.ra c _ h3
  rw [← c.sc] at h2
  obtain ⟨v1, v2, v3⟩ := vis_of h2
  refine ⟨rfl, sd_calv c.g (by rw [c.N]; exact h1) v1 v2 v3 st fun q hq => ?_⟩
  have hq := h4 q hq
  split at hq
  · rename_i y ps js l hT
    simp only [Bool.and_eq_true, decide_eq_true_eq, List.any_eq_true, beq_iff_eq] at hq
    obtain ⟨⟨q1, q2⟩, ⟨cx, cd⟩, hc, rfl, q3⟩ := hq
    have hl : l ≤ kr := by have := c.hk; omega
    refine ⟨_, ps, js, l, c.fn q.2 _ _ _ _ hT (by omega), hl, q2, ?_⟩
    obtain ⟨j, hj⟩ := List.getElem?_of_mem hc
    obtain ⟨u, v, k1, k2, k3⟩ := c.gc j _ _ hj
    split at q3
    · rename_i m e0
      have em : m = q.1 + 2 := by simpa using q3
      simp only at e0
      rw [e0, em] at k3
      have r := k3 (fun _ => none)
      generalize hD : D.tok (q.1 + 2) = d at r
      cases r with
      | fnv n _ =>
        have e := D.tok.inj hD
        have e : n = q.1 := by omega
        subst e
        rw [k1]
        exact congrArg some k2
      | obj n z => cases z
      | town => exact absurd (D.tok.inj hD) (by omega)
      | script _ => exact absurd (D.tok.inj hD) (by omega)
      | _ => cases hD
    · cases q3
  · cases hq
theorem good : ∀ a : Ex, Good T Φ N k C a
  | .var i => good_var i
  | .cst d => good_cst d
  | .gcs j => good_gcs j
  | .anil => good_anil
  | .acons e r => good_acons (good e) (good r)
  | .tup a => good_tup (good a)
  | .lst a => good_lst (good a)
  | .dnew n => good_dnew n
  | .dsp n a b => good_dsp n (good a) (good b)
  | .dspC l => good_dspC l
  | .bin o a b => good_bin o (good a) (good b)
  | .cmp o a b => good_cmp o (good a) (good b)
  | .chn o o' a b c => good_chn o o' (good a) (good b) (good c)
  | .isN yes a => good_isN yes (good a)
  | .isB yes b a => good_isB yes b (good a)
  | .and_ a b => good_and (good a) (good b)
  | .or_ a b => good_or (good a) (good b)
  | .not_ a => good_not (good a)
  | .ite c a b => good_ite (good c) (good a) (good b)
  | .idx a i => good_idx (good a) (good i)
  | .slc a lo hi => good_slc (good a) (good lo) (good hi)
  | .prm p a => good_prm p (good a)
  | .isi ty a => good_isi ty (good a)
  | .index o i => good_index (good o) (good i)
  | .get o i d => good_get (good o) (good i) (good d)
  | .cal f a => good_cal f (good a)
  | .lc w e p it c => good_lc w p (good e) (good it) (good c)
  | .lcp w e p i c => good_lcp w p i (good e) (good c)
  | .rng a => good_rng (good a)
  | .rng2 a b => good_rng2 (good a) (good b)
  | .enm a => good_enm (good a)
  | .zip a b => good_zip (good a) (good b)
  | .enmzip a b => good_ezip (good a) (good b)
  | .res rs e => good_res rs (good e)
  | .bad => good_bad
  | .calv i fs a => good_calv i fs (good a)
end
end Mn

set_option Elab.async false
set_option linter.all false
set_option maxRecDepth 100000
set_option maxHeartbeats 4000000
namespace Mn
open PySem L2

/-! ### statements against the IR -/
structure Chs where
  s : Scope → Stmt → Bool
  ss : Scope → List Stmt → Bool
def Chs.of (s : Scope → Stmt → Bool) : Chs := ⟨s, fun _ _ => false⟩
abbrev yes : Str → Bool := fun _ => true
section
variable (T : Tab) (N : List Str) (k : Nat)
def chkS : Sm → Chs
  | .nop => ⟨fun _ st => match st with
    | .Pass _ => true
    | .Expr (.Constant (.str _) _ _) _ => true
    | _ => false, fun _ sts => sts.isEmpty⟩
  | .seq a b => ⟨fun _ _ => false, fun sc sts => match sts with
    | st :: r => (chkS a).s sc st && (chkS b).ss sc r
    | [] => false⟩
  | .set i e => .of fun sc st => match st with
    | .Assign [.Name x _] e' _ => N[i]? == some x && locB sc x && (match e with
      | .lc _ _ _ _ _ => (match e' with
        | .ListComp _ _ _ _ => true
        | _ => false)
      | _ => notComp e') && (chk T N k e).e sc yes e'
    | _ => false
  | .own i e => .of fun sc st => match st with
    | .Assign [.Name x _] e' _ => N[i]? == some x && locB sc x && (match e, e' with
      | .lc _ _ _ _ _, .ListComp _ _ _ _ => (chk T N k e).e sc yes e'
      | _, _ => notComp e' && (chk T N k e).f sc yes e')
    | _ => false
  | .unp p e => .of fun sc st => match st with
    | .Assign [tg] e' _ => patOk N sc yes p tg && notComp e' && (notTup e' || cellT sc tg || foldT e') && (chk T N k e).e sc yes e'
    | _ => false
  | .par ts e => .of fun sc st => match ts, st with
    | [(i, f), (j, f')], .Assign [.Tuple [.Name x px, .Name y py] kt pt] (.Tuple [a, b] _ _) _ => (N[i]? == some x && N[j]? == some y && decide (i ≠ j) && (sc.names.lookup x == some .local) && (sc.names.lookup y == some .local) && (py.line == px.line) &&
        !(foldedForSure 8 a && foldedForSure 8 b) && !(constantsAlone 8 a && constantsAlone 8 b) && (chk T N k e).n sc yes [f, f'] [a, b]) ||
        (N[i]? == some x && N[j]? == some y && locB sc x && locB sc y && cellT sc (.Tuple [.Name x px, .Name y py] kt pt) && (chk T N k e).n sc yes [f, f'] [a, b])
    | [(i, f), (j, f'), (l, f'')], .Assign [.Tuple [.Name x px, .Name y py, .Name z pz] kt pt] (.Tuple [a, b, c] _ _) _ => (N[i]? == some x && N[j]? == some y && N[l]? == some z && decide (i ≠ j) && decide (i ≠ l) && decide (j ≠ l) && (sc.names.lookup x == some .local) && (sc.names.lookup y == some .local) && (sc.names.lookup z == some .local) && (py.line == px.line) && (pz.line == px.line) &&
        !(foldedForSure 8 a && foldedForSure 8 b && foldedForSure 8 c) && !(constantsAlone 8 a && constantsAlone 8 b && constantsAlone 8 c) && (chk T N k e).n sc yes [f, f', f''] [a, b, c]) ||
        (N[i]? == some x && N[j]? == some y && N[l]? == some z && locB sc x && locB sc y && locB sc z && cellT sc (.Tuple [.Name x px, .Name y py, .Name z pz] kt pt) && (chk T N k e).n sc yes [f, f', f''] [a, b, c])
    | _, _ => false
  | .app i e => .of fun sc st => match st with
    | .Expr (.Call (.Attribute (.Name x p) m ap) [e'] [] cp) _ => m == "append" && N[i]? == some x && visB' sc x && baseE (.Name x p) && (ap.endLine == cp.line) && (chk T N k e).e sc yes e'
    | _ => false
  | .ext i e => .of fun sc st => match st with
    | .Expr (.Call (.Attribute (.Name x p) m ap) [e'] [] cp) _ => m == "extend" && N[i]? == some x && visB' sc x && baseE (.Name x p) && (ap.endLine == cp.line) && (chk T N k e).e sc yes e'
    | _ => false
  | .sti i a b => .of fun sc st => match st with
    | .Assign [.Subscript (.Name x _) e _] e' _ => N[i]? == some x && visB' sc x && notComp e' && (chk T N k a).e sc yes e && (chk T N k b).e sc yes e'
    | _ => false
  | .aug i e => .of fun sc st => match st with
    | .AugAssign (.Name x _) .Add e' _ => N[i]? == some x && locB sc x && (chk T N k e).e sc yes e'
    | _ => false
  | .pop i j => .of fun sc st => match st with
    | .Assign [.Name y _] (.Call (.Attribute (.Name x p) m ap) [] [] cp) _ => m == "pop" && N[i]? == some y && locB sc y && N[j]? == some x && visB' sc x && baseE (.Name x p) && (ap.endLine == cp.line)
    | _ => false
  | .exp e => .of fun sc st => match st with
    | .Expr e' _ => notComp e' && (chk T N k e).e sc yes e'
    | _ => false
  | .ret e => .of fun sc st => match st with
    | .Return (some e') _ => (chk T N k e).e sc yes e'
    | _ => false
  | .ife c a b => .of fun sc st => match st with
    | .If c' p q _ => (chk T N k c).t sc yes c' && (chkS a).ss sc p && (chkS b).ss sc q
    | _ => false
  | .whl _ c b => .of fun sc st => match st with
    | .While c' p [] _ => (chk T N k c).t sc yes c' && (chkS b).ss sc p
    | _ => false
  | .for_ p it b => .of fun sc st => match st with
    | .For tg iter body [] _ => patOk N sc yes p tg && (chk T N k it).i sc yes tg iter && (chkS b).ss sc body
    | _ => false
  | .rse c => .of fun sc st => match st with
    | .Raise (some (.Call (.Name x _) [.Constant (.str _) _ _] [] _)) none _ => T.exs[c]? == some x && gloB sc x && !(x == ("" : Str))
    | _ => false
  | .cnt => .of fun _ st => match st with
    | .Continue _ => true
    | _ => false
  | .brk => .of fun _ st => match st with
    | .Break _ => true
    | _ => false
end
structure Ce (T : Tab) (Φ : Nat → Fn) (N : List Str) (k : Nat) (C : Cf) (E : XK) (X : Cx) (sc : Scope) : Prop where
  c : Cc T Φ N k k C E X sc yes
  g : Gs C E X k
  ex : ∀ (i : Nat) x, T.exs[i]? = some x → (x == ("" : Str)) = false → ExcAt C X.mg i x
section
variable {T : Tab} {Φ : Nat → Fn} {N : List Str} {k : Nat} {C : Cf} {E : XK} {X : Cx} {sc : Scope}
theorem swl {elt : Expr} {gs : List Comprehension} {scope : Scope} {pos p : Pos} {x : Str} {l : Nat} {env : Env} : ∃ b, swapsWith (.ListComp elt gs scope pos) (some (.Name x p)) l env = pure b ∧ (b = true → env.kindOf x = some .local) := by
  refine ⟨_, rfl, fun h => ?_⟩
  simp only [Bool.and_eq_true, beq_iff_eq] at h
  exact h.1.1.2
theorem goodS (c : Ce T Φ N k C E X sc) : ∀ b : Sm, (∀ st, (chkS T N k b).s sc st = true → DS Φ T.gc C E X b st) ∧ (∀ sts, (chkS T N k b).ss sc sts = true → DSs Φ T.gc C E X b sts)
  | .nop => by
    refine ⟨fun st h => ?_, fun sts h => ?_⟩
    · simp only [chkS] at h
      split at h <;> first | exact Bool.noConfusion h | skip
      · exact ds_pass
      · exact ds_doc
    · have : sts = [] := by simpa [chkS] using h
      subst this; exact dss_nil
  | .seq a b => by
    obtain ⟨ga, _⟩ := goodS c a
    obtain ⟨_, gb⟩ := goodS c b
    refine ⟨fun st h => Bool.noConfusion h, fun sts h => ?_⟩
    simp only [chkS] at h
    split at h <;> first | exact Bool.noConfusion h | skip
    simp only [Bool.and_eq_true] at h
    exact dss_cons (ga _ h.1) (gb _ h.2)
  | .set i e => by
    refine ⟨fun st h => ?_, fun sts h => Bool.noConfusion h⟩
    simp only [chkS, Chs.of] at h
    split at h <;> first | exact Bool.noConfusion h | skip
    rename_i x p e' pos
    simp only [Bool.and_eq_true, beq_iff_eq] at h
    obtain ⟨⟨⟨h1, h2⟩, h3⟩, h4⟩ := h
    rw [← c.c.N] at h1
    have h2' := h2
    rw [← c.c.sc] at h2'
    cases hn : notComp e' with
    | true =>
      obtain ⟨_, t, st⟩ := (good e).e c.c e' h4
      exact ds_set c.g h1 h2' st hn
    | false =>
      split at h3
      · rename_i w el pp it q
        split at h3 <;> first | exact Bool.noConfusion h3 | skip
        rename_i elt gs scope lpos
        match gs, h4 with
        | [⟨tg, iter, ifs, 0⟩], h4 =>
          obtain ⟨own, L⟩ := lc_parts (good el) (good it) (good q) c.c h4
          have sd := L.sd (pos := lpos) c.g.toGd
          obtain ⟨b, hb, hl⟩ := swl (elt := elt) (gs := [⟨tg, iter, ifs, 0⟩]) (scope := scope) (pos := lpos) (p := p) (x := x) (l := pos.line) (env := X.env)
          cases b with
          | false => exact ds_of (ps_set c.g.nd h1 (loc_of h2') sd.pe hb (.inl (c.g.fn x))) (ok_asg sd)
          | true =>
            have ps := ps_setLc c.g.calm c.g.nd h1 (hl rfl) hb L.pi L.bo L.pg L.pt L.pe (fset_plain L.pl)
            rw [L.ew] at ps
            exact ds_of ps (ok_asg sd)
      · rw [hn] at h3; exact Bool.noConfusion h3
  | .own i e => by
    refine ⟨fun st h => ?_, fun sts h => Bool.noConfusion h⟩
    simp only [chkS, Chs.of] at h
    split at h <;> first | exact Bool.noConfusion h | skip
    rename_i x p e' pos
    simp only [Bool.and_eq_true, beq_iff_eq] at h
    obtain ⟨⟨h1, h2⟩, h3⟩ := h
    rw [← c.c.N] at h1
    have h2' := h2
    rw [← c.c.sc] at h2'
    split at h3
    · rename_i w el pp it q elt gs scope lpos
      match gs, h3 with
      | [⟨tg, iter, ifs, 0⟩], h4 =>
        obtain ⟨own, L⟩ := lc_parts (good el) (good it) (good q) c.c h4
        have sd := L.sd (pos := lpos) c.g.toGd
        obtain ⟨b, hb, hl⟩ := swl (elt := elt) (gs := [⟨tg, iter, ifs, 0⟩]) (scope := scope) (pos := lpos) (p := p) (x := x) (l := pos.line) (env := X.env)
        cases b with
        | false => exact ds_of (ps_set c.g.nd h1 (loc_of h2') sd.pe hb (.inl (c.g.fn x))) (ok_own (ok_lcF L.hw))
        | true =>
          have ps := ps_setLc c.g.calm c.g.nd h1 (hl rfl) hb L.pi L.bo L.pg L.pt L.pe (fset_plain L.pl)
          rw [L.ew] at ps
          exact ds_of ps (ok_own (ok_lcF L.hw))
    · simp only [Bool.and_eq_true] at h3
      obtain ⟨_, t, st⟩ := (good e).rf c.c _ h3.2
      exact ds_own c.g h1 h2' st h3.1
  | .unp p e => by
    refine ⟨fun st h => ?_, fun sts h => Bool.noConfusion h⟩
    simp only [chkS, Chs.of] at h
    split at h <;> first | exact Bool.noConfusion h | skip
    simp only [Bool.and_eq_true] at h
    obtain ⟨⟨⟨h1, h2⟩, h3⟩, h4⟩ := h
    obtain ⟨_, t, st⟩ := (good e).e c.c _ h4
    rw [← c.c.N, ← c.c.sc] at h1
    rw [← c.c.sc] at h3
    obtain ⟨pp, g, sg⟩ := patOk_sd (C := C) c.g.nd c.g.calm c.g.hK (fun x _ => c.g.fn x) p _ h1
    exact ds_unp c.g pp sg st h2 h3
  | .par ts e => by
    refine ⟨fun st h => ?_, fun sts h => Bool.noConfusion h⟩
    simp only [chkS, Chs.of] at h
    split at h <;> first | exact Bool.noConfusion h | skip
    · rw [Bool.or_eq_true] at h
      rcases h with h | h
      · simp only [Bool.and_eq_true, beq_iff_eq, decide_eq_true_eq, Bool.not_eq_true'] at h
        obtain ⟨⟨⟨⟨⟨⟨⟨⟨h1, h2⟩, h3⟩, h4⟩, h5⟩, h6⟩, h7⟩, h8⟩, h9⟩ := h
        obtain ⟨t, st⟩ := (good e).rn c.c _ _ h9
        rw [← c.c.N] at h1 h2
        rw [← c.c.sc] at h4 h5
        exact ds_par2 c.g h1 h2 h3 h4 h5 (by simpa using h6) h7 h8 st
      · simp only [Bool.and_eq_true, beq_iff_eq] at h
        obtain ⟨⟨⟨⟨⟨h1, h2⟩, h3⟩, h4⟩, h5⟩, h6⟩ := h
        obtain ⟨t, st⟩ := (good e).rn c.c _ _ h6
        rw [← c.c.N] at h1 h2
        rw [← c.c.sc] at h3 h4 h5
        exact ds_parC2 c.g h1 h2 h3 h4 h5 st
    · rw [Bool.or_eq_true] at h
      rcases h with h | h
      · simp only [Bool.and_eq_true, beq_iff_eq, decide_eq_true_eq, Bool.not_eq_true'] at h
        obtain ⟨⟨⟨⟨⟨⟨⟨⟨⟨⟨⟨⟨⟨h1, h2⟩, h3⟩, h4⟩, h5⟩, h6⟩, h7⟩, h8⟩, h9⟩, h10⟩, h11⟩, h12⟩, h13⟩, h14⟩ := h
        obtain ⟨t, st⟩ := (good e).rn c.c _ _ h14
        rw [← c.c.N] at h1 h2 h3
        rw [← c.c.sc] at h7 h8 h9
        exact ds_par3 c.g h1 h2 h3 h4 h5 h6 h7 h8 h9 (by simpa using h10) (by simpa using h11) h12 h13 st
      · simp only [Bool.and_eq_true, beq_iff_eq] at h
        obtain ⟨⟨⟨⟨⟨⟨⟨h1, h2⟩, h3⟩, h4⟩, h5⟩, h6⟩, h7⟩, h8⟩ := h
        obtain ⟨t, st⟩ := (good e).rn c.c _ _ h8
        rw [← c.c.N] at h1 h2 h3
        rw [← c.c.sc] at h4 h5 h6 h7
        exact ds_parC3 c.g h1 h2 h3 h4 h5 h6 h7 st
  | .app i e => by
    refine ⟨fun st h => ?_, fun sts h => Bool.noConfusion h⟩
    simp only [chkS, Chs.of] at h
    split at h <;> first | exact Bool.noConfusion h | skip
    simp only [Bool.and_eq_true, beq_iff_eq] at h
    obtain ⟨⟨⟨⟨⟨rfl, h1⟩, h2⟩, h3⟩, h4⟩, h5⟩ := h
    obtain ⟨p, t, st⟩ := (good e).e c.c _ h5
    rw [← c.c.N] at h1
    rw [← c.c.sc] at h2
    obtain ⟨v1, v2, v3⟩ := vis_of h2
    exact ds_app c.g h1 v1 v2 v3 st p (by simpa using h4) h3
  | .ext i e => by
    refine ⟨fun st h => ?_, fun sts h => Bool.noConfusion h⟩
    simp only [chkS, Chs.of] at h
    split at h <;> first | exact Bool.noConfusion h | skip
    simp only [Bool.and_eq_true, beq_iff_eq] at h
    obtain ⟨⟨⟨⟨⟨rfl, h1⟩, h2⟩, h3⟩, h4⟩, h5⟩ := h
    obtain ⟨p, t, st⟩ := (good e).e c.c _ h5
    rw [← c.c.N] at h1
    rw [← c.c.sc] at h2
    obtain ⟨v1, v2, v3⟩ := vis_of h2
    exact ds_ext c.g h1 v1 v2 v3 st p (by simpa using h4) h3
  | .sti i a b => by
    refine ⟨fun st h => ?_, fun sts h => Bool.noConfusion h⟩
    simp only [chkS, Chs.of] at h
    split at h <;> first | exact Bool.noConfusion h | skip
    simp only [Bool.and_eq_true, beq_iff_eq] at h
    obtain ⟨⟨⟨⟨h1, h2⟩, h3⟩, h4⟩, h5⟩ := h
    obtain ⟨p, t, st⟩ := (good a).e c.c _ h4
    obtain ⟨_, u, su⟩ := (good b).e c.c _ h5
    rw [← c.c.N] at h1
    rw [← c.c.sc] at h2
    obtain ⟨v1, v2, v3⟩ := vis_of h2
    exact ds_sti c.g h1 v1 v2 v3 st su p h3
  | .aug i e => by
    refine ⟨fun st h => ?_, fun sts h => Bool.noConfusion h⟩
    simp only [chkS, Chs.of] at h
    split at h <;> first | exact Bool.noConfusion h | skip
    simp only [Bool.and_eq_true, beq_iff_eq] at h
    obtain ⟨⟨h1, h2⟩, h3⟩ := h
    obtain ⟨_, t, st⟩ := (good e).e c.c _ h3
    rw [← c.c.N] at h1
    rw [← c.c.sc] at h2
    exact ds_aug c.g h1 h2 st
  | .pop i j => by
    refine ⟨fun st h => ?_, fun sts h => Bool.noConfusion h⟩
    simp only [chkS, Chs.of] at h
    split at h <;> first | exact Bool.noConfusion h | skip
    simp only [Bool.and_eq_true, beq_iff_eq] at h
    obtain ⟨⟨⟨⟨⟨⟨rfl, h1⟩, h2⟩, h3⟩, h4⟩, h5⟩, h6⟩ := h
    rw [← c.c.N] at h1 h3
    rw [← c.c.sc] at h2 h4
    obtain ⟨v1, v2, v3⟩ := vis_of h4
    exact ds_pop c.g h1 h2 h3 v1 v2 v3 (by simpa using h6) h5
  | .exp e => by
    refine ⟨fun st h => ?_, fun sts h => Bool.noConfusion h⟩
    simp only [chkS, Chs.of] at h
    split at h <;> first | exact Bool.noConfusion h | skip
    simp only [Bool.and_eq_true] at h
    obtain ⟨_, t, st⟩ := (good e).e c.c _ h.2
    exact ds_exp st h.1
  | .ret e => by
    refine ⟨fun st h => ?_, fun sts h => Bool.noConfusion h⟩
    simp only [chkS, Chs.of] at h
    split at h <;> first | exact Bool.noConfusion h | skip
    obtain ⟨_, t, st⟩ := (good e).e c.c _ h
    exact ds_ret st
  | .ife q a b => by
    obtain ⟨_, ga⟩ := goodS c a
    obtain ⟨_, gb⟩ := goodS c b
    refine ⟨fun st h => ?_, fun sts h => Bool.noConfusion h⟩
    simp only [chkS, Chs.of] at h
    split at h <;> first | exact Bool.noConfusion h | skip
    simp only [Bool.and_eq_true] at h
    obtain ⟨t, st⟩ := (good q).t c.c _ h.1.1
    exact ds_if st (ga _ h.1.2) (gb _ h.2)
  | .whl n q b => by
    obtain ⟨_, gb⟩ := goodS c b
    refine ⟨fun st h => ?_, fun sts h => Bool.noConfusion h⟩
    simp only [chkS, Chs.of] at h
    split at h <;> first | exact Bool.noConfusion h | skip
    simp only [Bool.and_eq_true] at h
    obtain ⟨t, st⟩ := (good q).t c.c _ h.1
    exact ds_while c.g st (gb _ h.2)
  | .for_ p it b => by
    obtain ⟨_, gb⟩ := goodS c b
    refine ⟨fun st h => ?_, fun sts h => Bool.noConfusion h⟩
    simp only [chkS, Chs.of] at h
    split at h <;> first | exact Bool.noConfusion h | skip
    simp only [Bool.and_eq_true] at h
    obtain ⟨⟨h1, h2⟩, h3⟩ := h
    obtain ⟨pl, wi, si⟩ := (good it).ri c.c _ _ h2
    rw [← c.c.N, ← c.c.sc] at h1
    obtain ⟨pp, g, sg⟩ := patOk_sd (C := C) c.g.nd c.g.calm c.g.hK (fun x _ => c.g.fn x) p _ h1
    exact ds_for c.g si sg (gb _ h3) pl
  | .rse i => by
    refine ⟨fun st h => ?_, fun sts h => Bool.noConfusion h⟩
    simp only [chkS, Chs.of] at h
    split at h <;> first | exact Bool.noConfusion h | skip
    simp only [Bool.and_eq_true, beq_iff_eq, Bool.not_eq_true'] at h
    obtain ⟨⟨h1, h2⟩, h3⟩ := h
    rw [← c.c.sc] at h2
    obtain ⟨g1, g2⟩ := glo_of h2
    exact ds_raise c.g (c.ex i _ h1 h3) g1 g2
  | .cnt => by
    refine ⟨fun st h => ?_, fun sts h => Bool.noConfusion h⟩
    simp only [chkS, Chs.of] at h
    split at h <;> first | exact Bool.noConfusion h | skip
    exact ds_cnt
  | .brk => by
    refine ⟨fun st h => ?_, fun sts h => Bool.noConfusion h⟩
    simp only [chkS, Chs.of] at h
    split at h <;> first | exact Bool.noConfusion h | skip
    exact ds_brk
end

/-! ### a def -/
abbrev C0 (P : Program) (w : World) (K : PySem.W.Frag) (tbs : List (Addr × Str)) (cls : Nat → Addr) : Cf := ⟨P, w, K, 0, 0, 0, [], tbs, cls⟩
section
variable {P : Program} {w : World} {K : PySem.W.Frag} {tbs : List (Addr × Str)} {cls : Nat → Addr} {mg : Str → Option Value} {base : Heap}
theorem start_SR {C : Cf} {B : Addr → Bool} {H : Hp} {τ : Town} {vs : List V} {ds : List D} {N : List Str} {ob : List OA} (h : HidOk C B ob H τ) (r : RepA C (hid B (.z ob) H) vs ds) (hl : vs.length ≤ N.length) :
    SR C B (.bare N.length ob) ⟨ds.map .val ++ List.replicate (N.length - ds.length) .emp, τ⟩ (L2.start N vs) H where
  len := by have := r.length; simp [L2.start]; omega
  lenO := by show (List.replicate _ _).length = _; simp [L2.start]; omega
  slot := fun i x v p h1 h2 h3 => by
    have hp : p = none := by
      have := List.mem_of_getElem? h3
      exact List.eq_of_mem_replicate this
    subst hp
    rw [hid_nones]
    have e := r.length
    by_cases hi : i < ds.length
    · rw [List.getElem?_append_left (by simpa using hi), List.getElem?_map] at h1
      unfold L2.start at h2
      rw [List.getElem?_append_left (by simp; omega), List.getElem?_map] at h2
      have q : ds[i]? = some ds[i] := List.getElem?_eq_getElem hi
      obtain ⟨u, hu, ru⟩ := r.get q
      rw [q] at h1
      rw [hu] at h2
      cases h1; cases h2
      exact ru
    · rw [List.getElem?_append_right (by simpa using hi), List.getElem?_replicate] at h1
      split at h1
      · cases h1; trivial
      · cases h1
  st := h.st.mono (by rw [hid_nones]; exact Sm'.refl _) (fun _ _ _ h _ => h) (fun q z => h.st.hasB z) h.st.tag.bare
  nB := fun p z => by
    rcases mem_has (bare_mem.mp z) with z | z
    · cases z
    · exact h.st.hasB z
  tB := h.tB
  twB := h.twB
  rsB := h.rsB
  town := h.town
/-- what the body's answer is to the promise -/
theorem start_wp {C : Cf} {E : XK} {B : Addr → Bool} {ob : List OA} {n : Nat} {H : Hp} {Q : VK} {o : SO} (w : wpF C E B ob H (match o with
    | .next s => .ok .non s.τ
    | .ret d s => .ok d s.τ
    | .exc c τ => .exc c τ
    | _ => .bad) Q) : wpS C E B (.bare n ob) H o { nx := fun _ H' => Q .non H', rt := Q } := by
  have grow : ∀ {ow : Ow} {H' : Hp}, Sm' (hid B ow H') (hid B (.z ow.ob) H') := fun {ow H'} => hid_z fun _ h => h
  cases o with
  | next s =>
    intro ow' σ' H' R st
    refine w ow'.ob .non H' ⟨R.tB, R.twB, R.rsB, R.town, R.st.z fun _ h => h⟩ ?_ st.hd .non
    have := st.fr
    rw [hid_nones] at this
    exact this.trans grow
  | ret d s =>
    intro ow' σ' v H' R st r
    refine w ow'.ob v H' ⟨R.tB, R.twB, R.rsB, R.town, R.st.z fun _ h => h⟩ ?_ st.hd (r.mono grow)
    have := st.fr
    rw [hid_nones] at this
    exact this.trans grow
  | exc c τ =>
    intro H' f
    refine w H' ⟨f.town, ?_, f.hd⟩
    have := f.fr
    rw [hid_nones] at this
    exact this
  | brk s => exact w.elim
  | cnt s => exact w.elim
  | bad => exact w
theorem Fun.okXc {x qual : Str} {st : Stmt} {f : Addr} {fd : FuncData} {N ps : List Str} {k : Nat} {sp : Sp} (F : L2.Fun K x qual st f fd) (S : FnScope N ps (defScope st)) (len : ∀ vs H Q E, sp vs H Q E → vs.length = ps.length)
    (hbody : ∀ (A : Around) (outer : List Env) (s : Shared) (H : Hp) (vs : List V) (Q : VK) (E : XK), Room k (A.deeper (PyProof.Rows.envOfC qual (defScope st) s.heap.objs.size f fd.code)) → sp vs H Q E →
      ∃ t, PSs (cxOf (L2.CX P w) P w K mg base N qual (defScope st) f fd.code A outer s H E) (defBody st) t ∧ t { nx := fun _ H' => Q .non H', rt := Q } (L2.start N vs) H) : FnOk P w K mg base (L2.CX P w) (k + 1) f fd ps sp := by
  obtain ⟨oc, od, kV, doc, pm, an, cdv, ct, osl, rfl, lk, hcd⟩ := F.ex
  exact fn_of lk hcd S len hbody
/-- what a def's checks lean on -/
structure Pg (T : Tab) (Φ : Nat → Fn) (k : Nat) (P : Program) (w : World) (K : PySem.W.Frag) (tbs : List (Addr × Str)) (cls : Nat → Addr) (mg : Str → Option Value) (base : Heap) : Prop where
  blt : ∀ x ∈ bnames, mg x = none
  fn : ∀ (i : Nat) x ps js l, T.fns[i]? = some (x, ps, js, l) → l ≤ k → FG (C0 P w K tbs cls) mg base x ps js l (Φ i)
  gc : ∀ (i : Nat) x d, T.gcs[i]? = some (x, d) → ∃ u v, mg x = some u ∧ RelV v u ∧ ∀ (C : Cf) G, C.K = K → C.cls = cls → Rep C G v d
  ex : ∀ (i : Nat) x, T.exs[i]? = some x → (x == ("" : Str)) = false → ExcAt (C0 P w K tbs cls) mg i x
theorem Pg.ce {T : Tab} {Φ : Nat → Fn} {qual : Str} {scope : Scope} {f : Addr} {cdv : Value} {N ps : List Str} {k : Nat} {A : Around} {outer : List Env} {s : Shared} {H : Hp} {E : XK} {tw rs sc : Addr} {scr : List Int} (pg : Pg T Φ k P w K tbs cls mg base) (S : FnScope N ps scope)
    (hr : Room k (A.deeper (PyProof.Rows.envOfC qual scope s.heap.objs.size f cdv))) (lam : T.lam = true → LamC ⟨P, w, K, tw, rs, sc, scr, tbs, cls⟩ (cxOf (L2.CX P w) P w K mg base N qual scope f cdv A outer s H E) T.rs) :
    Ce T Φ N k ⟨P, w, K, tw, rs, sc, scr, tbs, cls⟩ E (cxOf (L2.CX P w) P w K mg base N qual scope f cdv A outer s H E) scope := by
  generalize hX : cxOf (L2.CX P w) P w K mg base N qual scope f cdv A outer s H E = X at lam
  let C : Cf := ⟨P, w, K, tw, rs, sc, scr, tbs, cls⟩
  have tk : Takes X (fun cls d _ H => E cls d H) := by rw [← hX]; exact takes_of rfl rfl rfl rfl
  have gd : Gd C E X k := by
    refine ⟨by rw [← hX]; rfl, by rw [← hX]; rfl, by rw [← hX]; rfl, by rw [← hX]; rfl, by rw [← hX]; exact S.nd, by rw [← hX]; exact hr, ?_, by rw [← hX]; exact pg.blt⟩
    have hp : X.prog = P := by rw [← hX]; rfl
    have hw : X.w = w := by rw [← hX]; rfl
    exact passes_call tk fun _ _ _ _ h => h
  have gs : Gs C E X k := ⟨gd, by rw [← hX]; exact passes_of rfl, tk, by rw [← hX]; exact S.kind, by rw [← hX]; exact fun _ => rfl⟩
  have hmg : X.mg = mg := by rw [← hX]; rfl
  have hba : X.base = base := by rw [← hX]; rfl
  refine ⟨⟨gd, by omega, fun _ h => ⟨Nat.le_refl _, lam h⟩, by rw [← hX]; rfl, by rw [← hX]; rfl, fun x _ => gs.fn x, fun i x ps js l h1 h2 => ?_, fun i x d h => by
    rw [hmg]
    obtain ⟨u, v, h1, h2, h3⟩ := pg.gc i x d h
    exact ⟨u, v, h1, h2, fun G => h3 _ G rfl rfl⟩⟩, gs, fun i x h hx => ?_⟩
  · rw [hmg, hba]; exact ⟨(pg.fn i x ps js l h1 h2).ex⟩
  · rw [hmg]
    have := pg.ex i x h hx
    exact ⟨this.q, this.gC, this.kC, this.r1, this.r2⟩
theorem fn_good {T : Tab} {Φ : Nat → Fn} {x qual : Str} {st : Stmt} {f : Addr} {fd : FuncData} {N ps : List Str} {k : Nat} {b : Sm} {F : Fn} (hf : L2.Fun K x qual st f fd) (S : FnScope N ps (defScope st)) (hb : (chkS T N k b).ss (defScope st) (defBody st) = true)
    (hF : ∀ ds τ, ds.length = ps.length → F ds τ ≠ .bad → runB Φ T.gc N.length b ds τ = F ds τ) (pg : Pg T Φ k P w K tbs cls mg base)
    (lam : T.lam = true → ∀ (tw rs sc : Addr) (scr : List Int) (A : Around) (outer : List Env) (s : Shared) (H : Hp) (E : XK), Room k (A.deeper (PyProof.Rows.envOfC qual (defScope st) s.heap.objs.size f fd.code)) → LamC ⟨P, w, K, tw, rs, sc, scr, tbs, cls⟩ (cxOf (L2.CX P w) P w K mg base N qual (defScope st) f fd.code A outer s H E) T.rs) :
    FnOk P w K mg base (L2.CX P w) (k + 1) f fd ps (spOf P w K tbs cls ps.length F) := by
  refine Fun.okXc hf S (fun vs H Q E h => h.1) fun A outer s H vs Q E hr h => ?_
  obtain ⟨hl, tw, rs, sc, scr, B, ob, ds, τ, hh, r, wf⟩ := h
  have ce := pg.ce (tw := tw) (rs := rs) (sc := sc) (scr := scr) (outer := outer) (H := H) (E := E) S hr fun h => lam h tw rs sc scr A outer s H E hr
  refine ⟨tSx Φ T.gc _ E b, (goodS ce b).2 _ hb, B, _, _, start_SR hh r (by rw [hl]; have := congrArg List.length S.pre; rw [List.length_take] at this; omega), ?_⟩
  have nb : F ds τ ≠ .bad := fun z => by rw [z] at wf; exact wf
  rw [← hF ds τ (by rw [← r.length]; exact hl) nb] at wf
  exact start_wp wf
end
end Mn

set_option Elab.async false
set_option linter.all false
set_option maxRecDepth 100000
set_option maxHeartbeats 4000000
namespace Mn
open PySem L2
/-- what the text says of the names in _law_result -/
structure RsC (X : Cx) (cl : Nat → Addr) (le : Addr) (cn : Nat → Str) : Prop where
  N : X.N = Nr
  calm : X.calm = true
  u1 : X.A.units + 1 < cLine
  fn : ∀ x, X.fn x = true
  kind : X.env.scope.kind = .function
  ex : X.ex = []
  stk : X.stack = X.env :: X.outer
  frm : X.env.frame = some X.env.locals
  lc : ∀ x ∈ (["call", "raised", "result", "e", "names"] : List Str), X.env.scope.names.lookup x = some .local
  sm : X.env.scope.names.lookup ("some" : Str) = some .cell
  gl : ∀ x ∈ (["isinstance", "LockError", "ValueError", "len"] : List Str), Gl X x
  mI : X.mg "isinstance" = none
  mL : X.mg "len" = none
  mV : X.mg "ValueError" = none
  mLE : X.mg "LockError" = some (.ref le)
  gc : ∀ j, j < 20 → Gl X (cn j) ∧ X.mg (cn j) = some (.ref (cl j)) ∧ (cn j == ("__debug__" : Str)) = false
section
variable {X : Cx} {cl : Nat → Addr} {le : Addr} {cn : Nat → Str}
theorem RsC.nd (c : RsC X cl le cn) : X.N.Nodup := by rw [c.N]; decide +kernel
theorem RsC.isx (c : RsC X cl le cn) (j : Nat) (hj : j < 20) {p p1 p2 p3 : Pos} : PE X (.Call (.Name "isinstance" p) [.Name "raised" p1, .Name (cn j) p2] [] p3) (tIsX X.K 1 (.ref (cl j))) :=
  pe_isX (c.gl _ (by simp)) c.mI (by rw [c.N]; rfl) (.inl (c.lc _ (by simp))) (by decide +kernel) (by decide +kernel) (c.gc j hj).1 (c.gc j hj).2.1 (c.gc j hj).2.2
theorem RsC.s1 (c : RsC X cl le cn) {p1 p2 p3 p4 p5 p6 pos : Pos} {k1 k2 j1 j2 : Nat} (hw : swappedStores [.Tuple [.Name "raised" p1, .Name "result" p2] k1 p3] (.Tuple [.Constant .none j1 p4, .Constant .none j2 p5] k2 p6) X.env = pure none) :
    PS X (.Assign [.Tuple [.Name "raised" p1, .Name "result" p2] k1 p3] (.Tuple [.Constant .none j1 p4, .Constant .none j2 p5] k2 p6) pos) (tAsg (tTup (tCons (tC .non) (tCons (tC .non) tNil))) (gTup X.K 2 (gCons (gName 1) (gCons (gName 2) gNil)))) :=
  ps_asg (pe_tup (pa_cons pe_non (pa_cons pe_non pa_nil))) (pg_tup c.calm (pgs_cons (pg_name c.nd (by rw [c.N]; rfl) (.inl (c.lc _ (by simp))) (.inl (c.fn _))) (pgs_cons (pg_name c.nd (by rw [c.N]; rfl) (.inl (c.lc _ (by simp))) (.inl (c.fn _))) pgs_nil))) rfl hw rfl
theorem RsC.tr (c : RsC X cl le cn) {f c' : Addr} {q : Str} {tl : XK → Hp → VK → Prop} {a1 a2 a3 a4 a5 a6 a7 a8 a9 a10 : Pos}
    (act : ∀ (W : WX) (pn : List (Addr × Obj)) (xe : Value → Shared → Prop) (E : XK) (p1 p2 : Pos), Takes (X.tr pn xe) W → (∀ cls d σ' H', E cls d H' → W cls d σ' H') →
      PE (X.tr pn xe) (.Call (.Name "call" p1) [] [] p2) (fun σZ HZ Q => σZ[0]? = some (some (.ref f)) ∧ HZ c' = some (LamX.CodeO c' q) ∧ tl E HZ Q)) :
    PS X (.Try [.Assign [.Name "result" a1] (.Call (.Name "call" a2) [] [] a3) a4] [.ExceptHandler (some (.Name "LockError" a5)) (some "e") [.Assign [.Name "raised" a6] (.Name "e" a7) a8] a9] [] [] a10) (fun D σ H => tTryR X.K (.ref le) f c' q tl (wKept X.K (.ref le) 3 1 D) D σ H) := by
  refine ps_try_kept (tb := tTryR X.K (.ref le) f c' q tl) c.stk c.frm c.ex c.nd (by rw [c.N]; rfl) (c.lc _ (by simp)) (by rw [c.N]; rfl) (c.lc _ (by simp)) ⟨c.gl _ (by simp), by decide +kernel, .inl c.mLE⟩ (by decide +kernel) (by decide +kernel) fun W pn xe tk _ => ⟨fun pins s' σ H' D I h' => ?_⟩
  obtain ⟨Ech, hW, h1, h2, h3⟩ := h'
  have tk' := takes_len tk
  have hN7 : (X.tr pn xe).N.length = 7 := by show X.N.length = 7; rw [c.N]; rfl
  have hp := act _ pn xe Ech a2 a3 tk' fun cls d σ' H' hE hl => hW cls d σ' H' hE (by rw [hl]; exact hN7)
  have hq := pss_one (ps_set (X := X.tr pn xe) (pos := a4) (pos' := a1) c.nd (show X.N[2]? = some ("result" : Str) by rw [c.N]; rfl) (.inl (c.lc _ (by simp))) hp rfl (.inl (c.fn _)))
  exact hq.run pins s' σ H' D I ⟨h1, h2, h3⟩
theorem RsC.if_ (c : RsC X cl le cn) {p1 p2 p3 p4 p5 p6 p7 p8 : Pos} {j1 j2 k : Nat} : PS X (.If (.Compare (.Name "raised" p1) [.Is] [.Constant .none j1 p2] p3) [.Return (some (.Tuple [.Constant (.str "returns") j2 p4, .Name "result" p5] k p6)) p7] [] p8)
    (tIfS (tB (tIsN (tVar 1))) (tSeq (tRet (tTup (tCons (tC (.str "returns")) (tCons (tVar 2) tNil)))) tNext) tNext) :=
  ps_if (pt_cmp (pc_isN (pe_var (by rw [c.N]; rfl) (.inl (c.lc _ (by simp))) (by decide +kernel) (by decide +kernel)))) (pss_cons (ps_ret (pe_tup (pa_cons pe_str (pa_cons (pe_var (by rw [c.N]; rfl) (.inl (c.lc _ (by simp))) (by decide +kernel) (by decide +kernel)) pa_nil)))) pss_nil) pss_nil
theorem RsC.dsp (c : RsC X cl le cn) {e1 e2 : Expr} {n1 n2 : Str} {v1 v2 : Value} {j1 j2 : Nat} {q1 q2 q3 p0 pos : Pos} (h1 : PE X e1 (tIsX X.K 1 v1)) (h2 : PE X e2 (tIsX X.K 1 v2)) : PS X (.Assign [.Name "some" p0] (.Dict [some (.Constant (.str n1) j1 q1), some (.Constant (.str n2) j2 q2)] [e1, e2] q3) pos) (tAsg (tDisp2 X.K 1 n1 n2 v1 v2) (gName 4)) :=
  ps_dsp2 c.nd h1 h2 (by rw [c.N]; rfl) (.inr c.sm) (c.fn _)
theorem RsC.up (c : RsC X cl le cn) {e1 e2 : Expr} {n1 n2 : Str} {v1 v2 : Value} {j1 j2 : Nat} {q1 q2 q3 p0 ap cp pos : Pos} (h1 : PE X e1 (tIsX X.K 1 v1)) (h2 : PE X e2 (tIsX X.K 1 v2)) (hl : (ap.endLine == cp.line) = true) :
    PS X (.Expr (.Call (.Attribute (.Name "some" p0) "update" ap) [.Dict [some (.Constant (.str n1) j1 q1), some (.Constant (.str n2) j2 q2)] [e1, e2] q3] [] cp) pos) (tUpd2 X.K 1 4 n1 n2 v1 v2) :=
  ps_upd2 h1 h2 (by rw [c.N]; rfl) (.inr (.inl c.sm)) (by decide +kernel) (by decide +kernel) rfl hl
def scN : Scope := { kind := .function, names := [(Str.ofString ".0", .local), (Str.ofString "name", .local), (Str.ofString "some", .free)], isGenerator := false, isCoroutine := false, more := [] }
theorem RsC.nms (c : RsC X cl le cn) {p1 p2 p3 p4 p5 p6 p7 lpos spos : Pos} (hline : (p1.line == lpos.line) = true) :
    PS X (.Assign [.Name "names" p1] (.ListComp (.Name "name" p2) [⟨.Name "name" p3, .Name "some" p4, [.Subscript (.Name "some" p5) (.Name "name" p6) p7], 0⟩] scN lpos) spos) (tNames 4 5 6) := by
  have hrel : relS scN X.env.scope = { scN with names := [(Str.ofString ".0", .local), (Str.ofString "name", .local), (Str.ofString "some", .cell)] } := by
    unfold relS scN
    simp [c.kind, c.sm]
  refine ps_names (m := 6) c.calm c.u1 c.nd (by rw [c.N]; rfl) (.inr (.inl c.sm)) (by decide +kernel) (by decide +kernel) (by rw [c.N]; rfl) (c.lc _ (by simp)) (by rw [c.N]; rfl) (by decide +kernel) (by decide +kernel) (by decide) ?_ c.kind hline (by decide +kernel) ?_ ?_
  · refine ⟨rfl, by decide +kernel, fun p hp => ?_, fun y hy e => ?_, fun y hy e => ?_⟩
    · have : p = (("name" : Str), 6) := by simpa using hp
      rw [this, c.N]; rfl
    · simp only [scN, List.mem_cons, List.not_mem_nil, or_false] at hy
      rcases hy with rfl | rfl | rfl
      · cases e
      · cases e
      · exact .inl c.sm
    · simp only [scN, List.mem_cons, List.not_mem_nil, or_false] at hy
      rcases hy with rfl | rfl | rfl
      · right; rw [c.N]; decide +kernel
      · left; simp
      · rcases e with e | e <;> cases e
  · rw [hrel]; decide +kernel
  · rw [hrel]; exact .inr (.inl (by decide +kernel))
theorem RsC.last (c : RsC X cl le cn) {p1 p2 p3 p4 p5 p6 p7 p8 p9 p10 p11 p12 p13 p14 p15 p16 p17 p18 : Pos} {j1 j2 j3 k1 k2 : Nat} :
    PS X (.Return (some (.IfExp (.BoolOp .And [.Compare (.Call (.Name "len" p1) [.Name "names" p2] [] p3) [.Eq] [.Constant (.int 1) j1 p4] p5, .Call (.Name "isinstance" p6) [.Name "raised" p7, .Name "ValueError" p8] [] p9] p10) (.Tuple [.Subscript (.Name "names" p11) (.Constant (.int 0) j2 p12) p13] k1 p14) (.Tuple [.Constant (.str "other error") j3 p15] k2 p16) p17)) p18) (tLastR X.K) := by
  have pn : ∀ {p}, PE X (.Name "names" p) (tVar 5) := fun {p} => pe_var (by rw [c.N]; rfl) (.inl (c.lc _ (by simp))) (by decide +kernel) (by decide +kernel)
  exact ps_ret (pe_ifExp (pw_and (pt_cmpR op_eq (pe_callB call_len (c.gl _ (by simp)) c.mL (by decide +kernel) (pa_cons pn pa_nil) (by decide +kernel) (by decide +kernel)) pe_int rfl) (pw_and1 (pt_val (pe_isV (c.gl _ (by simp)) c.mI (by rw [c.N]; rfl) (.inl (c.lc _ (by simp))) (by decide +kernel) (by decide +kernel) (c.gl _ (by simp)) c.mV)))).pt (pe_tup (pa_cons (pe_ix ix_seq pn pe_int (fun _ _ => rfl)) pa_nil)) (pe_tup (pa_cons pe_str pa_nil)))
end
end Mn

set_option Elab.async false
set_option linter.all false
set_option maxRecDepth 100000
set_option maxHeartbeats 4000000
namespace Mn
open PySem L2
/-! ### what the law draws -/
def drawAt (τ : Town) : Int := if τ.scr.isEmpty then 0 else (τ.count + 1) % (τ.scr.length : Int)
def scrAt (τ : Town) (i : Int) : Int := if τ.scr.isEmpty then 0 else τ.scr.getD i.toNat 0
def restAt (τ : Town) (i : Int) : Int := ((τ.rests.find? fun p => decide (p.1 = i)).map (·.2)).getD (scrAt τ i)
def putR (rs : List (Int × Int)) (k v : Int) : List (Int × Int) := if (rs.any fun p => decide (p.1 = k)) = true then rs.map (fun p => if p.1 = k then (p.1, v) else p) else rs ++ [(k, v)]
def mixed (r c m : Int) : Int :=
  let n := ((r + 104729 * c) % 4294967291) ^ (5 : Int).toNat % 4294967279
  (n / 64 * 69621 + n) % 4294967231 / 8 % m
def drawV (τ : Town) (m : Int) : Int := if (10 : Int) ^ (18 : Int).toNat ≤ restAt τ (drawAt τ) then restAt τ (drawAt τ) % m else mixed (restAt τ (drawAt τ)) (τ.count + 1) m
def drawT (τ : Town) (m : Int) : Town := if (10 : Int) ^ (18 : Int).toNat ≤ restAt τ (drawAt τ) then { τ with count := τ.count + 1, rests := putR τ.rests (drawAt τ) (restAt τ (drawAt τ) / m) } else { τ with count := τ.count + 1 }
def Fdraw : Fn := fun ds τ => match ds with
  | [.tok 1, .tok 0, .int m] => if 0 < m ∧ m.natAbs < 1073741824 then .ok (.int (drawV τ m)) (drawT τ m) else .bad
  | _ => .bad
theorem Fdraw_dom {ds : List D} {τ : Town} (h : Fdraw ds τ ≠ .bad) : ∃ m, ds = [.tok 1, .tok 0, .int m] ∧ 0 < m ∧ m.natAbs < 1073741824 := by
  unfold Fdraw at h
  split at h
  · rename_i m
    split at h
    · rename_i c
      exact ⟨m, rfl, c.1, c.2⟩
    · exact absurd rfl h
  · exact absurd rfl h
theorem Fdraw_eq {τ : Town} {m : Int} (h : 0 < m ∧ m.natAbs < 1073741824) : Fdraw [.tok 1, .tok 0, .int m] τ = .ok (.int (drawV τ m)) (drawT τ m) := by
  show (if 0 < m ∧ m.natAbs < 1073741824 then _ else _) = _
  rw [if_pos h]
theorem drawV_lt {τ : Town} {m : Int} (h : 0 < m) : 0 ≤ drawV τ m ∧ drawV τ m < m := by
  unfold drawV mixed
  split
  · exact ⟨Int.emod_nonneg _ (by omega), Int.emod_lt_of_pos _ h⟩
  · exact ⟨Int.emod_nonneg _ (by omega), Int.emod_lt_of_pos _ h⟩
theorem drawAt_lt {τ : Town} (h : τ.Fit) : 0 ≤ drawAt τ ∧ drawAt τ < 63 := by
  unfold drawAt
  split
  · exact ⟨by decide, by decide⟩
  · rename_i c
    have hl : 0 < τ.scr.length := by
      cases q : τ.scr with
      | nil => rw [q] at c; exact absurd rfl c
      | cons _ _ => simp
    have := h.len
    have h1 := Int.emod_nonneg (τ.count + 1) (b := (τ.scr.length : Int)) (by omega)
    have h2 := Int.emod_lt_of_pos (τ.count + 1) (b := (τ.scr.length : Int)) (by omega)
    exact ⟨h1, by omega⟩
theorem putR_keys {rs : List (Int × Int)} {k v : Int} : (putR rs k v).map (·.1) = if k ∈ rs.map (·.1) then rs.map (·.1) else rs.map (·.1) ++ [k] := by
  unfold putR
  by_cases h : k ∈ rs.map (·.1)
  · have h' : (rs.any fun p => decide (p.1 = k)) = true := by
      obtain ⟨p, hp, e⟩ := List.mem_map.mp h
      exact List.any_eq_true.mpr ⟨p, hp, by simp [e]⟩
    rw [if_pos h', if_pos h, List.map_map]
    apply List.map_congr_left
    intro p _
    simp only [Function.comp]
    split <;> rfl
  · have h' : ¬ (rs.any fun p => decide (p.1 = k)) = true := fun z => by
      obtain ⟨p, hp, e⟩ := List.any_eq_true.mp z
      exact h (List.mem_map.mpr ⟨p, hp, by simpa using e⟩)
    rw [if_neg h', if_neg h, List.map_append]
    rfl
theorem putR_fit {τ : Town} {k v c : Int} (h : τ.Fit) (hk : 0 ≤ k ∧ k < 63) : Town.Fit { τ with count := c, rests := putR τ.rests k v } where
  len := h.len
  nd := by
    show ((putR τ.rests k v).map (·.1)).Nodup
    rw [putR_keys]
    split
    · exact h.nd
    · rename_i q
      exact List.nodup_append.mpr ⟨h.nd, by simp, fun a ha b hb e => by simp at hb; subst hb; subst e; exact q ha⟩
  key := fun p hp => by
    have hm : p.1 ∈ (putR τ.rests k v).map (·.1) := List.mem_map.mpr ⟨p, hp, rfl⟩
    rw [putR_keys] at hm
    have old : ∀ x ∈ τ.rests.map (·.1), 0 ≤ x ∧ x < 63 := fun x hx => by
      obtain ⟨q, hq, e⟩ := List.mem_map.mp hx
      rw [← e]; exact h.key q hq
    split at hm
    · exact old _ hm
    · rcases List.mem_append.mp hm with z | z
      · exact old _ z
      · simp at z; rw [z]; exact hk
/-- distinct ints below 63 are few -/
theorem few_of : ∀ (n : Nat) (l : List Int), l.Nodup → (∀ x ∈ l, 0 ≤ x ∧ x < n) → l.length ≤ n
  | 0, l, _, h => by
    cases l with
    | nil => simp
    | cons x _ => have := h x (by simp); omega
  | n + 1, l, nd, h => by
    have h1 := few_of n (l.filter fun x => decide (x ≠ (n : Int))) (nd.filter _) fun x hx => by
      have := h x (List.mem_filter.mp hx).1
      have h2 : x ≠ n := by simpa using (List.mem_filter.mp hx).2
      omega
    have h2 : l.length ≤ (l.filter fun x => decide (x ≠ (n : Int))).length + 1 := by
      clear h1 h
      induction l with
      | nil => simp
      | cons x xs ih =>
        rw [List.nodup_cons] at nd
        by_cases e : x = (n : Int)
        · subst e
          have : (((n : Int) :: xs).filter fun x => decide (x ≠ (n : Int))) = xs := by
            rw [List.filter_cons_of_neg (by simp)]
            apply List.filter_eq_self.mpr
            intro y hy
            simp only [decide_eq_true_eq]
            intro z; subst z; exact nd.1 hy
          rw [this]; simp
        · rw [List.filter_cons_of_pos (by simpa using e)]
          have := ih nd.2
          simp only [List.length_cons]
          omega
    omega
theorem Town.Fit.few {τ : Town} (h : τ.Fit) : τ.rests.length ≤ 63 := by
  have := few_of 63 (τ.rests.map (·.1)) h.nd fun x hx => by
    obtain ⟨q, hq, e⟩ := List.mem_map.mp hx
    rw [← e]; exact h.key q hq
  simpa using this
theorem drawT_fit {τ : Town} {m : Int} (h : τ.Fit) : (drawT τ m).Fit := by
  unfold drawT
  split
  · exact putR_fit h (drawAt_lt h)
  · exact ⟨h.len, h.nd, h.key⟩
theorem drawT_ob {τ : Town} {m : Int} : (drawT τ m).ob = τ.ob := by
  unfold drawT
  split <;> rfl
theorem drawT_scr {τ : Town} {m : Int} : (drawT τ m).scr = τ.scr := by
  unfold drawT
  split <;> rfl
/-! ### the dict of rests -/
def restsK (rs : List (Int × Int)) : List (Key × V) := rs.map fun p => (.inl p.1, .int p.2)
theorem val_rests (rs : List (Int × Int)) (i : Int) : valV (restsK rs) (.inl i) = ((rs.find? fun p => decide (p.1 = i)).map (·.2)).map V.int := by
  unfold valV restsK
  induction rs with
  | nil => rfl
  | cons p rs ih =>
    by_cases e : p.1 = i
    · simp [e]
    · simp only [List.map_cons, List.find?_cons]
      have e2 : decide ((Sum.inl p.1 : Key) = Sum.inl i) = false := by simp [e]
      have e3 : decide (p.1 = i) = false := by simp [e]
      rw [e2, e3]
      exact ih
theorem put_rests (rs : List (Int × Int)) (k v : Int) : putK (restsK rs) (.inl k) (.int v) = restsK (putR rs k v) := by
  unfold putK putR restsK
  have e : ((rs.map fun p => ((Sum.inl p.1 : Key), V.int p.2)).any fun kv => decide (kv.1 = Sum.inl k)) = rs.any fun p => decide (p.1 = k) := by
    rw [List.any_map]
    apply congrArg (fun f => rs.any f)
    funext p
    simp [Function.comp]
  rw [e]
  split
  · rw [List.map_map, List.map_map]
    apply List.map_congr_left
    intro p _
    simp only [Function.comp]
    by_cases e : p.1 = k
    · simp [e]
    · simp [e]
  · simp
theorem draw_end {C : Cf} {B : Addr → Bool} {H H' : Hp} {τ τ' : Town} {ob : List OA} (hh : HidOk C B ob H τ) (h1 : H' C.tw = some (.dK [(.inr "count", .int τ'.count), (.inr "rests", .ref C.rs)])) (h2 : H' C.rs = some (.dK (restsK τ'.rests))) (h3 : ∀ b, b ≠ C.tw → b ≠ C.rs → H' b = H b) (hs : τ'.scr = τ.scr) (hf : τ'.Fit) (hob : τ'.ob = τ.ob) :
    HidOk C B ob H' τ' ∧ Sm' (hid B (.z ob) H) (hid B (.z ob) H') ∧ ∀ b o, B b = true → b ≠ C.tw → b ≠ C.rs → H b = some o → nt o = true → H' b = some o := by
  obtain ⟨t1, t2, t3, t4⟩ := hh.town
  have oth : ∀ b o, H b = some o → (∀ ks, o ≠ .dK ks) → H' b = some o := fun b o e n => by
    rw [h3 b (fun z => by rw [z, t1] at e; exact n _ (Option.some.inj e).symm) (fun z => by rw [z, t2] at e; exact n _ (Option.some.inj e).symm)]
    exact e
  have vis : Sm' (hid B (.z ob) H) (hid B (.z ob) H') := fun b o e n => by
    obtain ⟨q1, q2, q3⟩ := hid_some.mp e
    refine hid_some.mpr ⟨q1, q2, shw_le (fun o e _ _ => ?_) n q3⟩
    rw [h3 b (fun z => by rw [z, hh.twB] at q1; cases q1) (fun z => by rw [z, hh.rsB] at q1; cases q1)]
    exact e
  refine ⟨⟨fun b hb => ?_, hh.twB, hh.rsB, ⟨h1, h2, ⟨t3.1, hs.trans t3.2.1, hf⟩, fun x hx => ?_⟩, ?_⟩, vis, fun b o _ n1 n2 e _ => by rw [h3 b n1 n2]; exact e⟩
  · by_cases z1 : b = C.tw
    · rw [z1]; exact ⟨_, h1, rfl⟩
    · by_cases z2 : b = C.rs
      · rw [z2]; exact ⟨_, h2, rfl⟩
      · rw [h3 b z1 z2]; exact hh.tB b hb
  · obtain ⟨ps, k1, k2, k3⟩ := t4 x hx
    refine ⟨ps, oth _ _ k1 (fun ks z => by cases z), k2, fun pos cv hc => ?_⟩
    obtain ⟨c, e1, e2⟩ := k3 pos cv hc
    exact ⟨c, e1, oth _ _ e2 (fun ks z => by unfold LamX.CodeO at z; cases z)⟩
  · rw [hob]
    refine hh.st.mono vis (fun q hq o e _ => ?_) (fun q h => hh.st.hasB h) hh.st.tag
    have q1 := hh.st.hasB hq
    rw [h3 q (fun z => by rw [z, hh.twB] at q1; cases q1) (fun z => by rw [z, hh.rsB] at q1; cases q1)]
    exact e
end Mn

set_option Elab.async false
set_option linter.all false
set_option maxRecDepth 100000
set_option maxHeartbeats 4000000
namespace Mn
open PySem L2
/-! ### the town at first -/
def town0K (r : Addr) : List (Key × V) := [(.inr "count", .int 0), (.inr "rests", .ref r)]
def spBegun : Sp := fun vs H Q _ => vs = [] ∧ ∀ p r H', (∀ b o, H b = some o → H' b = some o) → H p = none → H r = none → p ≠ r → H' p = some (.dK (town0K r)) → H' r = some (.dK []) → Q (.ref p) H'
/-- {'count': 0, 'rests': {}} -/
theorem begun_pure {H : Hp} {Q : VK} {σ : L2.St} (h : ∀ p r H', (∀ b o, H b = some o → H' b = some o) → H p = none → H r = none → p ≠ r → H' p = some (.dK (town0K r)) → H' r = some (.dK []) → Q (.ref p) H') :
    tDisp [(tC (.str "count"), tC (.int 0)), (tC (.str "rests"), tDNewK)] σ H Q := by
  intro p hp r hr
  have hne : r ≠ p := fun z => by rw [z, upd_same] at hr; cases hr
  rw [upd_ne hne] at hr
  refine ⟨by rw [upd_ne (Ne.symm hne), upd_same], town0K r, rfl, by unfold town0K; exact (by decide : 2 ≤ 15), ?_⟩
  have e : mergeK [] (town0K r) = town0K r := by
    unfold mergeK town0K
    simp [putK]
    decide
  rw [e]
  refine h p r _ (fun b o q => ?_) hp hr (Ne.symm hne) upd_same (by rw [upd_ne hne, upd_same])
  rw [upd_ne (ne_of_none q hp), upd_ne (ne_of_none q hr), upd_ne (ne_of_none q hp)]
  exact q
abbrev lawN (N' : List Str) : List Str := "script" :: "town" :: N'
/-- what a law's def promises -/
def spLaw (K : PySem.W.Frag) (tbs : List (Addr × Str)) : Sp := fun vs H Q _ => ∃ (a : Addr) (ns : List Int), vs = [.ref a] ∧ SqL K H a (ns.map V.int) ∧ ns.length ≤ 63 ∧ LamX.Tabs tbs H ∧ ∀ H', Q (.bl true) H'
section
variable {P : Program} {w : World} {K : PySem.W.Frag} {tbs : List (Addr × Str)} {cls : Nat → Addr} {mg : Str → Option Value} {base : Heap}
theorem law_fn {T : Tab} {Φ : Nat → Fn} {x qual : Str} {st : Stmt} {f fb : Addr} {fd fdb : FuncData} {N' : List Str} {k : Nat} {b : Sm} {rest : List Stmt} {p1 p2 p3 p4 : Pos} (hf : L2.Fun K x qual st f fd) (S : FnScope (lawN N') ["script"] (defScope st))
    (hbody : defBody st = .Assign [.Name "town" p1] (.Call (.Name "_law_begun" p2) [] [] p3) p4 :: rest) (ht : locB (defScope st) "town" = true) (hgb : glB (defScope st) "_law_begun" = true)
    (hb : (chkS T (lawN N') k b).ss (defScope st) rest = true) (hk : 1 ≤ k)
    (pg : Pg T Φ k P w K tbs cls mg base) (mB : mg "_law_begun" = some (.ref fb)) (kB : PySem.W.keepIn K (.ref fb) = true) (bB : L2.Binds K fdb [] []) (FB : FnOk P w K mg base (L2.CX P w) 1 fb fdb [] spBegun)
    (lam : T.lam = true → ∀ (tw rs sc : Addr) (scr : List Int) (A : Around) (outer : List Env) (s : Shared) (H : Hp) (E : XK), Room k (A.deeper (PyProof.Rows.envOfC qual (defScope st) s.heap.objs.size f fd.code)) → LamC ⟨P, w, K, tw, rs, sc, scr, tbs, cls⟩ (cxOf (L2.CX P w) P w K mg base (lawN N') qual (defScope st) f fd.code A outer s H E) T.rs)
    (hF : ∀ scr : List Int, scr.length ≤ 63 → ∃ τ', runB Φ T.gc (lawN N').length b [.tok 1, .tok 0] ⟨0, [], scr, []⟩ = .ok (.bl true) τ') :
    FnOk P w K mg base (L2.CX P w) (k + 1) f fd ["script"] (spLaw K tbs) := by
  refine Fun.okXc hf S (fun vs H Q E ⟨_, _, h, _⟩ => by rw [h]; rfl) fun A outer s H vs Q E hr h => ?_
  obtain ⟨a, ns, rfl, hS, hl, hT, hQ⟩ := h
  have lm := fun (z : T.lam = true) tw rs sc scr => lam z tw rs sc scr A outer s H E hr
  have cc := fun tw rs sc scr => pg.ce (tw := tw) (rs := rs) (sc := sc) (scr := scr) (outer := outer) (H := H) (E := E) S hr fun h => lm h tw rs sc scr
  have c0 := cc 0 0 0 []
  generalize hX : cxOf (L2.CX P w) P w K mg base (lawN N') qual (defScope st) f fd.code A outer s H E = X at cc c0 ⊢
  have hsc : X.env.scope = defScope st := by rw [← hX]; rfl
  have hN : X.N = lawN N' := by rw [← hX]; rfl
  have hmg : X.mg = mg := by rw [← hX]; rfl
  have hba : X.base = base := by rw [← hX]; rfl
  have hP : X.prog = P := by rw [← hX]; rfl
  have hw : X.w = w := by rw [← hX]; rfl
  have hK : X.K = K := by rw [← hX]; rfl
  have FB' : FnOk X.prog X.w X.K X.mg X.base (L2.CX X.prog X.w) 1 fb fdb [] spBegun := by rw [hmg, hba, hP, hw, hK]; exact FB
  have pe := pe_call0 (E := E) (p := p2) (pos := p3) FB' (c0.g.room.mono hk) (gl_of (x := "_law_begun") (by rw [hsc]; exact hgb)) (by rw [hmg]; exact mB) (by rw [hK]; exact kB) (by rw [hK]; exact bB) .nil c0.g.pass (by decide)
  have ps := ps_set (i := 1) (x := "town") (pos := p4) (pos' := p1) c0.g.nd (by rw [hN]; rfl) (loc_of (by rw [hsc]; exact ht)) pe (sw_no rfl) (.inl (c0.g.fn _))
  rw [hbody]
  refine ⟨_, pss_cons ps ⟨fun pins s' σ H1 D I (h : ∃ tw rs sc scr, tSx Φ T.gc ⟨P, w, K, tw, rs, sc, scr, tbs, cls⟩ E b D σ H1) => ?_⟩, ?_⟩
  · obtain ⟨tw, rs, sc, scr, h⟩ := h
    exact ((goodS (cc tw rs sc scr) b).2 _ hb).run pins s' σ H1 D I h
  · refine ⟨rfl, fun p r H' ex hp hr' hpr h1 h2 => ?_⟩
    have zno : ∀ b, some b ∉ Ow.z [] := fun b z => by
      rcases Ow.mem_iff.mp z with z | ⟨_, z, _⟩ <;> cases z
    have vis : ∀ b o, H b = some o → nm o = true → hid (fun b => decide (b = p) || decide (b = r)) (.z []) H' b = some o := fun b o e n => hid_some.mpr ⟨by simp [ne_of_none e hp, ne_of_none e hr'], zno b, shw_of (ex b o e) n fun ⟨m, n, oa, z, _⟩ => by simp [Ow.z] at z⟩
    have visS : SqL K (hid (fun b => decide (b = p) || decide (b = r)) (.z []) H') a (ns.map V.int) := by
      rcases hS with (h | ⟨o, h⟩) | h
      · exact .inl (.inl (vis _ _ h rfl))
      · exact .inl (.inr ⟨o, vis _ _ h rfl⟩)
      · exact .inr h
    have hh : HidOk ⟨P, w, K, p, r, a, ns, tbs, cls⟩ (fun b => decide (b = p) || decide (b = r)) [] H' ⟨0, [], ns, []⟩ := by
      refine ⟨fun b hb => ?_, by simp, by simp, ⟨h1, h2, ⟨hpr, rfl, hl, by simp, by simp⟩, hT.ext ex⟩, rfl, fun n oa o h _ => by simp [Ow.z] at h, fun oa h => by simp [Ow.z] at h, fun _ => (0, 0), fun i p h => by simp [Ow.z] at h, fun n oa h => by simp [Ow.z] at h⟩
      simp only [Bool.or_eq_true, decide_eq_true_eq] at hb
      rcases hb with rfl | rfl
      · exact ⟨_, h1, rfl⟩
      · exact ⟨_, h2, rfl⟩
    have sr := start_SR (N := lawN N') (vs := [.ref a, .ref p]) (ds := [.tok 1, .tok 0]) hh (.cons (.script visS) (.cons .town .nil)) (by simp)
    obtain ⟨τ', e⟩ := hF ns hl
    refine ⟨p, r, a, ns, _, _, _, sr, start_wp (show wpF _ E _ [] H' (runB Φ T.gc (lawN N').length b [.tok 1, .tok 0] ⟨0, [], ns, []⟩) Q from ?_)⟩
    rw [e]
    intro _ v H2 _ _ _ rv
    cases rv
    exact hQ H2
end
end Mn

set_option Elab.async false
set_option linter.all false
set_option maxRecDepth 100000
set_option maxHeartbeats 4000000
namespace Mn
open PySem L2 PySem.W
/-! ### what the top has written, as terms to be computed -/
def gA (K : Frag) (x : Str) : Addr := match nsIn K mainGlobals x with
  | some (some (.ref a)) => a
  | _ => 0
def gOk (K : Frag) (x : Str) : Bool := match nsIn K mainGlobals x with
  | some (some (.ref _)) => true
  | _ => false
theorem gOk_ns {K : Frag} {x : Str} (h : gOk K x = true) : nsIn K mainGlobals x = some (some (.ref (gA K x))) := by
  unfold gOk at h
  split at h
  · rename_i a e
    unfold gA
    rw [e]
  · cases h
def fdAt (K : Frag) (x : Str) : Option FuncData := match K.lookup (gA K x) with
  | some ⟨_, _, .func fd, _⟩ => some fd
  | _ => none
abbrev FV := Str × Str × Arguments × FuncBody × Scope × Addr × List (Str × Addr) × Value × Addr
def fV (fd : FuncData) : FV := (fd.name, fd.qualname, fd.params, fd.body, fd.scope, fd.globals, fd.closure, fd.defaults, fd.builtins)
def sV (x : Str) (st : Stmt) : FV := (x, x, defArgs st, .stmts (defBody st), defScope st, mainGlobals, [], .none, builtinsNs)
def fnB (K : Frag) (x : Str) : Bool := gOk K x && keepIn K (.ref (gA K x)) && (match fdAt K x with
  | some fd => codeIn K fd.code x
  | none => false)
def fdG (K : Frag) (x : Str) : FuncData := (fdAt K x).getD default
theorem fun_of {K : Frag} {x : Str} {st : Stmt} (h : (fdAt K x).map fV = some (sV x st)) (h2 : fnB K x = true) : L2.Fun K x x st (gA K x) (fdG K x) := by
  simp only [fnB, Bool.and_eq_true] at h2
  obtain ⟨⟨_, hk⟩, hc⟩ := h2
  cases q : fdAt K x with
  | none => rw [q] at h; cases h
  | some fd =>
    rw [q] at h hc
    have e : fV fd = sV x st := Option.some.inj h
    have eg : fdG K x = fd := by unfold fdG; rw [q]; rfl
    unfold fdAt at q
    split at q
    · rename_i oc od fd' osl el
      cases q
      rw [eg]
      simp only [fV, sV, Prod.mk.injEq] at e
      obtain ⟨e1, e2, e3, e4, e5, e6, e7, e8, e9⟩ := e
      obtain ⟨n, qn, pa, bo, sc, gl, cl, de, kd, doc, pm, an, cd, ct, bu⟩ := fd
      simp only at e1 e2 e3 e4 e5 e6 e7 e8 e9 hc
      subst e1 e2 e3 e4 e5 e6 e7 e8 e9
      exact ⟨⟨oc, od, kd, doc, pm, an, cd, ct, osl, rfl, el, hc⟩, hk⟩
    · cases q
/-! ### the classes of errors -/
def ecn : List Str := ["InvalidType", "InvalidOperations", "InvalidState", "InvalidKind", "InvalidEvent", "InvalidBlock", "InvalidWord", "InvalidPlaces", "InvalidTable", "InvalidGroups", "InvalidNumber", "InvalidMethod", "InvalidRun", "InvalidTransaction", "InvalidText", "NotComparable", "NotReducible", "TooLarge", "TooMany", "NothingToUndo", "cell", "counter", "buffer", "results", "orders", "wrong_orders", "is_enough", "missing", "bad_run", "is_bad_run"]
def cnR : Nat → Str := fun j => ecn.getD j ""
def clsA (K : Frag) : Nat → Addr := fun c => gA K (cnR c)
def bmV : List Value := [.type "ValueError", .type "Exception", .type "BaseException", .type "object"]
/-- an error class, for raise and isinstance -/
def exV (K : Frag) (D : Addr) : Option (Option Value) × Option (Option Value) × Option Bool × Bool × Option (Option Value) × Option (Option Value) × Option Bool × Option Bool × Bool × Bool × Option Value :=
  (findIn K (.ref D) "__getattribute__", findIn K (.ref D) "__getattr__", subIn K (.ref D) (.type "BaseException"), hasDictIn K D, findIn K (.ref D) "__class__", specialIn K (.builtin "object.__class__") "__get__", takesIn K (.builtin "object.__class__"), mroIn K D (.type "object"),
    excIn K D bmV "ValueError.__new__", keepIn K (.ref D), typeIn K (.ref D))
def exG : Option (Option Value) × Option (Option Value) × Option Bool × Bool × Option (Option Value) × Option (Option Value) × Option Bool × Option Bool × Bool × Bool × Option Value :=
  (some (some (.builtin "BaseException.__getattribute__")), some none, some true, true, some (some (.builtin "object.__class__")), some (some (.builtin "getset_descriptor.__get__")), some true, some true, true, true, some (.type "type"))
theorem excC_of {K : Frag} {D : Addr} (h : exV K D = exG) : ExcC K D := by
  simp only [exV, exG, Prod.mk.injEq] at h
  obtain ⟨h1, h2, h3, h4, h5, h6, h7, h8, h9, h10, h11⟩ := h
  exact ⟨h1, h2, h3, h4, h5, h6, h7, h8⟩
theorem excAt_of {C : Cf} {mg : Str → Option Value} {c : Nat} {x : Str} (h : exV C.K (C.cls c) = exG) (g : mg x = some (.ref (C.cls c))) : ExcAt C mg c x := by
  simp only [exV, exG, Prod.mk.injEq] at h
  obtain ⟨h1, h2, h3, h4, h5, h6, h7, h8, h9, h10, h11⟩ := h
  exact ⟨⟨bmV, _, _, _, PySem.F.excBase_ValueError, h9⟩, g, h10, h3, h11⟩
/-- the row of one class against all -/
def kitV (K : Frag) (c : Nat) : List (Option Bool) × Option Bool × Option Bool := ((List.range 20).map (fun i => kitOne K (.ref (clsA K c)) (.ref (clsA K i))), kitOne K (.ref (clsA K c)) (.type "ValueError"), exmOne K (.ref (clsA K c)) (.ref (gA K "LockError")))
def kitG (c : Nat) : List (Option Bool) × Option Bool × Option Bool := ((List.range 20).map (fun i => some (decide (i = c))), some true, some true)
theorem nmC_of {C : Cf} {c : Nat} (hc : C.cls = clsA C.K) (hl : c < 20) (h : exV C.K (clsA C.K c) = exG) (h2 : kitV C.K c = kitG c) : NmC C (gA C.K "LockError") c := by
  simp only [kitV, kitG, Prod.mk.injEq] at h2
  obtain ⟨k1, k2, k3⟩ := h2
  refine ⟨hl, by rw [hc]; exact excC_of h, fun i hi => ?_, by rw [hc]; exact k2, by rw [hc]; exact k3⟩
  rw [hc]
  have := congrArg (fun l => l[i]?) k1
  simp only [List.getElem?_map, List.getElem?_range hi, Option.map_some, Option.some.injEq] at this
  exact this
/-! ### the defs, one behind the other -/
abbrev Info := Str × List Str × List Nat × Nat
def phi (fs : List Fn) : Nat → Fn := fun j => fs.getD j fun _ _ => .bad
def gcT (gcsL : List (Str × D)) : Nat → D := fun i => (gcsL[i]?.map (·.2)).getD .non
section
variable {P : Program} {w : World} {K : PySem.W.Frag} {tbs : List (Addr × Str)} {mg : Str → Option Value} {base : Heap}
/-- what is known of the top -/
structure TopF (top : Nat → Stmt) (defsL : List (Str × Nat)) (gcsL : List (Str × D)) (exsL : List Str) (K : PySem.W.Frag) (mg : Str → Option Value) : Prop where
  fn : ∀ p ∈ defsL, L2.Fun K p.1 p.1 (top p.2) (gA K p.1) (fdG K p.1) ∧ mg p.1 = some (.ref (gA K p.1))
  blt : ∀ x ∈ bnames, mg x = none
  gc : ∀ (i : Nat) x d, gcsL[i]? = some (x, d) → ∃ u v, mg x = some u ∧ RelV v u ∧ ∀ (C : Cf) G, C.K = K → C.cls = clsA K → Rep C G v d
  ex : ∀ (i : Nat) x, exsL[i]? = some x → (x == ("" : Str)) = false → exV K (clsA K i) = exG ∧ mg x = some (.ref (clsA K i))
def AllG (P : Program) (w : World) (K : PySem.W.Frag) (tbs : List (Addr × Str)) (mg : Str → Option Value) (base : Heap) (l : List Info) (fs : List Fn) : Prop :=
  l.length = fs.length ∧ ∀ (j : Nat) (a : Info) (F : Fn), l[j]? = some a → fs[j]? = some F → FG (C0 P w K tbs (clsA K)) mg base a.1 a.2.1 a.2.2.1 a.2.2.2 F
theorem AllG.nil : AllG P w K tbs mg base [] [] := ⟨rfl, fun j a F h => by simp at h⟩
theorem AllG.snoc {l : List Info} {fs : List Fn} {a : Info} {F : Fn} (h : AllG P w K tbs mg base l fs) (g : FG (C0 P w K tbs (clsA K)) mg base a.1 a.2.1 a.2.2.1 a.2.2.2 F) : AllG P w K tbs mg base (l ++ [a]) (fs ++ [F]) := by
  refine ⟨by simp [h.1], fun j b G h1 h2 => ?_⟩
  by_cases hj : j < l.length
  · rw [List.getElem?_append_left hj] at h1
    rw [List.getElem?_append_left (by rw [← h.1]; exact hj)] at h2
    exact h.2 j b G h1 h2
  · rw [List.getElem?_append_right (by omega)] at h1
    rw [List.getElem?_append_right (by rw [← h.1]; omega), ← h.1] at h2
    cases q : j - l.length with
    | zero => rw [q] at h1 h2; cases h1; cases h2; exact g
    | succ n => rw [q] at h1; simp at h1
theorem pg_mk {top : Nat → Stmt} {defsL : List (Str × Nat)} {gcsL : List (Str × D)} {exsL : List Str} {ins : List Info} {fs : List Fn} {rs : List Nat} {lam : Bool} {k : Nat} (t : TopF top defsL gcsL exsL K mg) (al : AllG P w K tbs mg base ins fs) :
    Pg ⟨ins, gcsL, exsL, rs, lam⟩ (phi fs) k P w K tbs (clsA K) mg base := by
  refine ⟨t.blt, fun i x ps js l h _ => ?_, t.gc, fun i x h hx => ?_⟩
  · have hi : i < fs.length := by rw [← al.1]; exact (List.getElem?_eq_some_iff.mp h).1
    have e : fs[i]? = some fs[i] := List.getElem?_eq_getElem hi
    have := al.2 i _ _ h e
    have ep : phi fs i = fs[i] := by unfold phi; rw [List.getD_eq_getElem?_getD, e]; rfl
    rw [ep]
    exact this
  · obtain ⟨h1, h2⟩ := t.ex i x h hx
    exact excAt_of h1 h2
theorem kb_of {x : Str} {st : Stmt} {f : Addr} {fd : FuncData} {ps : List Str} {j : Nat} (F : L2.Fun K x x st f fd)
    (h : ∀ (kV doc pm : Value) (an : Option Addr) (cdv ct : Value) (us ws : List Value), us.length = j → us.length + ws.length = ps.length → bindArgs (PySem.W.fnOf x x (defArgs st) (defBody st) (defScope st) .none kV doc pm an cdv ct) ⟨us, (ps.drop j).zip ws⟩ = pure (ps.zip (us ++ ws))) : KB K fd ps j := by
  obtain ⟨oc, od, kV, doc, pm, an, cdv, ct, osl, rfl, lk, hcd⟩ := F.ex
  exact fun s us ws _ h1 h2 => .of_eq (h kV doc pm an cdv ct us ws h1 h2)
abbrev BindF (x : Str) (st : Stmt) (ps : List Str) : Prop := ∀ (kV doc pm : Value) (an : Option Addr) (cdv ct : Value) (us : List Value), us.length = ps.length → bindArgs (PySem.W.fnOf x x (defArgs st) (defBody st) (defScope st) .none kV doc pm an cdv ct) ⟨us, []⟩ = pure (ps.zip us)
abbrev BindK (x : Str) (st : Stmt) (ps : List Str) (j : Nat) : Prop := ∀ (kV doc pm : Value) (an : Option Addr) (cdv ct : Value) (us ws : List Value), us.length = j → us.length + ws.length = ps.length → bindArgs (PySem.W.fnOf x x (defArgs st) (defBody st) (defScope st) .none kV doc pm an cdv ct) ⟨us, (ps.drop j).zip ws⟩ = pure (ps.zip (us ++ ws))
theorem fg_mk {top : Nat → Stmt} {defsL : List (Str × Nat)} {gcsL : List (Str × D)} {exsL : List Str} {ins : List Info} {fs : List Fn} {rs : List Nat} {k i : Nat} {x : Str} {N ps : List Str} {js : List Nat} {b : Sm} (t : TopF top defsL gcsL exsL K mg) (al : AllG P w K tbs mg base ins fs)
    (hm : (x, i) ∈ defsL) (S : FnScope N ps (defScope (top i))) (ck : (chkS ⟨ins, gcsL, exsL, rs, false⟩ N k b).ss (defScope (top i)) (defBody (top i)) = true) (hb : BindF x (top i) ps) (hk : ∀ j ∈ js, BindK x (top i) ps j) :
    FG (C0 P w K tbs (clsA K)) mg base x ps js (k + 1) (runB (phi fs) (gcT gcsL) N.length b) := by
  obtain ⟨F, hmg⟩ := t.fn _ hm
  exact ⟨_, _, hmg, F.kp, F.binds hb, fun j hj => kb_of F (hk j hj), fn_good (T := ⟨ins, gcsL, exsL, rs, false⟩) F S ck (fun ds τ _ _ => rfl) (pg_mk t al) (fun h => by cases h)⟩
end
/-! ### the code's table of a def with lambdas -/
def codeA (K : Frag) (x : Str) : Addr := match (fdG K x).code with
  | .ref c => c
  | _ => 0
def tabA (K : Frag) (x : Str) : Addr := match K.lookup (codeA K x) with
  | some ⟨_, _, .fields vs, _⟩ => (match (vs[11]? : Option Value) with
    | some (.ref p) => p
    | _ => 0)
  | _ => 0
def codeB (K : Frag) (ts : List Addr) (x : Str) : Bool := (match (fdG K x).code with
  | .ref _ => true
  | _ => false) && codeHdIn K (codeA K x) (tabA K x) && (K.lookup (tabA K x)).isNone && ts.contains (tabA K x)
theorem codeB_of {K : Frag} {ts : List Addr} {x : Str} (h : codeB K ts x = true) : (fdG K x).code = .ref (codeA K x) ∧ codeHdIn K (codeA K x) (tabA K x) = true ∧ K.lookup (tabA K x) = none ∧ tabA K x ∈ ts := by
  simp only [codeB, Bool.and_eq_true, Option.isNone_iff_eq_none, List.contains_eq_mem, decide_eq_true_eq] at h
  obtain ⟨⟨⟨h1, h2⟩, h3⟩, h4⟩ := h
  refine ⟨?_, h2, h3, h4⟩
  split at h1
  · rename_i c e
    unfold codeA
    rw [e]
  · cases h1
/-! ### facts by computation -/
def constsB : List Value → List D → Bool
  | [], [] => true
  | .str x _ :: us, .str y :: ds => x == y && constsB us ds
  | .int x _ :: us, .int y :: ds => x == y && constsB us ds
  | _, _ => false
theorem consts_of : ∀ {us : List Value} {ds : List D}, constsB us ds = true → ∃ vs : List V, Vals vs us ∧ ∀ (C : Cf) G, RepA C G vs ds
  | [], [], _ => ⟨[], .nil, fun _ _ => .nil⟩
  | .str x t :: us, .str y :: ds, h => by
    simp only [constsB, Bool.and_eq_true, beq_iff_eq] at h
    obtain ⟨rfl, h⟩ := h
    obtain ⟨vs, h1, h2⟩ := consts_of h
    exact ⟨.str x :: vs, .cons ⟨t, rfl⟩ h1, fun C G => .cons (.str x) (h2 C G)⟩
  | .int x t :: us, .int y :: ds, h => by
    simp only [constsB, Bool.and_eq_true, beq_iff_eq] at h
    obtain ⟨rfl, h⟩ := h
    obtain ⟨vs, h1, h2⟩ := consts_of h
    exact ⟨.int x :: vs, .cons ⟨t, rfl⟩ h1, fun C G => .cons (.int x) (h2 C G)⟩
/-- a tuple of the written part -/
def tupB (o : Obj) (ds : List D) : Bool := (match o.cls with
  | .type n => n == "tuple"
  | _ => false) && (match o.data with
  | .seq its _ => decide (its.size ≤ sizeLine) && decide (ds.length ≤ LIM) && constsB its.toList ds
  | _ => false)
theorem tup_of {K : Frag} {a : Addr} {o : Obj} {ds : List D} (e : K.lookup a = some o) (h : tupB o ds = true) : ∀ (C : Cf) G, C.K = K → Rep C G (.ref a) (.tup ds) := by
  unfold tupB at h
  simp only [Bool.and_eq_true] at h
  obtain ⟨h1, h2⟩ := h
  split at h1
  · rename_i n en
    have hn : n = "tuple" := by simpa using h1
    subst hn
    split at h2
    · rename_i its m ei
      simp only [Bool.and_eq_true, decide_eq_true_eq] at h2
      obtain ⟨⟨h3, h4⟩, h5⟩ := h2
      obtain ⟨vs, v1, v2⟩ := consts_of h5
      intro C G hC
      subst hC
      exact .tup (.inr ⟨o, its, m, e, en, ei, h3, v1⟩) (v2 C G) h4
    · cases h2
  · cases h1
def constB (K : Frag) (p : Str × D) : Bool := match nsIn K mainGlobals p.1, p.2 with
  | some (some (.int j _)), .int i => j == i
  | some (some (.ref a)), .tup ds => (match K.lookup a with
    | some o => tupB o ds
    | none => false)
  | some (some (.ref a)), .tok (n + 2) => decide (a = clsA K (20 + n)) && decide (n < 900)
  | _, _ => false
theorem topF_of {top : Nat → Stmt} {defsL : List (Str × Nat)} {gcsL : List (Str × D)} {exsL : List Str} {K : Frag} {h : Heap} {mg : Str → Option Value} (X : K.In h) (G : h.Ns mainGlobals mg)
    (f1 : defsL.map (fun p => (fdAt K p.1).map fV) = defsL.map (fun p => some (sV p.1 (top p.2)))) (f2 : defsL.all (fun p => fnB K p.1) = true) (f3 : bnames.map (fun x => nsIn K mainGlobals x) = bnames.map (fun _ => some none))
    (f4 : gcsL.all (constB K) = true) (f5 : ∀ (i : Nat) x, exsL[i]? = some x → (x == ("" : Str)) = false → x = cnR i) (f6 : exsL.all (fun x => x == ("" : Str) || gOk K x) = true) (f7 : (exsL.filter fun x => !(x == ("" : Str))).map (fun x => exV K (gA K x)) = (exsL.filter fun x => !(x == ("" : Str))).map (fun _ => exG)) : TopF top defsL gcsL exsL K mg where
  fn := fun p hp => by
    have h1 := List.map_inj_left.mp f1 p hp
    have h2 := List.all_eq_true.mp f2 p hp
    refine ⟨fun_of h1 h2, ?_⟩
    simp only [fnB, Bool.and_eq_true] at h2
    exact mg_of X G (gOk_ns h2.1.1)
  blt := fun x hx => mg_none_of X G (List.map_inj_left.mp f3 x hx)
  gc := fun i x d hi => by
    have := List.all_eq_true.mp f4 _ (List.mem_of_getElem? hi)
    unfold constB at this
    split at this
    · rename_i j t i' e1 e2
      have e : j = i' := by simpa using this
      subst e
      simp only at e1 e2
      subst e2
      exact ⟨_, .int j, mg_of X G e1, ⟨_, rfl⟩, fun C G _ _ => .int j⟩
    · rename_i a ds e1 e2
      simp only at e1 e2
      subst e2
      split at this
      · rename_i o eo
        exact ⟨_, .ref a, mg_of X G e1, rfl, fun C G h _ => tup_of eo this C G h⟩
      · cases this
    · rename_i a n e1 e2
      simp only at e1 e2
      subst e2
      simp only [Bool.and_eq_true, decide_eq_true_eq] at this
      obtain ⟨e, hn⟩ := this
      subst e
      exact ⟨_, .ref _, mg_of X G e1, rfl, fun C G h1 h2 => by rw [← h2]; exact .fnv n hn⟩
    · cases this
  ex := fun i x hi hx => by
    have e := f5 i x hi hx
    have hm := List.mem_of_getElem? hi
    have h6 := List.all_eq_true.mp f6 x hm
    rw [hx, Bool.false_or] at h6
    have h7 := List.map_inj_left.mp f7 x (List.mem_filter.mpr ⟨hm, by rw [hx]; rfl⟩)
    unfold clsA
    rw [← e]
    exact ⟨h7, mg_of X G (gOk_ns h6)⟩
end Mn

set_option Elab.async false
set_option linter.all false
set_option maxRecDepth 100000
set_option maxHeartbeats 4000000
namespace Mn
open PySem L2 PySem.W
def top (i : Nat) : Stmt := PySem.Challenge.pw_eventlocks_k26_standard.main.body.getD i (.Pass ⟨0, 0, 0, 0⟩)
abbrev sRes : Stmt := top 44
abbrev sDraw : Stmt := top 46
abbrev sBeg : Stmt := top 47
theorem scR : FnScope Nr ["call"] (defScope sRes) := ⟨rfl, rfl, rfl, by decide +kernel, rfl, by decide +kernel, by decide +kernel⟩
def asg0 (l : List Stmt) : List Expr × Expr := match l with
  | .Assign ts v _ :: _ => (ts, v)
  | _ => ([], .Constant .none 0 ⟨0, 0, 0, 0⟩)
theorem res_ps {X : Cx} {cl : Nat → Addr} {le : Addr} (c : RsC X cl le cnR) {f c' : Addr} {q : Str} {tl : XK → Hp → VK → Prop} (hw : swappedStores (asg0 (defBody sRes)).1 (asg0 (defBody sRes)).2 X.env = pure none)
    (act : ∀ (W : WX) (pn : List (Addr × Obj)) (xe : Value → Shared → Prop) (E : XK) (p1 p2 : Pos), Takes (X.tr pn xe) W → (∀ cls d σ' H', E cls d H' → W cls d σ' H') →
      PE (X.tr pn xe) (.Call (.Name "call" p1) [] [] p2) (fun σZ HZ Q => σZ[0]? = some (some (.ref f)) ∧ HZ c' = some (LamX.CodeO c' q) ∧ tl E HZ Q)) :
    PSs X (defBody sRes) (tResS X.K (fun j => .ref (cl j)) (.ref le) f c' q tl) := by
  refine pss_cons (c.s1 hw) (pss_cons (c.tr act) (pss_cons c.if_ (pss_cons (c.dsp (c.isx 0 (by decide)) (c.isx 1 (by decide))) ?_)))
  refine pss_cons (c.up (c.isx 2 (by decide)) (c.isx 3 (by decide)) rfl) ?_
  refine pss_cons (c.up (c.isx 4 (by decide)) (c.isx 5 (by decide)) rfl) ?_
  refine pss_cons (c.up (c.isx 6 (by decide)) (c.isx 7 (by decide)) rfl) ?_
  refine pss_cons (c.up (c.isx 8 (by decide)) (c.isx 9 (by decide)) rfl) ?_
  refine pss_cons (c.up (c.isx 10 (by decide)) (c.isx 11 (by decide)) rfl) ?_
  refine pss_cons (c.up (c.isx 12 (by decide)) (c.isx 13 (by decide)) rfl) ?_
  refine pss_cons (c.up (c.isx 14 (by decide)) (c.isx 15 (by decide)) rfl) ?_
  refine pss_cons (c.up (c.isx 16 (by decide)) (c.isx 17 (by decide)) rfl) ?_
  refine pss_cons (c.up (c.isx 18 (by decide)) (c.isx 19 (by decide)) rfl) ?_
  exact pss_cons (c.nms rfl) (pss_cons c.last pss_nil)
section
variable {P : Program} {w : World} {K : PySem.W.Frag} {tbs : List (Addr × Str)} {mg : Str → Option Value} {base : Heap}
/-- what the text has of _law_result -/
structure ResT (K : PySem.W.Frag) (mg : Str → Option Value) : Prop where
  fn : ∃ fd, L2.Fun K "_law_result" "_law_result" sRes (gA K "_law_result") fd
  mR : mg "_law_result" = some (.ref (gA K "_law_result"))
  mE : mg "LockError" = some (.ref (gA K "LockError"))
  mC : ∀ j, j < 20 → mg (cnR j) = some (.ref (clsA K j))
  mI : mg "isinstance" = none
  mL : mg "len" = none
  mV : mg "ValueError" = none
theorem lamC_mk {N : List Str} {qual : Str} {scope : Scope} {f c Pt : Addr} {cdv : Value} {A : Around} {outer : List Env} {s : Shared} {H : Hp} {E : XK} {tw rs sc : Addr} {scr : List Int} {rsT : List Nat} {k : Nat} (R : ResT K mg) (nm : ∀ c ∈ rsT, NmC ⟨P, w, K, tw, rs, sc, scr, tbs, clsA K⟩ (gA K "LockError") c)
    (TB : LamX.TabB base mg c Pt) (hcd : cdv = .ref c) (hm : (Pt, qual ++ ".<locals>." ++ "<lambda>") ∈ tbs) (hu : ∀ p ∈ tbs, p.1 = Pt → p.2 = qual ++ ".<locals>." ++ "<lambda>") (hr : Room k (A.deeper (PyProof.Rows.envOfC qual scope s.heap.objs.size f cdv))) (hk : 1 ≤ k) :
    LamC ⟨P, w, K, tw, rs, sc, scr, tbs, clsA K⟩ (cxOf (L2.CX P w) P w K mg base N qual scope f cdv A outer s H E) rsT := by
  obtain ⟨fd, F⟩ := R.fn
  have bG : L2.Binds K fd ["call"] [] := F.binds fun _ _ _ _ _ _ us hl => match us, hl with | [_], _ => rfl
  have kp := F.kp
  obtain ⟨oc, od, kV, doc, pm, an, cdg, ct, osl, rfl, lk, hcg⟩ := F.ex
  refine ⟨gA K "LockError", gA K "_law_result", c, Pt, _, _, _, _, kV, doc, pm, cdg, ct, oc, an, od, osl, R.mR, kp, lk, hcg, bG, scR, visB (by decide +kernel), ?_, TB, hcd, hm, hu, nm⟩
  intro f' c' s' H' Q tl act hc h
  refine ⟨_, res_ps (X := (cxOf C8.CX0 P w K mg base Nr "_law_result" (defScope sRes) (gA K "_law_result") cdg (A.deeper (PyProof.Rows.envOfC qual scope s.heap.objs.size f cdv)) (PyProof.Rows.envOfC qual scope s.heap.objs.size f cdv :: outer) s' H' C8.E0).nox) (cl := clsA K) (le := gA K "LockError") ?_ rfl act, res_pure hc h⟩
  have hu1 : (A.deeper (PyProof.Rows.envOfC qual scope s.heap.objs.size f cdv)).units + 16 < cLine := by have := hr.un; omega
  refine ⟨rfl, rfl, ?_, fun _ => rfl, rfl, rfl, rfl, rfl, ?_, (show (defScope sRes).names.lookup ("some" : Str) = some .cell by decide +kernel), ?_, R.mI, R.mL, R.mV, R.mE, fun j hj => ⟨?_, R.mC j hj, ?_⟩⟩
  · show (A.deeper (PyProof.Rows.envOfC qual scope s.heap.objs.size f cdv)).units + 3 + 1 < cLine
    omega
  · show ∀ x ∈ (["call", "raised", "result", "e", "names"] : List Str), (defScope sRes).names.lookup x = some .local
    decide +kernel
  · show ∀ x ∈ (["isinstance", "LockError", "ValueError", "len"] : List Str), (defScope sRes).names.lookup x = some .globalImplicit
    decide +kernel
  · have : ∀ j, j < 20 → (defScope sRes).names.lookup (cnR j) = some .globalImplicit := by decide +kernel
    exact this j hj
  · have : ∀ j, j < 20 → (cnR j == ("__debug__" : Str)) = false := by decide +kernel
    exact this j hj
/-- what a def with lambdas wants: the tables of the codes of the defs in L -/
structure LH (K : PySem.W.Frag) (mg : Str → Option Value) (base : Heap) (tbs : List (Addr × Str)) (rsT : List Nat) (L : List Str) : Prop where
  R : ResT K mg
  nm : ∀ c ∈ rsT, c < 20 ∧ exV K (clsA K c) = exG ∧ kitV K c = kitG c
  hx : ∀ x ∈ L, LamX.TabB base mg (codeA K x) (tabA K x) ∧ (fdG K x).code = .ref (codeA K x) ∧ (tabA K x, x ++ ".<locals>." ++ "<lambda>") ∈ tbs ∧ ∀ p ∈ tbs, p.1 = tabA K x → p.2 = x ++ ".<locals>." ++ "<lambda>"
theorem LH.lam {L : List Str} {rsT : List Nat} {x : Str} (h : LH K mg base tbs rsT L) (hm : x ∈ L) {N : List Str} {scope : Scope} {f : Addr} {k : Nat} (hk : 1 ≤ k) (tw rs sc : Addr) (scr : List Int) (A : Around) (outer : List Env) (s : Shared) (H : Hp) (E : XK) (hr : Room k (A.deeper (PyProof.Rows.envOfC x scope s.heap.objs.size f (fdG K x).code))) :
    LamC ⟨P, w, K, tw, rs, sc, scr, tbs, clsA K⟩ (cxOf (L2.CX P w) P w K mg base N x scope f (fdG K x).code A outer s H E) rsT := by
  obtain ⟨h1, h2, h3, h4⟩ := h.hx x hm
  exact lamC_mk h.R (fun c hc => by obtain ⟨n1, n2, n3⟩ := h.nm c hc; exact nmC_of rfl n1 n2 n3) h1 h2 h3 h4 hr hk
theorem fg_mkL {top : Nat → Stmt} {defsL : List (Str × Nat)} {gcsL : List (Str × D)} {exsL : List Str} {ins : List Info} {fs : List Fn} {rs : List Nat} {k i : Nat} {x : Str} {N ps : List Str} {js : List Nat} {b : Sm} {L : List Str} (t : TopF top defsL gcsL exsL K mg) (lh : LH K mg base tbs rs L) (hL : x ∈ L) (hk1 : 1 ≤ k) (al : AllG P w K tbs mg base ins fs)
    (hm : (x, i) ∈ defsL) (S : FnScope N ps (defScope (top i))) (ck : (chkS ⟨ins, gcsL, exsL, rs, true⟩ N k b).ss (defScope (top i)) (defBody (top i)) = true) (hb : BindF x (top i) ps) (hk : ∀ j ∈ js, BindK x (top i) ps j) :
    FG (C0 P w K tbs (clsA K)) mg base x ps js (k + 1) (runB (phi fs) (gcT gcsL) N.length b) := by
  obtain ⟨F, hmg⟩ := t.fn _ hm
  exact ⟨_, _, hmg, F.kp, F.binds hb, fun j hj => kb_of F (hk j hj), fn_good (T := ⟨ins, gcsL, exsL, rs, true⟩) F S ck (fun ds τ _ _ => rfl) (pg_mk t al) (fun _ tw rs sc scr A outer s H E hr => lh.lam hL hk1 tw rs sc scr A outer s H E hr)⟩
def csL (K : PySem.W.Frag) (L : List Str) : List (Addr × Addr) := L.map fun x => (codeA K x, tabA K x)
def tbL (K : PySem.W.Frag) (L : List Str) : List (Addr × Str) := L.map fun x => (tabA K x, x ++ ".<locals>." ++ "<lambda>")
def lamB (K : PySem.W.Frag) (ts : List Addr) (L : List Str) : Bool := L.all (codeB K ts) && decide ((L.map (tabA K)).Nodup)
theorem lh_mk {ts : List Addr} {rsT : List Nat} {L : List Str} (h : lamB K ts L = true) (R : ResT K mg) (nm : ∀ c ∈ rsT, c < 20 ∧ exV K (clsA K c) = exG ∧ kitV K c = kitG c) (TB : ∀ p ∈ csL K L, LamX.TabB base mg p.1 p.2) : LH K mg base (tbL K L) rsT L := by
  simp only [lamB, Bool.and_eq_true, List.all_eq_true, decide_eq_true_eq] at h
  refine ⟨R, nm, fun x hx => ⟨TB (codeA K x, tabA K x) (List.mem_map.mpr ⟨x, hx, rfl⟩), (codeB_of (h.1 x hx)).1, List.mem_map.mpr ⟨x, hx, rfl⟩, fun p hp e => ?_⟩⟩
  obtain ⟨y, hy, rfl⟩ := List.mem_map.mp hp
  have : y = x := by
    have nd := h.2
    clear h TB hp
    induction L with
    | nil => cases hx
    | cons z L ih =>
      rw [List.map_cons, List.nodup_cons] at nd
      rcases List.mem_cons.mp hx with rfl | hx2 <;> rcases List.mem_cons.mp hy with rfl | hy2
      · rfl
      · exact absurd (List.mem_map.mpr ⟨y, hy2, e⟩) nd.1
      · exact absurd (List.mem_map.mpr ⟨x, hx2, e.symm⟩) nd.1
      · exact ih hx2 hy2 nd.2
  rw [this]
theorem lam_of {ts : List Addr} {L : List Str} (h : lamB K ts L = true) : ∀ p ∈ csL K L, PySem.W.codeHdIn K p.1 p.2 = true ∧ K.lookup p.2 = none ∧ p.2 ∈ ts := by
  simp only [lamB, Bool.and_eq_true, List.all_eq_true, decide_eq_true_eq] at h
  intro p hp
  obtain ⟨x, hx, rfl⟩ := List.mem_map.mp hp
  exact (codeB_of (h.1 x hx)).2
theorem scB : FnScope [] [] (defScope sBeg) := ⟨rfl, rfl, rfl, by decide +kernel, rfl, by decide +kernel, by decide +kernel⟩
theorem begun_fn {f : Addr} {fd : FuncData} (hf : L2.Fun K "_law_begun" "_law_begun" sBeg f fd) : FnOk P w K mg base (L2.CX P w) 1 f fd [] spBegun := by
  refine hf.okX (k := 0) scB (fun vs H Q E h => by rw [h.1]; rfl) fun cdv A outer s H vs Q E hr h => ?_
  obtain ⟨rfl, h⟩ := h
  exact ⟨_, pss_one (ps_ret (pe_disp (pps_cons pe_str pe_int (pps_cons pe_str pe_dnewK pps_nil)) rfl rfl (by simp) (by simp))), begun_pure h⟩
end
end Mn

set_option Elab.async false
set_option linter.all false
set_option maxRecDepth 100000
set_option maxHeartbeats 4000000
namespace Mn
open PySem L2
def Nd : List Str := ["script", "town", "many", "at", "rest", "number"]
theorem scD : FnScope Nd ["script", "town", "many"] (defScope sDraw) := ⟨rfl, rfl, rfl, by decide +kernel, rfl, by decide +kernel, by decide +kernel⟩
theorem itF {c : Bool} {A B : Prop} (hc : c = false) (h : B) : if c = true then A else B := by
  rw [hc, if_neg Bool.false_ne_true]
  exact h
theorem itT {c : Bool} {A B : Prop} (hc : c = true) (h : A) : if c = true then A else B := by
  rw [if_pos hc]
  exact h
theorem val_restD (rs : List (Int × Int)) (i z : Int) : (valV (restsK rs) (.inl i)).getD (.int z) = .int (((rs.find? fun p => decide (p.1 = i)).map (·.2)).getD z) := by
  rw [val_rests]
  cases (rs.find? fun p => decide (p.1 = i)) <;> rfl
section
variable {P : Program} {w : World} {K : PySem.W.Frag} {tbs : List (Addr × Str)} {cls : Nat → Addr} {mg : Str → Option Value} {base : Heap}
theorem draw_fn {f : Addr} {fd : FuncData} (hf : L2.Fun K "_law_draw" "_law_draw" sDraw f fd) (mL : mg "len" = none) : FnOk P w K mg base (L2.CX P w) 1 f fd ["script", "town", "many"] (spOf P w K tbs cls 3 Fdraw) := by
  refine hf.okX (k := 0) scD (fun vs H Q E h => h.1) fun cdv A outer s H vs Q E hr h => ?_
  obtain ⟨hl, tw, rs, sc, scr, B, ob, ds, τ, hh, r, wf⟩ := h
  have hu := hu_of hr
  refine ⟨_, pss_cons (ps_dput hu (pv 1) pe_str (pe_op op_add (pe_dget hu (pv 1) pe_str (fun _ _ => rfl)) pe_int) rfl)
    (pss_cons (ps_set (i := 3) scD.nd rfl (Or.inl rfl) (pe_ifExp (pt_truth (pv 0) (fun _ => rfl)) (pe_op op_mod (pe_dget hu (pv 1) pe_str (fun _ _ => rfl)) (pe_callB call_len_seq (by rfl) mL PySem.boot_len (pa_cons (pv 0) pa_nil))) pe_int))
    (pss_cons (ps_set (i := 4) scD.nd rfl (Or.inl rfl) (pe_dget2 hu (pe_dget hu (pv 1) pe_str (fun _ _ => rfl)) (pv 3) (pe_ifExp (pt_truth (pv 0) (fun _ => rfl)) (pe_ix ix_list (pv 0) (pv 3) (fun _ _ => rfl)) pe_int) (m2_ok rfl rfl rfl rfl)))
    (pss_cons (ps_if (pt_cmpR op_ge (pv 4) (pe_op op_pow pe_int pe_int) (nomark _)) (pss_cons (ps_dput hu (pe_dget hu (pv 1) pe_str (fun _ _ => rfl)) (pv 3) (pe_op op_fdiv (pv 4) (pv 2)) rfl) (pss_one (ps_ret (pe_op op_mod (pv 4) (pv 2))))) pss_nil)
    (pss_cons (ps_set (i := 5) scD.nd rfl (Or.inl rfl) (pe_op op_mod (pe_op op_add (pv 4) (pe_op op_mul pe_int (pe_dget hu (pv 1) pe_str (fun _ _ => rfl)))) pe_int))
    (pss_cons (ps_set (i := 5) scD.nd rfl (Or.inl rfl) (pe_op op_mod (pe_op op_pow (pv 5) pe_int) pe_int))
    (pss_one (ps_ret (pe_op op_mod (pe_op op_fdiv (pe_op op_mod (pe_op op_add (pe_op op_mul (pe_op op_fdiv (pv 5) pe_int) pe_int) (pv 5)) pe_int) pe_int) (pv 2))))))))), ?_⟩
  obtain ⟨m, rfl, hm⟩ := Fdraw_dom (ds := ds) (τ := τ) fun z => by rw [z] at wf; exact wf
  rw [Fdraw_eq hm] at wf
  cases r with
  | cons r1 r =>
    cases r1 with
    | script hS =>
      cases r with
      | cons r2 r =>
        cases r2
        cases r with
        | cons r3 r =>
          cases r3
          cases r
          obtain ⟨t1, t2, ⟨t3, t5, t6⟩, t4⟩ := hh.town
          simp only at t1 t2 t3 t5 hS
          have hb : B tw = true := hh.twB
          have hb2 : B rs = true := hh.rsB
          have s1 : ∀ o, Sn (hid B (.z ob) H) (upd H tw o) := fun o b u e n => by
            obtain ⟨q1, _, q3⟩ := hid_some.mp e
            rw [upd_ne (fun z => by rw [z, hb] at q1; cases q1)]
            exact shw_nm q3 n
          -- town["count"] = town["count"] + 1
          refine ⟨_, rfl, tw, _, rfl, DGet.k (k := Sum.inr "count") t1, _, _, rfl, rfl, _, rfl, tw, _, rfl, DPut.k (k := Sum.inr "count") t1 (by rw [sizeLine_eq]; exact (by decide : 2 < 16777216)), ?_⟩
          have e1 : putK [((Sum.inr "count" : Key), V.int τ.count), ((Sum.inr "rests" : Key), V.ref rs)] (Sum.inr "count") (V.int (τ.count + 1)) = [((Sum.inr "count" : Key), V.int (τ.count + 1)), ((Sum.inr "rests" : Key), V.ref rs)] := by
            simp [putK]; decide
          have gS := (s1 (.dK [((Sum.inr "count" : Key), V.int (τ.count + 1)), ((Sum.inr "rests" : Key), V.ref rs)])).sqL hS
          rw [e1]
          have g1 : upd H tw (.dK [((Sum.inr "count" : Key), V.int (τ.count + 1)), ((Sum.inr "rests" : Key), V.ref rs)]) tw = some (.dK [((Sum.inr "count" : Key), V.int (τ.count + 1)), ((Sum.inr "rests" : Key), V.ref rs)]) := upd_same
          have g2 : upd H tw (.dK [((Sum.inr "count" : Key), V.int (τ.count + 1)), ((Sum.inr "rests" : Key), V.ref rs)]) rs = some (.dK (restsK τ.rests)) := by rw [upd_ne (Ne.symm t3)]; exact t2
          have g3 : ∀ b, b ≠ tw → upd H tw (.dK [((Sum.inr "count" : Key), V.int (τ.count + 1)), ((Sum.inr "rests" : Key), V.ref rs)]) b = H b := fun b hb => upd_ne hb
          generalize upd H tw (.dK [((Sum.inr "count" : Key), V.int (τ.count + 1)), ((Sum.inr "rests" : Key), V.ref rs)]) = H1 at gS g1 g2 g3 ⊢
          have hat := drawAt_lt t6
          have hlen : τ.scr.length = scr.length := by rw [t5]
          have pos5 : ∀ x : Int, 0 ≤ x % 4294967291 ∧ x % 4294967291 < 4294967291 := fun x => ⟨Int.emod_nonneg _ (by decide), Int.emod_lt_of_pos _ (by decide)⟩
          have pos6 : ∀ x : Int, 0 ≤ x % 4294967279 ∧ x % 4294967279 < 4294967279 := fun x => ⟨Int.emod_nonneg _ (by decide), Int.emod_lt_of_pos _ (by decide)⟩
          have hfew : (restsK τ.rests).length < sizeLine := by
            have := t6.few
            rw [sizeLine_eq, restsK, List.length_map]; omega
          cases he : scr.isEmpty with
          | true =>
            have ez : scr = [] := by simpa using he
            have ea : drawAt τ = 0 := by unfold drawAt; rw [t5, if_pos he]
            have er : scrAt τ 0 = 0 := by unfold scrAt; rw [t5, if_pos he]
            subst ez
            refine ⟨_, rfl, false, .inl ⟨_, gS, rfl⟩, itF rfl ?_⟩
            refine ⟨_, rfl, tw, _, rfl, DGet.k (k := Sum.inr "rests") g1, rs, rfl, .inl ⟨_, .inl g2⟩, _, rfl, _, rfl, false, .inl ⟨_, gS, rfl⟩, itF rfl ⟨_, DGet.k (k := Sum.inl 0) g2, ?_⟩⟩
            rw [val_restD]
            have e2 : ((τ.rests.find? fun p => decide (p.1 = 0)).map (·.2)).getD 0 = restAt τ (drawAt τ) := by rw [ea]; unfold restAt; rw [er]
            rw [e2]
            refine ⟨_, rfl, _, _, rfl, rfl, ⟨by decide, by decide, by decide⟩, _, _, rfl, rfl, _, rfl, ?_⟩
            by_cases hbig : (10 : Int) ^ (18 : Int).toNat ≤ restAt τ (drawAt τ)
            · refine itT (by simpa using hbig) ⟨_, rfl, _, rfl, _, _, rfl, rfl, ⟨hm.1, by have := hm.2; omega⟩, _, rfl, tw, _, rfl, DGet.k (k := Sum.inr "rests") g1, _, rfl, rs, _, rfl, DPut.k (k := Sum.inl _) g2 hfew, _, rfl, _, rfl, _, _, rfl, rfl, hm.1, ?_⟩
              rw [put_rests]
              have ev : drawV τ m = restAt τ (drawAt τ) % m := by unfold drawV; rw [if_pos hbig]
              have et : drawT τ m = { τ with count := τ.count + 1, rests := putR τ.rests (drawAt τ) (restAt τ (drawAt τ) / m) } := by unfold drawT; rw [if_pos hbig]
              obtain ⟨q1, q2, q3⟩ := draw_end (H' := upd H1 rs (.dK (restsK (putR τ.rests 0 (restAt τ (drawAt τ) / m))))) (τ' := drawT τ m) hh (by rw [et]; exact (upd_ne t3).trans g1) (by rw [et, ea]; exact upd_same) (fun b n1 n2 => (upd_ne n2).trans (g3 b n1)) drawT_scr (drawT_fit t6) drawT_ob
              rw [ev] at wf
              exact wf _ _ _ q1 q2 q3 (.int _)
            · refine itF (by simpa using hbig) ⟨_, rfl, _, rfl, tw, _, rfl, DGet.k (k := Sum.inr "count") g1, _, _, rfl, rfl, .inl ⟨by decide, by decide⟩, _, _, rfl, rfl, _, _, rfl, rfl, (by decide : (0 : Int) < 4294967291), ?_⟩
              have p5 := pos5 (restAt τ (drawAt τ) + 104729 * (τ.count + 1))
              refine ⟨_, rfl, _, _, rfl, rfl, ⟨by decide, by decide, by have : (2 : Nat) ^ 64 = 18446744073709551616 := by decide
                                                                        omega⟩, _, _, rfl, rfl, (by decide : (0 : Int) < 4294967279), ?_⟩
              refine ⟨_, rfl, _, _, rfl, rfl, ⟨by decide, by decide⟩, _, _, rfl, rfl, .inr ⟨by decide, by decide⟩, _, rfl, _, _, rfl, rfl, _, _, rfl, rfl, (by decide : (0 : Int) < 4294967231), _, _, rfl, rfl, ⟨by decide, by decide⟩, _, rfl, _, _, rfl, rfl, hm.1, ?_⟩
              have ev : drawV τ m = mixed (restAt τ (drawAt τ)) (τ.count + 1) m := by unfold drawV; rw [if_neg hbig]
              have et : drawT τ m = { τ with count := τ.count + 1 } := by unfold drawT; rw [if_neg hbig]
              obtain ⟨q1, q2, q3⟩ := draw_end (H' := H1) (τ' := drawT τ m) hh (by rw [et]; exact g1) (by rw [et]; exact g2) (fun b n1 n2 => g3 b n1) drawT_scr (drawT_fit t6) drawT_ob
              rw [ev] at wf
              exact wf _ _ _ q1 q2 q3 (.int _)
          | false =>
            have hpos : 0 < scr.length := by
              cases scr with
              | nil => cases he
              | cons _ _ => simp
            have ea : drawAt τ = (τ.count + 1) % ((scr.map V.int).length : Int) := by unfold drawAt; rw [t5, he, if_neg Bool.false_ne_true, List.length_map]
            have a0 : 0 ≤ drawAt τ := hat.1
            have a1 : (drawAt τ).toNat < scr.length := by
              have := Int.emod_lt_of_pos (τ.count + 1) (b := ((scr.map V.int).length : Int)) (by rw [List.length_map]; omega)
              rw [← ea, List.length_map] at this
              omega
            have er : scrAt τ (drawAt τ) = scr[(drawAt τ).toNat]'a1 := by
              unfold scrAt
              rw [t5, he, if_neg Bool.false_ne_true, List.getD_eq_getElem?_getD, List.getElem?_eq_getElem a1]
              rfl
            have ei : atI (scr.map V.int) (drawAt τ) = some (V.int (scrAt τ (drawAt τ))) := by
              have : ((drawAt τ).toNat : Int) = drawAt τ := by omega
              rw [er]
              have h := atI_nat (xs := scr.map V.int) (j := (drawAt τ).toNat) (v := V.int (scr[(drawAt τ).toNat]'a1)) (by rw [List.getElem?_map, List.getElem?_eq_getElem a1]; rfl)
              rw [this] at h
              exact h
            have ke : (!(scr.map V.int).isEmpty) = true := by
              cases scr with
              | nil => cases he
              | cons _ _ => rfl
            refine ⟨_, rfl, true, .inl ⟨_, gS, ke.symm⟩, itT rfl ⟨_, rfl, tw, _, rfl, DGet.k (k := Sum.inr "count") g1, _, rfl, sc, _, rfl, .inl gS, _, _, rfl, rfl, (by rw [List.length_map]; omega), ?_⟩⟩
            dsimp only
            rw [← ea]
            refine ⟨_, rfl, tw, _, rfl, DGet.k (k := Sum.inr "rests") g1, rs, rfl, .inl ⟨_, .inl g2⟩, _, rfl, _, rfl, true, .inl ⟨_, gS, ke.symm⟩, itT rfl ⟨_, rfl, _, rfl, sc, _, _, _, rfl, rfl, gS, ei, _, DGet.k (k := Sum.inl (drawAt τ)) g2, ?_⟩⟩
            rw [val_restD]
            have e2 : ((τ.rests.find? fun p => decide (p.1 = drawAt τ)).map (·.2)).getD (scrAt τ (drawAt τ)) = restAt τ (drawAt τ) := rfl
            rw [e2]
            clear ea
            have ea : drawAt τ = drawAt τ := rfl
            refine ⟨_, rfl, _, _, rfl, rfl, ⟨by decide, by decide, by decide⟩, _, _, rfl, rfl, _, rfl, ?_⟩
            by_cases hbig : (10 : Int) ^ (18 : Int).toNat ≤ restAt τ (drawAt τ)
            · refine itT (by simpa using hbig) ⟨_, rfl, _, rfl, _, _, rfl, rfl, ⟨hm.1, by have := hm.2; omega⟩, _, rfl, tw, _, rfl, DGet.k (k := Sum.inr "rests") g1, _, rfl, rs, _, rfl, DPut.k (k := Sum.inl _) g2 hfew, _, rfl, _, rfl, _, _, rfl, rfl, hm.1, ?_⟩
              rw [put_rests]
              have ev : drawV τ m = restAt τ (drawAt τ) % m := by unfold drawV; rw [if_pos hbig]
              have et : drawT τ m = { τ with count := τ.count + 1, rests := putR τ.rests (drawAt τ) (restAt τ (drawAt τ) / m) } := by unfold drawT; rw [if_pos hbig]
              obtain ⟨q1, q2, q3⟩ := draw_end (H' := upd H1 rs (.dK (restsK (putR τ.rests (drawAt τ) (restAt τ (drawAt τ) / m))))) (τ' := drawT τ m) hh (by rw [et]; exact (upd_ne t3).trans g1) (by rw [et, ea]; exact upd_same) (fun b n1 n2 => (upd_ne n2).trans (g3 b n1)) drawT_scr (drawT_fit t6) drawT_ob
              rw [ev] at wf
              exact wf _ _ _ q1 q2 q3 (.int _)
            · refine itF (by simpa using hbig) ⟨_, rfl, _, rfl, tw, _, rfl, DGet.k (k := Sum.inr "count") g1, _, _, rfl, rfl, .inl ⟨by decide, by decide⟩, _, _, rfl, rfl, _, _, rfl, rfl, (by decide : (0 : Int) < 4294967291), ?_⟩
              have p5 := pos5 (restAt τ (drawAt τ) + 104729 * (τ.count + 1))
              refine ⟨_, rfl, _, _, rfl, rfl, ⟨by decide, by decide, by have : (2 : Nat) ^ 64 = 18446744073709551616 := by decide
                                                                        omega⟩, _, _, rfl, rfl, (by decide : (0 : Int) < 4294967279), ?_⟩
              refine ⟨_, rfl, _, _, rfl, rfl, ⟨by decide, by decide⟩, _, _, rfl, rfl, .inr ⟨by decide, by decide⟩, _, rfl, _, _, rfl, rfl, _, _, rfl, rfl, (by decide : (0 : Int) < 4294967231), _, _, rfl, rfl, ⟨by decide, by decide⟩, _, rfl, _, _, rfl, rfl, hm.1, ?_⟩
              have ev : drawV τ m = mixed (restAt τ (drawAt τ)) (τ.count + 1) m := by unfold drawV; rw [if_neg hbig]
              have et : drawT τ m = { τ with count := τ.count + 1 } := by unfold drawT; rw [if_neg hbig]
              obtain ⟨q1, q2, q3⟩ := draw_end (H' := H1) (τ' := drawT τ m) hh (by rw [et]; exact g1) (by rw [et]; exact g2) (fun b n1 n2 => g3 b n1) drawT_scr (drawT_fit t6) drawT_ob
              rw [ev] at wf
              exact wf _ _ _ q1 q2 q3 (.int _)
end
end Mn

set_option Elab.async false
set_option linter.all false
set_option maxRecDepth 100000
set_option maxHeartbeats 4000000
namespace Mn
open PySem L2 PySem.W
def defsL : List (Str × Nat) := [("is_between", 26), ("is_entry", 27), ("is_operation", 28), ("is_type", 29), ("check_type", 30), ("found_states", 31), ("reachable", 32), ("is_number", 33), ("are_operations", 34), ("performed", 35), ("perform", 36), ("check_number", 38), ("cell", 39), ("counter", 40), ("contents", 41), ("buffer", 42), ("_law_result", 44), ("_law_is", 45), ("_law_draw", 46), ("_law_begun", 47), ("_law_cell", 48), ("_law_counter", 49), ("_law_buffer", 50), ("_law_place", 51), ("law", 52)]
def gcsL : List (Str × D) := [("STATES", .int 8), ("OPERATIONS", .int 6), ("LONGEST", .int 30), ("cell", .tok 2), ("counter", .tok 3), ("buffer", .tok 4)]
def exsL : List Str := ["InvalidType", "InvalidOperations", "InvalidState", "InvalidKind", "InvalidEvent", "InvalidBlock", "InvalidWord", "InvalidPlaces", "InvalidTable", "InvalidGroups", "InvalidNumber", "InvalidMethod", "InvalidRun", "InvalidTransaction", "InvalidText", "NotComparable", "NotReducible", "TooLarge", "TooMany", "NothingToUndo"]
def rsL : List Nat := [0, 1, 2, 3, 4, 5, 6, 7, 8, 9, 10, 11, 12, 13, 14, 15, 16, 17, 18, 19]
def lamL : List Str := ["law"]
abbrev IN0 : List Info := []
abbrev FS0 : List Fn := []
abbrev IN1 : List Info := [("_law_draw", ["script", "town", "many"], [], 1)]
abbrev FS1 : List Fn := [Fdraw]
abbrev N_is_between : List Str := ["value", "low", "high"]
def b_is_between : Sm := (.seq (.ret (.and_ (.isi .int_ (.var 0)) (.and_ (.not_ (.isi .bool_ (.var 0))) (.chn .le .le (.var 1) (.var 0) (.var 2))))) .nop)
theorem sc_is_between : FnScope N_is_between ["value", "low", "high"] (defScope (top 26)) := ⟨rfl, rfl, rfl, by decide +kernel, rfl, by decide +kernel, by decide +kernel⟩
theorem ck_is_between : (chkS ⟨IN1, gcsL, exsL, rsL, false⟩ N_is_between 3 b_is_between).ss (defScope (top 26)) (defBody (top 26)) = true := by decide +kernel
def F_is_between : Fn := runB (phi FS1) (gcT gcsL) N_is_between.length b_is_between
abbrev IN2 : List Info := [("_law_draw", ["script", "town", "many"], [], 1), ("is_between", ["value", "low", "high"], [], 4)]
abbrev FS2 : List Fn := [Fdraw, F_is_between]
abbrev N_is_entry : List Str := ["value", "states"]
def b_is_entry : Sm := (.seq (.ife (.or_ (.not_ (.isi .tuple_ (.var 0))) (.cmp .ne (.prm .len (.var 0)) (.cst (.int 2)))) (.seq (.ret (.cst (.bl false))) .nop) .nop) (.seq (.ret (.and_ (.cal 1 (.acons (.idx (.var 0) (.cst (.int 0))) (.acons (.cst (.int 0)) (.acons (.bin .sub (.var 1) (.cst (.int 1))) .anil)))) (.cal 1 (.acons (.idx (.var 0) (.cst (.int 1))) (.acons (.cst (.int 0)) (.acons (.cst (.int 3)) .anil)))))) .nop))
theorem sc_is_entry : FnScope N_is_entry ["value", "states"] (defScope (top 27)) := ⟨rfl, rfl, rfl, by decide +kernel, rfl, by decide +kernel, by decide +kernel⟩
theorem ck_is_entry : (chkS ⟨IN2, gcsL, exsL, rsL, false⟩ N_is_entry 6 b_is_entry).ss (defScope (top 27)) (defBody (top 27)) = true := by decide +kernel
def F_is_entry : Fn := runB (phi FS2) (gcT gcsL) N_is_entry.length b_is_entry
abbrev IN3 : List Info := [("_law_draw", ["script", "town", "many"], [], 1), ("is_between", ["value", "low", "high"], [], 4), ("is_entry", ["value", "states"], [], 7)]
abbrev FS3 : List Fn := [Fdraw, F_is_between, F_is_entry]
abbrev N_is_operation : List Str := ["value", "states", "one"]
def b_is_operation : Sm := (.seq (.ret (.and_ (.isi .tuple_ (.var 0)) (.and_ (.cmp .eq (.prm .len (.var 0)) (.var 1)) (.prm .all (.lc [2] (.cal 2 (.acons (.var 2) (.acons (.var 1) .anil))) (.nm 2) (.var 0) (.cst (.bl true))))))) .nop)
theorem sc_is_operation : FnScope N_is_operation ["value", "states"] (defScope (top 28)) := ⟨rfl, rfl, rfl, by decide +kernel, rfl, by decide +kernel, by decide +kernel⟩
theorem ck_is_operation : (chkS ⟨IN3, gcsL, exsL, rsL, false⟩ N_is_operation 9 b_is_operation).ss (defScope (top 28)) (defBody (top 28)) = true := by decide +kernel
def F_is_operation : Fn := runB (phi FS3) (gcT gcsL) N_is_operation.length b_is_operation
abbrev IN4 : List Info := [("_law_draw", ["script", "town", "many"], [], 1), ("is_between", ["value", "low", "high"], [], 4), ("is_entry", ["value", "states"], [], 7), ("is_operation", ["value", "states"], [], 10)]
abbrev FS4 : List Fn := [Fdraw, F_is_between, F_is_entry, F_is_operation]
abbrev N_is_type : List Str := ["value", "states", "operations", "one"]
def b_is_type : Sm := (.seq (.ife (.or_ (.not_ (.isi .tuple_ (.var 0))) (.or_ (.cmp .ne (.prm .len (.var 0)) (.cst (.int 2))) (.not_ (.cal 1 (.acons (.idx (.var 0) (.cst (.int 0))) (.acons (.cst (.int 1)) (.acons (.gcs 0) .anil))))))) (.seq (.ret (.cst (.bl false))) .nop) .nop) (.seq (.unp (.tp (.pc (.nm 1) (.pc (.nm 2) .pn))) (.var 0)) (.seq (.ife (.or_ (.not_ (.isi .tuple_ (.var 2))) (.not_ (.chn .le .le (.cst (.int 1)) (.prm .len (.var 2)) (.gcs 1)))) (.seq (.ret (.cst (.bl false))) .nop) .nop) (.seq (.ret (.prm .all (.lc [3] (.cal 3 (.acons (.var 3) (.acons (.var 1) .anil))) (.nm 3) (.var 2) (.cst (.bl true))))) .nop))))
theorem sc_is_type : FnScope N_is_type ["value"] (defScope (top 29)) := ⟨rfl, rfl, rfl, by decide +kernel, rfl, by decide +kernel, by decide +kernel⟩
theorem ck_is_type : (chkS ⟨IN4, gcsL, exsL, rsL, false⟩ N_is_type 12 b_is_type).ss (defScope (top 29)) (defBody (top 29)) = true := by decide +kernel
def F_is_type : Fn := runB (phi FS4) (gcT gcsL) N_is_type.length b_is_type
abbrev IN5 : List Info := [("_law_draw", ["script", "town", "many"], [], 1), ("is_between", ["value", "low", "high"], [], 4), ("is_entry", ["value", "states"], [], 7), ("is_operation", ["value", "states"], [], 10), ("is_type", ["value"], [], 13)]
abbrev FS5 : List Fn := [Fdraw, F_is_between, F_is_entry, F_is_operation, F_is_type]
abbrev N_check_type : List Str := ["data"]
def b_check_type : Sm := (.seq (.ife (.not_ (.cal 4 (.acons (.var 0) .anil))) (.seq (.rse 0) .nop) .nop) .nop)
theorem sc_check_type : FnScope N_check_type ["data"] (defScope (top 30)) := ⟨rfl, rfl, rfl, by decide +kernel, rfl, by decide +kernel, by decide +kernel⟩
theorem ck_check_type : (chkS ⟨IN5, gcsL, exsL, rsL, false⟩ N_check_type 15 b_check_type).ss (defScope (top 30)) (defBody (top 30)) = true := by decide +kernel
def F_check_type : Fn := runB (phi FS5) (gcT gcsL) N_check_type.length b_check_type
abbrev IN6 : List Info := [("_law_draw", ["script", "town", "many"], [], 1), ("is_between", ["value", "low", "high"], [], 4), ("is_entry", ["value", "states"], [], 7), ("is_operation", ["value", "states"], [], 10), ("is_type", ["value"], [], 13), ("check_type", ["data"], [], 16)]
abbrev FS6 : List Fn := [Fdraw, F_is_between, F_is_entry, F_is_operation, F_is_type, F_check_type]
abbrev N_found_states : List Str := ["data", "found", "at", "operation", "there"]
def b_found_states : Sm := (.seq (.par [(1, true), (2, false)] (.acons (.lst (.acons (.cst (.int 0)) .anil)) (.acons (.cst (.int 0)) .anil))) (.seq (.whl 100000 (.cmp .lt (.var 2) (.prm .len (.var 1))) (.seq (.for_ (.nm 3) (.idx (.var 0) (.cst (.int 1))) (.seq (.set 4 (.idx (.idx (.var 3) (.idx (.var 1) (.var 2))) (.cst (.int 0)))) (.seq (.ife (.cmp .nin (.var 4) (.var 1)) (.seq (.app 1 (.var 4)) .nop) .nop) .nop))) (.seq (.aug 2 (.cst (.int 1))) .nop))) (.seq (.ret (.var 1)) .nop)))
theorem sc_found_states : FnScope N_found_states ["data"] (defScope (top 31)) := ⟨rfl, rfl, rfl, by decide +kernel, rfl, by decide +kernel, by decide +kernel⟩
theorem ck_found_states : (chkS ⟨IN6, gcsL, exsL, rsL, false⟩ N_found_states 18 b_found_states).ss (defScope (top 31)) (defBody (top 31)) = true := by decide +kernel
def F_found_states : Fn := runB (phi FS6) (gcT gcsL) N_found_states.length b_found_states
abbrev IN7 : List Info := [("_law_draw", ["script", "town", "many"], [], 1), ("is_between", ["value", "low", "high"], [], 4), ("is_entry", ["value", "states"], [], 7), ("is_operation", ["value", "states"], [], 10), ("is_type", ["value"], [], 13), ("check_type", ["data"], [], 16), ("found_states", ["data"], [], 19)]
abbrev FS7 : List Fn := [Fdraw, F_is_between, F_is_entry, F_is_operation, F_is_type, F_check_type, F_found_states]
abbrev N_reachable : List Str := ["data"]
def b_reachable : Sm := (.seq (.exp (.cal 5 (.acons (.var 0) .anil))) (.seq (.ret (.prm .tuple (.prm .sorted (.cal 6 (.acons (.var 0) .anil))))) .nop))
theorem sc_reachable : FnScope N_reachable ["data"] (defScope (top 32)) := ⟨rfl, rfl, rfl, by decide +kernel, rfl, by decide +kernel, by decide +kernel⟩
theorem ck_reachable : (chkS ⟨IN7, gcsL, exsL, rsL, false⟩ N_reachable 21 b_reachable).ss (defScope (top 32)) (defBody (top 32)) = true := by decide +kernel
def F_reachable : Fn := runB (phi FS7) (gcT gcsL) N_reachable.length b_reachable
abbrev IN8 : List Info := [("_law_draw", ["script", "town", "many"], [], 1), ("is_between", ["value", "low", "high"], [], 4), ("is_entry", ["value", "states"], [], 7), ("is_operation", ["value", "states"], [], 10), ("is_type", ["value"], [], 13), ("check_type", ["data"], [], 16), ("found_states", ["data"], [], 19), ("reachable", ["data"], [], 22)]
abbrev FS8 : List Fn := [Fdraw, F_is_between, F_is_entry, F_is_operation, F_is_type, F_check_type, F_found_states, F_reachable]
abbrev N_is_number : List Str := ["data", "value"]
def b_is_number : Sm := (.seq (.ret (.cal 1 (.acons (.var 1) (.acons (.cst (.int 0)) (.acons (.bin .sub (.prm .len (.idx (.var 0) (.cst (.int 1)))) (.cst (.int 1))) .anil))))) .nop)
theorem sc_is_number : FnScope N_is_number ["data", "value"] (defScope (top 33)) := ⟨rfl, rfl, rfl, by decide +kernel, rfl, by decide +kernel, by decide +kernel⟩
theorem ck_is_number : (chkS ⟨IN8, gcsL, exsL, rsL, false⟩ N_is_number 24 b_is_number).ss (defScope (top 33)) (defBody (top 33)) = true := by decide +kernel
def F_is_number : Fn := runB (phi FS8) (gcT gcsL) N_is_number.length b_is_number
abbrev IN9 : List Info := [("_law_draw", ["script", "town", "many"], [], 1), ("is_between", ["value", "low", "high"], [], 4), ("is_entry", ["value", "states"], [], 7), ("is_operation", ["value", "states"], [], 10), ("is_type", ["value"], [], 13), ("check_type", ["data"], [], 16), ("found_states", ["data"], [], 19), ("reachable", ["data"], [], 22), ("is_number", ["data", "value"], [], 25)]
abbrev FS9 : List Fn := [Fdraw, F_is_between, F_is_entry, F_is_operation, F_is_type, F_check_type, F_found_states, F_reachable, F_is_number]
abbrev N_are_operations : List Str := ["data", "value", "one"]
def b_are_operations : Sm := (.seq (.ret (.and_ (.isi .tuple_ (.var 1)) (.and_ (.cmp .le (.prm .len (.var 1)) (.gcs 2)) (.prm .all (.lc [2] (.cal 8 (.acons (.var 0) (.acons (.var 2) .anil))) (.nm 2) (.var 1) (.cst (.bl true))))))) .nop)
theorem sc_are_operations : FnScope N_are_operations ["data", "value"] (defScope (top 34)) := ⟨rfl, rfl, rfl, by decide +kernel, rfl, by decide +kernel, by decide +kernel⟩
theorem ck_are_operations : (chkS ⟨IN9, gcsL, exsL, rsL, false⟩ N_are_operations 27 b_are_operations).ss (defScope (top 34)) (defBody (top 34)) = true := by decide +kernel
def F_are_operations : Fn := runB (phi FS9) (gcT gcsL) N_are_operations.length b_are_operations
abbrev IN10 : List Info := [("_law_draw", ["script", "town", "many"], [], 1), ("is_between", ["value", "low", "high"], [], 4), ("is_entry", ["value", "states"], [], 7), ("is_operation", ["value", "states"], [], 10), ("is_type", ["value"], [], 13), ("check_type", ["data"], [], 16), ("found_states", ["data"], [], 19), ("reachable", ["data"], [], 22), ("is_number", ["data", "value"], [], 25), ("are_operations", ["data", "value"], [], 28)]
abbrev FS10 : List Fn := [Fdraw, F_is_between, F_is_entry, F_is_operation, F_is_type, F_check_type, F_found_states, F_reachable, F_is_number, F_are_operations]
abbrev N_performed : List Str := ["data", "state", "operations", "found", "number", "response"]
def b_performed : Sm := (.seq (.own 3 (.lst .anil)) (.seq (.for_ (.nm 4) (.var 2) (.seq (.unp (.tp (.pc (.nm 1) (.pc (.nm 5) .pn))) (.idx (.idx (.idx (.var 0) (.cst (.int 1))) (.var 4)) (.var 1))) (.seq (.app 3 (.var 5)) .nop))) (.seq (.ret (.tup (.acons (.prm .tuple (.var 3)) (.acons (.var 1) .anil)))) .nop)))
theorem sc_performed : FnScope N_performed ["data", "state", "operations"] (defScope (top 35)) := ⟨rfl, rfl, rfl, by decide +kernel, rfl, by decide +kernel, by decide +kernel⟩
theorem ck_performed : (chkS ⟨IN10, gcsL, exsL, rsL, false⟩ N_performed 30 b_performed).ss (defScope (top 35)) (defBody (top 35)) = true := by decide +kernel
def F_performed : Fn := runB (phi FS10) (gcT gcsL) N_performed.length b_performed
abbrev IN11 : List Info := [("_law_draw", ["script", "town", "many"], [], 1), ("is_between", ["value", "low", "high"], [], 4), ("is_entry", ["value", "states"], [], 7), ("is_operation", ["value", "states"], [], 10), ("is_type", ["value"], [], 13), ("check_type", ["data"], [], 16), ("found_states", ["data"], [], 19), ("reachable", ["data"], [], 22), ("is_number", ["data", "value"], [], 25), ("are_operations", ["data", "value"], [], 28), ("performed", ["data", "state", "operations"], [], 31)]
abbrev FS11 : List Fn := [Fdraw, F_is_between, F_is_entry, F_is_operation, F_is_type, F_check_type, F_found_states, F_reachable, F_is_number, F_are_operations, F_performed]
abbrev N_perform : List Str := ["data", "operations"]
def b_perform : Sm := (.seq (.exp (.cal 5 (.acons (.var 0) .anil))) (.seq (.ife (.not_ (.cal 9 (.acons (.var 0) (.acons (.var 1) .anil)))) (.seq (.rse 1) .nop) .nop) (.seq (.ret (.cal 10 (.acons (.var 0) (.acons (.cst (.int 0)) (.acons (.var 1) .anil))))) .nop)))
theorem sc_perform : FnScope N_perform ["data", "operations"] (defScope (top 36)) := ⟨rfl, rfl, rfl, by decide +kernel, rfl, by decide +kernel, by decide +kernel⟩
theorem ck_perform : (chkS ⟨IN11, gcsL, exsL, rsL, false⟩ N_perform 33 b_perform).ss (defScope (top 36)) (defBody (top 36)) = true := by decide +kernel
def F_perform : Fn := runB (phi FS11) (gcT gcsL) N_perform.length b_perform
abbrev IN12 : List Info := [("_law_draw", ["script", "town", "many"], [], 1), ("is_between", ["value", "low", "high"], [], 4), ("is_entry", ["value", "states"], [], 7), ("is_operation", ["value", "states"], [], 10), ("is_type", ["value"], [], 13), ("check_type", ["data"], [], 16), ("found_states", ["data"], [], 19), ("reachable", ["data"], [], 22), ("is_number", ["data", "value"], [], 25), ("are_operations", ["data", "value"], [], 28), ("performed", ["data", "state", "operations"], [], 31), ("perform", ["data", "operations"], [], 34)]
abbrev FS12 : List Fn := [Fdraw, F_is_between, F_is_entry, F_is_operation, F_is_type, F_check_type, F_found_states, F_reachable, F_is_number, F_are_operations, F_performed, F_perform]
abbrev N_check_number : List Str := ["value", "low", "high"]
def b_check_number : Sm := (.seq (.ife (.not_ (.cal 1 (.acons (.var 0) (.acons (.var 1) (.acons (.var 2) .anil))))) (.seq (.rse 10) .nop) .nop) .nop)
theorem sc_check_number : FnScope N_check_number ["value", "low", "high"] (defScope (top 38)) := ⟨rfl, rfl, rfl, by decide +kernel, rfl, by decide +kernel, by decide +kernel⟩
theorem ck_check_number : (chkS ⟨IN12, gcsL, exsL, rsL, false⟩ N_check_number 36 b_check_number).ss (defScope (top 38)) (defBody (top 38)) = true := by decide +kernel
def F_check_number : Fn := runB (phi FS12) (gcT gcsL) N_check_number.length b_check_number
abbrev IN13 : List Info := [("_law_draw", ["script", "town", "many"], [], 1), ("is_between", ["value", "low", "high"], [], 4), ("is_entry", ["value", "states"], [], 7), ("is_operation", ["value", "states"], [], 10), ("is_type", ["value"], [], 13), ("check_type", ["data"], [], 16), ("found_states", ["data"], [], 19), ("reachable", ["data"], [], 22), ("is_number", ["data", "value"], [], 25), ("are_operations", ["data", "value"], [], 28), ("performed", ["data", "state", "operations"], [], 31), ("perform", ["data", "operations"], [], 34), ("check_number", ["value", "low", "high"], [], 37)]
abbrev FS13 : List Fn := [Fdraw, F_is_between, F_is_entry, F_is_operation, F_is_type, F_check_type, F_found_states, F_reachable, F_is_number, F_are_operations, F_performed, F_perform, F_check_number]
abbrev N_cell : List Str := ["values", "found", "value", "state"]
def b_cell : Sm := (.seq (.exp (.cal 12 (.acons (.var 0) (.acons (.cst (.int 2)) (.acons (.cst (.int 4)) .anil))))) (.seq (.own 1 (.lst (.acons (.prm .tuple (.lc [3] (.tup (.acons (.var 3) (.acons (.var 3) .anil))) (.nm 3) (.rng (.var 0)) (.cst (.bl true)))) .anil))) (.seq (.for_ (.nm 2) (.rng (.var 0)) (.seq (.app 1 (.bin .mul (.tup (.acons (.tup (.acons (.var 2) (.acons (.cst (.int 0)) .anil))) .anil)) (.var 0))) .nop)) (.seq (.ret (.tup (.acons (.var 0) (.acons (.prm .tuple (.var 1)) .anil)))) .nop))))
theorem sc_cell : FnScope N_cell ["values"] (defScope (top 39)) := ⟨rfl, rfl, rfl, by decide +kernel, rfl, by decide +kernel, by decide +kernel⟩
theorem ck_cell : (chkS ⟨IN13, gcsL, exsL, rsL, false⟩ N_cell 39 b_cell).ss (defScope (top 39)) (defBody (top 39)) = true := by decide +kernel
def F_cell : Fn := runB (phi FS13) (gcT gcsL) N_cell.length b_cell
abbrev IN14 : List Info := [("_law_draw", ["script", "town", "many"], [], 1), ("is_between", ["value", "low", "high"], [], 4), ("is_entry", ["value", "states"], [], 7), ("is_operation", ["value", "states"], [], 10), ("is_type", ["value"], [], 13), ("check_type", ["data"], [], 16), ("found_states", ["data"], [], 19), ("reachable", ["data"], [], 22), ("is_number", ["data", "value"], [], 25), ("are_operations", ["data", "value"], [], 28), ("performed", ["data", "state", "operations"], [], 31), ("perform", ["data", "operations"], [], 34), ("check_number", ["value", "low", "high"], [], 37), ("cell", ["values"], [0], 40)]
abbrev FS14 : List Fn := [Fdraw, F_is_between, F_is_entry, F_is_operation, F_is_type, F_check_type, F_found_states, F_reachable, F_is_number, F_are_operations, F_performed, F_perform, F_check_number, F_cell]
abbrev N_counter : List Str := ["limit", "states", "more", "less", "state"]
def b_counter : Sm := (.seq (.exp (.cal 12 (.acons (.var 0) (.acons (.cst (.int 1)) (.acons (.cst (.int 7)) .anil))))) (.seq (.set 1 (.prm .lrng (.bin .add (.var 0) (.cst (.int 1))))) (.seq (.set 2 (.prm .tuple (.lc [4] (.ite (.cmp .lt (.var 4) (.var 0)) (.tup (.acons (.bin .add (.var 4) (.cst (.int 1))) (.acons (.cst (.int 0)) .anil))) (.tup (.acons (.var 4) (.acons (.cst (.int 1)) .anil)))) (.nm 4) (.var 1) (.cst (.bl true))))) (.seq (.set 3 (.prm .tuple (.lc [4] (.ite (.cmp .gt (.var 4) (.cst (.int 0))) (.tup (.acons (.bin .sub (.var 4) (.cst (.int 1))) (.acons (.cst (.int 0)) .anil))) (.tup (.acons (.var 4) (.acons (.cst (.int 1)) .anil)))) (.nm 4) (.var 1) (.cst (.bl true))))) (.seq (.ret (.tup (.acons (.bin .add (.var 0) (.cst (.int 1))) (.acons (.tup (.acons (.var 2) (.acons (.var 3) (.acons (.prm .tuple (.lc [4] (.tup (.acons (.var 4) (.acons (.ite (.cmp .eq (.var 4) (.cst (.int 0))) (.cst (.int 1)) (.cst (.int 0))) .anil))) (.nm 4) (.var 1) (.cst (.bl true)))) .anil)))) .anil)))) .nop)))))
theorem sc_counter : FnScope N_counter ["limit"] (defScope (top 40)) := ⟨rfl, rfl, rfl, by decide +kernel, rfl, by decide +kernel, by decide +kernel⟩
theorem ck_counter : (chkS ⟨IN14, gcsL, exsL, rsL, false⟩ N_counter 42 b_counter).ss (defScope (top 40)) (defBody (top 40)) = true := by decide +kernel
def F_counter : Fn := runB (phi FS14) (gcT gcsL) N_counter.length b_counter
abbrev IN15 : List Info := [("_law_draw", ["script", "town", "many"], [], 1), ("is_between", ["value", "low", "high"], [], 4), ("is_entry", ["value", "states"], [], 7), ("is_operation", ["value", "states"], [], 10), ("is_type", ["value"], [], 13), ("check_type", ["data"], [], 16), ("found_states", ["data"], [], 19), ("reachable", ["data"], [], 22), ("is_number", ["data", "value"], [], 25), ("are_operations", ["data", "value"], [], 28), ("performed", ["data", "state", "operations"], [], 31), ("perform", ["data", "operations"], [], 34), ("check_number", ["value", "low", "high"], [], 37), ("cell", ["values"], [0], 40), ("counter", ["limit"], [0], 43)]
abbrev FS15 : List Fn := [Fdraw, F_is_between, F_is_entry, F_is_operation, F_is_type, F_check_type, F_found_states, F_reachable, F_is_number, F_are_operations, F_performed, F_perform, F_check_number, F_cell, F_counter]
abbrev N_contents : List Str := ["size", "turn", "found", "level", "longer", "row"]
def b_contents : Sm := (.seq (.par [(2, true), (3, true)] (.acons (.lst (.acons (.tup .anil) .anil)) (.acons (.lst (.acons (.tup .anil) .anil)) .anil))) (.seq (.for_ (.nm 1) (.rng (.var 0)) (.seq (.own 4 (.lst .anil)) (.seq (.for_ (.nm 5) (.var 3) (.seq (.ext 4 (.lst (.acons (.bin .add (.var 5) (.tup (.acons (.cst (.int 0)) .anil))) (.acons (.bin .add (.var 5) (.tup (.acons (.cst (.int 1)) .anil))) .anil)))) .nop)) (.seq (.set 3 (.var 4)) (.seq (.ext 2 (.var 3)) .nop))))) (.seq (.ret (.var 2)) .nop)))
theorem sc_contents : FnScope N_contents ["size"] (defScope (top 41)) := ⟨rfl, rfl, rfl, by decide +kernel, rfl, by decide +kernel, by decide +kernel⟩
theorem ck_contents : (chkS ⟨IN15, gcsL, exsL, rsL, false⟩ N_contents 45 b_contents).ss (defScope (top 41)) (defBody (top 41)) = true := by decide +kernel
def F_contents : Fn := runB (phi FS15) (gcT gcsL) N_contents.length b_contents
abbrev IN16 : List Info := [("_law_draw", ["script", "town", "many"], [], 1), ("is_between", ["value", "low", "high"], [], 4), ("is_entry", ["value", "states"], [], 7), ("is_operation", ["value", "states"], [], 10), ("is_type", ["value"], [], 13), ("check_type", ["data"], [], 16), ("found_states", ["data"], [], 19), ("reachable", ["data"], [], 22), ("is_number", ["data", "value"], [], 25), ("are_operations", ["data", "value"], [], 28), ("performed", ["data", "state", "operations"], [], 31), ("perform", ["data", "operations"], [], 34), ("check_number", ["value", "low", "high"], [], 37), ("cell", ["values"], [0], 40), ("counter", ["limit"], [0], 43), ("contents", ["size"], [], 46)]
abbrev FS16 : List Fn := [Fdraw, F_is_between, F_is_entry, F_is_operation, F_is_type, F_check_type, F_found_states, F_reachable, F_is_number, F_are_operations, F_performed, F_perform, F_check_number, F_cell, F_counter, F_contents]
abbrev N_buffer : List Str := ["size", "bit", "states", "found", "row", "one"]
def b_buffer : Sm := (.seq (.exp (.cal 12 (.acons (.var 0) (.acons (.cst (.int 1)) (.acons (.cst (.int 2)) .anil))))) (.seq (.par [(2, false), (3, true)] (.acons (.cal 15 (.acons (.var 0) .anil)) (.acons (.lst .anil) .anil))) (.seq (.for_ (.nm 1) (.tup (.acons (.cst (.int 0)) (.acons (.cst (.int 1)) .anil))) (.seq (.set 4 (.lc [5] (.ite (.cmp .lt (.prm .len (.var 5)) (.var 0)) (.tup (.acons (.index (.var 2) (.bin .add (.var 5) (.tup (.acons (.var 1) .anil)))) (.acons (.cst (.int 0)) .anil))) (.tup (.acons (.index (.var 2) (.var 5)) (.acons (.cst (.int 1)) .anil)))) (.nm 5) (.var 2) (.cst (.bl true)))) (.seq (.app 3 (.prm .tuple (.var 4))) .nop))) (.seq (.app 3 (.prm .tuple (.lc [5] (.ite (.cmp .ne (.var 5) (.tup .anil)) (.tup (.acons (.index (.var 2) (.slc (.var 5) (.cst (.int 1)) .anil)) (.acons (.idx (.var 5) (.cst (.int 0))) .anil))) (.tup (.acons (.cst (.int 0)) (.acons (.cst (.int 2)) .anil)))) (.nm 5) (.var 2) (.cst (.bl true))))) (.seq (.ret (.tup (.acons (.prm .len (.var 2)) (.acons (.prm .tuple (.var 3)) .anil)))) .nop)))))
theorem sc_buffer : FnScope N_buffer ["size"] (defScope (top 42)) := ⟨rfl, rfl, rfl, by decide +kernel, rfl, by decide +kernel, by decide +kernel⟩
theorem ck_buffer : (chkS ⟨IN16, gcsL, exsL, rsL, false⟩ N_buffer 48 b_buffer).ss (defScope (top 42)) (defBody (top 42)) = true := by decide +kernel
def F_buffer : Fn := runB (phi FS16) (gcT gcsL) N_buffer.length b_buffer
abbrev IN17 : List Info := [("_law_draw", ["script", "town", "many"], [], 1), ("is_between", ["value", "low", "high"], [], 4), ("is_entry", ["value", "states"], [], 7), ("is_operation", ["value", "states"], [], 10), ("is_type", ["value"], [], 13), ("check_type", ["data"], [], 16), ("found_states", ["data"], [], 19), ("reachable", ["data"], [], 22), ("is_number", ["data", "value"], [], 25), ("are_operations", ["data", "value"], [], 28), ("performed", ["data", "state", "operations"], [], 31), ("perform", ["data", "operations"], [], 34), ("check_number", ["value", "low", "high"], [], 37), ("cell", ["values"], [0], 40), ("counter", ["limit"], [0], 43), ("contents", ["size"], [], 46), ("buffer", ["size"], [0], 49)]
abbrev FS17 : List Fn := [Fdraw, F_is_between, F_is_entry, F_is_operation, F_is_type, F_check_type, F_found_states, F_reachable, F_is_number, F_are_operations, F_performed, F_perform, F_check_number, F_cell, F_counter, F_contents, F_buffer]
abbrev N__law_is : List Str := ["result", "expected"]
def b__law_is : Sm := (.seq (.ret (.and_ (.isi .bool_ (.var 0)) (.cmp .eq (.var 0) (.var 1)))) .nop)
theorem sc__law_is : FnScope N__law_is ["result", "expected"] (defScope (top 45)) := ⟨rfl, rfl, rfl, by decide +kernel, rfl, by decide +kernel, by decide +kernel⟩
theorem ck__law_is : (chkS ⟨IN17, gcsL, exsL, rsL, false⟩ N__law_is 51 b__law_is).ss (defScope (top 45)) (defBody (top 45)) = true := by decide +kernel
def F__law_is : Fn := runB (phi FS17) (gcT gcsL) N__law_is.length b__law_is
abbrev IN18 : List Info := [("_law_draw", ["script", "town", "many"], [], 1), ("is_between", ["value", "low", "high"], [], 4), ("is_entry", ["value", "states"], [], 7), ("is_operation", ["value", "states"], [], 10), ("is_type", ["value"], [], 13), ("check_type", ["data"], [], 16), ("found_states", ["data"], [], 19), ("reachable", ["data"], [], 22), ("is_number", ["data", "value"], [], 25), ("are_operations", ["data", "value"], [], 28), ("performed", ["data", "state", "operations"], [], 31), ("perform", ["data", "operations"], [], 34), ("check_number", ["value", "low", "high"], [], 37), ("cell", ["values"], [0], 40), ("counter", ["limit"], [0], 43), ("contents", ["size"], [], 46), ("buffer", ["size"], [0], 49), ("_law_is", ["result", "expected"], [], 52)]
abbrev FS18 : List Fn := [Fdraw, F_is_between, F_is_entry, F_is_operation, F_is_type, F_check_type, F_found_states, F_reachable, F_is_number, F_are_operations, F_performed, F_perform, F_check_number, F_cell, F_counter, F_contents, F_buffer, F__law_is]
abbrev N__law_cell : List Str := ["many", "word", "number", "state", "found"]
def b__law_cell : Sm := (.seq (.par [(3, false), (4, true)] (.acons (.cst (.int 0)) (.acons (.lst .anil) .anil))) (.seq (.for_ (.nm 2) (.var 1) (.seq (.app 4 (.ite (.cmp .eq (.var 2) (.cst (.int 0))) (.var 3) (.cst (.int 0)))) (.seq (.set 3 (.ite (.cmp .eq (.var 2) (.cst (.int 0))) (.var 3) (.bin .sub (.var 2) (.cst (.int 1))))) .nop))) (.seq (.ret (.tup (.acons (.prm .tuple (.var 4)) (.acons (.var 3) .anil)))) .nop)))
theorem sc__law_cell : FnScope N__law_cell ["many", "word"] (defScope (top 48)) := ⟨rfl, rfl, rfl, by decide +kernel, rfl, by decide +kernel, by decide +kernel⟩
theorem ck__law_cell : (chkS ⟨IN18, gcsL, exsL, rsL, false⟩ N__law_cell 54 b__law_cell).ss (defScope (top 48)) (defBody (top 48)) = true := by decide +kernel
def F__law_cell : Fn := runB (phi FS18) (gcT gcsL) N__law_cell.length b__law_cell
abbrev IN19 : List Info := [("_law_draw", ["script", "town", "many"], [], 1), ("is_between", ["value", "low", "high"], [], 4), ("is_entry", ["value", "states"], [], 7), ("is_operation", ["value", "states"], [], 10), ("is_type", ["value"], [], 13), ("check_type", ["data"], [], 16), ("found_states", ["data"], [], 19), ("reachable", ["data"], [], 22), ("is_number", ["data", "value"], [], 25), ("are_operations", ["data", "value"], [], 28), ("performed", ["data", "state", "operations"], [], 31), ("perform", ["data", "operations"], [], 34), ("check_number", ["value", "low", "high"], [], 37), ("cell", ["values"], [0], 40), ("counter", ["limit"], [0], 43), ("contents", ["size"], [], 46), ("buffer", ["size"], [0], 49), ("_law_is", ["result", "expected"], [], 52), ("_law_cell", ["many", "word"], [], 55)]
abbrev FS19 : List Fn := [Fdraw, F_is_between, F_is_entry, F_is_operation, F_is_type, F_check_type, F_found_states, F_reachable, F_is_number, F_are_operations, F_performed, F_perform, F_check_number, F_cell, F_counter, F_contents, F_buffer, F__law_is, F__law_cell]
abbrev N__law_counter : List Str := ["limit_here", "word", "number", "state", "found", "there", "good"]
def b__law_counter : Sm := (.seq (.par [(3, false), (4, true)] (.acons (.cst (.int 0)) (.acons (.lst .anil) .anil))) (.seq (.for_ (.nm 2) (.var 1) (.seq (.set 5 (.bin .add (.var 3) (.idx (.tup (.acons (.cst (.int 1)) (.acons (.prm .neg (.cst (.int 1))) (.acons (.cst (.int 0)) .anil)))) (.var 2)))) (.seq (.set 6 (.chn .le .le (.cst (.int 0)) (.var 5) (.var 0))) (.seq (.app 4 (.ite (.cmp .eq (.var 2) (.cst (.int 2))) (.ite (.cmp .eq (.var 3) (.cst (.int 0))) (.cst (.int 1)) (.cst (.int 0))) (.ite (.var 6) (.cst (.int 0)) (.cst (.int 1))))) (.seq (.set 3 (.ite (.var 6) (.var 5) (.var 3))) .nop))))) (.seq (.ret (.tup (.acons (.prm .tuple (.var 4)) (.acons (.var 3) .anil)))) .nop)))
theorem sc__law_counter : FnScope N__law_counter ["limit_here", "word"] (defScope (top 49)) := ⟨rfl, rfl, rfl, by decide +kernel, rfl, by decide +kernel, by decide +kernel⟩
theorem ck__law_counter : (chkS ⟨IN19, gcsL, exsL, rsL, false⟩ N__law_counter 57 b__law_counter).ss (defScope (top 49)) (defBody (top 49)) = true := by decide +kernel
def F__law_counter : Fn := runB (phi FS19) (gcT gcsL) N__law_counter.length b__law_counter
abbrev IN20 : List Info := [("_law_draw", ["script", "town", "many"], [], 1), ("is_between", ["value", "low", "high"], [], 4), ("is_entry", ["value", "states"], [], 7), ("is_operation", ["value", "states"], [], 10), ("is_type", ["value"], [], 13), ("check_type", ["data"], [], 16), ("found_states", ["data"], [], 19), ("reachable", ["data"], [], 22), ("is_number", ["data", "value"], [], 25), ("are_operations", ["data", "value"], [], 28), ("performed", ["data", "state", "operations"], [], 31), ("perform", ["data", "operations"], [], 34), ("check_number", ["value", "low", "high"], [], 37), ("cell", ["values"], [0], 40), ("counter", ["limit"], [0], 43), ("contents", ["size"], [], 46), ("buffer", ["size"], [0], 49), ("_law_is", ["result", "expected"], [], 52), ("_law_cell", ["many", "word"], [], 55), ("_law_counter", ["limit_here", "word"], [], 58)]
abbrev FS20 : List Fn := [Fdraw, F_is_between, F_is_entry, F_is_operation, F_is_type, F_check_type, F_found_states, F_reachable, F_is_number, F_are_operations, F_performed, F_perform, F_check_number, F_cell, F_counter, F_contents, F_buffer, F__law_is, F__law_cell, F__law_counter]
abbrev N__law_buffer : List Str := ["size_here", "word", "number", "bits", "found"]
def b__law_buffer : Sm := (.seq (.par [(3, true), (4, true)] (.acons (.lst .anil) (.acons (.lst .anil) .anil))) (.seq (.for_ (.nm 2) (.var 1) (.seq (.ife (.cmp .lt (.var 2) (.cst (.int 2))) (.seq (.app 4 (.ite (.cmp .lt (.prm .len (.var 3)) (.var 0)) (.cst (.int 0)) (.cst (.int 1)))) (.seq (.set 3 (.bin .add (.var 3) (.ite (.cmp .lt (.prm .len (.var 3)) (.var 0)) (.lst (.acons (.var 2) .anil)) (.lst .anil)))) .nop)) (.seq (.app 4 (.ite (.cmp .ne (.var 3) (.lst .anil)) (.idx (.var 3) (.cst (.int 0))) (.cst (.int 2)))) (.seq (.set 3 (.slc (.var 3) (.cst (.int 1)) .anil)) .nop))) .nop)) (.seq (.ret (.tup (.acons (.prm .tuple (.var 4)) (.acons (.var 3) .anil)))) .nop)))
theorem sc__law_buffer : FnScope N__law_buffer ["size_here", "word"] (defScope (top 50)) := ⟨rfl, rfl, rfl, by decide +kernel, rfl, by decide +kernel, by decide +kernel⟩
theorem ck__law_buffer : (chkS ⟨IN20, gcsL, exsL, rsL, false⟩ N__law_buffer 60 b__law_buffer).ss (defScope (top 50)) (defBody (top 50)) = true := by decide +kernel
def F__law_buffer : Fn := runB (phi FS20) (gcT gcsL) N__law_buffer.length b__law_buffer
abbrev IN21 : List Info := [("_law_draw", ["script", "town", "many"], [], 1), ("is_between", ["value", "low", "high"], [], 4), ("is_entry", ["value", "states"], [], 7), ("is_operation", ["value", "states"], [], 10), ("is_type", ["value"], [], 13), ("check_type", ["data"], [], 16), ("found_states", ["data"], [], 19), ("reachable", ["data"], [], 22), ("is_number", ["data", "value"], [], 25), ("are_operations", ["data", "value"], [], 28), ("performed", ["data", "state", "operations"], [], 31), ("perform", ["data", "operations"], [], 34), ("check_number", ["value", "low", "high"], [], 37), ("cell", ["values"], [0], 40), ("counter", ["limit"], [0], 43), ("contents", ["size"], [], 46), ("buffer", ["size"], [0], 49), ("_law_is", ["result", "expected"], [], 52), ("_law_cell", ["many", "word"], [], 55), ("_law_counter", ["limit_here", "word"], [], 58), ("_law_buffer", ["size_here", "word"], [], 61)]
abbrev FS21 : List Fn := [Fdraw, F_is_between, F_is_entry, F_is_operation, F_is_type, F_check_type, F_found_states, F_reachable, F_is_number, F_are_operations, F_performed, F_perform, F_check_number, F_cell, F_counter, F_contents, F_buffer, F__law_is, F__law_cell, F__law_counter, F__law_buffer]
abbrev N__law_place : List Str := ["bits", "bit", "found", "first"]
def b__law_place : Sm := (.seq (.unp (.tp (.pc (.nm 2) (.pc (.nm 3) .pn))) (.tup (.acons (.cst (.int 0)) (.acons (.cst (.int 0)) .anil)))) (.seq (.for_ (.nm 1) (.var 0) (.seq (.par [(2, false), (3, false)] (.acons (.bin .add (.bin .mul (.cst (.int 2)) (.var 2)) (.var 1)) (.acons (.bin .add (.bin .mul (.cst (.int 2)) (.var 3)) (.cst (.int 1))) .anil))) .nop)) (.seq (.ret (.bin .add (.var 3) (.var 2))) .nop)))
theorem sc__law_place : FnScope N__law_place ["bits"] (defScope (top 51)) := ⟨rfl, rfl, rfl, by decide +kernel, rfl, by decide +kernel, by decide +kernel⟩
theorem ck__law_place : (chkS ⟨IN21, gcsL, exsL, rsL, false⟩ N__law_place 63 b__law_place).ss (defScope (top 51)) (defBody (top 51)) = true := by decide +kernel
def F__law_place : Fn := runB (phi FS21) (gcT gcsL) N__law_place.length b__law_place
abbrev IN22 : List Info := [("_law_draw", ["script", "town", "many"], [], 1), ("is_between", ["value", "low", "high"], [], 4), ("is_entry", ["value", "states"], [], 7), ("is_operation", ["value", "states"], [], 10), ("is_type", ["value"], [], 13), ("check_type", ["data"], [], 16), ("found_states", ["data"], [], 19), ("reachable", ["data"], [], 22), ("is_number", ["data", "value"], [], 25), ("are_operations", ["data", "value"], [], 28), ("performed", ["data", "state", "operations"], [], 31), ("perform", ["data", "operations"], [], 34), ("check_number", ["value", "low", "high"], [], 37), ("cell", ["values"], [0], 40), ("counter", ["limit"], [0], 43), ("contents", ["size"], [], 46), ("buffer", ["size"], [0], 49), ("_law_is", ["result", "expected"], [], 52), ("_law_cell", ["many", "word"], [], 55), ("_law_counter", ["limit_here", "word"], [], 58), ("_law_buffer", ["size_here", "word"], [], 61), ("_law_place", ["bits"], [], 64)]
abbrev FS22 : List Fn := [Fdraw, F_is_between, F_is_entry, F_is_operation, F_is_type, F_check_type, F_found_states, F_reachable, F_is_number, F_are_operations, F_performed, F_perform, F_check_number, F_cell, F_counter, F_contents, F_buffer, F__law_is, F__law_cell, F__law_counter, F__law_buffer, F__law_place]
def N_law' : List Str := ["k", "values_here", "limit_here", "size_here", "three", "word", "j", "deed", "low", "high", "odd", "one", "two", "number", "given", "bits"]
abbrev N_law : List Str := lawN N_law'
def b_law : Sm := (.seq (.for_ (.nm 2) (.rng (.cst (.int 4))) (.seq (.set 3 (.bin .add (.cst (.int 2)) (.cal 0 (.acons (.var 0) (.acons (.var 1) (.acons (.cst (.int 3)) .anil)))))) (.seq (.set 4 (.bin .add (.cst (.int 1)) (.cal 0 (.acons (.var 0) (.acons (.var 1) (.acons (.cst (.int 7)) .anil)))))) (.seq (.set 5 (.bin .add (.cst (.int 1)) (.cal 0 (.acons (.var 0) (.acons (.var 1) (.acons (.cst (.int 2)) .anil)))))) (.seq (.par [(13, false), (14, false)] (.acons (.cal 13 (.acons (.var 3) .anil)) (.acons (.cal 14 (.acons (.var 4) .anil)) .anil))) (.seq (.set 6 (.cal 16 (.acons (.var 5) .anil))) (.seq (.ife (.not_ (.cal 17 (.acons (.cal 4 (.acons (.var 13) .anil)) (.acons (.cst (.bl true)) .anil)))) (.seq (.ret (.cst (.bl false))) .nop) .nop) (.seq (.ife (.not_ (.cal 17 (.acons (.cal 4 (.acons (.var 14) .anil)) (.acons (.cst (.bl true)) .anil)))) (.seq (.ret (.cst (.bl false))) .nop) .nop) (.seq (.ife (.not_ (.cal 17 (.acons (.cal 4 (.acons (.var 6) .anil)) (.acons (.cst (.bl true)) .anil)))) (.seq (.ret (.cst (.bl false))) .nop) .nop) (.seq (.ife (.or_ (.cmp .ne (.idx (.var 13) (.cst (.int 0))) (.var 3)) (.or_ (.cmp .ne (.idx (.var 14) (.cst (.int 0))) (.bin .add (.var 4) (.cst (.int 1)))) (.cmp .ne (.idx (.var 6) (.cst (.int 0))) (.idx (.tup (.acons (.cst (.int 3)) (.acons (.cst (.int 7)) .anil))) (.bin .sub (.var 5) (.cst (.int 1))))))) (.seq (.ret (.cst (.bl false))) .nop) .nop) (.seq (.ife (.cmp .ne (.lst (.acons (.prm .len (.idx (.var 13) (.cst (.int 1)))) (.acons (.prm .len (.idx (.var 14) (.cst (.int 1)))) (.acons (.prm .len (.idx (.var 6) (.cst (.int 1)))) .anil)))) (.lst (.acons (.bin .add (.var 3) (.cst (.int 1))) (.acons (.cst (.int 3)) (.acons (.cst (.int 3)) .anil))))) (.seq (.ret (.cst (.bl false))) .nop) .nop) (.seq (.ife (.or_ (.cmp .ne (.prm .len (.cal 7 (.acons (.var 13) .anil))) (.idx (.var 13) (.cst (.int 0)))) (.or_ (.cmp .ne (.prm .len (.cal 7 (.acons (.var 14) .anil))) (.idx (.var 14) (.cst (.int 0)))) (.cmp .ne (.prm .len (.cal 7 (.acons (.var 6) .anil))) (.idx (.var 6) (.cst (.int 0)))))) (.seq (.ret (.cst (.bl false))) .nop) .nop) (.seq (.set 7 (.prm .tuple (.lc [8] (.cal 0 (.acons (.var 0) (.acons (.var 1) (.acons (.bin .add (.var 3) (.cst (.int 1))) .anil)))) (.nm 8) (.rng (.cst (.int 12))) (.cst (.bl true))))) (.seq (.ife (.cmp .ne (.cal 11 (.acons (.var 13) (.acons (.var 7) .anil))) (.cal 18 (.acons (.var 3) (.acons (.var 7) .anil)))) (.seq (.ret (.cst (.bl false))) .nop) .nop) (.seq (.set 7 (.tup .anil)) (.seq (.for_ (.nm 8) (.rng (.cst (.int 14))) (.seq (.set 15 (.cal 0 (.acons (.var 0) (.acons (.var 1) (.acons (.cst (.int 3)) .anil))))) (.seq (.set 7 (.bin .add (.var 7) (.tup (.acons (.ite (.cmp .gt (.cal 0 (.acons (.var 0) (.acons (.var 1) (.acons (.cst (.int 3)) .anil)))) (.cst (.int 0))) (.var 15) (.cst (.int 0))) .anil)))) .nop))) (.seq (.ife (.cmp .ne (.cal 11 (.acons (.var 14) (.acons (.var 7) .anil))) (.cal 19 (.acons (.var 4) (.acons (.var 7) .anil)))) (.seq (.ret (.cst (.bl false))) .nop) .nop) (.seq (.unp (.tp (.pc (.nm 16) (.pc (.nm 17) .pn))) (.cal 20 (.acons (.var 5) (.acons (.var 7) .anil)))) (.seq (.ife (.cmp .ne (.cal 11 (.acons (.var 6) (.acons (.var 7) .anil))) (.tup (.acons (.var 16) (.acons (.cal 21 (.acons (.var 17) .anil)) .anil)))) (.seq (.ret (.cst (.bl false))) .nop) .nop) .nop))))))))))))))))))) (.seq (.for_ (.tp (.pc (.nm 9) (.pc (.nm 10) (.pc (.nm 11) .pn)))) (.tup (.acons (.tup (.acons (.gcs 3) (.acons (.cst (.int 2)) (.acons (.cst (.int 4)) .anil)))) (.acons (.tup (.acons (.gcs 4) (.acons (.cst (.int 1)) (.acons (.cst (.int 7)) .anil)))) (.acons (.tup (.acons (.gcs 5) (.acons (.cst (.int 1)) (.acons (.cst (.int 2)) .anil)))) .anil)))) (.seq (.for_ (.nm 12) (.tup (.acons (.cst .non) (.acons (.cst (.bl true)) (.acons (.bin .sub (.var 10) (.cst (.int 1))) (.acons (.bin .add (.var 11) (.cst (.int 1))) (.acons (.prm .str (.var 10)) (.acons (.tup (.acons (.var 10) .anil)) .anil))))))) (.seq (.ife (.cmp .ne (.res rsL (.calv 9 [(0, 13), (1, 14), (2, 16)] (.acons (.var 12) .anil))) (.tup (.acons (.cst (.str "number")) .anil))) (.seq (.ret (.cst (.bl false))) .nop) .nop) .nop)) .nop)) (.seq (.ret (.cst (.bl true))) .nop)))
theorem sc_law : FnScope N_law ["script"] (defScope (top 52)) := ⟨rfl, rfl, rfl, by decide +kernel, rfl, by decide +kernel, by decide +kernel⟩
def rest_law : List Stmt := (defBody (top 52)).drop 1
theorem ck_law : (chkS ⟨IN22, gcsL, exsL, rsL, true⟩ N_law 66 b_law).ss (defScope (top 52)) rest_law = true := by decide +kernel
def LawTrue : Prop := ∀ scr : List Int, scr.length ≤ 63 → ∃ τ', runB (phi FS22) (gcT gcsL) N_law.length b_law [.tok 1, .tok 0] ⟨0, [], scr, []⟩ = .ok (.bl true) τ'
section
variable {P : Program} {w : World} {K : PySem.W.Frag} {tbs : List (Addr × Str)} {mg : Str → Option Value} {base : Heap}
theorem bd__law_draw : BindF "_law_draw" (top 46) ["script", "town", "many"] := fun _ _ _ _ _ _ us hl => match us, hl with | [_, _, _], _ => rfl
theorem al__law_draw (t : TopF top defsL gcsL exsL K mg) (lh : LH K mg base tbs rsL lamL) : AllG P w K tbs mg base IN1 FS1 := by
  obtain ⟨F, hmg⟩ := t.fn ("_law_draw", 46) (by decide +kernel)
  exact AllG.nil.snoc (a := ("_law_draw", ["script", "town", "many"], [], 1)) ⟨_, _, hmg, F.kp, F.binds bd__law_draw, fun j hj => absurd hj (by simp), draw_fn F (t.blt _ (by decide +kernel))⟩
theorem bd_is_between : BindF "is_between" (top 26) ["value", "low", "high"] := fun _ _ _ _ _ _ us hl => match us, hl with | [_, _, _], _ => rfl
theorem al_is_between (t : TopF top defsL gcsL exsL K mg) (lh : LH K mg base tbs rsL lamL) : AllG P w K tbs mg base IN2 FS2 :=
  AllG.snoc (a := ("is_between", ["value", "low", "high"], [], 4)) (F := F_is_between) (al__law_draw t lh) (fg_mk (x := "is_between") (i := 26) (k := 3) t (al__law_draw t lh) (by decide +kernel) sc_is_between ck_is_between bd_is_between (fun j hj => absurd hj (by simp)))
theorem bd_is_entry : BindF "is_entry" (top 27) ["value", "states"] := fun _ _ _ _ _ _ us hl => match us, hl with | [_, _], _ => rfl
theorem al_is_entry (t : TopF top defsL gcsL exsL K mg) (lh : LH K mg base tbs rsL lamL) : AllG P w K tbs mg base IN3 FS3 :=
  AllG.snoc (a := ("is_entry", ["value", "states"], [], 7)) (F := F_is_entry) (al_is_between t lh) (fg_mk (x := "is_entry") (i := 27) (k := 6) t (al_is_between t lh) (by decide +kernel) sc_is_entry ck_is_entry bd_is_entry (fun j hj => absurd hj (by simp)))
theorem bd_is_operation : BindF "is_operation" (top 28) ["value", "states"] := fun _ _ _ _ _ _ us hl => match us, hl with | [_, _], _ => rfl
theorem al_is_operation (t : TopF top defsL gcsL exsL K mg) (lh : LH K mg base tbs rsL lamL) : AllG P w K tbs mg base IN4 FS4 :=
  AllG.snoc (a := ("is_operation", ["value", "states"], [], 10)) (F := F_is_operation) (al_is_entry t lh) (fg_mk (x := "is_operation") (i := 28) (k := 9) t (al_is_entry t lh) (by decide +kernel) sc_is_operation ck_is_operation bd_is_operation (fun j hj => absurd hj (by simp)))
theorem bd_is_type : BindF "is_type" (top 29) ["value"] := fun _ _ _ _ _ _ us hl => match us, hl with | [_], _ => rfl
theorem al_is_type (t : TopF top defsL gcsL exsL K mg) (lh : LH K mg base tbs rsL lamL) : AllG P w K tbs mg base IN5 FS5 :=
  AllG.snoc (a := ("is_type", ["value"], [], 13)) (F := F_is_type) (al_is_operation t lh) (fg_mk (x := "is_type") (i := 29) (k := 12) t (al_is_operation t lh) (by decide +kernel) sc_is_type ck_is_type bd_is_type (fun j hj => absurd hj (by simp)))
theorem bd_check_type : BindF "check_type" (top 30) ["data"] := fun _ _ _ _ _ _ us hl => match us, hl with | [_], _ => rfl
theorem al_check_type (t : TopF top defsL gcsL exsL K mg) (lh : LH K mg base tbs rsL lamL) : AllG P w K tbs mg base IN6 FS6 :=
  AllG.snoc (a := ("check_type", ["data"], [], 16)) (F := F_check_type) (al_is_type t lh) (fg_mk (x := "check_type") (i := 30) (k := 15) t (al_is_type t lh) (by decide +kernel) sc_check_type ck_check_type bd_check_type (fun j hj => absurd hj (by simp)))
theorem bd_found_states : BindF "found_states" (top 31) ["data"] := fun _ _ _ _ _ _ us hl => match us, hl with | [_], _ => rfl
theorem al_found_states (t : TopF top defsL gcsL exsL K mg) (lh : LH K mg base tbs rsL lamL) : AllG P w K tbs mg base IN7 FS7 :=
  AllG.snoc (a := ("found_states", ["data"], [], 19)) (F := F_found_states) (al_check_type t lh) (fg_mk (x := "found_states") (i := 31) (k := 18) t (al_check_type t lh) (by decide +kernel) sc_found_states ck_found_states bd_found_states (fun j hj => absurd hj (by simp)))
theorem bd_reachable : BindF "reachable" (top 32) ["data"] := fun _ _ _ _ _ _ us hl => match us, hl with | [_], _ => rfl
theorem al_reachable (t : TopF top defsL gcsL exsL K mg) (lh : LH K mg base tbs rsL lamL) : AllG P w K tbs mg base IN8 FS8 :=
  AllG.snoc (a := ("reachable", ["data"], [], 22)) (F := F_reachable) (al_found_states t lh) (fg_mk (x := "reachable") (i := 32) (k := 21) t (al_found_states t lh) (by decide +kernel) sc_reachable ck_reachable bd_reachable (fun j hj => absurd hj (by simp)))
theorem bd_is_number : BindF "is_number" (top 33) ["data", "value"] := fun _ _ _ _ _ _ us hl => match us, hl with | [_, _], _ => rfl
theorem al_is_number (t : TopF top defsL gcsL exsL K mg) (lh : LH K mg base tbs rsL lamL) : AllG P w K tbs mg base IN9 FS9 :=
  AllG.snoc (a := ("is_number", ["data", "value"], [], 25)) (F := F_is_number) (al_reachable t lh) (fg_mk (x := "is_number") (i := 33) (k := 24) t (al_reachable t lh) (by decide +kernel) sc_is_number ck_is_number bd_is_number (fun j hj => absurd hj (by simp)))
theorem bd_are_operations : BindF "are_operations" (top 34) ["data", "value"] := fun _ _ _ _ _ _ us hl => match us, hl with | [_, _], _ => rfl
theorem al_are_operations (t : TopF top defsL gcsL exsL K mg) (lh : LH K mg base tbs rsL lamL) : AllG P w K tbs mg base IN10 FS10 :=
  AllG.snoc (a := ("are_operations", ["data", "value"], [], 28)) (F := F_are_operations) (al_is_number t lh) (fg_mk (x := "are_operations") (i := 34) (k := 27) t (al_is_number t lh) (by decide +kernel) sc_are_operations ck_are_operations bd_are_operations (fun j hj => absurd hj (by simp)))
theorem bd_performed : BindF "performed" (top 35) ["data", "state", "operations"] := fun _ _ _ _ _ _ us hl => match us, hl with | [_, _, _], _ => rfl
theorem al_performed (t : TopF top defsL gcsL exsL K mg) (lh : LH K mg base tbs rsL lamL) : AllG P w K tbs mg base IN11 FS11 :=
  AllG.snoc (a := ("performed", ["data", "state", "operations"], [], 31)) (F := F_performed) (al_are_operations t lh) (fg_mk (x := "performed") (i := 35) (k := 30) t (al_are_operations t lh) (by decide +kernel) sc_performed ck_performed bd_performed (fun j hj => absurd hj (by simp)))
theorem bd_perform : BindF "perform" (top 36) ["data", "operations"] := fun _ _ _ _ _ _ us hl => match us, hl with | [_, _], _ => rfl
theorem al_perform (t : TopF top defsL gcsL exsL K mg) (lh : LH K mg base tbs rsL lamL) : AllG P w K tbs mg base IN12 FS12 :=
  AllG.snoc (a := ("perform", ["data", "operations"], [], 34)) (F := F_perform) (al_performed t lh) (fg_mk (x := "perform") (i := 36) (k := 33) t (al_performed t lh) (by decide +kernel) sc_perform ck_perform bd_perform (fun j hj => absurd hj (by simp)))
theorem bd_check_number : BindF "check_number" (top 38) ["value", "low", "high"] := fun _ _ _ _ _ _ us hl => match us, hl with | [_, _, _], _ => rfl
theorem al_check_number (t : TopF top defsL gcsL exsL K mg) (lh : LH K mg base tbs rsL lamL) : AllG P w K tbs mg base IN13 FS13 :=
  AllG.snoc (a := ("check_number", ["value", "low", "high"], [], 37)) (F := F_check_number) (al_perform t lh) (fg_mk (x := "check_number") (i := 38) (k := 36) t (al_perform t lh) (by decide +kernel) sc_check_number ck_check_number bd_check_number (fun j hj => absurd hj (by simp)))
theorem bd_cell : BindF "cell" (top 39) ["values"] := fun _ _ _ _ _ _ us hl => match us, hl with | [_], _ => rfl
theorem bk_cell_0 : BindK "cell" (top 39) ["values"] 0 := fun _ _ _ _ _ _ us ws h1 h2 => by
  have h3 : ws.length = 1 := by
    simp only [List.length_cons, List.length_nil] at h2
    omega
  exact match us, ws, h1, h3 with | [], [_], _, _ => rfl
theorem al_cell (t : TopF top defsL gcsL exsL K mg) (lh : LH K mg base tbs rsL lamL) : AllG P w K tbs mg base IN14 FS14 :=
  AllG.snoc (a := ("cell", ["values"], [0], 40)) (F := F_cell) (al_check_number t lh) (fg_mk (x := "cell") (i := 39) (k := 39) t (al_check_number t lh) (by decide +kernel) sc_cell ck_cell bd_cell (fun j hj => by
    simp only [List.mem_cons, List.not_mem_nil, or_false] at hj
    subst hj
    · exact bk_cell_0
    ))
theorem bd_counter : BindF "counter" (top 40) ["limit"] := fun _ _ _ _ _ _ us hl => match us, hl with | [_], _ => rfl
theorem bk_counter_0 : BindK "counter" (top 40) ["limit"] 0 := fun _ _ _ _ _ _ us ws h1 h2 => by
  have h3 : ws.length = 1 := by
    simp only [List.length_cons, List.length_nil] at h2
    omega
  exact match us, ws, h1, h3 with | [], [_], _, _ => rfl
theorem al_counter (t : TopF top defsL gcsL exsL K mg) (lh : LH K mg base tbs rsL lamL) : AllG P w K tbs mg base IN15 FS15 :=
  AllG.snoc (a := ("counter", ["limit"], [0], 43)) (F := F_counter) (al_cell t lh) (fg_mk (x := "counter") (i := 40) (k := 42) t (al_cell t lh) (by decide +kernel) sc_counter ck_counter bd_counter (fun j hj => by
    simp only [List.mem_cons, List.not_mem_nil, or_false] at hj
    subst hj
    · exact bk_counter_0
    ))
theorem bd_contents : BindF "contents" (top 41) ["size"] := fun _ _ _ _ _ _ us hl => match us, hl with | [_], _ => rfl
theorem al_contents (t : TopF top defsL gcsL exsL K mg) (lh : LH K mg base tbs rsL lamL) : AllG P w K tbs mg base IN16 FS16 :=
  AllG.snoc (a := ("contents", ["size"], [], 46)) (F := F_contents) (al_counter t lh) (fg_mk (x := "contents") (i := 41) (k := 45) t (al_counter t lh) (by decide +kernel) sc_contents ck_contents bd_contents (fun j hj => absurd hj (by simp)))
theorem bd_buffer : BindF "buffer" (top 42) ["size"] := fun _ _ _ _ _ _ us hl => match us, hl with | [_], _ => rfl
theorem bk_buffer_0 : BindK "buffer" (top 42) ["size"] 0 := fun _ _ _ _ _ _ us ws h1 h2 => by
  have h3 : ws.length = 1 := by
    simp only [List.length_cons, List.length_nil] at h2
    omega
  exact match us, ws, h1, h3 with | [], [_], _, _ => rfl
theorem al_buffer (t : TopF top defsL gcsL exsL K mg) (lh : LH K mg base tbs rsL lamL) : AllG P w K tbs mg base IN17 FS17 :=
  AllG.snoc (a := ("buffer", ["size"], [0], 49)) (F := F_buffer) (al_contents t lh) (fg_mk (x := "buffer") (i := 42) (k := 48) t (al_contents t lh) (by decide +kernel) sc_buffer ck_buffer bd_buffer (fun j hj => by
    simp only [List.mem_cons, List.not_mem_nil, or_false] at hj
    subst hj
    · exact bk_buffer_0
    ))
theorem bd__law_is : BindF "_law_is" (top 45) ["result", "expected"] := fun _ _ _ _ _ _ us hl => match us, hl with | [_, _], _ => rfl
theorem al__law_is (t : TopF top defsL gcsL exsL K mg) (lh : LH K mg base tbs rsL lamL) : AllG P w K tbs mg base IN18 FS18 :=
  AllG.snoc (a := ("_law_is", ["result", "expected"], [], 52)) (F := F__law_is) (al_buffer t lh) (fg_mk (x := "_law_is") (i := 45) (k := 51) t (al_buffer t lh) (by decide +kernel) sc__law_is ck__law_is bd__law_is (fun j hj => absurd hj (by simp)))
theorem bd__law_cell : BindF "_law_cell" (top 48) ["many", "word"] := fun _ _ _ _ _ _ us hl => match us, hl with | [_, _], _ => rfl
theorem al__law_cell (t : TopF top defsL gcsL exsL K mg) (lh : LH K mg base tbs rsL lamL) : AllG P w K tbs mg base IN19 FS19 :=
  AllG.snoc (a := ("_law_cell", ["many", "word"], [], 55)) (F := F__law_cell) (al__law_is t lh) (fg_mk (x := "_law_cell") (i := 48) (k := 54) t (al__law_is t lh) (by decide +kernel) sc__law_cell ck__law_cell bd__law_cell (fun j hj => absurd hj (by simp)))
theorem bd__law_counter : BindF "_law_counter" (top 49) ["limit_here", "word"] := fun _ _ _ _ _ _ us hl => match us, hl with | [_, _], _ => rfl
theorem al__law_counter (t : TopF top defsL gcsL exsL K mg) (lh : LH K mg base tbs rsL lamL) : AllG P w K tbs mg base IN20 FS20 :=
  AllG.snoc (a := ("_law_counter", ["limit_here", "word"], [], 58)) (F := F__law_counter) (al__law_cell t lh) (fg_mk (x := "_law_counter") (i := 49) (k := 57) t (al__law_cell t lh) (by decide +kernel) sc__law_counter ck__law_counter bd__law_counter (fun j hj => absurd hj (by simp)))
theorem bd__law_buffer : BindF "_law_buffer" (top 50) ["size_here", "word"] := fun _ _ _ _ _ _ us hl => match us, hl with | [_, _], _ => rfl
theorem al__law_buffer (t : TopF top defsL gcsL exsL K mg) (lh : LH K mg base tbs rsL lamL) : AllG P w K tbs mg base IN21 FS21 :=
  AllG.snoc (a := ("_law_buffer", ["size_here", "word"], [], 61)) (F := F__law_buffer) (al__law_counter t lh) (fg_mk (x := "_law_buffer") (i := 50) (k := 60) t (al__law_counter t lh) (by decide +kernel) sc__law_buffer ck__law_buffer bd__law_buffer (fun j hj => absurd hj (by simp)))
theorem bd__law_place : BindF "_law_place" (top 51) ["bits"] := fun _ _ _ _ _ _ us hl => match us, hl with | [_], _ => rfl
theorem al__law_place (t : TopF top defsL gcsL exsL K mg) (lh : LH K mg base tbs rsL lamL) : AllG P w K tbs mg base IN22 FS22 :=
  AllG.snoc (a := ("_law_place", ["bits"], [], 64)) (F := F__law_place) (al__law_buffer t lh) (fg_mk (x := "_law_place") (i := 51) (k := 63) t (al__law_buffer t lh) (by decide +kernel) sc__law_place ck__law_place bd__law_place (fun j hj => absurd hj (by simp)))
end
end Mn

set_option Elab.async false
set_option linter.all false
set_option maxRecDepth 100000
set_option maxHeartbeats 4000000
namespace Mn
open PySem L2 PySem.W
section
variable {w : World} {K : PySem.W.Frag} {mg : Str → Option Value}
theorem bd_law : BindF "law" (top 52) ["script"] := fun _ _ _ _ _ _ us hl => match us, hl with | [_], _ => rfl

theorem law_at {l : OpenLaw} {fa : Addr} {h : Heap} {ts : List Addr} (t : TopF top defsL gcsL exsL K mg) (KX : K.In h) (hfa : mg "law" = some (.ref fa)) (LT : LawTrue) (R : ResT K mg) (hcode : lamB K ts lamL = true) (hts : ∀ P ∈ ts, h.get? P = some (tabObj #[])) (nm : ∀ c ∈ rsL, c < 20 ∧ exV K (clsA K c) = exG ∧ kitV K c = kitG c) :
    LamX.LawAtS l w K (L2.CX l.prog w) 67 63 "script" mg fa h := by
  obtain ⟨F, hmg⟩ := t.fn ("law", 52) (by decide +kernel)
  obtain ⟨FB, hmb⟩ := t.fn ("_law_begun", 47) (by decide +kernel)
  have e := hfa.symm.trans hmg
  cases e
  have bL := F.binds bd_law
  have bB : L2.Binds K (fdG K "_law_begun") [] [] := FB.binds fun _ _ _ _ _ _ us hl => match us, hl with | [], _ => rfl
  have lo := lam_of hcode
  refine ⟨fdG K "law", csL K lamL, spLaw K (tbL K lamL), ?_, ?_, ?_, fun s u => ?_, fun H a ns hl _ hT hS => ?_, fun base KB NB TB => ?_⟩
  · intro p hp
    exact hts _ (lo p hp).2.2
  · intro p hp
    exact (lo p hp).2.1
  · intro p hp
    exact codeHd_of_K KX (lo p hp).1
  · obtain ⟨oc, od, kV, doc, pm, an, cdv, ct, osl, e, lk, hcd⟩ := F.ex
    rw [e]
    exact .of_eq rfl
  · refine ⟨a, ns, rfl, hS, hl, ?_, fun _ => rfl⟩
    intro p hp
    obtain ⟨x, hx, rfl⟩ := List.mem_map.mp hp
    exact LamX.TabS.nil (hT (codeA K x, tabA K x) (List.mem_map.mpr ⟨x, hx, rfl⟩))
  · exact law_fn (T := ⟨IN22, gcsL, exsL, rsL, true⟩) (Φ := phi FS22) (N' := N_law') (b := b_law) (k := 66) F sc_law rfl (by decide +kernel) (by decide +kernel) ck_law (by decide) (pg_mk t (al__law_place t (lh_mk hcode R nm TB))) hmb FB.kp bB (begun_fn FB) (fun _ tw rs sc scr A outer s H E hr => (lh_mk hcode R nm TB).lam (by decide +kernel) (by decide) tw rs sc scr A outer s H E hr) LT
end
end Mn

set_option Elab.async false
set_option linter.all false
set_option maxRecDepth 100000
set_option maxHeartbeats 1000000
/-! Mn: the small language, step by step, for simp. -/
namespace Mn
open PySem
section
variable {α β : Type} {a : α} {s : S} {τ : Town} {c : Nat}
@[simp] theorem ob_ok {f : α → S → Out β} : (Out.ok a s).bind f = f a s := rfl
@[simp] theorem ob_exc {f : α → S → Out β} : (Out.exc c τ : Out α).bind f = .exc c τ := rfl
@[simp] theorem ob_bad {f : α → S → Out β} : (Out.bad : Out α).bind f = .bad := rfl
@[simp] theorem so_ok {f : α → S → SO} : (Out.ok a s).so f = f a s := rfl
@[simp] theorem so_exc {f : α → S → SO} : (Out.exc c τ : Out α).so f = .exc c τ := rfl
@[simp] theorem so_bad {f : α → S → SO} : (Out.bad : Out α).so f = .bad := rfl
@[simp] theorem ob_ite {p : Prop} [Decidable p] {x y : Out α} {f : α → S → Out β} : (if p then x else y).bind f = if p then x.bind f else y.bind f := by split <;> rfl
@[simp] theorem so_ite {p : Prop} [Decidable p] {x y : Out α} {f : α → S → SO} : (if p then x else y).so f = if p then x.so f else y.so f := by split <;> rfl
@[simp] theorem of_some : Out.of (some a) s = .ok a s := rfl
@[simp] theorem of_none : Out.of (none : Option α) s = .bad := rfl
@[simp] theorem of_ite {p : Prop} [Decidable p] {x y : Option α} : Out.of (if p then x else y) s = if p then Out.of x s else Out.of y s := by split <;> rfl
@[simp] theorem sb_next {f : S → SO} : (SO.next s).bind f = f s := rfl
@[simp] theorem sb_ret {f : S → SO} {d : D} : (SO.ret d s).bind f = .ret d s := rfl
@[simp] theorem sb_brk {f : S → SO} : (SO.brk s).bind f = .brk s := rfl
@[simp] theorem sb_cnt {f : S → SO} : (SO.cnt s).bind f = .cnt s := rfl
@[simp] theorem sb_exc {f : S → SO} : (SO.exc c τ).bind f = .exc c τ := rfl
@[simp] theorem sb_bad {f : S → SO} : SO.bad.bind f = .bad := rfl
@[simp] theorem sb_ite {p : Prop} [Decidable p] {x y : SO} {f : S → SO} : (if p then x else y).bind f = if p then x.bind f else y.bind f := by split <;> rfl
@[simp] theorem qu_ok : (Out.ok a s).quiet = .ok a s := rfl
@[simp] theorem qu_exc : (Out.exc c τ : Out α).quiet = .bad := rfl
@[simp] theorem qu_bad : (Out.bad : Out α).quiet = .bad := rfl
@[simp] theorem qu_ite {p : Prop} [Decidable p] {x y : Out α} : (if p then x else y).quiet = if p then x.quiet else y.quiet := by split <;> rfl
end
/-- a def's end -/
def toRs : SO → Rs
  | .next s => .ok .non s.τ
  | .ret d s => .ok d s.τ
  | .exc c τ => .exc c τ
  | _ => .bad
def rsOut (r : Rs) (s : S) : Out D := match r with
  | .ok d τ => .ok d { s with τ := τ }
  | .exc c τ => .exc c τ
  | .bad => .bad
/-- by a truth that may not be known -/
def optB {α : Type} (o : Option Bool) (x y z : α) : α := match o with
  | some true => x
  | some false => y
  | none => z
def blK {α : Type} (d : D) (x y z : α) : α := match d with
  | .bl true => x
  | .bl false => y
  | _ => z
def tupK {α : Type} (d : D) (f : List D → α) (z : α) : α := match d with
  | .tup ds => f ds
  | _ => z
def lstK {α : Type} (d : D) (f : List D → α) (z : α) : α := match d with
  | .lst ds => f ds
  | _ => z
def intK {α : Type} (d : D) (f : Int → α) (z : α) : α := match d with
  | .int ds => f ds
  | _ => z
def dctK {α : Type} (d : D) (f : Bool → List (D × D) → α) (z : α) : α := match d with
  | .dct n kvs => f n kvs
  | _ => z
def slotK {α : Type} (d : Option Slot) (v : D → α) (f : List D → α) (g : Bool → List (D × D) → α) (z : α) : α := match d with
  | some (.val d) => v d
  | some (.lst ds) => f ds
  | some (.dct n kvs) => g n kvs
  | _ => z
def optK {α β : Type} (o : Option α) (f : α → β) (z : β) : β := match o with
  | some a => f a
  | none => z
section
variable {α β : Type} {x y z : α} {s : S} {τ : Town}
@[simp] theorem toRs_next : toRs (.next s) = .ok .non s.τ := rfl
@[simp] theorem toRs_ret {d : D} : toRs (.ret d s) = .ok d s.τ := rfl
@[simp] theorem toRs_exc {c : Nat} : toRs (.exc c τ) = .exc c τ := rfl
@[simp] theorem toRs_bad : toRs .bad = .bad := rfl
@[simp] theorem toRs_ite {p : Prop} [Decidable p] {x y : SO} : toRs (if p then x else y) = if p then toRs x else toRs y := by split <;> rfl
@[simp] theorem rsOut_ok {d : D} : rsOut (.ok d τ) s = .ok d { s with τ := τ } := rfl
@[simp] theorem rsOut_exc {c : Nat} : rsOut (.exc c τ) s = .exc c τ := rfl
@[simp] theorem rsOut_bad : rsOut .bad s = .bad := rfl
@[simp] theorem rsOut_ite {p : Prop} [Decidable p] {x y : Rs} : rsOut (if p then x else y) s = if p then rsOut x s else rsOut y s := by split <;> rfl
@[simp] theorem optB_some {b : Bool} : optB (some b) x y z = if b = true then x else y := by cases b <;> rfl
@[simp] theorem optB_none : optB none x y z = z := rfl
@[simp] theorem blK_bl {b : Bool} : blK (.bl b) x y z = if b = true then x else y := by cases b <;> rfl
@[simp] theorem blK_int {i : Int} : blK (.int i) x y z = z := rfl
@[simp] theorem tupK_tup {ds : List D} {f : List D → α} : tupK (.tup ds) f z = f ds := rfl
@[simp] theorem lstK_lst {ds : List D} {f : List D → α} : lstK (.lst ds) f z = f ds := rfl
@[simp] theorem intK_int {i : Int} {f : Int → α} : intK (.int i) f z = f i := rfl
@[simp] theorem dctK_dct {n : Bool} {kvs : List (D × D)} {f : Bool → List (D × D) → α} : dctK (.dct n kvs) f z = f n kvs := rfl
@[simp] theorem slotK_val {d : D} {v : D → α} {f : List D → α} {g : Bool → List (D × D) → α} : slotK (some (.val d)) v f g z = v d := rfl
@[simp] theorem slotK_lst {d : List D} {v : D → α} {f : List D → α} {g : Bool → List (D × D) → α} : slotK (some (.lst d)) v f g z = f d := rfl
@[simp] theorem slotK_dct {n : Bool} {kvs : List (D × D)} {v : D → α} {f : List D → α} {g : Bool → List (D × D) → α} : slotK (some (.dct n kvs)) v f g z = g n kvs := rfl
@[simp] theorem slotK_emp {v : D → α} {f : List D → α} {g : Bool → List (D × D) → α} : slotK (some .emp) v f g z = z := rfl
@[simp] theorem optK_some {a : β} {f : β → α} : optK (some a) f z = f a := rfl
@[simp] theorem optK_none {f : β → α} : optK none f z = z := rfl
@[simp] theorem dat_val {d : D} : (Slot.val d).dat = some d := rfl
@[simp] theorem dat_lst {d : List D} : (Slot.lst d).dat = some (.lst d) := rfl
@[simp] theorem dat_dct {n : Bool} {d : List (D × D)} : (Slot.dct n d).dat = some (.dct n d) := rfl
@[simp] theorem dat_emp : Slot.emp.dat = none := rfl
end
section
variable {Φ : Nat → Fn} {gc : Nat → D} {s : S}
theorem runB_eq {n : Nat} {b : Sm} {ds : List D} {τ : Town} : runB Φ gc n b ds τ = toRs (ex Φ gc b ⟨ds.map .val ++ List.replicate (n - ds.length) .emp, τ⟩) := by
  unfold runB toRs
  rfl
@[simp] theorem take_eq {i : Nat} : take i s = slotK s.ρ[i]? (fun d => .ok d s) (fun ds => .ok (.lst ds) { s with ρ := s.ρ.set i (.val (.lst ds)) }) (fun n kvs => .ok (.dct n kvs) { s with ρ := s.ρ.set i (.val (.dct n kvs)) }) .bad := by
  unfold take slotK
  cases s.ρ[i]? with
  | none => rfl
  | some x => cases x <;> rfl
@[simp] theorem peek_eq {i : Nat} : peek i s = Out.of (s.ρ[i]?.bind Slot.dat) s := rfl
@[simp] theorem asBl_bl {b : Bool} : asBl (.bl b) s = .ok (.bl b) s := rfl
@[simp] theorem asTest_eq {d : D} : asTest d s = Out.of (truth d) s := rfl
@[simp] theorem truth_bl {b : Bool} : truth (.bl b) = some b := rfl
@[simp] theorem truth_lst {b : List D} : truth (.lst b) = some (!b.isEmpty) := rfl
@[simp] theorem truth_tup {b : List D} : truth (.tup b) = some (!b.isEmpty) := rfl
@[simp] theorem truth_int {i : Int} : truth (.int i) = some (i != 0) := rfl
@[simp] theorem ev_var {i : Nat} : ev Φ gc (.var i) s = take i s := rfl
@[simp] theorem ev_cst {d : D} : ev Φ gc (.cst d) s = .ok d s := rfl
@[simp] theorem ev_gcs {k : Nat} : ev Φ gc (.gcs k) s = .ok (gc k) s := rfl
@[simp] theorem ev_anil : ev Φ gc .anil s = .ok (.tup []) s := rfl
@[simp] theorem ev_acons {e a : Ex} : ev Φ gc (.acons e a) s = (ev Φ gc e s).bind fun d s1 => (ev Φ gc a s1).bind fun r s2 => tupK r (fun ds => .ok (.tup (d :: ds)) s2) .bad := rfl
@[simp] theorem ev_tup {a : Ex} : ev Φ gc (.tup a) s = ev Φ gc a s := rfl
@[simp] theorem ev_lst {a : Ex} : ev Φ gc (.lst a) s = (ev Φ gc a s).bind fun r s1 => tupK r (fun ds => .ok (.lst ds) s1) .bad := rfl
@[simp] theorem ev_dnew {n : Bool} : ev Φ gc (.dnew n) s = .ok (.dct n []) s := rfl
@[simp] theorem ev_dspC {l : List (D × D)} : ev Φ gc (.dspC l) s = if (l.all fun p => keyN p.1) then .ok (.dct true (l.foldl (fun a p => store a p.1 p.2) [])) s else .bad := rfl
@[simp] theorem ev_dsp {n : Bool} {k v : Ex} : ev Φ gc (.dsp n k v) s = (ev Φ gc k s).bind fun x s1 => (ev Φ gc v s1).bind fun y s2 => if keyOf n x then .ok (.dct n [(x, y)]) s2 else .bad := rfl
/-- an operand that is read -/
def rd (Φ : Nat → Fn) (gc : Nat → D) (a : Ex) (s : S) : Out D := if a.isV then peek a.vix s else ev Φ gc a s
@[simp] theorem rd_var {i : Nat} : rd Φ gc (.var i) s = peek i s := rfl
theorem rd_of {a : Ex} (h : a.isV = false) : rd Φ gc a s = ev Φ gc a s := by unfold rd; rw [h, if_neg (by decide)]
@[simp] theorem reread_var {i : Nat} {d : D} : reread (.var i) d s = peek i s := rfl
theorem reread_of {a : Ex} {d : D} (h : a.isV = false) : reread a d s = .ok d s := by unfold reread; rw [h, if_neg (by decide)]
@[simp] theorem rd_cst {d : D} : rd Φ gc (.cst d) s = ev Φ gc (.cst d) s := rfl
@[simp] theorem rr_cst {d : D} {x : D} : reread (.cst d) x s = .ok x s := rfl
@[simp] theorem rd_gcs {k : Nat} : rd Φ gc (.gcs k) s = ev Φ gc (.gcs k) s := rfl
@[simp] theorem rr_gcs {k : Nat} {x : D} : reread (.gcs k) x s = .ok x s := rfl
@[simp] theorem rd_anil  : rd Φ gc .anil s = ev Φ gc .anil s := rfl
@[simp] theorem rr_anil  {x : D} : reread .anil x s = .ok x s := rfl
@[simp] theorem rd_acons {e a : Ex} : rd Φ gc (.acons e a) s = ev Φ gc (.acons e a) s := rfl
@[simp] theorem rr_acons {e a : Ex} {x : D} : reread (.acons e a) x s = .ok x s := rfl
@[simp] theorem rd_tup {a : Ex} : rd Φ gc (.tup a) s = ev Φ gc (.tup a) s := rfl
@[simp] theorem rr_tup {a : Ex} {x : D} : reread (.tup a) x s = .ok x s := rfl
@[simp] theorem rd_lst {a : Ex} : rd Φ gc (.lst a) s = ev Φ gc (.lst a) s := rfl
@[simp] theorem rr_lst {a : Ex} {x : D} : reread (.lst a) x s = .ok x s := rfl
@[simp] theorem rd_dnew {n : Bool} : rd Φ gc (.dnew n) s = ev Φ gc (.dnew n) s := rfl
@[simp] theorem rr_dnew {n : Bool} {x : D} : reread (.dnew n) x s = .ok x s := rfl
@[simp] theorem rd_dspC {l : List (D × D)} : rd Φ gc (.dspC l) s = ev Φ gc (.dspC l) s := rfl
@[simp] theorem rr_dspC {l : List (D × D)} {x : D} : reread (.dspC l) x s = .ok x s := rfl
@[simp] theorem rd_dsp {n : Bool} {k v : Ex} : rd Φ gc (.dsp n k v) s = ev Φ gc (.dsp n k v) s := rfl
@[simp] theorem rr_dsp {n : Bool} {k v : Ex} {x : D} : reread (.dsp n k v) x s = .ok x s := rfl
@[simp] theorem rd_bin {o : BO} {a b : Ex} : rd Φ gc (.bin o a b) s = ev Φ gc (.bin o a b) s := rfl
@[simp] theorem rr_bin {o : BO} {a b : Ex} {x : D} : reread (.bin o a b) x s = .ok x s := rfl
@[simp] theorem rd_cmp {o : CO} {a b : Ex} : rd Φ gc (.cmp o a b) s = ev Φ gc (.cmp o a b) s := rfl
@[simp] theorem rr_cmp {o : CO} {a b : Ex} {x : D} : reread (.cmp o a b) x s = .ok x s := rfl
@[simp] theorem rd_chn {o o' : CO} {a b c : Ex} : rd Φ gc (.chn o o' a b c) s = ev Φ gc (.chn o o' a b c) s := rfl
@[simp] theorem rr_chn {o o' : CO} {a b c : Ex} {x : D} : reread (.chn o o' a b c) x s = .ok x s := rfl
@[simp] theorem rd_bad : rd Φ gc .bad s = .bad := rfl
@[simp] theorem rr_bad {x : D} : reread .bad x s = .ok x s := rfl
@[simp] theorem rd_isN {y : Bool} {a : Ex} : rd Φ gc (.isN y a) s = ev Φ gc (.isN y a) s := rfl
@[simp] theorem rr_isN {y : Bool} {a : Ex} {x : D} : reread (.isN y a) x s = .ok x s := rfl
@[simp] theorem rd_and_ {a b : Ex} : rd Φ gc (.and_ a b) s = ev Φ gc (.and_ a b) s := rfl
@[simp] theorem rr_and_ {a b : Ex} {x : D} : reread (.and_ a b) x s = .ok x s := rfl
@[simp] theorem rd_or_ {a b : Ex} : rd Φ gc (.or_ a b) s = ev Φ gc (.or_ a b) s := rfl
@[simp] theorem rr_or_ {a b : Ex} {x : D} : reread (.or_ a b) x s = .ok x s := rfl
@[simp] theorem rd_not_ {a : Ex} : rd Φ gc (.not_ a) s = ev Φ gc (.not_ a) s := rfl
@[simp] theorem rr_not_ {a : Ex} {x : D} : reread (.not_ a) x s = .ok x s := rfl
@[simp] theorem rd_ite {c a b : Ex} : rd Φ gc (.ite c a b) s = ev Φ gc (.ite c a b) s := rfl
@[simp] theorem rr_ite {c a b : Ex} {x : D} : reread (.ite c a b) x s = .ok x s := rfl
@[simp] theorem rd_idx {a i : Ex} : rd Φ gc (.idx a i) s = ev Φ gc (.idx a i) s := rfl
@[simp] theorem rr_idx {a i : Ex} {x : D} : reread (.idx a i) x s = .ok x s := rfl
@[simp] theorem rd_slc {a l h : Ex} : rd Φ gc (.slc a l h) s = ev Φ gc (.slc a l h) s := rfl
@[simp] theorem rr_slc {a l h : Ex} {x : D} : reread (.slc a l h) x s = .ok x s := rfl
@[simp] theorem rd_prm {p : P1} {a : Ex} : rd Φ gc (.prm p a) s = ev Φ gc (.prm p a) s := rfl
@[simp] theorem rr_prm {p : P1} {a : Ex} {x : D} : reread (.prm p a) x s = .ok x s := rfl
@[simp] theorem rd_isi {t : Ty} {a : Ex} : rd Φ gc (.isi t a) s = ev Φ gc (.isi t a) s := rfl
@[simp] theorem rr_isi {t : Ty} {a : Ex} {x : D} : reread (.isi t a) x s = .ok x s := rfl
@[simp] theorem rd_index {o k : Ex} : rd Φ gc (.index o k) s = ev Φ gc (.index o k) s := rfl
@[simp] theorem rr_index {o k : Ex} {x : D} : reread (.index o k) x s = .ok x s := rfl
@[simp] theorem rd_get {o k d : Ex} : rd Φ gc (.get o k d) s = ev Φ gc (.get o k d) s := rfl
@[simp] theorem rr_get {o k d : Ex} {x : D} : reread (.get o k d) x s = .ok x s := rfl
@[simp] theorem rd_cal {f : Nat} {a : Ex} : rd Φ gc (.cal f a) s = ev Φ gc (.cal f a) s := rfl
@[simp] theorem rr_cal {f : Nat} {a : Ex} {x : D} : reread (.cal f a) x s = .ok x s := rfl
@[simp] theorem rd_lc {w : List Nat} {e : Ex} {p : Pat} {it c : Ex} : rd Φ gc (.lc w e p it c) s = ev Φ gc (.lc w e p it c) s := rfl
@[simp] theorem rr_lc {w : List Nat} {e : Ex} {p : Pat} {it c : Ex} {x : D} : reread (.lc w e p it c) x s = .ok x s := rfl
@[simp] theorem rd_lcp {w : List Nat} {e : Ex} {p : Pat} {i : Nat} {c : Ex} : rd Φ gc (.lcp w e p i c) s = ev Φ gc (.lcp w e p i c) s := rfl
@[simp] theorem rr_lcp {w : List Nat} {e : Ex} {p : Pat} {i : Nat} {c : Ex} {x : D} : reread (.lcp w e p i c) x s = .ok x s := rfl
@[simp] theorem rd_isB {y b : Bool} {a : Ex} : rd Φ gc (.isB y b a) s = ev Φ gc (.isB y b a) s := rfl
@[simp] theorem rr_isB {y b : Bool} {a : Ex} {x : D} : reread (.isB y b a) x s = .ok x s := rfl
@[simp] theorem rd_rng {a : Ex} : rd Φ gc (.rng a) s = ev Φ gc (.rng a) s := rfl
@[simp] theorem rr_rng {a : Ex} {x : D} : reread (.rng a) x s = .ok x s := rfl
@[simp] theorem rd_rng2 {a b : Ex} : rd Φ gc (.rng2 a b) s = ev Φ gc (.rng2 a b) s := rfl
@[simp] theorem rr_rng2 {a b : Ex} {x : D} : reread (.rng2 a b) x s = .ok x s := rfl
@[simp] theorem rd_enm {a : Ex} : rd Φ gc (.enm a) s = ev Φ gc (.enm a) s := rfl
@[simp] theorem rr_enm {a : Ex} {x : D} : reread (.enm a) x s = .ok x s := rfl
@[simp] theorem rd_zip {a b : Ex} : rd Φ gc (.zip a b) s = ev Φ gc (.zip a b) s := rfl
@[simp] theorem rr_zip {a b : Ex} {x : D} : reread (.zip a b) x s = .ok x s := rfl
@[simp] theorem rd_enmzip {a b : Ex} : rd Φ gc (.enmzip a b) s = ev Φ gc (.enmzip a b) s := rfl
@[simp] theorem rr_enmzip {a b : Ex} {x : D} : reread (.enmzip a b) x s = .ok x s := rfl
@[simp] theorem rd_res {rs : List Nat} {e : Ex} : rd Φ gc (.res rs e) s = ev Φ gc (.res rs e) s := rfl
@[simp] theorem rr_res {rs : List Nat} {e : Ex} {x : D} : reread (.res rs e) x s = .ok x s := rfl
@[simp] theorem isV_var {i : Nat} : (Ex.var i).isV = true := rfl
@[simp] theorem ev_bin {o : BO} {a b : Ex} : ev Φ gc (.bin o a b) s = (rd Φ gc a s).bind fun x s1 => (rd Φ gc b s1).bind fun y s2 => (reread a x s2).bind fun x' s3 => Out.of (binD o x' y) s3 := rfl
@[simp] theorem ev_cmp {o : CO} {a b : Ex} : ev Φ gc (.cmp o a b) s = (rd Φ gc a s).bind fun x s1 => (rd Φ gc b s1).bind fun y s2 => (reread a x s2).bind fun x' s3 => Out.of ((cmpD o x' y).map .bl) s3 := rfl
@[simp] theorem ev_chn {o o' : CO} {a b c : Ex} : ev Φ gc (.chn o o' a b c) s = (ev Φ gc a s).bind fun x s1 => (ev Φ gc b s1).bind fun y s2 => optB (cmpD o x y) ((ev Φ gc c s2).bind fun z s3 => Out.of ((cmpD o' y z).map .bl) s3) (.ok (.bl false) s2) .bad := rfl
theorem ev_calv {i : Nat} {fs : List (Nat × Nat)} {a : Ex} : ev Φ gc (.calv i fs a) s = match s.ρ[i]? with
    | some (.val (.tok (n + 2))) => (match (if n < 900 then fs.lookup n else none) with
      | some f => (ev Φ gc a s).bind (callD Φ f)
      | none => .bad)
    | _ => .bad := by rw [ev] <;> rfl
@[simp] theorem rd_calv {i : Nat} {fs : List (Nat × Nat)} {a : Ex} : rd Φ gc (.calv i fs a) s = ev Φ gc (.calv i fs a) s := rfl
@[simp] theorem ev_bad : ev Φ gc .bad s = .bad := rfl
@[simp] theorem ev_isN {yes : Bool} {a : Ex} : ev Φ gc (.isN yes a) s = (ev Φ gc a s).bind fun x s1 => .ok (.bl (match x with | .non => yes | _ => !yes)) s1 := rfl
@[simp] theorem isBD_bl {yes b c : Bool} : isBD yes b (.bl c) = if yes then c == b else !(c == b) := rfl
@[simp] theorem ev_isB {yes b : Bool} {a : Ex} : ev Φ gc (.isB yes b a) s = (ev Φ gc a s).bind fun x s1 => .ok (.bl (isBD yes b x)) s1 := rfl
@[simp] theorem ev_and {a b : Ex} : ev Φ gc (.and_ a b) s = (ev Φ gc a s).bind fun x s1 => blK x ((ev Φ gc b s1).bind asBl) (.ok (.bl false) s1) .bad := rfl
@[simp] theorem ev_or {a b : Ex} : ev Φ gc (.or_ a b) s = (ev Φ gc a s).bind fun x s1 => blK x (.ok (.bl true) s1) ((ev Φ gc b s1).bind asBl) .bad := rfl
@[simp] theorem ev_not {a : Ex} : ev Φ gc (.not_ a) s = (ev Φ gc a s).bind fun x s1 => blK x (.ok (.bl false) s1) (.ok (.bl true) s1) .bad := by
  show (ev Φ gc a s).bind _ = _
  congr 1
  funext x s1
  cases x with
  | bl b => cases b <;> rfl
  | _ => rfl
@[simp] theorem ev_ite {c a b : Ex} : ev Φ gc (.ite c a b) s = ((rd Φ gc c s).bind asTest).bind fun k s1 => if k then ev Φ gc a s1 else ev Φ gc b s1 := rfl
@[simp] theorem ev_idx {a i : Ex} : ev Φ gc (.idx a i) s = (rd Φ gc a s).bind fun x s1 => (ev Φ gc i s1).bind fun y s2 => (reread a x s2).bind fun x' s3 => Out.of (idxD x' y) s3 := rfl
@[simp] theorem ev_slc {a lo hi : Ex} : ev Φ gc (.slc a lo hi) s = (ev Φ gc a s).bind fun x s1 => (part lo (ev Φ gc lo s1) s1).bind fun y s2 => (part hi (ev Φ gc hi s2) s2).bind fun z s3 => Out.of (slcD x y z) s3 := rfl
@[simp] theorem part_nil {o : Out D} : part .anil o s = .ok none s := rfl
@[simp] theorem part_cst {d : D} {o : Out D} : part (.cst d) o s = o.bind fun d s1 => intK d (fun i => .ok (some i) s1) .bad := rfl
@[simp] theorem part_var {i : Nat} {o : Out D} : part (.var i) o s = o.bind fun d s1 => intK d (fun i => .ok (some i) s1) .bad := rfl
@[simp] theorem part_bin {p : BO} {a b : Ex} {o : Out D} : part (.bin p a b) o s = o.bind fun d s1 => intK d (fun i => .ok (some i) s1) .bad := rfl
@[simp] theorem part_idx {a b : Ex} {o : Out D} : part (.idx a b) o s = o.bind fun d s1 => intK d (fun i => .ok (some i) s1) .bad := rfl
@[simp] theorem part_prm {p : P1} {a : Ex} {o : Out D} : part (.prm p a) o s = o.bind fun d s1 => intK d (fun i => .ok (some i) s1) .bad := rfl
@[simp] theorem part_cal {f : Nat} {a : Ex} {o : Out D} : part (.cal f a) o s = o.bind fun d s1 => intK d (fun i => .ok (some i) s1) .bad := rfl
@[simp] theorem ev_prm {p : P1} {a : Ex} : ev Φ gc (.prm p a) s = (rd Φ gc a s).bind fun x s1 => Out.of (prim1 p x) s1 := rfl
@[simp] theorem ev_isi {t : Ty} {a : Ex} : ev Φ gc (.isi t a) s = (rd Φ gc a s).bind fun x s1 => Out.of ((isTy t x).map .bl) s1 := rfl
@[simp] theorem ev_cal {f : Nat} {a : Ex} : ev Φ gc (.cal f a) s = (ev Φ gc a s).bind fun d s1 => tupK d (fun ds => rsOut (Φ f ds s1.τ) s1) .bad := by
  show (ev Φ gc a s).bind _ = _
  first | rfl | (congr 1; funext x s1; unfold callD tupK rsOut; cases x <;> rfl)
/-- one turn of a comprehension -/
def lcB (Φ : Nat → Fn) (gc : Nat → D) (e : Ex) (p : Pat) (c : Ex) : D → S → Out (Option D) := fun d s2 => match bindP p [d] s2.ρ with
  | none => .bad
  | some ρ => Out.quiet (((if c.isV then peek c.vix { s2 with ρ := ρ } else ev Φ gc c { s2 with ρ := ρ }).bind asTest).bind fun k s3 => if k then (ev Φ gc e s3).bind fun r s4 => .ok (some r) s4 else .ok none s3)
theorem lcB_eq {e : Ex} {p : Pat} {c : Ex} {d : D} : lcB Φ gc e p c d s = optK (bindP p [d] s.ρ) (fun ρ => Out.quiet (((rd Φ gc c { s with ρ := ρ }).bind asTest).bind fun k s3 => if k then (ev Φ gc e s3).bind fun r s4 => .ok (some r) s4 else .ok none s3)) .bad := by
  unfold lcB optK rd
  cases bindP p [d] s.ρ <;> rfl
@[simp] theorem ev_lcE {w : List Nat} {e : Ex} {p : Pat} {it c : Ex} : ev Φ gc (.lc w e p it c) s = (ev Φ gc it s).bind fun x s1 => optK (items x) (fun xs => if w.all (fun i => (s1.ρ.getD i .emp).plain) then
    (lcL (lcB Φ gc e p c) (fun s2 => { s2 with ρ := wipeS s2.ρ w }) xs [] s1).bind fun ys s5 => .ok (.lst ys) { s5 with ρ := backS s5.ρ s1.ρ w } else .bad) .bad := by
  show (ev Φ gc it s).bind _ = _
  congr 1
  funext x s1
  unfold optK
  cases items x <;> rfl
/-- one turn of a comprehension over a list that a slot goes on owning -/
def lcBp (Φ : Nat → Fn) (gc : Nat → D) (e : Ex) (p : Pat) (c : Ex) (i : Nat) (xs : List D) : D → S → Out (Option D) := fun d s2 => (lcB Φ gc e p c d s2).bind fun o s4 => if keepL i xs s4 then .ok o s4 else .bad
theorem lcBp_eq {e : Ex} {p : Pat} {c : Ex} {d : D} {i : Nat} {xs : List D} : lcBp Φ gc e p c i xs d s = (lcB Φ gc e p c d s).bind fun o s4 => if keepL i xs s4 then .ok o s4 else .bad := rfl
@[simp] theorem keep_lst {i : Nat} {xs : List D} : keepL i xs s = slotK s.ρ[i]? (fun _ => false) (fun es => D.sames es xs) (fun _ _ => false) false := by
  unfold keepL slotK
  cases s.ρ[i]? with
  | none => rfl
  | some x => cases x <;> rfl
@[simp] theorem sames_self {xs : List D} : D.sames xs xs = true := D.sames_refl xs
@[simp] theorem ev_lcpE {w : List Nat} {e : Ex} {p : Pat} {i : Nat} {c : Ex} : ev Φ gc (.lcp w e p i c) s = slotK s.ρ[i]? (fun _ => .bad) (fun xs => if w.all (fun i => (s.ρ.getD i .emp).plain) && !w.contains i then
    (lcL (lcBp Φ gc e p c i xs) (fun s2 => { s2 with ρ := wipeS s2.ρ w }) xs [] s).bind fun ys s5 => .ok (.lst ys) { s5 with ρ := backS s5.ρ s.ρ w } else .bad) (fun _ _ => .bad) .bad := by
  rw [ev]
  unfold slotK
  cases s.ρ[i]? with
  | none => rfl
  | some x => cases x <;> rfl
@[simp] theorem ev_rng {a : Ex} : ev Φ gc (.rng a) s = (ev Φ gc a s).bind fun x s1 => Out.of (rngD (.int 0) x) s1 := rfl
@[simp] theorem ev_rng2 {a b : Ex} : ev Φ gc (.rng2 a b) s = (ev Φ gc a s).bind fun x s1 => (ev Φ gc b s1).bind fun y s2 => Out.of (rngD x y) s2 := rfl
@[simp] theorem ev_enm {a : Ex} : ev Φ gc (.enm a) s = (ev Φ gc a s).bind fun x s1 => Out.of ((seqD x).map fun xs => .lst (enumL 0 xs)) s1 := rfl
@[simp] theorem ev_zip {a b : Ex} : ev Φ gc (.zip a b) s = (ev Φ gc a s).bind fun x s1 => (ev Φ gc b s1).bind fun y s2 => Out.of (zipD x y) s2 := rfl
@[simp] theorem ev_enmzip {a b : Ex} : ev Φ gc (.enmzip a b) s = (ev Φ gc a s).bind fun x s1 => (ev Φ gc b s1).bind fun y s2 => Out.of (ezipD x y) s2 := rfl
/-- the answer of _law_result -/
def resO (rs : List Nat) (s : S) (o : Out D) : Out D := match o with
  | .ok d s1 => .ok (.tup [.str "returns", d]) { s with τ := s1.τ }
  | .exc c τ => if rs.contains c then .ok (.tup [.str (errN.getD c "")]) { s with τ := τ } else .bad
  | .bad => .bad
@[simp] theorem resO_ok {rs : List Nat} {d : D} {s1 : S} : resO rs s (.ok d s1) = .ok (.tup [.str "returns", d]) { s with τ := s1.τ } := rfl
@[simp] theorem resO_exc {rs : List Nat} {c : Nat} {τ : Town} : resO rs s (.exc c τ) = if rs.contains c then .ok (.tup [.str (errN.getD c "")]) { s with τ := τ } else .bad := rfl
@[simp] theorem ev_res {rs : List Nat} {e : Ex} : ev Φ gc (.res rs e) s = resO rs s (ev Φ gc e { s with ρ := s.ρ.map Slot.lend }) := rfl
@[simp] theorem ev_index {o k : Ex} : ev Φ gc (.index o k) s = (rd Φ gc o s).bind fun x s1 => if isL x then (ev Φ gc k s1).bind fun y s2 => (reread o x s2).bind fun x' s3 => lstK x' (fun xs => if xs.all (D.okb DEP) && D.okb DEP y then Out.of ((indexOf y xs 0).map fun n => .int n) s3 else .bad) .bad else .bad := by
  show (rd Φ gc o s).bind _ = _
  congr 1
  funext x s1
  by_cases h : isL x = true
  · rw [if_pos h, if_pos h]
    congr 1
    funext y s2
    congr 1
    funext x' s3
    cases x' with
    | lst xs =>
      show (if _ then _ else _) = (if _ then _ else _)
      congr 1
      cases indexOf y xs 0 <;> rfl
    | _ => rfl
  · rw [if_neg h, if_neg h]
@[simp] theorem ev_get {o k d : Ex} : ev Φ gc (.get o k d) s = (rd Φ gc o s).bind fun x s1 => if isDc x then (ev Φ gc k s1).bind fun y s2 => (ev Φ gc d s2).bind fun z s3 => (reread o x s3).bind fun x' s4 => dctK x' (fun n kvs => if keyOf n y then .ok ((look kvs y).getD z) s4 else .bad) .bad else .bad := rfl
@[simp] theorem evT_eq {e : Ex} : evT Φ gc e s = (rd Φ gc e s).bind asTest := rfl
/-! statements -/
@[simp] theorem ex_nop : ex Φ gc .nop s = .next s := rfl
@[simp] theorem ex_seq {a b : Sm} : ex Φ gc (.seq a b) s = (ex Φ gc a s).bind (ex Φ gc b) := rfl
@[simp] theorem ex_set {i : Nat} {e : Ex} : ex Φ gc (.set i e) s = (ev Φ gc e s).so fun d s1 => setS i (.val d) s1 := rfl
@[simp] theorem ex_own {i : Nat} {e : Ex} : ex Φ gc (.own i e) s = (ev Φ gc e s).so fun d s1 => optK (ownOf d) (fun v => setS i v s1) .bad := by
  show (ev Φ gc e s).so _ = _
  congr 1
  funext d s1
  unfold optK
  cases ownOf d <;> rfl
@[simp] theorem ex_unp {p : Pat} {e : Ex} : ex Φ gc (.unp p e) s = (ev Φ gc e s).so fun d s1 => optK (bindP p [d] s1.ρ) (fun ρ => .next { s1 with ρ := ρ }) .bad := by
  show (ev Φ gc e s).so _ = _
  congr 1
  funext d s1
  unfold optK
  cases bindP p [d] s1.ρ <;> rfl
@[simp] theorem ex_par {ts : List (Nat × Bool)} {e : Ex} : ex Φ gc (.par ts e) s = (ev Φ gc e s).so fun r s1 => tupK r (fun ds => optK (parS ts ds s1.ρ) (fun ρ => .next { s1 with ρ := ρ }) .bad) .bad := by
  show (ev Φ gc e s).so _ = _
  congr 1
  funext r s1
  unfold tupK optK
  cases r <;> first | rfl | (rename_i ds; dsimp only; generalize parS ts ds s1.ρ = o; cases o <;> rfl)
@[simp] theorem ex_app {i : Nat} {e : Ex} : ex Φ gc (.app i e) s = slotK s.ρ[i]? (fun _ => .bad) (fun _ => (ev Φ gc e s).so fun d s1 => slotK s1.ρ[i]? (fun _ => .bad) (fun ds => if ds.length < LIM then .next { s1 with ρ := s1.ρ.set i (.lst (ds ++ [d])) } else .bad) (fun _ _ => .bad) .bad) (fun _ _ => .bad) .bad := by
  unfold ex slotK
  cases s.ρ[i]? with
  | none => rfl
  | some x =>
    cases x with
    | lst ds0 =>
      show (ev Φ gc e s).so _ = (ev Φ gc e s).so _
      congr 1
      funext d s1
      cases s1.ρ[i]? with
      | none => rfl
      | some y => cases y <;> rfl
    | _ => rfl
@[simp] theorem ex_aug {i : Nat} {e : Ex} : ex Φ gc (.aug i e) s = slotK s.ρ[i]? (fun v => intK v (fun n => (ev Φ gc e s).so fun d s1 => intK d (fun m => setS i (.val (.int (n + m))) s1) .bad) .bad) (fun _ => .bad) (fun _ _ => .bad) .bad := by
  unfold ex slotK intK
  cases s.ρ[i]? with
  | none => rfl
  | some x =>
    cases x with
    | val d => cases d <;> rfl
    | _ => rfl
@[simp] theorem ex_pop {i j : Nat} : ex Φ gc (.pop i j) s = slotK s.ρ[j]? (fun _ => .bad) (fun ds => optK ds.getLast? (fun d => if i ≠ j then setS i (.val d) { s with ρ := s.ρ.set j (.lst ds.dropLast) } else .bad) .bad) (fun _ _ => .bad) .bad := by
  unfold ex slotK optK
  cases s.ρ[j]? with
  | none => rfl
  | some x =>
    cases x with
    | lst ds => dsimp only; generalize ds.getLast? = o; cases o <;> rfl
    | _ => rfl
@[simp] theorem seqD_l {es : List D} : seqD (.lst es) = some es := rfl
@[simp] theorem seqD_t {es : List D} : seqD (.tup es) = some es := rfl
@[simp] theorem ex_ext {i : Nat} {e : Ex} : ex Φ gc (.ext i e) s = slotK s.ρ[i]? (fun _ => .bad) (fun _ => (ev Φ gc e s).so fun d s1 => slotK s1.ρ[i]? (fun _ => .bad) (fun ds => optK (seqD d) (fun es => if ds.length + es.length ≤ LIM then .next { s1 with ρ := s1.ρ.set i (.lst (ds ++ es)) } else .bad) .bad) (fun _ _ => .bad) .bad) (fun _ _ => .bad) .bad := by
  unfold ex slotK
  cases s.ρ[i]? with
  | none => rfl
  | some x =>
    cases x with
    | lst ds0 =>
      show (ev Φ gc e s).so _ = (ev Φ gc e s).so _
      congr 1
      funext d s1
      cases s1.ρ[i]? with
      | none => rfl
      | some y => cases y <;> first | rfl | (unfold optK; dsimp only; cases seqD d <;> rfl)
    | _ => rfl
@[simp] theorem ex_sti {i : Nat} {k e : Ex} : ex Φ gc (.sti i k e) s = (ev Φ gc e s).so fun d s1 => if (s1.ρ.getD i .emp).plain then .bad else (ev Φ gc k s1).so fun y s2 => slotK s2.ρ[i]? (fun _ => .bad) (fun ds => intK y (fun n => optK (L2.ixN ds.length n) (fun j => .next { s2 with ρ := s2.ρ.set i (.lst (ds.set j d)) }) .bad) .bad)
    (fun n kvs => if keyOf n y && decide (kvs.length < LIM) then .next { s2 with ρ := s2.ρ.set i (.dct n (store kvs y d)) } else .bad) .bad := by
  show (ev Φ gc e s).so _ = _
  congr 1
  funext d s1
  by_cases h : (s1.ρ.getD i .emp).plain = true
  · rw [if_pos h, if_pos h]
  · rw [if_neg h, if_neg h]
    congr 1
    funext y s2
    unfold slotK intK optK
    cases s2.ρ[i]? with
    | none => rfl
    | some x =>
      cases x with
      | lst ds =>
        cases y <;> first | rfl | (dsimp only; rename_i n; generalize L2.ixN ds.length n = o; cases o <;> rfl)
      | _ => rfl
@[simp] theorem ex_exp {e : Ex} : ex Φ gc (.exp e) s = (ev Φ gc e s).so fun _ s1 => .next s1 := rfl
@[simp] theorem ex_ret {e : Ex} : ex Φ gc (.ret e) s = (ev Φ gc e s).so fun d s1 => .ret d s1 := rfl
@[simp] theorem ex_ife {c : Ex} {a b : Sm} : ex Φ gc (.ife c a b) s = (evT Φ gc c s).so fun k s1 => if k then ex Φ gc a s1 else ex Φ gc b s1 := rfl
@[simp] theorem ex_whl {n : Nat} {c : Ex} {b : Sm} : ex Φ gc (.whl n c b) s = whlL (evT Φ gc c) (ex Φ gc b) n s := rfl
/-- one turn of a for -/
def forB (Φ : Nat → Fn) (gc : Nat → D) (p : Pat) (b : Sm) : D → S → SO := fun d s2 => match bindP p [d] s2.ρ with
  | some ρ => ex Φ gc b { s2 with ρ := ρ }
  | none => .bad
theorem forB_eq {p : Pat} {b : Sm} {d : D} : forB Φ gc p b d s = optK (bindP p [d] s.ρ) (fun ρ => ex Φ gc b { s with ρ := ρ }) .bad := by
  unfold forB optK
  cases bindP p [d] s.ρ <;> rfl
@[simp] theorem ex_forE {p : Pat} {it : Ex} {b : Sm} : ex Φ gc (.for_ p it b) s = (ev Φ gc it s).so fun x s1 => optK (items x) (fun xs => forL (forB Φ gc p b) xs s1) .bad := by
  show (ev Φ gc it s).so _ = _
  congr 1
  funext x s1
  unfold optK
  cases items x <;> rfl
@[simp] theorem ex_rse {c : Nat} : ex Φ gc (.rse c) s = .exc c s.τ := rfl
@[simp] theorem ex_cnt : ex Φ gc .cnt s = .cnt s := rfl
@[simp] theorem ex_brk : ex Φ gc .brk s = .brk s := rfl
@[simp] theorem setS_eq {i : Nat} {v : Slot} : setS i v s = if i < s.ρ.length then .next { s with ρ := s.ρ.set i v } else .bad := rfl
@[simp] theorem ownOf_lst {ds : List D} : ownOf (.lst ds) = some (.lst ds) := rfl
@[simp] theorem ownOf_dct {n : Bool} {ds : List (D × D)} : ownOf (.dct n ds) = some (.dct n ds) := rfl
@[simp] theorem items_lst {ds : List D} : items (.lst ds) = some ds := rfl
@[simp] theorem items_tup {ds : List D} : items (.tup ds) = some ds := rfl
@[simp] theorem items_dct {n : Bool} {kvs : List (D × D)} : items (.dct n kvs) = some (kvs.map (·.1)) := rfl
@[simp] theorem forL_nil {f : D → S → SO} : forL f [] s = .next s := rfl
theorem forL_cons {f : D → S → SO} {x : D} {xs : List D} : forL f (x :: xs) s = match f x s with
    | .next s1 => forL f xs s1
    | .cnt s1 => forL f xs s1
    | .brk s1 => .next s1
    | o => o := rfl
@[simp] theorem bp_nm {i : Nat} {d : D} {ρ : List Slot} : bindP (.nm i) [d] ρ = if i < ρ.length then some (ρ.set i (.val d)) else none := rfl
@[simp] theorem bp_pn {ρ : List Slot} : bindP .pn [] ρ = some ρ := rfl
@[simp] theorem bp_pc {p q : Pat} {d : D} {ds : List D} {ρ : List Slot} : bindP (.pc p q) (d :: ds) ρ = (bindP p [d] ρ).bind (bindP q ds) := rfl
@[simp] theorem bp_tp {p : Pat} {ds : List D} {ρ : List Slot} : bindP (.tp p) [.tup ds] ρ = bindP p ds ρ := rfl
end
/-! operators -/
theorem okDEP_int {i : Int} : D.okb DEP (.int i) = true := rfl
theorem okDEP_bl {i : Bool} : D.okb DEP (.bl i) = true := rfl
theorem okDEP_non : D.okb DEP .non = true := rfl
section
variable {i j : Int} {xs ys : List D} {x y : D}
@[simp] theorem bin_add_ii : binD .add (.int i) (.int j) = some (.int (i + j)) := rfl
@[simp] theorem bin_sub_ii : binD .sub (.int i) (.int j) = some (.int (i - j)) := rfl
@[simp] theorem bin_mul_ii : binD .mul (.int i) (.int j) = if smallI i then some (.int (i * j)) else none := rfl
@[simp] theorem bin_fdiv_ii : binD .fdiv (.int i) (.int j) = if 0 < j ∧ j.natAbs < 1073741824 then some (.int (i / j)) else none := rfl
@[simp] theorem bin_mod_ii : binD .mod (.int i) (.int j) = if 0 < j then some (.int (i % j)) else none := rfl
@[simp] theorem bin_add_tt : binD .add (.tup xs) (.tup ys) = if xs.length + ys.length ≤ LIM then some (.tup (xs ++ ys)) else none := rfl
@[simp] theorem bin_add_ll : binD .add (.lst xs) (.lst ys) = if xs.length + ys.length ≤ LIM then some (.lst (xs ++ ys)) else none := rfl
@[simp] theorem bin_mul_ti : binD .mul (.tup xs) (.int i) = if 2 ≤ i ∧ i ≤ 1000 ∧ 0 < xs.length ∧ xs.length ≤ 1000 then some (.tup (List.replicate i.toNat xs).flatten) else none := rfl
@[simp] theorem bin_mul_li : binD .mul (.lst xs) (.int i) = if 0 ≤ i ∧ i ≤ 1000 ∧ xs.length ≤ 1000 then some (.lst (List.replicate i.toNat xs).flatten) else none := rfl
@[simp] theorem eqb_ii : D.eqb (.int i) (.int j) = decide (i = j) := by simp [D.eqb]; by_cases h : i = j <;> simp [h]
theorem cmp_eq_def : cmpD .eq x y = if D.okb DEP x && D.okb DEP y then some (D.eqb x y) else none := by simp only [cmpD]
theorem cmp_ne_def : cmpD .ne x y = if D.okb DEP x && D.okb DEP y then some (!D.eqb x y) else none := by simp only [cmpD]
@[simp] theorem cmp_eq_ii : cmpD .eq (.int i) (.int j) = some (decide (i = j)) := by rw [cmp_eq_def, eqb_ii, okDEP_int, okDEP_int]; rfl
@[simp] theorem cmp_ne_ii : cmpD .ne (.int i) (.int j) = some (!decide (i = j)) := by rw [cmp_ne_def, eqb_ii, okDEP_int, okDEP_int]; rfl
@[simp] theorem cmp_lt_ii : cmpD .lt (.int i) (.int j) = some (decide (i < j)) := rfl
@[simp] theorem cmp_le_ii : cmpD .le (.int i) (.int j) = some (decide (i ≤ j)) := rfl
@[simp] theorem cmp_gt_ii : cmpD .gt (.int i) (.int j) = some (decide (j < i)) := rfl
@[simp] theorem cmp_ge_ii : cmpD .ge (.int i) (.int j) = some (decide (j ≤ i)) := rfl
theorem cmp_eq_of (h1 : D.okb DEP x = true) (h2 : D.okb DEP y = true) : cmpD .eq x y = some (D.eqb x y) := by rw [cmp_eq_def, h1, h2]; rfl
theorem cmp_ne_of (h1 : D.okb DEP x = true) (h2 : D.okb DEP y = true) : cmpD .ne x y = some (!D.eqb x y) := by rw [cmp_ne_def, h1, h2]; rfl
@[simp] theorem cmp_in : cmpD .in_ x y = isIn x y := by cases x <;> cases y <;> rfl
@[simp] theorem cmp_nin : cmpD .nin x y = (isIn x y).map (!·) := by cases x <;> cases y <;> rfl
@[simp] theorem idx_t : idxD (.tup xs) (.int i) = L2.atI xs i := rfl
@[simp] theorem idx_l : idxD (.lst xs) (.int i) = L2.atI xs i := rfl
@[simp] theorem atI_c {α : Type} {l : List α} {n : Nat} : L2.atI l (n : Int) = l[n]? := by
  cases h : l[n]? with
  | some v => exact L2.atI_nat h
  | none =>
    have : l.length ≤ n := by simpa using h
    unfold L2.atI L2.ixN
    rw [if_pos (by omega), if_neg (by omega)]
    rfl
@[simp] theorem atI_0 {α : Type} {l : List α} : L2.atI l 0 = l[0]? := atI_c (n := 0)
@[simp] theorem atI_1 {α : Type} {l : List α} : L2.atI l 1 = l[1]? := atI_c (n := 1)
@[simp] theorem atI_2 {α : Type} {l : List α} : L2.atI l 2 = l[2]? := atI_c (n := 2)
@[simp] theorem atI_3 {α : Type} {l : List α} : L2.atI l 3 = l[3]? := atI_c (n := 3)
@[simp] theorem len_l : prim1 .len (.lst xs) = some (.int xs.length) := rfl
@[simp] theorem len_t : prim1 .len (.tup xs) = some (.int xs.length) := rfl
@[simp] theorem tuple_l : prim1 .tuple (.lst xs) = some (.tup xs) := rfl
@[simp] theorem tuple_t : prim1 .tuple (.tup xs) = some (.tup xs) := rfl
@[simp] theorem list_l : prim1 .list (.lst xs) = some (.lst xs) := rfl
@[simp] theorem list_t : prim1 .list (.tup xs) = some (.lst xs) := rfl
@[simp] theorem all_l : prim1 .all (.lst xs) = (bools xs).map fun bs => .bl (bs.all id) := rfl
@[simp] theorem any_l : prim1 .any (.lst xs) = (bools xs).map fun bs => .bl (bs.any id) := rfl
@[simp] theorem rev_t : prim1 .rev (.tup xs) = some (.tup xs.reverse) := rfl
@[simp] theorem list_d {n : Bool} {kvs : List (D × D)} : prim1 .list (.dct n kvs) = some (.lst (kvs.map (·.1))) := rfl
@[simp] theorem neg_i : prim1 .neg (.int i) = some (.int (-i)) := rfl
@[simp] theorem slc_t {l h : Option Int} : slcD (.tup xs) l h = some (.tup (cut xs l h)) := rfl
@[simp] theorem slc_l {l h : Option Int} : slcD (.lst xs) l h = some (.lst (cut xs l h)) := rfl
@[simp] theorem isL_l : isL (.lst xs) = true := rfl
@[simp] theorem isDc_d {n : Bool} {kvs : List (D × D)} : isDc (.dct n kvs) = true := rfl
@[simp] theorem isTy_t {t : Ty} : isTy t (.tup xs) = some (match t with | .tuple_ => true | _ => false) := by cases t <;> rfl
@[simp] theorem isTy_l {t : Ty} : isTy t (.lst xs) = some (match t with | .list_ => true | _ => false) := by cases t <;> rfl
@[simp] theorem isTy_i {t : Ty} : isTy t (.int i) = some (match t with | .int_ => true | _ => false) := by cases t <;> rfl
@[simp] theorem isTy_b {t : Ty} {b : Bool} : isTy t (.bl b) = some (match t with | .int_ => true | .bool_ => true | _ => false) := by cases t <;> rfl
@[simp] theorem isTy_n {t : Ty} : isTy t .non = some false := by cases t <;> rfl
@[simp] theorem isTy_s {t : Ty} {b : Str} : isTy t (.str b) = some (match t with | .str_ => true | _ => false) := by cases t <;> rfl
@[simp] theorem plain_emp : Slot.emp.plain = true := rfl
@[simp] theorem plain_val {d : D} : (Slot.val d).plain = true := rfl
@[simp] theorem plain_lst {d : List D} : (Slot.lst d).plain = false := rfl
@[simp] theorem plain_dct {n : Bool} {d : List (D × D)} : (Slot.dct n d).plain = false := rfl
@[simp] theorem lend_val {d : D} : (Slot.val d).lend = .val d := rfl
@[simp] theorem lend_lst {d : List D} : (Slot.lst d).lend = .emp := rfl
@[simp] theorem lend_dct {n : Bool} {d : List (D × D)} : (Slot.dct n d).lend = .emp := rfl
@[simp] theorem lend_emp : Slot.emp.lend = .emp := rfl
@[simp] theorem phi_zero {F : Fn} {fs : List Fn} : phi (F :: fs) 0 = F := rfl
@[simp] theorem phi_succ {F : Fn} {fs : List Fn} {n : Nat} : phi (F :: fs) (n + 1) = phi fs n := rfl
end
mutual
theorem eqb_refl : ∀ (n : Nat) (d : D), D.okb n d = true → D.eqb d d = true
  | 0, _, h => by cases h
  | n + 1, d, h => by
    cases d with
    | tup xs => simp only [D.eqb]; exact eqbs_refl n xs (by simpa [D.okb] using h)
    | lst xs => simp only [D.eqb]; exact eqbs_refl n xs (by simpa [D.okb] using h)
    | dct _ _ => simp [D.okb] at h
    | tok _ => simp [D.okb] at h
    | _ => simp [D.eqb]
theorem eqbs_refl : ∀ (n : Nat) (xs : List D), (∀ x ∈ xs, D.okb n x = true) → D.eqbs xs xs = true
  | _, [], _ => by simp [D.eqbs]
  | n, x :: xs, h => by
    simp only [D.eqbs, Bool.and_eq_true]
    exact ⟨eqb_refl n x (h x (by simp)), eqbs_refl n xs fun y hy => h y (by simp [hy])⟩
end
theorem cmp_ne_same {d : D} (h : D.okb DEP d = true) : cmpD .ne d d = some false := by
  rw [cmp_ne_of h h, eqb_refl _ d h]
  rfl
theorem cmp_eq_same {d : D} (h : D.okb DEP d = true) : cmpD .eq d d = some true := by
  rw [cmp_eq_of h h, eqb_refl _ d h]
/-! loops -/
/-- a for over a list whose turns all go on -/
theorem forL_inv {f : D → S → SO} (I : List D → S → Prop) {xs : List D} {s : S} (h0 : I [] s) (hs : ∀ pre x suf s, xs = pre ++ x :: suf → I pre s → ∃ s', f x s = .next s' ∧ I (pre ++ [x]) s') : ∃ s', forL f xs s = .next s' ∧ I xs s' := by
  have go : ∀ (suf pre : List D) (s : S), xs = pre ++ suf → I pre s → ∃ s', forL f suf s = .next s' ∧ I xs s' := by
    intro suf
    induction suf with
    | nil => intro pre s e h; rw [List.append_nil] at e; subst e; exact ⟨s, rfl, h⟩
    | cons x suf ih =>
      intro pre s e h
      obtain ⟨s1, h1, h2⟩ := hs pre x suf s e h
      obtain ⟨s2, h3, h4⟩ := ih (pre ++ [x]) s1 (by rw [e, List.append_assoc]; rfl) h2
      refine ⟨s2, ?_, h4⟩
      rw [forL_cons, h1]
      exact h3
  exact go xs [] s rfl h0
inductive All2 {α β : Type} (R : α → β → Prop) : List α → List β → Prop
  | nil : All2 R [] []
  | cons {a : α} {b : β} {as : List α} {bs : List β} : R a b → All2 R as bs → All2 R (a :: as) (b :: bs)
/-- each item becomes a datum -/
theorem lcL_map {f : D → S → Out (Option D)} {g : S → S} (I : S → Prop) (R : D → D → Prop) : ∀ {xs acc : List D} {s : S}, I s → (∀ x ∈ xs, ∀ s, I s → ∃ d s', f x (g s) = .ok (some d) s' ∧ R x d ∧ I s') → ∃ ys s', lcL f g xs acc s = .ok (acc ++ ys) s' ∧ All2 R xs ys ∧ I s'
  | [], acc, s, h, _ => ⟨[], s, by rw [List.append_nil]; rfl, .nil, h⟩
  | x :: xs, acc, s, h, hs => by
    obtain ⟨d, s1, h1, h2, h3⟩ := hs x (by simp) s h
    obtain ⟨ys, s2, h4, h5, h6⟩ := lcL_map (xs := xs) (acc := acc ++ [d]) I R h3 (fun x hx => hs x (by simp [hx]))
    refine ⟨d :: ys, s2, ?_, .cons h2 h5, h6⟩
    unfold lcL
    rw [h1]
    show lcL f g xs (acc ++ [d]) s1 = _
    rw [h4, List.append_assoc]
    rfl
/-- .. the same state at each turn -/
theorem lcL_pure {f : D → S → Out (Option D)} {g : S → S} {F : D → D} : ∀ {xs acc : List D} {s : S}, (∀ x ∈ xs, ∃ s', f x (g s) = .ok (some (F x)) s' ∧ ∀ y, f y (g s') = f y (g s)) → ∃ s', lcL f g xs acc s = .ok (acc ++ xs.map F) s' ∧ (xs = [] → s' = s)
  | [], acc, s, _ => ⟨s, by rw [List.map_nil, List.append_nil]; rfl, fun _ => rfl⟩
  | x :: xs, acc, s, hs => by
    obtain ⟨s1, h1, h2⟩ := hs x (by simp)
    obtain ⟨s2, h3, _⟩ := lcL_pure (f := f) (g := g) (F := F) (xs := xs) (acc := acc ++ [F x]) (s := s1) (fun y hy => by
      obtain ⟨s', k1, k2⟩ := hs y (by simp [hy])
      exact ⟨s', by rw [h2]; exact k1, fun z => by rw [k2, h2]⟩)
    refine ⟨s2, ?_, fun z => by cases z⟩
    unfold lcL
    rw [h1]
    show lcL f g xs (acc ++ [F x]) s1 = _
    rw [h3, List.map_cons, List.append_assoc]
    rfl
/-- a while: an invariant and a measure -/
theorem whlL_inv {c : S → Out Bool} {f : S → SO} (I : S → Prop) (μ : S → Nat) {Post : S → Prop} (hs : ∀ s, I s → (∃ s1, c s = .ok false s1 ∧ Post s1) ∨ ∃ s1 s2, c s = .ok true s1 ∧ f s1 = .next s2 ∧ I s2 ∧ μ s2 < μ s) : ∀ (n : Nat) (s : S), I s → μ s < n → ∃ s', whlL c f n s = .next s' ∧ Post s'
  | 0, s, _, h => absurd h (Nat.not_lt_zero _)
  | n + 1, s, hI, h => by
    rcases hs s hI with ⟨s1, h1, h2⟩ | ⟨s1, s2, h1, h2, h3, h4⟩
    · exact ⟨s1, by unfold whlL; rw [h1]; rfl, h2⟩
    · obtain ⟨s', k1, k2⟩ := whlL_inv I μ hs n s2 h3 (by omega)
      refine ⟨s', ?_, k2⟩
      unfold whlL
      rw [h1]
      show (match f s1 with
        | .next s2 => whlL c f n s2
        | .cnt s2 => whlL c f n s2
        | .brk s2 => .next s2
        | o => o) = _
      rw [h2]
      exact k1
end Mn

set_option Elab.async false
set_option linter.all false
set_option maxRecDepth 100000
set_option maxHeartbeats 1000000
namespace Mn
open PySem
/-! ### comprehensions -/
theorem setW_at {α : Type} {f : Nat → α} {l : List α} : ∀ {w : List Nat} {i : Nat}, (setW f l w)[i]? = if i ∈ w ∧ i < l.length then some (f i) else l[i]?
  | [], i => by simp [setW]
  | v :: vs, i => by
    have hl : ∀ vs : List Nat, (setW f l vs).length = l.length := fun vs => by
      induction vs with
      | nil => rfl
      | cons a vs ih => simp [setW, ih]
    unfold setW
    rw [List.getElem?_set, setW_at, hl]
    by_cases e : v = i
    · subst e
      by_cases h : v < l.length
      · simp [h]
      · simp [h]
    · rw [if_neg e]
      simp [Ne.symm e]
theorem setW_n {α : Type} {f : Nat → α} {l : List α} {w : List Nat} : (setW f l w).length = l.length := by
  induction w with
  | nil => rfl
  | cons a vs ih => simp [setW, ih]
theorem back_of {ρ ρ0 : List Slot} {w : List Nat} (h : wipeS ρ w = wipeS ρ0 w) : backS ρ ρ0 w = ρ0 := by
  have hl : ρ.length = ρ0.length := by
    have := congrArg List.length h
    simpa [wipeS, setW_n] using this
  apply List.ext_getElem?
  intro i
  unfold backS
  rw [setW_at]
  split
  · rename_i c
    have : i < ρ0.length := by omega
    simp [List.getD_eq_getElem?_getD, List.getElem?_eq_getElem this]
  · rename_i c
    have := congrArg (fun l => l[i]?) h
    simp only [wipeS, setW_at] at this
    by_cases hi : i ∈ w ∧ i < ρ.length
    · exact absurd hi c
    · rw [if_neg hi, if_neg (by rw [← hl]; exact hi)] at this
      exact this
theorem S.ext' {s t : S} (h1 : s.ρ = t.ρ) (h2 : s.τ = t.τ) : s = t := by
  cases s; cases t; cases h1; cases h2; rfl
/-- a comprehension that draws nothing: what each turn gives -/
theorem lc_opt {f : D → S → Out (Option D)} {w : List Nat} {s1 : S} {F : D → Option D} : ∀ {xs acc : List D} {s : S}, s.τ = s1.τ → wipeS s.ρ w = wipeS s1.ρ w → (∀ x ∈ xs, ∃ s', f x { s1 with ρ := wipeS s1.ρ w } = .ok (F x) s' ∧ s'.τ = s1.τ ∧ wipeS s'.ρ w = wipeS s1.ρ w) →
    (lcL f (fun s2 => { s2 with ρ := wipeS s2.ρ w }) xs acc s).bind (fun ys s5 => .ok (D.lst ys) { s5 with ρ := backS s5.ρ s1.ρ w }) = .ok (D.lst (acc ++ xs.filterMap F)) s1
  | [], acc, s, h1, h2, _ => by
    show Out.ok (D.lst acc) { s with ρ := backS s.ρ s1.ρ w } = _
    rw [List.filterMap_nil, List.append_nil, back_of h2]
    exact congrArg _ (S.ext' rfl h1)
  | x :: xs, acc, s, h1, h2, h => by
    obtain ⟨s', k1, k2, k3⟩ := h x (by simp)
    have e : ({ s with ρ := wipeS s.ρ w } : S) = { s1 with ρ := wipeS s1.ρ w } := S.ext' h2 h1
    unfold lcL
    rw [e, k1]
    cases q : F x with
    | none =>
      show (lcL f _ xs acc s').bind _ = _
      rw [lc_opt k2 k3 fun y hy => h y (by simp [hy]), List.filterMap_cons_none q]
    | some d =>
      show (lcL f _ xs (acc ++ [d]) s').bind _ = _
      rw [lc_opt k2 k3 fun y hy => h y (by simp [hy]), List.filterMap_cons_some q, List.append_assoc]
      rfl
theorem lc_pure {f : D → S → Out (Option D)} {w : List Nat} {s1 : S} (F : D → D) {xs : List D} (h : ∀ x ∈ xs, ∃ s', f x { s1 with ρ := wipeS s1.ρ w } = .ok (some (F x)) s' ∧ s'.τ = s1.τ ∧ wipeS s'.ρ w = wipeS s1.ρ w) :
    (lcL f (fun s2 => { s2 with ρ := wipeS s2.ρ w }) xs [] s1).bind (fun ys s5 => .ok (D.lst ys) { s5 with ρ := backS s5.ρ s1.ρ w }) = .ok (D.lst (xs.map F)) s1 := by
  rw [lc_opt (F := fun x => some (F x)) rfl rfl h, List.nil_append]
  congr 2
  exact List.filterMap_eq_map ▸ rfl
theorem lc_optM {α : Type} {f : D → S → Out (Option D)} {w : List Nat} {s1 : S} {g : α → D} {F : α → Option D} : ∀ {xs : List α} {acc : List D} {s : S}, s.τ = s1.τ → wipeS s.ρ w = wipeS s1.ρ w → (∀ x ∈ xs, ∃ s', f (g x) { s1 with ρ := wipeS s1.ρ w } = .ok (F x) s' ∧ s'.τ = s1.τ ∧ wipeS s'.ρ w = wipeS s1.ρ w) →
    (lcL f (fun s2 => { s2 with ρ := wipeS s2.ρ w }) (xs.map g) acc s).bind (fun ys s5 => .ok (D.lst ys) { s5 with ρ := backS s5.ρ s1.ρ w }) = .ok (D.lst (acc ++ xs.filterMap F)) s1
  | [], acc, s, h1, h2, _ => by
    show Out.ok (D.lst acc) { s with ρ := backS s.ρ s1.ρ w } = _
    rw [List.filterMap_nil, List.append_nil, back_of h2]
    exact congrArg _ (S.ext' rfl h1)
  | x :: xs, acc, s, h1, h2, h => by
    obtain ⟨s', k1, k2, k3⟩ := h x (by simp)
    have e : ({ s with ρ := wipeS s.ρ w } : S) = { s1 with ρ := wipeS s1.ρ w } := S.ext' h2 h1
    rw [List.map_cons]
    unfold lcL
    rw [e, k1]
    cases q : F x with
    | none =>
      show (lcL f _ (xs.map g) acc s').bind _ = _
      rw [lc_optM k2 k3 fun y hy => h y (by simp [hy]), List.filterMap_cons_none q]
    | some d =>
      show (lcL f _ (xs.map g) (acc ++ [d]) s').bind _ = _
      rw [lc_optM k2 k3 fun y hy => h y (by simp [hy]), List.filterMap_cons_some q, List.append_assoc]
      rfl
theorem lc_map {α : Type} {f : D → S → Out (Option D)} {w : List Nat} {s1 : S} {g : α → D} (F : α → D) {xs : List α} (h : ∀ x ∈ xs, ∃ s', f (g x) { s1 with ρ := wipeS s1.ρ w } = .ok (some (F x)) s' ∧ s'.τ = s1.τ ∧ wipeS s'.ρ w = wipeS s1.ρ w) :
    (lcL f (fun s2 => { s2 with ρ := wipeS s2.ρ w }) (xs.map g) [] s1).bind (fun ys s5 => .ok (D.lst ys) { s5 with ρ := backS s5.ρ s1.ρ w }) = .ok (D.lst (xs.map F)) s1 := by
  rw [lc_optM (F := fun x => some (F x)) rfl rfl h, List.nil_append]
  congr 2
  exact List.filterMap_eq_map ▸ rfl
theorem cut_take {α : Type} {l : List α} {i : Nat} : cut l none (some (i : Int)) = l.take i := by
  unfold cut
  rw [HT.sIx_nat, HT.sIx_none, List.drop_zero, Nat.sub_zero]
  rcases Nat.lt_or_ge i l.length with h | h
  · rw [Nat.min_eq_left (by omega)]
  · rw [Nat.min_eq_right h, List.take_of_length_le (Nat.le_refl _), List.take_of_length_le h]
theorem cut_drop {α : Type} {l : List α} {i : Nat} : cut l (some (i : Int)) none = l.drop i := by
  unfold cut
  rw [HT.sIx_nat, HT.sIx_none]
  rcases Nat.lt_or_ge i l.length with h | h
  · rw [Nat.min_eq_left (by omega), List.take_of_length_le (by rw [List.length_drop]; omega)]
  · rw [Nat.min_eq_right h, Nat.sub_self, List.take_zero, List.drop_eq_nil_of_le h]
theorem cut_drop1 {α : Type} {l : List α} {i : Nat} : cut l (some ((i : Int) + 1)) none = l.drop (i + 1) := by
  rw [show (i : Int) + 1 = ((i + 1 : Nat) : Int) by omega, cut_drop]
theorem bools_map {xs : List D} {g : D → Bool} : bools (xs.map fun x => .bl (g x)) = some (xs.map g) := by
  induction xs with
  | nil => rfl
  | cons x xs ih => simp [bools, ih]
/-! ### loops over states that are told by an index -/
theorem whl_ix {ι : Type} {c : S → Out Bool} {f : S → SO} (st : ι → S) (I : ι → Prop) (μ : ι → Nat) {Post : S → Prop} (hs : ∀ i, I i → (∃ s1, c (st i) = .ok false s1 ∧ Post s1) ∨ ∃ s1 j, c (st i) = .ok true s1 ∧ f s1 = .next (st j) ∧ I j ∧ μ j < μ i) : ∀ (n : Nat) (i : ι), I i → μ i < n → ∃ s', whlL c f n (st i) = .next s' ∧ Post s'
  | 0, i, _, h => absurd h (Nat.not_lt_zero _)
  | n + 1, i, hI, h => by
    rcases hs i hI with ⟨s1, h1, h2⟩ | ⟨s1, j, h1, h2, h3, h4⟩
    · exact ⟨s1, by unfold whlL; rw [h1]; rfl, h2⟩
    · obtain ⟨s', k1, k2⟩ := whl_ix st I μ hs n j h3 (by omega)
      refine ⟨s', ?_, k2⟩
      unfold whlL
      rw [h1]
      show (match f s1 with
        | .next s2 => whlL c f n s2
        | .cnt s2 => whlL c f n s2
        | .brk s2 => .next s2
        | o => o) = _
      rw [h2]
      exact k1
theorem forL_fold {α ι : Type} {f : D → S → SO} (st : ι → S) (g : α → D) (step : ι → α → ι) (I : ι → Prop) : ∀ {xs : List α} {i : ι}, I i → (∀ a ∈ xs, ∀ i, I i → f (g a) (st i) = .next (st (step i a)) ∧ I (step i a)) → forL f (xs.map g) (st i) = .next (st (xs.foldl step i)) ∧ I (xs.foldl step i)
  | [], i, h, _ => ⟨rfl, h⟩
  | a :: xs, i, h, hs => by
    obtain ⟨h1, h2⟩ := hs a (by simp) i h
    have := forL_fold (f := f) st g step I (xs := xs) h2 fun b hb => hs b (by simp [hb])
    rw [List.map_cons, forL_cons, h1]
    exact this
theorem range_map {α β : Type} (l : List α) (d : α) (g : α → β) : l.map g = (List.range l.length).map fun i => g (l.getD i d) := by
  apply List.ext_getElem?
  intro i
  by_cases h : i < l.length
  · rw [List.getElem?_map, List.getElem?_map, List.getElem?_range h, List.getElem?_eq_getElem h, Option.map_some, Option.map_some, List.getD_eq_getElem?_getD, List.getElem?_eq_getElem h]
    rfl
  · rw [List.getElem?_eq_none (by simpa using h), List.getElem?_eq_none (by simpa using h)]
theorem whl_then {ι : Type} {c : S → Out Bool} {f : S → SO} (st : ι → S) (I : ι → Prop) (μ : ι → Nat) (Post : S → Prop) (i : ι) {n : Nat} {s : S} {k : S → SO} {r : SO} (hst : s = st i) (hI : I i) (hn : μ i < n) (hs : ∀ i, I i → (∃ s1, c (st i) = .ok false s1 ∧ Post s1) ∨ ∃ s1 j, c (st i) = .ok true s1 ∧ f s1 = .next (st j) ∧ I j ∧ μ j < μ i)
    (hk : ∀ s', Post s' → k s' = r) : (whlL c f n s).bind k = r := by
  obtain ⟨s', h1, h2⟩ := whl_ix st I μ hs n i hI hn
  rw [hst, h1]
  exact hk s' h2
theorem whl_rs {ι : Type} {c : S → Out Bool} {f : S → SO} (st : ι → S) (I : ι → Prop) (μ : ι → Nat) (Post : S → Prop) (i : ι) {n : Nat} {s : S} {k : S → SO} {r : Rs} (hst : s = st i) (hI : I i) (hn : μ i < n) (hs : ∀ i, I i → (∃ s1, c (st i) = .ok false s1 ∧ Post s1) ∨ ∃ s1 j, c (st i) = .ok true s1 ∧ f s1 = .next (st j) ∧ I j ∧ μ j < μ i)
    (hk : ∀ s', Post s' → toRs (k s') = r) : toRs ((whlL c f n s).bind k) = r := by
  obtain ⟨s', h1, h2⟩ := whl_ix st I μ hs n i hI hn
  rw [hst, h1]
  exact hk s' h2
theorem for_rs {α ι : Type} {f : D → S → SO} (st : ι → S) (g : α → D) (step : ι → α → ι) (I : ι → Prop) (xs : List α) (i : ι) {ys : List D} {s : S} {k : S → SO} {r : Rs} (hy : ys = xs.map g) (hst : s = st i) (hI : I i) (hs : ∀ a ∈ xs, ∀ i, I i → f (g a) (st i) = .next (st (step i a)) ∧ I (step i a))
    (hk : I (xs.foldl step i) → toRs (k (st (xs.foldl step i))) = r) : toRs ((forL f ys s).bind k) = r := by
  obtain ⟨h1, h2⟩ := forL_fold (f := f) st g step I (xs := xs) hI hs
  rw [hy, hst, h1]
  exact hk h2
theorem for_then {α ι : Type} {f : D → S → SO} (st : ι → S) (g : α → D) (step : ι → α → ι) (I : ι → Prop) (xs : List α) (i : ι) {ys : List D} {s : S} {k : S → SO} {r : SO} (hy : ys = xs.map g) (hst : s = st i) (hI : I i) (hs : ∀ a ∈ xs, ∀ i, I i → f (g a) (st i) = .next (st (step i a)) ∧ I (step i a))
    (hk : I (xs.foldl step i) → k (st (xs.foldl step i)) = r) : (forL f ys s).bind k = r := by
  obtain ⟨h1, h2⟩ := forL_fold (f := f) st g step I (xs := xs) hI hs
  rw [hy, hst, h1]
  exact hk h2
/-! ### loops whose states are told by what holds of them -/
theorem forL_ex {f : D → S → SO} (I : Nat → S → Prop) : ∀ {xs : List D} {s : S} (k : Nat), I k s → (∀ (j : Nat) (x : D) (s : S), xs[j]? = some x → I (k + j) s → ∃ s', f x s = .next s' ∧ I (k + j + 1) s') → ∃ s', forL f xs s = .next s' ∧ I (k + xs.length) s'
  | [], s, k, h, _ => ⟨s, rfl, h⟩
  | x :: xs, s, k, h, hs => by
    obtain ⟨s1, h1, h2⟩ := hs 0 x s rfl h
    obtain ⟨s2, h3, h4⟩ := forL_ex (f := f) I (xs := xs) (s := s1) (k + 1) h2 (fun j y s hy hI => by
      have := hs (j + 1) y s (by simpa using hy) (by rw [show k + (j + 1) = k + 1 + j by omega]; exact hI)
      rw [show k + (j + 1) + 1 = k + 1 + j + 1 by omega] at this
      exact this)
    refine ⟨s2, ?_, ?_⟩
    · rw [forL_cons, h1]; exact h3
    · rw [List.length_cons, show k + (xs.length + 1) = k + 1 + xs.length by omega]; exact h4
/-- it goes on, to a state of which J holds -/
def Goes (o : SO) (J : S → Prop) : Prop := ∃ s', o = .next s' ∧ J s'
theorem Goes.next {s : S} {J : S → Prop} (h : J s) : Goes (.next s) J := ⟨s, rfl, h⟩
/-- it answers, with a datum and a town of which J holds -/
def Ans (o : Rs) (J : D → Town → Prop) : Prop := ∃ d τ, o = .ok d τ ∧ J d τ
theorem Ans.ok {d : D} {τ : Town} {J : D → Town → Prop} (h : J d τ) : Ans (.ok d τ) J := ⟨d, τ, rfl, h⟩
theorem for_P {f : D → S → SO} (I : Nat → S → Prop) {xs : List D} {s : S} {k : S → SO} {P : SO → Prop} (h0 : I 0 s) (hs : ∀ (j : Nat) (x : D) (s : S), xs[j]? = some x → I j s → Goes (f x s) (I (j + 1))) (hk : ∀ s', I xs.length s' → P (k s')) : P ((forL f xs s).bind k) := by
  obtain ⟨s', h1, h2⟩ := forL_ex (f := f) I (xs := xs) 0 h0 fun j x s hx hI => by
    rw [Nat.zero_add] at hI ⊢
    exact hs j x s hx hI
  rw [Nat.zero_add] at h2
  rw [h1]
  exact hk s' h2
theorem for_goes {f : D → S → SO} (I : Nat → S → Prop) {xs : List D} {s : S} {k : S → SO} {J : S → Prop} (h0 : I 0 s) (hs : ∀ (j : Nat) (x : D) (s : S), xs[j]? = some x → I j s → Goes (f x s) (I (j + 1))) (hk : ∀ s', I xs.length s' → Goes (k s') J) : Goes ((forL f xs s).bind k) J := for_P (P := fun o => Goes o J) I h0 hs hk
theorem for_ans {f : D → S → SO} (I : Nat → S → Prop) {xs : List D} {s : S} {k : S → SO} {J : D → Town → Prop} (h0 : I 0 s) (hs : ∀ (j : Nat) (x : D) (s : S), xs[j]? = some x → I j s → Goes (f x s) (I (j + 1))) (hk : ∀ s', I xs.length s' → Ans (toRs (k s')) J) : Ans (toRs ((forL f xs s).bind k)) J := for_P (P := fun o => Ans (toRs o) J) I h0 hs hk
/-- a comprehension: what each turn does -/
theorem lcL_ex {f : D → S → Out (Option D)} {g : S → S} (I : Nat → List D → S → Prop) : ∀ {xs acc : List D} {s : S} (k : Nat), I k acc s → (∀ (j : Nat) (x : D) (acc : List D) (s : S), xs[j]? = some x → I (k + j) acc s → ∃ o s', f x (g s) = .ok o s' ∧ I (k + j + 1) (acc ++ o.toList) s') → ∃ ys s', lcL f g xs acc s = .ok ys s' ∧ I (k + xs.length) ys s'
  | [], acc, s, k, h, _ => ⟨acc, s, rfl, h⟩
  | x :: xs, acc, s, k, h, hs => by
    obtain ⟨o, s1, h1, h2⟩ := hs 0 x acc s rfl h
    obtain ⟨ys, s2, h3, h4⟩ := lcL_ex (f := f) (g := g) I (xs := xs) (acc := acc ++ o.toList) (s := s1) (k + 1) h2 (fun j y acc s hy hI => by
      have := hs (j + 1) y acc s (by simpa using hy) (by rw [show k + (j + 1) = k + 1 + j by omega]; exact hI)
      rw [show k + (j + 1) + 1 = k + 1 + j + 1 by omega] at this
      exact this)
    refine ⟨ys, s2, ?_, ?_⟩
    · unfold lcL
      rw [h1]
      cases o with
      | none => rw [Option.toList, List.append_nil] at h3; exact h3
      | some d => exact h3
    · rw [List.length_cons, show k + (xs.length + 1) = k + 1 + xs.length by omega]; exact h4
theorem lc_P {f : D → S → Out (Option D)} {w : List Nat} {s1 : S} (I : Nat → List D → S → Prop) {xs : List D} {P : Out D → Prop} (h0 : I 0 [] s1) (hs : ∀ (j : Nat) (x : D) (acc : List D) (s : S), xs[j]? = some x → I j acc s → ∃ o s', f x { s with ρ := wipeS s.ρ w } = .ok o s' ∧ I (j + 1) (acc ++ o.toList) s')
    (hk : ∀ ys s', I xs.length ys s' → P (.ok (.lst ys) { s' with ρ := backS s'.ρ s1.ρ w })) : P ((lcL f (fun s2 => { s2 with ρ := wipeS s2.ρ w }) xs [] s1).bind (fun ys s5 => .ok (D.lst ys) { s5 with ρ := backS s5.ρ s1.ρ w })) := by
  obtain ⟨ys, s', h1, h2⟩ := lcL_ex (f := f) (g := fun s2 => { s2 with ρ := wipeS s2.ρ w }) I (xs := xs) 0 h0 fun j x acc s hx hI => by
    rw [Nat.zero_add] at hI ⊢
    exact hs j x acc s hx hI
  rw [Nat.zero_add] at h2
  rw [h1]
  exact hk ys s' h2
theorem forL_P {f : D → S → SO} (I : Nat → S → Prop) {xs : List D} {s : S} {P : SO → Prop} (h0 : I 0 s) (hs : ∀ (j : Nat) (x : D) (s : S), xs[j]? = some x → I j s → Goes (f x s) (I (j + 1))) (hk : ∀ s', I xs.length s' → P (.next s')) : P (forL f xs s) := by
  obtain ⟨s', h1, h2⟩ := forL_ex (f := f) I (xs := xs) 0 h0 fun j x s hx hI => by
    rw [Nat.zero_add] at hI ⊢
    exact hs j x s hx hI
  rw [Nat.zero_add] at h2
  rw [h1]
  exact hk s' h2
theorem lcL_P {f : D → S → Out (Option D)} {g : S → S} (I : Nat → List D → S → Prop) {xs : List D} {s : S} {P : Out (List D) → Prop} (h0 : I 0 [] s) (hs : ∀ (j : Nat) (x : D) (acc : List D) (s : S), xs[j]? = some x → I j acc s → ∃ o s', f x (g s) = .ok o s' ∧ I (j + 1) (acc ++ o.toList) s') (hk : ∀ ys s', I xs.length ys s' → P (.ok ys s')) : P (lcL f g xs [] s) := by
  obtain ⟨ys, s', h1, h2⟩ := lcL_ex (f := f) (g := g) I (xs := xs) 0 h0 fun j x acc s hx hI => by
    rw [Nat.zero_add] at hI ⊢
    exact hs j x acc s hx hI
  rw [Nat.zero_add] at h2
  rw [h1]
  exact hk ys s' h2
end Mn

set_option Elab.async false
set_option linter.all false
set_option maxRecDepth 100000
set_option maxHeartbeats 1000000
/-! data types in plain Lean -/
namespace Mn
open PySem
structure Md where
  n : Nat
  ops : List (List (Nat × Nat))
structure Md.Ok (M : Md) : Prop where
  n1 : 1 ≤ M.n
  n8 : M.n ≤ 8
  o1 : 1 ≤ M.ops.length
  o6 : M.ops.length ≤ 6
  row : ∀ r ∈ M.ops, r.length = M.n ∧ ∀ e ∈ r, e.1 < M.n ∧ e.2 ≤ 3
def iD (n : Nat) : D := .int n
def pairD (e : Nat × Nat) : D := .tup [.int e.1, .int e.2]
def rowD (r : List (Nat × Nat)) : D := .tup (r.map pairD)
def Md.d (M : Md) : D := .tup [.int M.n, .tup (M.ops.map rowD)]
@[simp] theorem idx_md1 {M : Md} : idxD M.d (.int 1) = some (.tup (M.ops.map rowD)) := rfl
@[simp] theorem idx_md0 {M : Md} : idxD M.d (.int 0) = some (.int M.n) := rfl
@[simp] theorem list_md {M : Md} : prim1 .list M.d = some (.lst [.int M.n, .tup (M.ops.map rowD)]) := rfl
@[simp] theorem slc_md {M : Md} : slcD M.d none (some 1) = some (.tup [.int M.n]) := rfl
/-- the row of operation o -/
def Md.row (M : Md) (o : Nat) : List (Nat × Nat) := M.ops.getD o []
/-- where operation o leads from q, and its response -/
def Md.nx (M : Md) (o q : Nat) : Nat := ((M.ops.getD o []).getD q (0, 0)).1
def Md.rs (M : Md) (o q : Nat) : Nat := ((M.ops.getD o []).getD q (0, 0)).2
section
variable {M : Md}
theorem Md.Ok.rowLen (h : M.Ok) {o : Nat} (ho : o < M.ops.length) : (M.ops.getD o []).length = M.n := by
  rw [List.getD_eq_getElem?_getD, List.getElem?_eq_getElem ho]
  exact (h.row _ (List.getElem_mem ho)).1
theorem Md.Ok.cell (h : M.Ok) {o q : Nat} (ho : o < M.ops.length) (hq : q < M.n) : M.nx o q < M.n ∧ M.rs o q ≤ 3 := by
  have hl := h.rowLen ho
  have hm : (M.ops.getD o []).getD q (0, 0) ∈ M.ops.getD o [] := by
    rw [List.getD_eq_getElem?_getD (l := M.ops.getD o []), List.getElem?_eq_getElem (by omega)]
    exact List.getElem_mem _
  have hr : M.ops.getD o [] ∈ M.ops := by
    rw [List.getD_eq_getElem?_getD, List.getElem?_eq_getElem ho]
    exact List.getElem_mem ho
  exact (h.row _ hr).2 _ hm
theorem row_get {o : Nat} (ho : o < M.ops.length) : M.ops[o]? = some (M.row o) := by
  unfold Md.row
  rw [List.getD_eq_getElem?_getD, List.getElem?_eq_getElem ho]
  rfl
theorem cell_get (h : M.Ok) {o q : Nat} (ho : o < M.ops.length) (hq : q < M.n) : (M.row o)[q]? = some (M.nx o q, M.rs o q) := by
  have hl := h.rowLen ho
  unfold Md.nx Md.rs Md.row
  rw [List.getD_eq_getElem?_getD (l := M.ops.getD o []), List.getElem?_eq_getElem (by omega)]
  rfl
theorem ops_rows : M.ops.map rowD = (List.range M.ops.length).map fun o => rowD (M.row o) := range_map _ [] _
theorem row_at {o : Nat} (ho : o < M.ops.length) : (M.ops.map rowD)[o]? = some (.tup ((M.ops.getD o []).map pairD)) := by
  rw [List.getElem?_map, List.getD_eq_getElem?_getD, List.getElem?_eq_getElem ho]
  rfl
theorem cell_at (h : M.Ok) {o q : Nat} (ho : o < M.ops.length) (hq : q < M.n) : ((M.ops.getD o []).map pairD)[q]? = some (.tup [.int (M.nx o q), .int (M.rs o q)]) := by
  have hl := h.rowLen ho
  unfold Md.nx Md.rs
  rw [List.getElem?_map, List.getD_eq_getElem?_getD (l := M.ops.getD o []), List.getElem?_eq_getElem (by omega)]
  rfl
theorem ops_len : (M.ops.map rowD).length = M.ops.length := List.length_map ..
end
/-! ### what is ordered -/
theorem okb_succ : ∀ {n : Nat} {d : D}, D.okb n d = true → D.okb (n + 1) d = true
  | 0, _, h => by cases h
  | n + 1, d, h => by
    cases d <;> first | exact h | rfl | skip
    · rename_i xs
      simp only [D.okb, List.all_eq_true] at h ⊢
      exact fun x hx => okb_succ (h x hx)
    · rename_i xs
      simp only [D.okb, List.all_eq_true] at h ⊢
      exact fun x hx => okb_succ (h x hx)
theorem okb_le {n m : Nat} {d : D} (h : D.okb n d = true) (hm : n ≤ m) : D.okb m d = true := by
  obtain ⟨k, rfl⟩ : ∃ k, m = n + k := ⟨m - n, by omega⟩
  clear hm
  induction k with
  | zero => exact h
  | succ k ih => exact okb_succ ih
theorem ok_int {i : Int} : D.okb 1 (.int i) = true := rfl
theorem ok_tup {n : Nat} {xs : List D} (h : ∀ x ∈ xs, D.okb n x = true) : D.okb (n + 1) (.tup xs) = true := by
  simpa [D.okb] using h
theorem ok_lst {n : Nat} {xs : List D} (h : ∀ x ∈ xs, D.okb n x = true) : D.okb (n + 1) (.lst xs) = true := by
  simpa [D.okb] using h
theorem ok_pair {e : Nat × Nat} : D.okb 2 (pairD e) = true := rfl
theorem ok_row {r : List (Nat × Nat)} : D.okb 3 (rowD r) = true := ok_tup fun x hx => by
  obtain ⟨e, _, rfl⟩ := List.mem_map.mp hx
  exact ok_pair
theorem ok_md {M : Md} : D.okb 5 M.d = true := ok_tup fun x hx => by
  simp only [List.mem_cons, List.not_mem_nil, or_false] at hx
  rcases hx with rfl | rfl
  · exact okb_le ok_int (by decide)
  · refine ok_tup fun y hy => ?_
    obtain ⟨r, _, rfl⟩ := List.mem_map.mp hy
    exact ok_row
/-! ### membership in lists of numbers -/
theorem in_nats {q : Nat} {f : List Nat} : isIn (.int q) (.lst (f.map iD)) = some (decide (q ∈ f)) := by
  have h1 : ((f.map iD).all (D.okb DEP)) = true := by
    rw [List.all_map]
    exact List.all_eq_true.mpr fun x _ => rfl
  show (if (D.okb DEP (.int q) && (f.map iD).all (D.okb DEP)) = true then _ else _) = _
  rw [h1, okDEP_int]
  simp only [Bool.and_self, if_true, Option.some.injEq]
  induction f with
  | nil => rfl
  | cons x f ih =>
    rw [List.map_cons, List.any_cons, ih (by rw [List.all_map]; exact List.all_eq_true.mpr fun x _ => rfl)]
    have : D.eqb (iD x) (.int q) = decide (x = q) := by
      unfold iD
      rw [eqb_ii]
      exact decide_eq_decide.mpr ⟨fun h => by omega, fun h => by omega⟩
    rw [this]
    by_cases e : x = q
    · subst e; simp
    · simp [e, Ne.symm e]
/-! ### the states that are found -/
def addN (f : List Nat) (q : Nat) : List Nat := if q ∈ f then f else f ++ [q]
def turnF (M : Md) (f : List Nat) (q : Nat) : List Nat := (List.range M.ops.length).foldl (fun f o => addN f (M.nx o q)) f
def bfs (M : Md) : Nat → List Nat → Nat → List Nat
  | 0, f, _ => f
  | k + 1, f, a => match f[a]? with
    | none => f
    | some q => bfs M k (turnF M f q) (a + 1)
def foundS (M : Md) : List Nat := bfs M 9 [0] 0
inductive Reach (M : Md) : Nat → Prop
  | zero : Reach M 0
  | step {q o : Nat} : Reach M q → o < M.ops.length → Reach M (M.nx o q)
/-- how a list of found states is kept -/
structure Fnd (M : Md) (f : List Nat) (a : Nat) : Prop where
  nd : f.Nodup
  lt : ∀ q ∈ f, q < M.n
  re : ∀ q ∈ f, Reach M q
  z : f[0]? = some 0
  cl : ∀ (i q : Nat), i < a → f[i]? = some q → ∀ o, o < M.ops.length → M.nx o q ∈ f
theorem addN_mem {f : List Nat} {q x : Nat} : x ∈ addN f q ↔ x ∈ f ∨ x = q := by
  unfold addN
  split
  · rename_i h
    constructor
    · exact .inl
    · rintro (h' | rfl)
      · exact h'
      · exact h
  · simp
theorem addN_pre {f : List Nat} {q : Nat} : ∃ t, addN f q = f ++ t := by
  unfold addN
  split
  · exact ⟨[], by simp⟩
  · exact ⟨[q], rfl⟩
theorem addN_nd {f : List Nat} {q : Nat} (h : f.Nodup) : (addN f q).Nodup := by
  unfold addN
  split
  · exact h
  · rename_i c
    exact List.nodup_append.mpr ⟨h, by simp, fun a ha b hb e => by simp at hb; subst hb; subst e; exact c ha⟩
theorem fold_add {g : Nat → Nat} : ∀ (l : List Nat) (f : List Nat), (∃ t, l.foldl (fun f o => addN f (g o)) f = f ++ t) ∧ (∀ x, x ∈ l.foldl (fun f o => addN f (g o)) f ↔ x ∈ f ∨ ∃ o ∈ l, x = g o) ∧ (f.Nodup → (l.foldl (fun f o => addN f (g o)) f).Nodup)
  | [], f => ⟨⟨[], by simp⟩, fun x => by simp, fun h => h⟩
  | o :: l, f => by
    obtain ⟨⟨t, h1⟩, h2, h3⟩ := fold_add (g := g) l (addN f (g o))
    obtain ⟨t', ht⟩ := addN_pre (f := f) (q := g o)
    refine ⟨⟨t' ++ t, by rw [List.foldl_cons, h1, ht, List.append_assoc]⟩, fun x => ?_, fun h => h3 (addN_nd h)⟩
    rw [List.foldl_cons, h2, addN_mem]
    constructor
    · rintro ((h | h) | ⟨o', ho', h⟩)
      · exact .inl h
      · exact .inr ⟨o, by simp, h⟩
      · exact .inr ⟨o', by simp [ho'], h⟩
    · rintro (h | ⟨o', ho', h⟩)
      · exact .inl (.inl h)
      · rcases List.mem_cons.mp ho' with rfl | z
        · exact .inl (.inr h)
        · exact .inr ⟨o', z, h⟩
theorem Fnd.turn {M : Md} {f : List Nat} {a q : Nat} (hM : M.Ok) (h : Fnd M f a) (hq : f[a]? = some q) : Fnd M (turnF M f q) (a + 1) := by
  obtain ⟨⟨t, h1⟩, h2, h3⟩ := fold_add (g := fun o => M.nx o q) (List.range M.ops.length) f
  have e : turnF M f q = f ++ t := h1
  have hm : ∀ x, x ∈ turnF M f q ↔ x ∈ f ∨ ∃ o ∈ List.range M.ops.length, x = M.nx o q := h2
  have ql : q < M.n := h.lt q (List.mem_of_getElem? hq)
  have qr : Reach M q := h.re q (List.mem_of_getElem? hq)
  have old : ∀ {i x : Nat}, i < f.length → (turnF M f q)[i]? = some x → f[i]? = some x := fun {i x} hi hx => by
    rw [e, List.getElem?_append_left hi] at hx
    exact hx
  refine ⟨h3 h.nd, fun x hx => ?_, fun x hx => ?_, ?_, fun i x hi hx o ho => ?_⟩
  · rcases (hm x).mp hx with z | ⟨o, ho, rfl⟩
    · exact h.lt x z
    · exact (hM.cell (List.mem_range.mp ho) ql).1
  · rcases (hm x).mp hx with z | ⟨o, ho, rfl⟩
    · exact h.re x z
    · exact .step qr (List.mem_range.mp ho)
  · have hl : 0 < f.length := (List.getElem?_eq_some_iff.mp h.z).1
    rw [e, List.getElem?_append_left hl]
    exact h.z
  · have hal : a < f.length := (List.getElem?_eq_some_iff.mp hq).1
    by_cases hia : i = a
    · subst hia
      have := old hal hx
      rw [hq] at this
      cases this
      exact (hm _).mpr (.inr ⟨o, List.mem_range.mpr ho, rfl⟩)
    · exact (hm _).mpr (.inl (h.cl i x (by omega) (old (by omega) hx) o ho))
/-- distinct numbers below n are at most n -/
theorem nodup_le : ∀ (n : Nat) (l : List Nat), l.Nodup → (∀ x ∈ l, x < n) → l.length ≤ n := fun n l nd h => by
  have := few_of n (l.map fun x : Nat => (x : Int)) (by
    rw [List.nodup_iff_pairwise_ne, List.pairwise_map]
    exact nd.imp fun h e => h (by omega)) fun x hx => by
    obtain ⟨y, hy, rfl⟩ := List.mem_map.mp hx
    have := h y hy
    omega
  simpa using this
theorem bfs_fnd {M : Md} (hM : M.Ok) : ∀ (k : Nat) (f : List Nat) (a : Nat), Fnd M f a → a ≤ f.length → M.n < k + a → ∃ a', Fnd M (bfs M k f a) a' ∧ (bfs M k f a).length ≤ a'
  | 0, f, a, h, ha, hk => by
    have := nodup_le M.n f h.nd h.lt
    omega
  | k + 1, f, a, h, ha, hk => by
    unfold bfs
    cases q : f[a]? with
    | none => exact ⟨a, h, by simpa using q⟩
    | some x =>
      have h' := h.turn hM q
      have hal : a < f.length := (List.getElem?_eq_some_iff.mp q).1
      obtain ⟨⟨t, h1⟩, _, _⟩ := fold_add (g := fun o => M.nx o x) (List.range M.ops.length) f
      have e : turnF M f x = f ++ t := h1
      exact bfs_fnd hM k _ (a + 1) h' (by rw [e, List.length_append]; omega) (by omega)
theorem fnd0 {M : Md} (hM : M.Ok) : Fnd M [0] 0 :=
  ⟨by simp, fun q hq => by simp at hq; subst hq; exact hM.n1, fun q hq => by simp at hq; subst hq; exact .zero, rfl, fun i q hi => absurd hi (by omega)⟩
theorem found_fnd {M : Md} (hM : M.Ok) : ∃ a, Fnd M (foundS M) a ∧ (foundS M).length ≤ a := bfs_fnd hM 9 [0] 0 (fnd0 hM) (by simp) (by have := hM.n8; omega)
theorem found_mem {M : Md} (hM : M.Ok) {q : Nat} : q ∈ foundS M ↔ Reach M q := by
  obtain ⟨a, h, hl⟩ := found_fnd hM
  refine ⟨h.re q, fun r => ?_⟩
  induction r with
  | zero => exact List.mem_of_getElem? h.z
  | @step q o _ ho ih =>
    obtain ⟨i, hi⟩ := List.getElem?_of_mem ih
    have := (List.getElem?_eq_some_iff.mp hi).1
    exact h.cl i q (by omega) hi o ho
theorem found_nd {M : Md} (hM : M.Ok) : (foundS M).Nodup := by
  obtain ⟨a, h, hl⟩ := found_fnd hM
  exact h.nd
theorem Reach.lt {M : Md} (hM : M.Ok) {q : Nat} (h : Reach M q) : q < M.n := by
  obtain ⟨a, hf, _⟩ := found_fnd hM
  exact hf.lt q ((found_mem hM).mpr h)
end Mn

set_option Elab.async false
set_option linter.all false
set_option maxRecDepth 100000
set_option maxHeartbeats 1000000
namespace Mn
open PySem
/-! ### sorting, whatever the order -/
section
variable {α : Type} {lt : α → α → Prop} [DecidableRel lt]
def insG (lt : α → α → Prop) [DecidableRel lt] (x : α) : List α → List α
  | [] => [x]
  | y :: ys => if lt y x then y :: insG lt x ys else x :: y :: ys
def sortG (lt : α → α → Prop) [DecidableRel lt] : List α → List α
  | [] => []
  | x :: xs => insG lt x (sortG lt xs)
theorem insD_emb {e : α → D} (h : ∀ a b, D.ltb DEP (e a) (e b) = decide (lt a b)) {x : α} : ∀ {f : List α}, insD (e x) (f.map e) = (insG lt x f).map e
  | [] => rfl
  | y :: f => by
    simp only [List.map_cons, insD, insG, h, decide_eq_true_eq]
    split
    · rw [List.map_cons, insD_emb h]
    · rfl
theorem sortL_emb {e : α → D} (h : ∀ a b, D.ltb DEP (e a) (e b) = decide (lt a b)) : ∀ {f : List α}, sortL (f.map e) = (sortG lt f).map e
  | [] => rfl
  | x :: f => by simp only [List.map_cons, sortL, sortG]; rw [sortL_emb h, insD_emb h]
theorem insG_mem {x y : α} : ∀ {f : List α}, y ∈ insG lt x f ↔ y = x ∨ y ∈ f
  | [] => by simp [insG]
  | z :: f => by
    unfold insG
    split
    · rw [List.mem_cons, insG_mem, List.mem_cons]
      constructor
      · rintro (h | h | h)
        · exact .inr (.inl h)
        · exact .inl h
        · exact .inr (.inr h)
      · rintro (h | h | h)
        · exact .inr (.inl h)
        · exact .inl h
        · exact .inr (.inr h)
    · simp
theorem sortG_mem {y : α} : ∀ {f : List α}, y ∈ sortG lt f ↔ y ∈ f
  | [] => Iff.rfl
  | x :: f => by rw [sortG, insG_mem, sortG_mem, List.mem_cons]
/-- a strict order of all -/
structure Ord (lt : α → α → Prop) : Prop where
  irr : ∀ a, ¬ lt a a
  tr : ∀ a b c, lt a b → lt b c → lt a c
  tot : ∀ a b, ¬ lt a b → a ≠ b → lt b a
theorem insG_sorted (o : Ord lt) {x : α} : ∀ {f : List α}, f.Pairwise lt → x ∉ f → (insG lt x f).Pairwise lt
  | [], _, _ => by simp [insG]
  | z :: f, h, hx => by
    rw [List.pairwise_cons] at h
    simp only [List.mem_cons, not_or] at hx
    unfold insG
    split
    · rename_i c
      rw [List.pairwise_cons]
      refine ⟨fun y hy => ?_, insG_sorted o h.2 hx.2⟩
      rcases insG_mem.mp hy with rfl | hy
      · exact c
      · exact h.1 y hy
    · rename_i c
      have xz : lt x z := o.tot z x c fun e => hx.1 e.symm
      rw [List.pairwise_cons]
      refine ⟨fun y hy => ?_, List.pairwise_cons.mpr h⟩
      rcases List.mem_cons.mp hy with rfl | hy
      · exact xz
      · exact o.tr _ _ _ xz (h.1 y hy)
theorem sortG_sorted (o : Ord lt) : ∀ {f : List α}, f.Nodup → (sortG lt f).Pairwise lt
  | [], _ => .nil
  | x :: f, h => by
    rw [List.nodup_cons] at h
    exact insG_sorted o (sortG_sorted o h.2) fun z => h.1 (sortG_mem.mp z)
end
/-- ascending lists with the same members are one -/
theorem asc_eq {α : Type} {lt : α → α → Prop} (irr : ∀ a, ¬ lt a a) (tr : ∀ a b c, lt a b → lt b c → lt a c) : ∀ {f g : List α}, f.Pairwise lt → g.Pairwise lt → (∀ x, x ∈ f ↔ x ∈ g) → f = g
  | [], [], _, _, _ => rfl
  | [], y :: g, _, _, h => absurd ((h y).mpr (by simp)) (by simp)
  | x :: f, [], _, _, h => absurd ((h x).mp (by simp)) (by simp)
  | x :: f, y :: g, hf, hg, h => by
    rw [List.pairwise_cons] at hf hg
    have e : x = y := by
      have h1 := (h x).mp (by simp)
      have h2 := (h y).mpr (by simp)
      rcases List.mem_cons.mp h1 with z | z
      · exact z
      · rcases List.mem_cons.mp h2 with z' | z'
        · exact z'.symm
        · exact absurd (tr _ _ _ (hg.1 x z) (hf.1 y z')) (irr _)
    subst e
    rw [asc_eq irr tr hf.2 hg.2 fun z => ⟨fun hz => ?_, fun hz => ?_⟩]
    · rcases List.mem_cons.mp ((h z).mp (by simp [hz])) with rfl | q
      · exact absurd (hf.1 z hz) (irr z)
      · exact q
    · rcases List.mem_cons.mp ((h z).mpr (by simp [hz])) with rfl | q
      · exact absurd (hg.1 z hz) (irr z)
      · exact q
theorem sortG_eq {α : Type} {lt : α → α → Prop} [DecidableRel lt] (o : Ord lt) {f g : List α} (hf : f.Nodup) (hg : g.Nodup) (h : ∀ x, x ∈ f ↔ x ∈ g) : sortG lt f = sortG lt g :=
  asc_eq o.irr o.tr (sortG_sorted o hf) (sortG_sorted o hg) fun x => by rw [sortG_mem, sortG_mem]; exact h x
/-! ### numbers -/
abbrev ltN : Nat → Nat → Prop := fun a b => a < b
theorem ordN : Ord ltN := ⟨fun a => Nat.lt_irrefl a, fun _ _ _ => Nat.lt_trans, fun a b h n => by unfold ltN at *; omega⟩
theorem ltb_ii {i j : Int} : D.ltb DEP (.int i) (.int j) = decide (i < j) := rfl
theorem ltb_nat (a b : Nat) : D.ltb DEP (iD a) (iD b) = decide (ltN a b) := by
  unfold iD
  rw [ltb_ii]
  exact decide_eq_decide.mpr ⟨fun h => by unfold ltN; omega, fun h => by unfold ltN at h; omega⟩
theorem alk_ints {i j : Int} : D.alk (.int i) (.int j) = true := by simp [D.alk]
theorem sortable_nats {f : List Nat} : sortable (f.map iD) = true := by
  unfold sortable
  simp only [Bool.and_eq_true, Bool.or_eq_true, List.all_eq_true, List.mem_map, forall_exists_index, and_imp, forall_apply_eq_imp_iff₂]
  exact ⟨⟨fun x _ => rfl, fun x _ y _ => alk_ints⟩, .inr fun x _ => rfl⟩
def sortN (f : List Nat) : List Nat := sortG ltN f
theorem sorted_nats {f : List Nat} : prim1 .sorted (.lst (f.map iD)) = some (.lst ((sortN f).map iD)) := by
  show (if sortable (f.map iD) then _ else _) = _
  rw [sortable_nats, sortL_emb ltb_nat]
  rfl
theorem sortN_mem {y : Nat} {f : List Nat} : y ∈ sortN f ↔ y ∈ f := sortG_mem
theorem sortN_sorted {f : List Nat} (h : f.Nodup) : (sortN f).Pairwise ltN := sortG_sorted ordN h
theorem sortN_eq {f g : List Nat} (hf : f.Nodup) (hg : g.Nodup) (h : ∀ x, x ∈ f ↔ x ∈ g) : sortN f = sortN g := sortG_eq ordN hf hg h
/-! ### pairs of numbers -/
abbrev ltP : Nat × Nat → Nat × Nat → Prop := fun a b => a.1 < b.1 ∨ (a.1 = b.1 ∧ a.2 < b.2)
theorem ordP : Ord ltP := ⟨fun a h => by rcases h with h | h <;> omega, fun a b c h1 h2 => by rcases h1 with h1 | h1 <;> rcases h2 with h2 | h2 <;> (unfold ltP; omega), fun a b h n => by
  have : ¬ (a.1 = b.1 ∧ a.2 = b.2) := fun z => n (Prod.ext z.1 z.2)
  unfold ltP at *
  omega⟩
theorem eqb_nat (a b : Nat) : D.eqb (iD a) (iD b) = decide (a = b) := by
  unfold iD
  rw [eqb_ii]
  exact decide_eq_decide.mpr ⟨fun h => by omega, fun h => by omega⟩
theorem eqb_pair (a b : Nat × Nat) : D.eqb (pairD a) (pairD b) = decide (a = b) := by
  have e : D.eqb (pairD a) (pairD b) = (D.eqb (iD a.1) (iD b.1) && (D.eqb (iD a.2) (iD b.2) && true)) := by simp [pairD, D.eqb, D.eqbs, iD]; rfl
  rw [e, eqb_nat, eqb_nat, Bool.and_true, ← Bool.decide_and]
  exact decide_eq_decide.mpr ⟨fun h => Prod.ext h.1 h.2, fun h => by rw [h]; exact ⟨rfl, rfl⟩⟩
theorem ltb_pair (a b : Nat × Nat) : D.ltb DEP (pairD a) (pairD b) = decide (ltP a b) := by
  have e : D.ltb DEP (pairD a) (pairD b) = if D.eqb (iD a.1) (iD b.1) then (if D.eqb (iD a.2) (iD b.2) then false else decide ((a.2 : Int) < b.2)) else decide ((a.1 : Int) < b.1) := rfl
  rw [e, eqb_nat, eqb_nat]
  by_cases h1 : a.1 = b.1
  · rw [if_pos (by simpa using h1)]
    by_cases h2 : a.2 = b.2
    · rw [if_pos (by simpa using h2)]
      exact (decide_eq_false (by unfold ltP; omega)).symm
    · rw [if_neg (by simpa using h2)]
      exact decide_eq_decide.mpr ⟨fun h => by unfold ltP; omega, fun h => by unfold ltP at h; omega⟩
  · rw [if_neg (by simpa using h1)]
    exact decide_eq_decide.mpr ⟨fun h => by unfold ltP; omega, fun h => by unfold ltP at h; omega⟩
theorem alk_pair {a b : Nat × Nat} : D.alk (pairD a) (pairD b) = true := by simp [pairD, D.alk, D.alks]
theorem sortable_pairs {f : List (Nat × Nat)} : sortable (f.map pairD) = true := by
  unfold sortable
  simp only [Bool.and_eq_true, Bool.or_eq_true, List.all_eq_true, List.mem_map, forall_exists_index, and_imp, forall_apply_eq_imp_iff₂]
  exact ⟨⟨fun x _ => rfl, fun x _ y _ => alk_pair⟩, .inl fun x _ => rfl⟩
def sortP (f : List (Nat × Nat)) : List (Nat × Nat) := sortG ltP f
theorem sorted_pairs {f : List (Nat × Nat)} : prim1 .sorted (.lst (f.map pairD)) = some (.lst ((sortP f).map pairD)) := by
  show (if sortable (f.map pairD) then _ else _) = _
  rw [sortable_pairs, sortL_emb ltb_pair]
  rfl
/-! ### sets as dicts -/
section
variable {α : Type} [DecidableEq α]
def addG (f : List α) (q : α) : List α := if q ∈ f then f else f ++ [q]
theorem addG_mem {f : List α} {q x : α} : x ∈ addG f q ↔ x ∈ f ∨ x = q := by
  unfold addG
  split
  · rename_i h
    constructor
    · exact .inl
    · rintro (h' | rfl)
      · exact h'
      · exact h
  · simp
theorem addG_nd {f : List α} {q : α} (h : f.Nodup) : (addG f q).Nodup := by
  unfold addG
  split
  · exact h
  · rename_i c
    exact List.nodup_append.mpr ⟨h, by simp, fun a ha b hb e => by simp at hb; subst hb; subst e; exact c ha⟩
theorem foldG {β : Type} {g : β → α} : ∀ (l : List β) (f : List α), (∀ x, x ∈ l.foldl (fun f o => addG f (g o)) f ↔ x ∈ f ∨ ∃ o ∈ l, x = g o) ∧ (f.Nodup → (l.foldl (fun f o => addG f (g o)) f).Nodup)
  | [], f => ⟨fun x => by simp, fun h => h⟩
  | o :: l, f => by
    obtain ⟨h2, h3⟩ := foldG (g := g) l (addG f (g o))
    refine ⟨fun x => ?_, fun h => h3 (addG_nd h)⟩
    rw [List.foldl_cons, h2, addG_mem]
    constructor
    · rintro ((h | h) | ⟨o', ho', h⟩)
      · exact .inl h
      · exact .inr ⟨o, by simp, h⟩
      · exact .inr ⟨o', by simp [ho'], h⟩
    · rintro (h | ⟨o', ho', h⟩)
      · exact .inl (.inl h)
      · rcases List.mem_cons.mp ho' with rfl | z
        · exact .inl (.inr h)
        · exact .inr ⟨o', z, h⟩
theorem find_any {β : Type} {p : β → Bool} : ∀ {l : List β}, (l.find? p).isSome = l.any p
  | [] => rfl
  | a :: l => by
    rw [List.find?_cons, List.any_cons]
    cases p a with
    | true => rfl
    | false => rw [Bool.false_or]; exact find_any
def kvT (e : α → D) (f : List α) : List (D × D) := f.map fun x => (e x, D.bl true)
theorem kvT_keys {e : α → D} {f : List α} : (kvT e f).map (·.1) = f.map e := by
  unfold kvT
  rw [List.map_map]
  rfl
theorem kvT_any {e : α → D} (h : ∀ a b, D.eqb (e a) (e b) = decide (a = b)) {a : α} : ∀ {f : List α}, ((kvT e f).any fun p => D.eqb p.1 (e a)) = decide (a ∈ f)
  | [] => rfl
  | b :: f => by
    have := kvT_any h (a := a) (f := f)
    unfold kvT at this ⊢
    rw [List.map_cons, List.any_cons, this, h]
    by_cases hb : b = a
    · subst hb; simp
    · simp [hb, Ne.symm hb]
theorem kvT_look {e : α → D} (h : ∀ a b, D.eqb (e a) (e b) = decide (a = b)) {a : α} {f : List α} : (look (kvT e f) (e a)).isSome = decide (a ∈ f) := by
  rw [← kvT_any h]
  unfold look
  rw [Option.isSome_map, find_any]
theorem kvT_store {e : α → D} (h : ∀ a b, D.eqb (e a) (e b) = decide (a = b)) {a : α} {f : List α} : store (kvT e f) (e a) (.bl true) = kvT e (addG f a) := by
  unfold store addG
  rw [kvT_any h]
  by_cases ha : a ∈ f
  · rw [if_pos (by simpa using ha), if_pos ha]
    unfold kvT
    rw [List.map_map]
    apply List.map_congr_left
    intro x _
    simp only [Function.comp]
    split <;> rfl
  · rw [if_neg (by simpa using ha), if_neg ha]
    simp [kvT]
end
end Mn

set_option Elab.async false
set_option linter.all false
set_option maxRecDepth 100000
set_option maxHeartbeats 1000000
namespace Mn
open PySem
theorem fold_fst {α β γ : Type} {g : β → α → β} {h : β × γ → α → γ} : ∀ (xs : List α) (i : β × γ), (xs.foldl (fun i a => (g i.1 a, h i a)) i).1 = xs.foldl g i.1
  | [], _ => rfl
  | a :: xs, i => by rw [List.foldl_cons, List.foldl_cons, fold_fst xs]
/-- the reachable states, ascending -/
def rch (M : Md) : List Nat := sortN (foundS M)
theorem rch_mem {M : Md} (hM : M.Ok) {q : Nat} : q ∈ rch M ↔ Reach M q := sortN_mem.trans (found_mem hM)
/-! ### the law's own search -/
structure Dfs (M : Md) (f w : List Nat) : Prop where
  nd : f.Nodup
  re : ∀ q ∈ f, Reach M q
  z : 0 ∈ f
  sub : ∀ q ∈ w, q ∈ f
  wl : w.length ≤ f.length
  cl : ∀ q ∈ f, q ∉ w → ∀ o, o < M.ops.length → M.nx o q ∈ f
def dfsT (M : Md) (q : Nat) : List Nat × List Nat → Nat → List Nat × List Nat := fun i o => if M.nx o q ∈ i.1 then i else (i.1 ++ [M.nx o q], i.2 ++ [M.nx o q])
theorem dfsT_fold {M : Md} {q : Nat} : ∀ (l : List Nat) (f w : List Nat), ∃ t, l.foldl (dfsT M q) (f, w) = (f ++ t, w ++ t) ∧ (∀ x ∈ t, ∃ o ∈ l, x = M.nx o q) ∧ (∀ o ∈ l, M.nx o q ∈ f ++ t) ∧ (f.Nodup → (f ++ t).Nodup)
  | [], f, w => ⟨[], by simp, by simp, by simp, by simp⟩
  | o :: l, f, w => by
    by_cases h : M.nx o q ∈ f
    · obtain ⟨t, h1, h2, h3, h4⟩ := dfsT_fold (M := M) (q := q) l f w
      refine ⟨t, by rw [List.foldl_cons]; unfold dfsT at h1 ⊢; rw [if_pos h]; exact h1, fun x hx => ?_, fun o' ho' => ?_, h4⟩
      · obtain ⟨o', ho', e⟩ := h2 x hx
        exact ⟨o', by simp [ho'], e⟩
      · rcases List.mem_cons.mp ho' with rfl | z
        · exact List.mem_append_left _ h
        · exact h3 o' z
    · obtain ⟨t, h1, h2, h3, h4⟩ := dfsT_fold (M := M) (q := q) l (f ++ [M.nx o q]) (w ++ [M.nx o q])
      refine ⟨M.nx o q :: t, ?_, fun x hx => ?_, fun o' ho' => ?_, fun nd => ?_⟩
      · rw [List.foldl_cons]
        have e : dfsT M q (f, w) o = (f ++ [M.nx o q], w ++ [M.nx o q]) := by unfold dfsT; rw [if_neg h]
        rw [e, h1]
        simp
      · rcases List.mem_cons.mp hx with rfl | z
        · exact ⟨o, by simp, rfl⟩
        · obtain ⟨o', ho', e⟩ := h2 x z
          exact ⟨o', by simp [ho'], e⟩
      · rcases List.mem_cons.mp ho' with rfl | z
        · simp
        · have := h3 o' z
          simpa using this
      · have : (f ++ [M.nx o q]).Nodup := List.nodup_append.mpr ⟨nd, by simp, fun a ha b hb e => by simp at hb; subst hb; subst e; exact h ha⟩
        have := h4 this
        simpa using this
theorem in_dct_nats {q : Nat} {f : List Nat} : isIn (.int q) (.dct false (kvT iD f)) = some (decide (q ∈ f)) := by
  show (if keyOf false (.int q) = true then some (look (kvT iD f) (iD q)).isSome else none) = _
  rw [kvT_look eqb_nat]
  rfl
theorem store_nats {q : Nat} {f : List Nat} : store (kvT iD f) (.int q) (.bl true) = kvT iD (addG f q) := kvT_store (e := iD) eqb_nat
theorem sorted_dct_nats {n : Bool} {f : List Nat} : prim1 .sorted (.dct n (kvT iD f)) = some (.lst ((sortN f).map iD)) := by
  show (if sortable ((kvT iD f).map (·.1)) then some (D.lst (sortL ((kvT iD f).map (·.1)))) else none) = _
  rw [kvT_keys]
  exact sorted_nats
theorem ne_nil {n : Nat} {xs : List D} (h : D.okb n (.lst xs) = true) (hn : n ≤ DEP) : cmpD .ne (.lst xs) (.lst []) = some (!xs.isEmpty) := by
  rw [cmp_ne_of (okb_le h hn) rfl]
  cases xs <;> simp [D.eqb, D.eqbs]
theorem ok_nats {f : List Nat} : D.okb 2 (.lst (f.map iD)) = true := ok_lst fun x hx => by
  obtain ⟨y, _, rfl⟩ := List.mem_map.mp hx
  rfl
theorem keyOf_int {i : Int} : keyOf false (.int i) = true := rfl
/-! ### events -/
def Evt (M : Md) (e : Nat × Nat) : Prop := e.1 < M.ops.length ∧ ∃ q, Reach M q ∧ M.rs e.1 q = e.2
theorem Evt.lt {M : Md} (hM : M.Ok) {e : Nat × Nat} (h : Evt M e) : e.1 < 6 ∧ e.2 < 4 := by
  obtain ⟨h1, q, hq, h2⟩ := h
  have := hM.o6
  have := (hM.cell h1 (hq.lt hM)).2
  omega
theorem pairs_few {f : List (Nat × Nat)} (nd : f.Nodup) (h : ∀ e ∈ f, e.1 < 6 ∧ e.2 < 4) : f.length ≤ 24 := by
  have := nodup_le 24 (f.map fun e => e.1 * 4 + e.2) (by
    rw [List.nodup_iff_pairwise_ne, List.pairwise_map]
    refine List.Pairwise.imp_of_mem (fun {a b} ha hb hab e => hab ?_) nd
    have h1 := h a ha
    have h2 := h b hb
    exact Prod.ext (by omega) (by omega)) fun x hx => by
    obtain ⟨e, he, rfl⟩ := List.mem_map.mp hx
    have := h e he
    omega
  simpa using this
def collR (M : Md) (f : List (Nat × Nat)) (q : Nat) : List (Nat × Nat) := (List.range M.ops.length).foldl (fun f o => addG f (o, M.rs o q)) f
def coll (M : Md) : List (Nat × Nat) := (foundS M).foldl (collR M) []
theorem collR_mem {M : Md} {f : List (Nat × Nat)} {q : Nat} {e : Nat × Nat} : e ∈ collR M f q ↔ e ∈ f ∨ (e.1 < M.ops.length ∧ M.rs e.1 q = e.2) := by
  unfold collR
  rw [(foldG (g := fun o => (o, M.rs o q)) (List.range M.ops.length) f).1 e]
  constructor
  · rintro (h | ⟨o, ho, rfl⟩)
    · exact .inl h
    · exact .inr ⟨List.mem_range.mp ho, rfl⟩
  · rintro (h | ⟨h1, h2⟩)
    · exact .inl h
    · exact .inr ⟨e.1, List.mem_range.mpr h1, Prod.ext rfl h2.symm⟩
theorem collR_nd {M : Md} {f : List (Nat × Nat)} {q : Nat} (h : f.Nodup) : (collR M f q).Nodup := (foldG (g := fun o => (o, M.rs o q)) _ f).2 h
theorem foldR_mem {M : Md} {e : Nat × Nat} : ∀ (l : List Nat) (f : List (Nat × Nat)), e ∈ l.foldl (collR M) f ↔ e ∈ f ∨ (e.1 < M.ops.length ∧ ∃ q ∈ l, M.rs e.1 q = e.2)
  | [], f => by simp
  | q :: l, f => by
    rw [List.foldl_cons, foldR_mem l, collR_mem]
    constructor
    · rintro ((h | ⟨h1, h2⟩) | ⟨h1, q', hq, h2⟩)
      · exact .inl h
      · exact .inr ⟨h1, q, by simp, h2⟩
      · exact .inr ⟨h1, q', by simp [hq], h2⟩
    · rintro (h | ⟨h1, q', hq, h2⟩)
      · exact .inl (.inl h)
      · rcases List.mem_cons.mp hq with rfl | z
        · exact .inl (.inr ⟨h1, h2⟩)
        · exact .inr ⟨h1, q', z, h2⟩
theorem foldR_nd {M : Md} : ∀ (l : List Nat) (f : List (Nat × Nat)), f.Nodup → (l.foldl (collR M) f).Nodup
  | [], _, h => h
  | q :: l, f, h => foldR_nd l _ (collR_nd h)
/-- the events, ascending -/
def evS (M : Md) : List (Nat × Nat) := sortP (coll M)
theorem coll_mem {M : Md} (hM : M.Ok) {e : Nat × Nat} : e ∈ coll M ↔ Evt M e := by
  unfold coll
  rw [foldR_mem]
  unfold Evt
  constructor
  · rintro (h | ⟨h1, q, hq, h2⟩)
    · simp at h
    · exact ⟨h1, q, (found_mem hM).mp hq, h2⟩
  · rintro ⟨h1, q, hq, h2⟩
    exact .inr ⟨h1, q, (found_mem hM).mpr hq, h2⟩
theorem coll_nd {M : Md} : (coll M).Nodup := foldR_nd _ _ (by simp)
theorem evS_mem {M : Md} (hM : M.Ok) {e : Nat × Nat} : e ∈ evS M ↔ Evt M e := sortG_mem.trans (coll_mem hM)
theorem evS_asc {M : Md} : (evS M).Pairwise ltP := sortG_sorted ordP coll_nd
theorem evS_of {M : Md} (hM : M.Ok) {f : List (Nat × Nat)} (nd : f.Nodup) (h : ∀ e, e ∈ f ↔ Evt M e) : sortP f = evS M := sortG_eq ordP nd coll_nd fun e => by rw [h, coll_mem hM]
theorem enum_rows {M : Md} : enumL 0 (M.ops.map rowD) = (List.range M.ops.length).map fun o : Nat => D.tup [.int o, rowD (M.row o)] := by
  have go : ∀ (l : List (List (Nat × Nat))) (k : Nat), enumL k (l.map rowD) = (List.range l.length).map fun o => D.tup [.int ((k + o : Nat) : Int), rowD (l.getD o [])] := by
    intro l
    induction l with
    | nil => intro k; rfl
    | cons r l ih =>
      intro k
      rw [List.map_cons, enumL, ih (k + 1), List.length_cons, List.range_succ_eq_map, List.map_cons, List.map_map]
      refine List.cons_eq_cons.mpr ⟨rfl, List.map_congr_left fun o _ => ?_⟩
      have : k + 1 + o = k + (o + 1) := by omega
      simp only [Function.comp, this]
      rfl
  rw [go]
  simp [Md.row]
theorem store_pairs {p : Nat × Nat} {f : List (Nat × Nat)} : store (kvT pairD f) (.tup [.int p.1, .int p.2]) (.bl true) = kvT pairD (addG f p) := kvT_store (e := pairD) eqb_pair
theorem store_pairs' {a b : Nat} {f : List (Nat × Nat)} : store (kvT pairD f) (.tup [.int a, .int b]) (.bl true) = kvT pairD (addG f (a, b)) := kvT_store (e := pairD) (a := (a, b)) eqb_pair
theorem keyOf_pair {a b : Nat} : keyOf true (.tup [.int a, .int b]) = true := rfl
theorem sorted_dct_pairs {n : Bool} {f : List (Nat × Nat)} : prim1 .sorted (.dct n (kvT pairD f)) = some (.lst ((sortP f).map pairD)) := by
  show (if sortable ((kvT pairD f).map (·.1)) then some (D.lst (sortL ((kvT pairD f).map (·.1)))) else none) = _
  rw [kvT_keys]
  exact sorted_pairs
theorem rngL_nat : ∀ (n k : Nat), rngL (k : Int) n = (List.range n).map fun i => iD (k + i)
  | 0, _ => rfl
  | n + 1, k => by
    rw [rngL, List.range_succ_eq_map, List.map_cons, List.map_map]
    refine List.cons_eq_cons.mpr ⟨rfl, ?_⟩
    have := rngL_nat n (k + 1)
    rw [show ((k + 1 : Nat) : Int) = (k : Int) + 1 by omega] at this
    rw [this]
    apply List.map_congr_left
    intro i _
    simp only [Function.comp]
    rw [show k + 1 + i = k + (i + 1) by omega]
theorem rng_int {x : Int} (h0 : 0 ≤ x) (h1 : x ≤ 1000000) : rngD (.int 0) (.int x) = some (.lst ((List.range x.toNat).map iD)) := by
  show (if _ then _ else _) = _
  rw [if_pos ⟨by decide, by unfold LIM; omega, by unfold LIM; omega⟩]
  have := rngL_nat (x - 0).toNat 0
  simp only [Nat.zero_add] at this
  rw [show ((0 : Nat) : Int) = 0 from rfl] at this
  rw [this, Int.sub_zero]
/-- the responses of operations, and where they lead -/
def outs (M : Md) : Nat → List Nat → List Nat
  | _, [] => []
  | q, o :: ws => M.rs o q :: outs M (M.nx o q) ws
def fin (M : Md) : Nat → List Nat → Nat
  | q, [] => q
  | q, o :: ws => fin M (M.nx o q) ws
theorem outs_snoc {M : Md} {o : Nat} : ∀ {ws : List Nat} {q : Nat}, outs M q (ws ++ [o]) = outs M q ws ++ [M.rs o (fin M q ws)]
  | [], _ => rfl
  | w :: ws, q => by
    show _ :: outs M _ (ws ++ [o]) = _
    rw [outs_snoc]
    rfl
theorem fin_snoc {M : Md} {o : Nat} : ∀ {ws : List Nat} {q : Nat}, fin M q (ws ++ [o]) = M.nx o (fin M q ws)
  | [], _ => rfl
  | w :: ws, q => fin_snoc (ws := ws)
theorem outs_len {M : Md} : ∀ {ws : List Nat} {q : Nat}, (outs M q ws).length = ws.length
  | [], _ => rfl
  | w :: ws, q => by show (_ :: outs M _ ws).length = _; rw [List.length_cons, outs_len]; rfl
theorem fin_lt {M : Md} (hM : M.Ok) : ∀ {ws : List Nat} {q : Nat}, q < M.n → (∀ o ∈ ws, o < M.ops.length) → fin M q ws < M.n
  | [], _, h, _ => h
  | w :: ws, q, h, hw => show fin M (M.nx w q) ws < M.n from fin_lt hM (hM.cell (hw w (by simp)) h).1 fun o ho => hw o (by simp [ho])
theorem take_snoc {α : Type} {l : List α} {j : Nat} {x : α} (h : l[j]? = some x) : l.take (j + 1) = l.take j ++ [x] := by
  rw [List.take_add_one, h]
  rfl
/-! ### a drawn model -/
theorem draw_ex (τ : Town) {m : Int} (h : 0 < m) (h' : m ≤ 1000000) : ∃ (c : Nat) (τ' : Town), Fdraw [.tok 1, .tok 0, .int m] τ = .ok (.int c) τ' ∧ (c : Int) < m := by
  obtain ⟨h1, h2⟩ := drawV_lt (τ := τ) h
  refine ⟨(drawV τ m).toNat, drawT τ m, ?_, by omega⟩
  rw [Fdraw_eq ⟨h, by omega⟩]
  congr 2
  omega
structure RowOk (n : Nat) (r : List (Nat × Nat)) : Prop where
  len : r.length = n
  cell : ∀ e ∈ r, e.1 < n ∧ e.2 ≤ 3
theorem ok_tnats {f : List Nat} : D.okb DEP (.tup (f.map iD)) = true := okb_le (n := 2) (ok_tup fun x hx => by
  obtain ⟨y, _, rfl⟩ := List.mem_map.mp hx
  rfl) (by decide)
theorem ok_tpairs {f : List (Nat × Nat)} : D.okb DEP (.tup (f.map pairD)) = true := okb_le (n := 3) (ok_tup fun x hx => by
  obtain ⟨y, _, rfl⟩ := List.mem_map.mp hx
  exact ok_pair) (by decide)
end Mn

set_option Elab.async false
set_option linter.all false
set_option maxRecDepth 100000
set_option maxHeartbeats 1000000
namespace Mn
open PySem
/-- an int within bounds -/
def isBtw (d : D) (lo hi : Int) : Bool := match d with
  | .int i => decide (lo ≤ i) && decide (i ≤ hi)
  | _ => false
theorem is_between_eq {n : Nat} {d : D} {lo hi : Int} {τ : Town} (h : D.okb n d = true) : F_is_between [d, .int lo, .int hi] τ = .ok (.bl (isBtw d lo hi)) τ := by
  cases n with
  | zero => cases h
  | succ n =>
    cases d <;> simp [F_is_between, b_is_between, runB_eq, isTy, isBtw, cmpD, D.okb] at h ⊢
    rename_i i
    by_cases h1 : lo ≤ i <;> simp [h1]
def isEntry (d : D) (n : Int) : Bool := match d with
  | .tup [a, b] => isBtw a 0 (n - 1) && isBtw b 0 3
  | _ => false
theorem is_entry_eq {n : Nat} {d : D} {k : Int} {τ : Town} (h : D.okb n d = true) : F_is_entry [d, .int k] τ = .ok (.bl (isEntry d k)) τ := by
  cases n with
  | zero => cases h
  | succ n =>
    cases d with
    | tup xs =>
      match xs with
      | [a, b] =>
        have ha : D.okb n a = true := by simp [D.okb] at h; exact h.1
        have hb : D.okb n b = true := by simp [D.okb] at h; exact h.2
        simp [F_is_entry, b_is_entry, runB_eq, is_between_eq ha, is_between_eq hb, isEntry]
        by_cases h1 : isBtw a 0 (k - 1) <;> simp [h1]
      | [] => simp [F_is_entry, b_is_entry, runB_eq, isEntry]
      | [a] => simp [F_is_entry, b_is_entry, runB_eq, isEntry]
      | a :: b :: c :: r => 
        have : ¬ ((r.length : Int) + 1 + 1 + 1 = 2) := by omega
        simp [F_is_entry, b_is_entry, runB_eq, isEntry, this]
    | dct _ _ => simp [D.okb] at h
    | tok _ => simp [D.okb] at h
    | _ => simp [F_is_entry, b_is_entry, runB_eq, isEntry]
def isOperation (d : D) (n : Int) : Bool := match d with
  | .tup xs => decide ((xs.length : Int) = n) && xs.all fun x => isEntry x n
  | _ => false
theorem is_operation_eq {n : Nat} {d : D} {k : Int} {τ : Town} (h : D.okb n d = true) : F_is_operation [d, .int k] τ = .ok (.bl (isOperation d k)) τ := by
  cases n with
  | zero => cases h
  | succ n =>
    cases d with
    | tup xs =>
      have hx : ∀ x ∈ xs, D.okb n x = true := by simpa [D.okb] using h
      simp [F_is_operation, b_is_operation, runB_eq, isOperation, Slot.plain]
      rw [lc_pure (fun x => .bl (isEntry x k)) fun x hx' => ⟨⟨[.val (.tup xs), .val (.int k), .val x], τ⟩, by simp [lcB_eq, wipeS, setW, is_entry_eq (hx x hx')], rfl, rfl⟩]
      simp [bools_map]
      by_cases h1 : (xs.length : Int) = k <;> simp [h1]
    | dct _ _ => simp [D.okb] at h
    | tok _ => simp [D.okb] at h
    | _ => simp [F_is_operation, b_is_operation, runB_eq, isOperation]
/-- a data type -/
def isType (d : D) : Bool := match d with
  | .tup [a, b] => isBtw a 1 8 && (match b with
    | .tup ops => decide (1 ≤ (ops.length : Int)) && decide ((ops.length : Int) ≤ 6) && ops.all fun o => (match a with
      | .int n => isOperation o n
      | _ => false)
    | _ => false)
  | _ => false
theorem is_type_eq {n : Nat} {d : D} {τ : Town} (h : D.okb n d = true) : F_is_type [d] τ = .ok (.bl (isType d)) τ := by
  cases n with
  | zero => cases h
  | succ n =>
    cases d with
    | tup xs =>
      match xs with
      | [a, b] =>
        have ha : D.okb n a = true := by simp [D.okb] at h; exact h.1
        have hb : D.okb n b = true := by simp [D.okb] at h; exact h.2
        simp [F_is_type, b_is_type, runB_eq, gcT, gcsL, is_between_eq ha, isType, Slot.plain]
        by_cases h1 : isBtw a 1 8 = true
        · simp [h1]
          have : ∃ k : Int, a = .int k := by
            unfold isBtw at h1
            split at h1
            · exact ⟨_, rfl⟩
            · cases h1
          obtain ⟨k, rfl⟩ := this
          cases n with
          | zero => cases hb
          | succ n =>
            cases b with
            | tup ops =>
              have ho : ∀ x ∈ ops, D.okb n x = true := by simpa [D.okb] using hb
              simp
              rw [lc_pure (fun x => .bl (isOperation x k)) fun x hx' => ⟨⟨[.val (.tup [.int k, .tup ops]), .val (.int k), .val (.tup ops), .val x], τ⟩, by simp [lcB_eq, wipeS, setW, is_operation_eq (ho x hx')], rfl, rfl⟩]
              simp [bools_map]
              by_cases h2 : 1 ≤ (ops.length : Int) <;> by_cases h3 : (ops.length : Int) ≤ 6 <;> simp [h2, h3]
            | dct _ _ => simp [D.okb] at hb
            | tok _ => simp [D.okb] at hb
            | _ => simp
        · simp [h1]
      | [] => simp [F_is_type, b_is_type, runB_eq, isType]
      | [a] => simp [F_is_type, b_is_type, runB_eq, isType]
      | a :: b :: c :: r =>
        have : ¬ ((r.length : Int) + 1 + 1 + 1 = 2) := by omega
        simp [F_is_type, b_is_type, runB_eq, isType, this]
    | dct _ _ => simp [D.okb] at h
    | tok _ => simp [D.okb] at h
    | _ => simp [F_is_type, b_is_type, runB_eq, isType]
theorem check_type_eq {n : Nat} {d : D} {τ : Town} (h : D.okb n d = true) : F_check_type [d] τ = if isType d = true then .ok .non τ else .exc 0 τ := by
  simp [F_check_type, b_check_type, runB_eq, is_type_eq h]
end Mn

set_option Elab.async false
set_option linter.all false
set_option maxRecDepth 100000
set_option maxHeartbeats 1000000
namespace Mn
open PySem
theorem found_states_eq {M : Md} {τ : Town} (hM : M.Ok) : F_found_states [M.d] τ = .ok (.lst ((foundS M).map iD)) τ := by
  simp [F_found_states, b_found_states, runB_eq, parS]
  refine whl_rs (st := fun i : Nat × List Nat × Nat × Slot × Slot => ⟨[.val M.d, .lst (i.2.1.map iD), .val (.int i.2.2.1), i.2.2.2.1, i.2.2.2.2], τ⟩)
    (I := fun i => bfs M i.1 i.2.1 i.2.2.1 = foundS M ∧ Fnd M i.2.1 i.2.2.1 ∧ i.2.2.1 ≤ i.2.1.length ∧ M.n < i.1 + i.2.2.1) (μ := fun i => i.1)
    (Post := fun s => ∃ f a o1 o2, s = ⟨[.val M.d, .lst (f.map iD), .val (.int a), o1, o2], τ⟩ ∧ f = foundS M) (i := (9, [0], 0, .emp, .emp)) rfl ?_ ?_ ?_ ?_
  · exact ⟨rfl, fnd0 hM, by simp, by have := hM.n8; show M.n < 9 + 0; omega⟩
  · show 9 < 100000; decide
  · rintro ⟨k, f, a, o1, o2⟩ ⟨h1, h2, h3, h4⟩
    simp only at h1 h2 h3 h4 ⊢
    have hlen := nodup_le M.n f h2.nd h2.lt
    by_cases ha : a < f.length
    · right
      obtain ⟨q, hq⟩ : ∃ q, f[a]? = some q := ⟨_, List.getElem?_eq_getElem ha⟩
      have ql : q < M.n := h2.lt q (List.mem_of_getElem? hq)
      obtain ⟨k, rfl⟩ : ∃ k', k = k' + 1 := ⟨k - 1, by omega⟩
      have h1' : bfs M k (turnF M f q) (a + 1) = foundS M := by
        rw [← h1]
        conv => rhs; unfold bfs
        rw [hq]
      have h2' := h2.turn hM hq
      let step : List Nat × Slot × Slot → Nat → List Nat × Slot × Slot := fun i o => (addN i.1 (M.nx o q), .val (rowD (M.row o)), .val (.int (M.nx o q)))
      have ef : ((List.range M.ops.length).foldl step (f, o1, o2)).1 = turnF M f q := fold_fst (g := fun f o => addN f (M.nx o q)) (h := fun i o => (Slot.val (rowD (M.row o)), Slot.val (.int (M.nx o q)))) _ _
      have hle : a + 1 ≤ (turnF M f q).length := by
        obtain ⟨⟨t, e⟩, _, _⟩ := fold_add (g := fun o => M.nx o q) (List.range M.ops.length) f
        have e : turnF M f q = f ++ t := e
        rw [e, List.length_append]; omega
      refine ⟨⟨[.val M.d, .lst (f.map iD), .val (.int a), o1, o2], τ⟩, (k, turnF M f q, a + 1, ((List.range M.ops.length).foldl step (f, o1, o2)).2.1, ((List.range M.ops.length).foldl step (f, o1, o2)).2.2), by simp [ha], ?_, ⟨h1', h2', hle, by simp only; omega⟩, by simp⟩
      simp [Md.d]
      refine for_then (st := fun i : List Nat × Slot × Slot => ⟨[.val M.d, .lst (i.1.map iD), .val (.int a), i.2.1, i.2.2], τ⟩) (g := fun o => rowD (M.row o)) (step := step) (I := fun i => i.1[a]? = some q ∧ i.1.Nodup ∧ ∀ x ∈ i.1, x < M.n) (xs := List.range M.ops.length) (i := (f, o1, o2)) ops_rows rfl ⟨hq, h2.nd, h2.lt⟩ ?_ ?_
      · rintro o ho ⟨f', p1, p2⟩ ⟨g1, g2, g3⟩
        have ho' := List.mem_range.mp ho
        simp only at g1 g2 g3
        have hl' := nodup_le M.n f' g2 g3
        have := hM.n8
        have hL : f'.length < LIM := by unfold LIM; omega
        simp [forB_eq, rowD, pairD, iD, g1, cell_get hM ho' ql, in_nats, hL, step]
        refine ⟨?_, ?_, addN_nd g2, fun x hx => ?_⟩
        · by_cases h : M.nx o q ∈ f' <;> simp [addN, h, iD]
        · obtain ⟨t, e⟩ := addN_pre (f := f') (q := M.nx o q)
          rw [e, List.getElem?_append_left (List.getElem?_eq_some_iff.mp g1).1]
          exact g1
        · rcases addN_mem.mp hx with z | z
          · exact g3 x z
          · rw [z]; exact (hM.cell ho' ql).1
      · intro _
        simp [ef]
        rfl
    · left
      refine ⟨⟨[.val M.d, .lst (f.map iD), .val (.int a), o1, o2], τ⟩, by simp [ha], f, a, o1, o2, rfl, ?_⟩
      rw [← h1]
      cases k with
      | zero => rfl
      | succ k =>
        unfold bfs
        rw [List.getElem?_eq_none (by omega)]
  · rintro s' ⟨f, a, o1, o2, rfl, rfl⟩
    simp
theorem isType_md {M : Md} (hM : M.Ok) : isType M.d = true := by
  have a1 := hM.n1
  have a2 := hM.n8
  have a3 := hM.o1
  have a4 := hM.o6
  simp only [isType, Md.d, isBtw, Bool.and_eq_true, decide_eq_true_eq, List.all_eq_true, List.length_map]
  refine ⟨⟨by omega, by omega⟩, ⟨by omega, by omega⟩, fun o ho => ?_⟩
  obtain ⟨r, hr, rfl⟩ := List.mem_map.mp ho
  obtain ⟨h1, h2⟩ := hM.row r hr
  simp only [isOperation, rowD, Bool.and_eq_true, decide_eq_true_eq, List.all_eq_true, List.length_map]
  refine ⟨by omega, fun e he => ?_⟩
  obtain ⟨p, hp, rfl⟩ := List.mem_map.mp he
  have := h2 p hp
  simp only [isEntry, pairD, isBtw, Bool.and_eq_true, decide_eq_true_eq]
  omega
theorem reachable_eq {M : Md} {τ : Town} (hM : M.Ok) : F_reachable [M.d] τ = .ok (.tup ((sortN (foundS M)).map iD)) τ := by
  simp [F_reachable, b_reachable, runB_eq, check_type_eq ok_md, isType_md hM, found_states_eq hM, sorted_nats]
theorem reachable_bad {n : Nat} {d : D} {τ : Town} (h : D.okb n d = true) (hd : isType d = false) : F_reachable [d] τ = .exc 0 τ := by
  simp [F_reachable, b_reachable, runB_eq, check_type_eq h, hd]
theorem reachable_rch {M : Md} {τ : Town} (hM : M.Ok) : F_reachable [M.d] τ = .ok (.tup ((rch M).map iD)) τ := reachable_eq hM
end Mn

set_option Elab.async false
set_option linter.all false
set_option maxRecDepth 100000
set_option maxHeartbeats 1000000
namespace Mn
open PySem
theorem is_number_eq {M : Md} {n : Nat} {d : D} {τ : Town} (h : D.okb n d = true) : F_is_number [M.d, d] τ = .ok (.bl (isBtw d 0 ((M.ops.length : Int) - 1))) τ := by
  simp [F_is_number, b_is_number, runB_eq, Md.d, is_between_eq h]
def areOps (M : Md) (d : D) : Bool := match d with
  | .tup xs => decide ((xs.length : Int) ≤ 30) && xs.all fun x => isBtw x 0 ((M.ops.length : Int) - 1)
  | _ => false
theorem are_operations_eq {M : Md} {n : Nat} {d : D} {τ : Town} (h : D.okb n d = true) : F_are_operations [M.d, d] τ = .ok (.bl (areOps M d)) τ := by
  cases n with
  | zero => cases h
  | succ n =>
    cases d with
    | tup xs =>
      have hx : ∀ x ∈ xs, D.okb n x = true := by simpa [D.okb] using h
      simp [F_are_operations, b_are_operations, runB_eq, areOps, gcT, gcsL]
      rw [lc_pure (fun x => .bl (isBtw x 0 ((M.ops.length : Int) - 1))) fun x hx' => ⟨⟨[.val M.d, .val (.tup xs), .val x], τ⟩, by simp [lcB_eq, wipeS, setW, is_number_eq (hx x hx')], rfl, rfl⟩]
      simp [bools_map]
      by_cases h1 : (xs.length : Int) ≤ 30 <;> simp [h1]
    | dct _ _ => simp [D.okb] at h
    | tok _ => simp [D.okb] at h
    | _ => simp [F_are_operations, b_are_operations, runB_eq, areOps]
theorem performed_eq {M : Md} {τ : Town} (hM : M.Ok) {d : D} {ws : List Nat} {q : Nat} (hd : items d = some (ws.map iD)) (hq : q < M.n) (hw : ∀ o ∈ ws, o < M.ops.length) (hl : ws.length ≤ 1000) :
    F_performed [M.d, .int q, d] τ = .ok (.tup [.tup ((outs M q ws).map iD), .int (fin M q ws)]) τ := by
  simp [F_performed, b_performed, runB_eq, hd]
  refine for_P (P := fun o => toRs o = .ok (.tup [.tup ((outs M q ws).map iD), .int (fin M q ws)]) τ) (I := fun (j : Nat) (s : S) => ∃ o1 o2, s = ⟨[.val M.d, .val (.int (fin M q (ws.take j))), .val d, .lst ((outs M q (ws.take j)).map iD), o1, o2], τ⟩) ⟨.emp, .emp, rfl⟩ ?_ ?_
  · rintro j x s hx ⟨o1, o2, rfl⟩
    rw [List.getElem?_map] at hx
    cases e : ws[j]? with
    | none => rw [e] at hx; cases hx
    | some o =>
      rw [e] at hx
      cases hx
      have ho := hw o (List.mem_of_getElem? e)
      have hf := fin_lt hM (ws := ws.take j) hq fun o ho => hw o (List.mem_of_mem_take ho)
      have hL : (outs M q (ws.take j)).length < LIM := by
        rw [outs_len, List.length_take]
        unfold LIM
        omega
      refine ⟨⟨[.val M.d, .val (.int (M.nx o (fin M q (ws.take j)))), .val d, .lst ((outs M q (ws.take (j + 1))).map iD), .val (.int o), .val (.int (M.rs o (fin M q (ws.take j))))], τ⟩, ?_, .val (.int o), .val (.int (M.rs o (fin M q (ws.take j)))), ?_⟩
      · simp [forB_eq, iD, Md.d, rowD, pairD, row_get ho, cell_get hM ho hf, hL, take_snoc e, outs_snoc]
      · rw [take_snoc e, fin_snoc]
  · rintro s' ⟨o1, o2, rfl⟩
    simp
theorem perform_eq {M : Md} {τ : Town} (hM : M.Ok) {ws : List Nat} (hw : ∀ o ∈ ws, o < M.ops.length) (hl : ws.length ≤ 30) :
    F_perform [M.d, .tup (ws.map iD)] τ = .ok (.tup [.tup ((outs M 0 ws).map iD), .int (fin M 0 ws)]) τ := by
  have hk : D.okb 2 (.tup (ws.map iD)) = true := ok_tup fun x hx => by
    obtain ⟨y, _, rfl⟩ := List.mem_map.mp hx
    rfl
  have ha : areOps M (.tup (ws.map iD)) = true := by
    simp only [areOps, Bool.and_eq_true, decide_eq_true_eq, List.all_eq_true, List.length_map]
    refine ⟨by omega, fun x hx => ?_⟩
    obtain ⟨y, hy, rfl⟩ := List.mem_map.mp hx
    have := hw y hy
    simp only [isBtw, iD, Bool.and_eq_true, decide_eq_true_eq]
    omega
  have hp := performed_eq (τ := τ) hM (d := .tup (ws.map iD)) (ws := ws) (q := 0) rfl hM.n1 hw (by omega)
  rw [show ((0 : Nat) : Int) = 0 from rfl] at hp
  simp [F_perform, b_perform, runB_eq, check_type_eq ok_md, isType_md hM, are_operations_eq hk, ha, hp]
theorem perform_badT {n : Nat} {d e : D} {τ : Town} (h : D.okb n d = true) (hd : isType d = false) : F_perform [d, e] τ = .exc 0 τ := by
  simp [F_perform, b_perform, runB_eq, check_type_eq h, hd]
theorem perform_badO {M : Md} {n : Nat} {d : D} {τ : Town} (hM : M.Ok) (h : D.okb n d = true) (hd : areOps M d = false) : F_perform [M.d, d] τ = .exc 1 τ := by
  simp [F_perform, b_perform, runB_eq, check_type_eq ok_md, isType_md hM, are_operations_eq h, hd]
end Mn

set_option Elab.async false
set_option linter.all false
set_option maxRecDepth 100000
set_option maxHeartbeats 1000000
namespace Mn
open PySem
/-! ### states that no operations tell apart -/
/-- a word of operations below k -/
abbrev Wd (k : Nat) (w : List Nat) : Prop := ∀ o ∈ w, o < k
def Alk (M N : Md) (p q : Nat) : Prop := ∀ w, Wd M.ops.length w → outs M p w = outs N q w
theorem outs_app {M : Md} : ∀ {u v : List Nat} {q : Nat}, outs M q (u ++ v) = outs M q u ++ outs M (fin M q u) v
  | [], _, _ => rfl
  | o :: u, v, q => by
    show _ :: outs M _ (u ++ v) = _
    rw [outs_app]
    rfl
theorem fin_app {M : Md} : ∀ {u v : List Nat} {q : Nat}, fin M q (u ++ v) = fin M (fin M q u) v
  | [], _, _ => rfl
  | o :: u, v, q => fin_app (u := u)
theorem Alk.refl {M : Md} {p : Nat} : Alk M M p p := fun _ _ => rfl
theorem Alk.symm {M N : Md} {p q : Nat} (hk : M.ops.length = N.ops.length) (h : Alk M N p q) : Alk N M q p := fun w hw => (h w (by rw [hk]; exact hw)).symm
theorem Alk.trans {M N R : Md} {p q r : Nat} (hk : M.ops.length = N.ops.length) (h : Alk M N p q) (h' : Alk N R q r) : Alk M R p r := fun w hw => (h w hw).trans (h' w (by rw [← hk]; exact hw))
theorem Alk.nx {M N : Md} {p q o : Nat} (h : Alk M N p q) (ho : o < M.ops.length) : Alk M N (M.nx o p) (N.nx o q) := fun w hw => by
  have := h (o :: w) fun x hx => by
    rcases List.mem_cons.mp hx with rfl | hx
    · exact ho
    · exact hw x hx
  exact (List.cons.inj this).2
theorem Alk.rs {M N : Md} {p q o : Nat} (h : Alk M N p q) (ho : o < M.ops.length) : M.rs o p = N.rs o q := by
  have := h [o] fun x hx => by
    have : x = o := by simpa using hx
    rw [this]; exact ho
  exact (List.cons.inj this).1
theorem Alk.of {M N : Md} {p q : Nat} (h1 : ∀ o < M.ops.length, M.rs o p = N.rs o q) (h2 : ∀ o < M.ops.length, Alk M N (M.nx o p) (N.nx o q)) : Alk M N p q := fun w hw => by
  cases w with
  | nil => rfl
  | cons o w =>
    have ho := hw o (by simp)
    show _ :: _ = _ :: _
    rw [h1 o ho, h2 o ho w fun x hx => hw x (by simp [hx])]
/-- pairs of states that are closed under the operations and respond alike -/
theorem Alk.closed {M N : Md} (K : Nat × Nat → Prop) (hK : ∀ r, K r → ∀ o < M.ops.length, M.rs o r.1 = N.rs o r.2 ∧ K (M.nx o r.1, N.nx o r.2)) : ∀ (w : List Nat) (r : Nat × Nat), K r → Wd M.ops.length w → outs M r.1 w = outs N r.2 w
  | [], _, _, _ => rfl
  | o :: w, r, h, hw => by
    obtain ⟨h1, h2⟩ := hK r h o (hw o (by simp))
    show _ :: _ = _ :: _
    rw [h1, Alk.closed K hK w _ h2 fun x hx => hw x (by simp [hx])]
/-! ### the search for a word that tells two states apart -/
abbrev Wt := List Nat × (Nat × Nat)
inductive Sp where
  | hit (w : List Nat)
  | go (K : List (Nat × Nat)) (F : List Wt)
def expS (M N : Md) (path : List Nat) (r : Nat × Nat) : List Nat → List (Nat × Nat) → List Wt → Sp
  | [], K, F => .go K F
  | o :: os, K, F => if M.rs o r.1 ≠ N.rs o r.2 then .hit (path ++ [o]) else
    if (M.nx o r.1, N.nx o r.2) ∈ K then expS M N path r os K F else expS M N path r os (K ++ [(M.nx o r.1, N.nx o r.2)]) (F ++ [(path ++ [o], (M.nx o r.1, N.nx o r.2))])
def lvlS (M N : Md) : List Wt → List (Nat × Nat) → List Wt → Sp
  | [], K, F => .go K F
  | (path, r) :: ws, K, F => match expS M N path r (List.range M.ops.length) K F with
    | .hit w => .hit w
    | .go K' F' => lvlS M N ws K' F'
def splS (M N : Md) : Nat → List (Nat × Nat) → List Wt → Option (List Nat)
  | 0, _, _ => none
  | n + 1, K, W => if W = [] then none else match lvlS M N W K [] with
    | .hit w => some w
    | .go K' F => splS M N n K' F
def splF (M N : Md) (r : Nat × Nat) : Option (List Nat) := splS M N 100 [r] [([], r)]
/-- swapping -/
abbrev sw (r : Nat × Nat) : Nat × Nat := (r.2, r.1)
def Sp.sw : Sp → Sp
  | .hit w => .hit w
  | .go K F => .go (K.map Mn.sw) (F.map fun x => (x.1, Mn.sw x.2))
theorem sw_mem {r : Nat × Nat} {K : List (Nat × Nat)} : (r.2, r.1) ∈ K.map sw ↔ r ∈ K := by
  rw [List.mem_map]
  constructor
  · rintro ⟨x, hx, e⟩
    have : x = r := by cases x; cases r; simp [sw] at e; simp [e]
    rw [← this]; exact hx
  · exact fun h => ⟨r, h, rfl⟩
theorem expS_ne {M N : Md} {path : List Nat} {r : Nat × Nat} {o : Nat} {os : List Nat} {K : List (Nat × Nat)} {F : List Wt} (h : M.rs o r.1 ≠ N.rs o r.2) : expS M N path r (o :: os) K F = .hit (path ++ [o]) := by
  unfold expS; rw [if_pos h]
theorem expS_in {M N : Md} {path : List Nat} {r : Nat × Nat} {o : Nat} {os : List Nat} {K : List (Nat × Nat)} {F : List Wt} (h : M.rs o r.1 = N.rs o r.2) (h2 : (M.nx o r.1, N.nx o r.2) ∈ K) : expS M N path r (o :: os) K F = expS M N path r os K F := by
  conv => lhs; unfold expS
  rw [if_neg (fun z => z h), if_pos h2]
theorem expS_new {M N : Md} {path : List Nat} {r : Nat × Nat} {o : Nat} {os : List Nat} {K : List (Nat × Nat)} {F : List Wt} (h : M.rs o r.1 = N.rs o r.2) (h2 : (M.nx o r.1, N.nx o r.2) ∉ K) : expS M N path r (o :: os) K F = expS M N path r os (K ++ [(M.nx o r.1, N.nx o r.2)]) (F ++ [(path ++ [o], (M.nx o r.1, N.nx o r.2))]) := by
  conv => lhs; unfold expS
  rw [if_neg (fun z => z h), if_neg h2]
theorem expS_sw {M N : Md} {path : List Nat} {r : Nat × Nat} : ∀ (os : List Nat) (K : List (Nat × Nat)) (F : List Wt), expS N M path (sw r) os (K.map sw) (F.map fun x => (x.1, sw x.2)) = (expS M N path r os K F).sw
  | [], _, _ => rfl
  | o :: os, K, F => by
    by_cases h : M.rs o r.1 = N.rs o r.2
    · by_cases h2 : (M.nx o r.1, N.nx o r.2) ∈ K
      · rw [expS_in h h2, expS_in (M := N) (N := M) (r := sw r) h.symm (sw_mem.mpr h2)]
        exact expS_sw os K F
      · rw [expS_new h h2, expS_new (M := N) (N := M) (r := sw r) h.symm (fun z => h2 (sw_mem.mp z)), ← expS_sw os]
        simp [sw]
    · rw [expS_ne h, expS_ne (M := N) (N := M) (r := sw r) (fun z => h z.symm)]
      rfl
theorem lvlS_sw {M N : Md} (hk : M.ops.length = N.ops.length) : ∀ (W : List Wt) (K : List (Nat × Nat)) (F : List Wt), lvlS N M (W.map fun x => (x.1, sw x.2)) (K.map sw) (F.map fun x => (x.1, sw x.2)) = (lvlS M N W K F).sw
  | [], _, _ => rfl
  | (path, r) :: W, K, F => by
    rw [List.map_cons]
    unfold lvlS
    simp only
    rw [← hk, expS_sw]
    cases expS M N path r (List.range M.ops.length) K F with
    | hit w => rfl
    | go K' F' => exact lvlS_sw hk W K' F'
theorem splS_sw {M N : Md} (hk : M.ops.length = N.ops.length) : ∀ (n : Nat) (K : List (Nat × Nat)) (W : List Wt), splS N M n (K.map sw) (W.map fun x => (x.1, sw x.2)) = splS M N n K W
  | 0, _, _ => rfl
  | n + 1, K, W => by
    unfold splS
    by_cases h : W = []
    · subst h; rfl
    · rw [if_neg h, if_neg (by simpa using h)]
      have := lvlS_sw hk W K []
      rw [List.map_nil] at this
      rw [this]
      cases lvlS M N W K [] with
      | hit w => rfl
      | go K' F' => exact splS_sw hk n K' F'
theorem splF_sw {M N : Md} (hk : M.ops.length = N.ops.length) {p q : Nat} : splF N M (q, p) = splF M N (p, q) := splS_sw hk 100 [(p, q)] [([], (p, q))]
end Mn

set_option Elab.async false
set_option linter.all false
set_option maxRecDepth 100000
set_option maxHeartbeats 1000000
namespace Mn
open PySem
section
variable {M N : Md}
/-- where operation o leads a pair -/
abbrev sc2 (M N : Md) (o : Nat) (r : Nat × Nat) : Nat × Nat := (M.nx o r.1, N.nx o r.2)
theorem expS_spec {path : List Nat} {r : Nat × Nat} : ∀ (os : List Nat) (K : List (Nat × Nat)) (F : List Wt), match expS M N path r os K F with
    | .hit w => ∃ o ∈ os, w = path ++ [o] ∧ M.rs o r.1 ≠ N.rs o r.2
    | .go K' F' => ∃ t : List Wt, F' = F ++ t ∧ K' = K ++ t.map (·.2) ∧ (∀ x ∈ t, ∃ o ∈ os, x = (path ++ [o], sc2 M N o r)) ∧ (∀ o ∈ os, M.rs o r.1 = N.rs o r.2 ∧ sc2 M N o r ∈ K') ∧ (K.Nodup → K'.Nodup)
  | [], K, F => ⟨[], by simp, by simp, by simp, by simp, fun h => h⟩
  | o :: os, K, F => by
    by_cases h : M.rs o r.1 = N.rs o r.2
    · by_cases h2 : sc2 M N o r ∈ K
      · rw [expS_in h h2]
        have ih := expS_spec (path := path) (r := r) os K F
        cases q : expS M N path r os K F with
        | hit w =>
          rw [q] at ih
          obtain ⟨o', ho, hw⟩ := ih
          exact ⟨o', by simp [ho], hw⟩
        | go K' F' =>
          rw [q] at ih
          obtain ⟨t, h3, h4, h5, h6, h7⟩ := ih
          refine ⟨t, h3, h4, fun x hx => ?_, fun o' ho => ?_, h7⟩
          · obtain ⟨o', ho, e⟩ := h5 x hx
            exact ⟨o', by simp [ho], e⟩
          · rcases List.mem_cons.mp ho with rfl | ho
            · exact ⟨h, by rw [h4]; simp [h2]⟩
            · exact h6 o' ho
      · rw [expS_new h h2]
        have ih := expS_spec (path := path) (r := r) os (K ++ [sc2 M N o r]) (F ++ [(path ++ [o], sc2 M N o r)])
        cases q : expS M N path r os (K ++ [sc2 M N o r]) (F ++ [(path ++ [o], sc2 M N o r)]) with
        | hit w =>
          rw [q] at ih
          obtain ⟨o', ho, hw⟩ := ih
          exact ⟨o', by simp [ho], hw⟩
        | go K' F' =>
          rw [q] at ih
          obtain ⟨t, h3, h4, h5, h6, h7⟩ := ih
          refine ⟨(path ++ [o], sc2 M N o r) :: t, by simp [h3], by simp [h4], fun x hx => ?_, fun o' ho => ?_, fun nd => h7 ?_⟩
          · rcases List.mem_cons.mp hx with rfl | hx
            · exact ⟨o, by simp, rfl⟩
            · obtain ⟨o', ho, e⟩ := h5 x hx
              exact ⟨o', by simp [ho], e⟩
          · rcases List.mem_cons.mp ho with rfl | ho
            · exact ⟨h, by rw [h4]; simp⟩
            · exact h6 o' ho
          · exact List.nodup_append.mpr ⟨nd, by simp, fun a ha b hb e => by
              have hb : b = sc2 M N o r := by simpa using hb
              subst hb; subst e; exact h2 ha⟩
    · rw [expS_ne h]
      exact ⟨o, by simp, rfl, h⟩
theorem lvlS_spec : ∀ (W : List Wt) (K : List (Nat × Nat)) (F : List Wt), match lvlS M N W K F with
    | .hit w => ∃ x ∈ W, ∃ o, o < M.ops.length ∧ w = x.1 ++ [o] ∧ M.rs o x.2.1 ≠ N.rs o x.2.2
    | .go K' F' => ∃ t : List Wt, F' = F ++ t ∧ K' = K ++ t.map (·.2) ∧ (∀ y ∈ t, ∃ x ∈ W, ∃ o, o < M.ops.length ∧ y = (x.1 ++ [o], sc2 M N o x.2)) ∧ (∀ x ∈ W, ∀ o < M.ops.length, M.rs o x.2.1 = N.rs o x.2.2 ∧ sc2 M N o x.2 ∈ K') ∧ (K.Nodup → K'.Nodup)
  | [], K, F => ⟨[], by simp, by simp, by simp, by simp, fun h => h⟩
  | (path, r) :: W, K, F => by
    have h1 := expS_spec (M := M) (N := N) (path := path) (r := r) (List.range M.ops.length) K F
    unfold lvlS
    cases q : expS M N path r (List.range M.ops.length) K F with
    | hit w =>
      rw [q] at h1
      obtain ⟨o, ho, e, hr⟩ := h1
      exact ⟨(path, r), by simp, o, List.mem_range.mp ho, e, hr⟩
    | go K1 F1 =>
      rw [q] at h1
      obtain ⟨t, a1, a2, a3, a4, a5⟩ := h1
      have ih := lvlS_spec W K1 F1
      simp only
      cases q2 : lvlS M N W K1 F1 with
      | hit w =>
        rw [q2] at ih
        obtain ⟨x, hx, hh⟩ := ih
        exact ⟨x, by simp [hx], hh⟩
      | go K2 F2 =>
        rw [q2] at ih
        obtain ⟨t', b1, b2, b3, b4, b5⟩ := ih
        refine ⟨t ++ t', by rw [b1, a1, List.append_assoc], by rw [b2, a2, List.map_append, List.append_assoc], fun y hy => ?_, fun x hx o ho => ?_, fun nd => b5 (a5 nd)⟩
        · rcases List.mem_append.mp hy with hy | hy
          · obtain ⟨o, ho, e⟩ := a3 y hy
            exact ⟨(path, r), by simp, o, List.mem_range.mp ho, e⟩
          · obtain ⟨x, hx, hh⟩ := b3 y hy
            exact ⟨x, by simp [hx], hh⟩
        · rcases List.mem_cons.mp hx with rfl | hx
          · obtain ⟨c1, c2⟩ := a4 o (List.mem_range.mpr ho)
            exact ⟨c1, by rw [b2]; exact List.mem_append.mpr (.inl c2)⟩
          · exact b4 x hx o ho
/-- distinct pairs below a and b -/
theorem pairs_le {a b : Nat} {f : List (Nat × Nat)} (nd : f.Nodup) (h : ∀ e ∈ f, e.1 < a ∧ e.2 < b) : f.length ≤ a * b := by
  have := nodup_le (a * b) (f.map fun e => e.1 * b + e.2) (by
    rw [List.nodup_iff_pairwise_ne, List.pairwise_map]
    refine (List.nodup_iff_pairwise_ne.mp nd).imp_of_mem ?_
    intro x y hx hy ne e
    have h1 := (h x hx).2
    have h2 := (h y hy).2
    have hb : 0 < b := by omega
    have e1 : (x.1 * b + x.2) / b = (y.1 * b + y.2) / b := by rw [e]
    have e2 : (x.1 * b + x.2) % b = (y.1 * b + y.2) % b := by rw [e]
    rw [Nat.mul_comm x.1, Nat.mul_comm y.1, Nat.mul_add_div hb, Nat.mul_add_div hb, Nat.div_eq_of_lt h1, Nat.div_eq_of_lt h2] at e1
    rw [Nat.mul_comm x.1, Nat.mul_comm y.1, Nat.mul_add_mod, Nat.mul_add_mod, Nat.mod_eq_of_lt h1, Nat.mod_eq_of_lt h2] at e2
    exact ne (Prod.ext (by omega) e2)) fun x hx => by
    obtain ⟨e, he, rfl⟩ := List.mem_map.mp hx
    obtain ⟨h1, h2⟩ := h e he
    calc e.1 * b + e.2 < e.1 * b + b := by omega
      _ = (e.1 + 1) * b := by rw [Nat.add_mul, Nat.one_mul]
      _ ≤ a * b := Nat.mul_le_mul_right b h1
  simpa using this
/-- where a word leads a pair -/
abbrev pr (M N : Md) (r : Nat × Nat) (w : List Nat) : Nat × Nat := (fin M r.1 w, fin N r.2 w)
structure SpI (M N : Md) (r0 : Nat × Nat) (L : Nat) (K : List (Nat × Nat)) (W : List Wt) (Dn : List (Nat × Nat)) : Prop where
  nd : K.Nodup
  lt : ∀ r ∈ K, r.1 < M.n ∧ r.2 < N.n
  spl : ∀ r, r ∈ K ↔ r ∈ Dn ∨ r ∈ W.map (·.2)
  cl : ∀ r ∈ Dn, ∀ o < M.ops.length, M.rs o r.1 = N.rs o r.2 ∧ sc2 M N o r ∈ K
  wt : ∀ x ∈ W, x.1.length = L ∧ Wd M.ops.length x.1 ∧ pr M N r0 x.1 = x.2
  wk : ∀ w, Wd M.ops.length w → w.length ≤ L → pr M N r0 w ∈ K
  wd : ∀ w, Wd M.ops.length w → w.length < L → pr M N r0 w ∈ Dn
  big : L + 1 ≤ K.length ∨ W = []
/-- a word that tells two states apart, with its last operation alone, and no shorter word does -/
structure Tell (M N : Md) (r : Nat × Nat) (w : List Nat) : Prop where
  wd : Wd M.ops.length w
  last : ∃ u o, w = u ++ [o] ∧ outs M r.1 u = outs N r.2 u ∧ M.rs o (fin M r.1 u) ≠ N.rs o (fin N r.2 u)
  least : ∀ v, Wd M.ops.length v → v.length < w.length → outs M r.1 v = outs N r.2 v
  few : w.length ≤ M.n * N.n
theorem snoc_cases (w : List Nat) : w = [] ∨ ∃ u o, w = u ++ [o] := by
  rcases List.eq_nil_or_concat w with h | ⟨u, o, h⟩
  · exact .inl h
  · exact .inr ⟨u, o, by rw [h, List.concat_eq_append]⟩
theorem SpI.agree {r0 : Nat × Nat} {L : Nat} {K Dn : List (Nat × Nat)} {W : List Wt} (I : SpI M N r0 L K W Dn) : ∀ (n : Nat) (w : List Nat), w.length = n → Wd M.ops.length w → w.length ≤ L → outs M r0.1 w = outs N r0.2 w
  | 0, w, e, _, _ => by
    have : w = [] := List.length_eq_zero_iff.mp e
    subst this; rfl
  | n + 1, w, e, hw, hl => by
    rcases snoc_cases w with rfl | ⟨u, o, rfl⟩
    · rfl
    · have hu : Wd M.ops.length u := fun x hx => hw x (by simp [hx])
      rw [List.length_append, List.length_singleton] at e hl
      have := I.agree n u (by omega) hu (by omega)
      obtain ⟨h1, _⟩ := I.cl _ (I.wd u hu (by omega)) o (hw o (by simp))
      rw [outs_snoc, outs_snoc, this]
      exact congrArg (fun x => outs N r0.2 u ++ [x]) h1
theorem SpI.next {r0 : Nat × Nat} {L : Nat} {K Dn K' : List (Nat × Nat)} {W t : List Wt} (hM : M.Ok) (hN : N.Ok) (hk : M.ops.length = N.ops.length) (I : SpI M N r0 L K W Dn) (hW : W ≠ []) (e : K' = K ++ t.map (·.2)) (h3 : ∀ y ∈ t, ∃ x ∈ W, ∃ o, o < M.ops.length ∧ y = (x.1 ++ [o], sc2 M N o x.2))
    (h4 : ∀ x ∈ W, ∀ o < M.ops.length, M.rs o x.2.1 = N.rs o x.2.2 ∧ sc2 M N o x.2 ∈ K') (h5 : K.Nodup → K'.Nodup) : SpI M N r0 (L + 1) K' t K := by
  have sub : ∀ r ∈ K, r ∈ K' := fun r hr => by rw [e]; simp [hr]
  have cl : ∀ r ∈ K, ∀ o < M.ops.length, M.rs o r.1 = N.rs o r.2 ∧ sc2 M N o r ∈ K' := fun r hr o ho => by
    rcases (I.spl r).mp hr with z | z
    · obtain ⟨c1, c2⟩ := I.cl r z o ho
      exact ⟨c1, sub _ c2⟩
    · obtain ⟨x, hx, rfl⟩ := List.mem_map.mp z
      exact h4 x hx o ho
  have inK : ∀ x ∈ W, x.2 ∈ K := fun x hx => (I.spl _).mpr (.inr (List.mem_map.mpr ⟨x, hx, rfl⟩))
  refine ⟨h5 I.nd, fun r hr => ?_, fun r => by rw [e, List.mem_append], cl, fun y hy => ?_, fun w hw hl => ?_, fun w hw hl => I.wk w hw (by omega), ?_⟩
  · rw [e] at hr
    rcases List.mem_append.mp hr with hr | hr
    · exact I.lt r hr
    · obtain ⟨y, hy, rfl⟩ := List.mem_map.mp hr
      obtain ⟨x, hx, o, ho, rfl⟩ := h3 y hy
      obtain ⟨l1, l2⟩ := I.lt _ (inK x hx)
      exact ⟨(hM.cell ho l1).1, (hN.cell (by omega) l2).1⟩
  · obtain ⟨x, hx, o, ho, rfl⟩ := h3 y hy
    obtain ⟨w1, w2, w3⟩ := I.wt x hx
    refine ⟨by rw [List.length_append, w1]; rfl, fun z hz => ?_, ?_⟩
    · rcases List.mem_append.mp hz with hz | hz
      · exact w2 z hz
      · have : z = o := by simpa using hz
        rw [this]; exact ho
    · show (fin M r0.1 (x.1 ++ [o]), fin N r0.2 (x.1 ++ [o])) = _
      rw [fin_snoc, fin_snoc]
      have a := congrArg Prod.fst w3
      have b := congrArg Prod.snd w3
      simp only at a b
      rw [a, b]
  · rcases snoc_cases w with rfl | ⟨u, o, rfl⟩
    · exact sub _ (I.wk [] hw (by simp))
    · have hu : Wd M.ops.length u := fun x hx => hw x (by simp [hx])
      rw [List.length_append, List.length_singleton] at hl
      have := (cl _ (I.wk u hu (by omega)) o (hw o (by simp))).2
      show (fin M r0.1 (u ++ [o]), fin N r0.2 (u ++ [o])) ∈ K'
      rw [fin_snoc, fin_snoc]
      exact this
  · by_cases ht : t = []
    · exact .inr ht
    · left
      have hb : L + 1 ≤ K.length := I.big.resolve_right hW
      have : 0 < t.length := by cases t with
        | nil => exact absurd rfl ht
        | cons _ _ => simp
      rw [e, List.length_append, List.length_map]; omega
theorem splS_spec (hM : M.Ok) (hN : N.Ok) (hk : M.ops.length = N.ops.length) {r0 : Nat × Nat} : ∀ (n L : Nat) (K Dn : List (Nat × Nat)) (W : List Wt), SpI M N r0 L K W Dn → M.n * N.n < n + L → match splS M N n K W with
    | none => Alk M N r0.1 r0.2
    | some w => Tell M N r0 w
  | n, L, K, Dn, [], I, _ => by
    have : splS M N n K [] = none := by cases n <;> simp [splS]
    rw [this]
    have z : ∀ r, r ∈ K ↔ r ∈ Dn := fun r => by rw [I.spl]; simp
    exact fun w hw => Alk.closed (fun r => r ∈ K) (fun r hr o ho => I.cl r ((z r).mp hr) o ho) w r0 (I.wk [] (fun _ h => by cases h) (by simp)) hw
  | 0, L, K, Dn, x :: W, I, hf => by
    have := I.big.resolve_right (by simp)
    have := pairs_le I.nd I.lt
    omega
  | n + 1, L, K, Dn, x :: W, I, hf => by
    have h := lvlS_spec (M := M) (N := N) (x :: W) K []
    unfold splS
    rw [if_neg (by simp)]
    cases q : lvlS M N (x :: W) K [] with
    | hit w =>
      rw [q] at h
      obtain ⟨y, hy, o, ho, rfl, hr⟩ := h
      obtain ⟨w1, w2, w3⟩ := I.wt y hy
      have wo : Wd M.ops.length (y.1 ++ [o]) := fun z hz => by
        rcases List.mem_append.mp hz with hz | hz
        · exact w2 z hz
        · have : z = o := by simpa using hz
          rw [this]; exact ho
      have a := congrArg Prod.fst w3
      have b := congrArg Prod.snd w3
      simp only at a b
      have hb := I.big.resolve_right (by simp)
      have hp := pairs_le I.nd I.lt
      refine ⟨wo, ⟨y.1, o, rfl, I.agree _ y.1 rfl w2 (by omega), by rw [a, b]; exact hr⟩, fun v hv hl => ?_, ?_⟩
      · rw [List.length_append, List.length_singleton] at hl
        exact I.agree _ v rfl hv (by omega)
      · rw [List.length_append, List.length_singleton]; omega
    | go K' F =>
      rw [q] at h
      obtain ⟨t, h1, h2, h3, h4, h5⟩ := h
      rw [List.nil_append] at h1
      subst h1
      exact splS_spec hM hN hk n (L + 1) K' K F (I.next hM hN hk (by simp) h2 h3 h4 h5) (by omega)
theorem spl_start {r : Nat × Nat} (h1 : r.1 < M.n) (h2 : r.2 < N.n) : SpI M N r 0 [r] [([], r)] [] where
  nd := by simp
  lt := fun x hx => by have : x = r := by simpa using hx
                       rw [this]; exact ⟨h1, h2⟩
  spl := fun x => by simp
  cl := fun x hx => by cases hx
  wt := fun x hx => by have : x = ([], r) := by simpa using hx
                       rw [this]; exact ⟨rfl, (fun _ h => by cases h), rfl⟩
  wk := fun w hw hl => by
    have : w = [] := List.length_eq_zero_iff.mp (by omega)
    rw [this]; exact List.mem_singleton.mpr rfl
  wd := fun w hw hl => by omega
  big := .inl (by simp)
theorem splF_spec (hM : M.Ok) (hN : N.Ok) (hk : M.ops.length = N.ops.length) {r : Nat × Nat} (h1 : r.1 < M.n) (h2 : r.2 < N.n) : match splF M N r with
    | none => Alk M N r.1 r.2
    | some w => Tell M N r w := by
  refine splS_spec hM hN hk 100 0 [r] [] [([], r)] (spl_start h1 h2) ?_
  have a := Nat.mul_le_mul hM.n8 hN.n8
  omega
theorem Tell.not {r : Nat × Nat} {w : List Nat} (t : Tell M N r w) : outs M r.1 w ≠ outs N r.2 w := by
  obtain ⟨u, o, rfl, h1, h2⟩ := t.last
  rw [outs_snoc, outs_snoc, h1]
  intro e
  have := List.append_cancel_left e
  simp at this
  exact h2 this
theorem splF_none (hM : M.Ok) (hN : N.Ok) (hk : M.ops.length = N.ops.length) {r : Nat × Nat} (h1 : r.1 < M.n) (h2 : r.2 < N.n) : splF M N r = none ↔ Alk M N r.1 r.2 := by
  have h := splF_spec hM hN hk h1 h2
  cases q : splF M N r with
  | none => rw [q] at h; exact ⟨fun _ => h, fun _ => rfl⟩
  | some w => rw [q] at h; exact ⟨fun e => (by cases e), fun a => absurd (a w h.wd) h.not⟩
theorem splF_some (hM : M.Ok) (hN : N.Ok) (hk : M.ops.length = N.ops.length) {r : Nat × Nat} (h1 : r.1 < M.n) (h2 : r.2 < N.n) {w : List Nat} (e : splF M N r = some w) : Tell M N r w := by
  have h := splF_spec hM hN hk h1 h2
  rw [e] at h
  exact h
end
end Mn

set_option Elab.async false
set_option linter.all false
set_option maxRecDepth 100000
set_option maxHeartbeats 1000000
namespace Mn
open PySem
/-! ### the least alike state -/
def al (M : Md) (q : Nat) : Nat := ((List.range (q + 1)).find? fun p => (splF M M (p, q)).isNone).getD q
section
variable {M N : Md}
theorem find_range_least {p : Nat → Bool} : ∀ {n m : Nat}, (List.range n).find? p = some m → p m = true ∧ m < n ∧ ∀ i < m, p i = false := by
  intro n m h
  rw [List.find?_eq_some_iff_getElem] at h
  obtain ⟨h1, i, h2, h3, h4⟩ := h
  rw [List.getElem_range] at h3
  subst h3
  rw [List.length_range] at h2
  refine ⟨h1, h2, fun j hj => ?_⟩
  have := h4 j hj
  rw [List.getElem_range] at this
  simpa using this
theorem al_spec (hM : M.Ok) {q : Nat} (hq : q < M.n) : al M q ≤ q ∧ Alk M M (al M q) q ∧ ∀ p, Alk M M p q → p ≤ q → al M q ≤ p := by
  have hs : ∀ p, p ≤ q → ((splF M M (p, q)).isNone = true ↔ Alk M M p q) := fun p hp => by
    rw [Option.isNone_iff_eq_none]
    exact splF_none hM hM rfl (r := (p, q)) (by show p < M.n; omega) hq
  unfold al
  cases h : (List.range (q + 1)).find? fun p => (splF M M (p, q)).isNone with
  | none =>
    have := List.find?_eq_none.mp h q (by simp)
    exact absurd ((hs q (Nat.le_refl _)).mpr Alk.refl) this
  | some m =>
    obtain ⟨h1, h2, h3⟩ := find_range_least h
    refine ⟨by show m ≤ q; omega, (hs m (by omega)).mp h1, fun p hp hpq => ?_⟩
    by_cases hlt : p < m
    · have := h3 p hlt
      rw [(hs p hpq).mpr hp] at this
      cases this
    · show m ≤ p; omega
theorem al_lt (hM : M.Ok) {q : Nat} (hq : q < M.n) : al M q < M.n := by have := (al_spec hM hq).1; omega
theorem al_alk (hM : M.Ok) {q : Nat} (hq : q < M.n) : Alk M M (al M q) q := (al_spec hM hq).2.1
theorem al_le (hM : M.Ok) {p q : Nat} (hp : p < M.n) (hq : q < M.n) (h : Alk M M p q) : al M q ≤ al M p := by
  obtain ⟨a1, a2, a3⟩ := al_spec hM hp
  obtain ⟨b1, b2, b3⟩ := al_spec hM hq
  have c := a2.trans rfl h
  by_cases hl : al M p ≤ q
  · exact b3 _ c hl
  · have := a3 q (h.symm rfl) (by omega)
    omega
theorem al_eq (hM : M.Ok) {p q : Nat} (hp : p < M.n) (hq : q < M.n) (h : Alk M M p q) : al M p = al M q := Nat.le_antisymm (al_le hM hq hp (h.symm rfl)) (al_le hM hp hq h)
theorem al_idem (hM : M.Ok) {q : Nat} (hq : q < M.n) : al M (al M q) = al M q := al_eq hM (al_lt hM hq) hq (al_alk hM hq)
theorem al_iff (hM : M.Ok) {p q : Nat} (hp : p < M.n) (hq : q < M.n) : al M p = al M q ↔ Alk M M p q := ⟨fun e => ((al_alk hM hp).symm rfl).trans rfl (by rw [e]; exact al_alk hM hq), al_eq hM hp hq⟩
theorem al_zero (hM : M.Ok) : al M 0 = 0 := by have := (al_spec hM (q := 0) hM.n1).1; omega
/-! ### alike states are one -/
def mgd (M : Md) : Md := ⟨M.n, M.ops.map fun r => r.map fun e => (al M e.1, e.2)⟩
theorem mgd_len : (mgd M).ops.length = M.ops.length := List.length_map ..
theorem mgd_row {o : Nat} (ho : o < M.ops.length) : (mgd M).row o = (M.row o).map fun e => (al M e.1, e.2) := by
  unfold Md.row mgd
  rw [List.getD_eq_getElem?_getD, List.getElem?_map, List.getD_eq_getElem?_getD, List.getElem?_eq_getElem ho]
  rfl
theorem mgd_cell (hM : M.Ok) {o q : Nat} (ho : o < M.ops.length) (hq : q < M.n) : (mgd M).nx o q = al M (M.nx o q) ∧ (mgd M).rs o q = M.rs o q := by
  have h1 : (mgd M).ops.getD o [] = (M.row o).map fun e => (al M e.1, e.2) := mgd_row ho
  have h2 := cell_get hM ho hq
  unfold Md.nx Md.rs
  rw [h1, List.getD_eq_getElem?_getD, List.getElem?_map, h2]
  exact ⟨rfl, rfl⟩
theorem mgd_ok (hM : M.Ok) : (mgd M).Ok where
  n1 := hM.n1
  n8 := hM.n8
  o1 := by rw [mgd_len]; exact hM.o1
  o6 := by rw [mgd_len]; exact hM.o6
  row := fun r hr => by
    obtain ⟨r0, h0, rfl⟩ := List.mem_map.mp hr
    obtain ⟨h1, h2⟩ := hM.row r0 h0
    refine ⟨by rw [List.length_map]; exact h1, fun e he => ?_⟩
    obtain ⟨e0, k0, rfl⟩ := List.mem_map.mp he
    exact ⟨al_lt hM (h2 e0 k0).1, (h2 e0 k0).2⟩
theorem mgd_reach (hM : M.Ok) {q : Nat} : Reach (mgd M) q ↔ ∃ p, Reach M p ∧ q = al M p := by
  constructor
  · intro h
    induction h with
    | zero => exact ⟨0, .zero, (al_zero hM).symm⟩
    | @step q o _ ho ih =>
      obtain ⟨p, hp, rfl⟩ := ih
      rw [mgd_len] at ho
      have pl := hp.lt hM
      refine ⟨M.nx o p, .step hp ho, ?_⟩
      rw [(mgd_cell hM ho (al_lt hM pl)).1]
      exact al_eq hM (hM.cell ho (al_lt hM pl)).1 (hM.cell ho pl).1 ((al_alk hM pl).nx ho)
  · rintro ⟨p, hp, rfl⟩
    induction hp with
    | zero => rw [al_zero hM]; exact .zero
    | @step p o hp ho ih =>
      have pl := hp.lt hM
      have := Reach.step ih (o := o) (by rw [mgd_len]; exact ho)
      rw [(mgd_cell hM ho (al_lt hM pl)).1, al_eq hM (hM.cell ho (al_lt hM pl)).1 (hM.cell ho pl).1 ((al_alk hM pl).nx ho)] at this
      exact this
def kept (M : Md) : List Nat := foundS (mgd M)
theorem kept_nd (hM : M.Ok) : (kept M).Nodup := found_nd (mgd_ok hM)
theorem kept_mem (hM : M.Ok) {q : Nat} : q ∈ kept M ↔ ∃ p, Reach M p ∧ q = al M p := (found_mem (mgd_ok hM)).trans (mgd_reach hM)
theorem kept_lt (hM : M.Ok) {q : Nat} (h : q ∈ kept M) : q < M.n := by
  obtain ⟨p, hp, rfl⟩ := (kept_mem hM).mp h
  exact al_lt hM (hp.lt hM)
theorem kept_al (hM : M.Ok) {q : Nat} (h : q ∈ kept M) : al M q = q := by
  obtain ⟨p, hp, rfl⟩ := (kept_mem hM).mp h
  exact al_idem hM (hp.lt hM)
theorem kept_nx (hM : M.Ok) {q o : Nat} (h : q ∈ kept M) (ho : o < M.ops.length) : al M (M.nx o q) ∈ kept M := by
  have h1 := (found_mem (mgd_ok hM)).mp h
  have := Reach.step h1 (o := o) (by rw [mgd_len]; exact ho)
  rw [(mgd_cell hM ho (kept_lt hM h)).1] at this
  exact (found_mem (mgd_ok hM)).mpr this
theorem kept_zero (hM : M.Ok) : (kept M)[0]? = some 0 := by
  obtain ⟨a, h, _⟩ := found_fnd (mgd_ok hM)
  exact h.z
/-! ### the least model -/
def least (M : Md) : Md := ⟨(kept M).length, (List.range M.ops.length).map fun o => (kept M).map fun q => ((kept M).idxOf (al M (M.nx o q)), M.rs o q)⟩
theorem least_len : (least M).ops.length = M.ops.length := by simp [least]
theorem least_cell {o i q : Nat} (ho : o < M.ops.length) (hq : (kept M)[i]? = some q) : (least M).nx o i = (kept M).idxOf (al M (M.nx o q)) ∧ (least M).rs o i = M.rs o q := by
  have h1 : (least M).ops.getD o [] = (kept M).map fun q => ((kept M).idxOf (al M (M.nx o q)), M.rs o q) := by
    unfold least
    rw [List.getD_eq_getElem?_getD, List.getElem?_map, List.getElem?_range ho]
    rfl
  unfold Md.nx Md.rs
  rw [h1, List.getD_eq_getElem?_getD, List.getElem?_map, hq]
  exact ⟨rfl, rfl⟩
theorem idx_get {l : List Nat} {x : Nat} (h : x ∈ l) : l[l.idxOf x]? = some x := by
  have h1 := List.idxOf_lt_length_of_mem h
  rw [List.getElem?_eq_getElem h1]
  congr 1
  exact List.getElem_idxOf h1
theorem least_ok (hM : M.Ok) : (least M).Ok where
  n1 := by
    have := (List.getElem?_eq_some_iff.mp (kept_zero hM)).1
    exact this
  n8 := Nat.le_trans (nodup_le M.n _ (kept_nd hM) fun x hx => kept_lt hM hx) hM.n8
  o1 := by rw [least_len]; exact hM.o1
  o6 := by rw [least_len]; exact hM.o6
  row := fun r hr => by
    obtain ⟨o, ho, rfl⟩ := List.mem_map.mp hr
    have ho' := List.mem_range.mp ho
    refine ⟨List.length_map .., fun e he => ?_⟩
    obtain ⟨q, hq, rfl⟩ := List.mem_map.mp he
    exact ⟨List.idxOf_lt_length_of_mem (kept_nx hM hq ho'), (hM.cell ho' (kept_lt hM hq)).2⟩
theorem least_alk (hM : M.Ok) {i q : Nat} (hq : (kept M)[i]? = some q) : Alk (least M) M i q := by
  intro w hw
  refine Alk.closed (M := least M) (N := M) (fun r => ∃ q, (kept M)[r.1]? = some q ∧ r.2 < M.n ∧ Alk M M q r.2) (fun r hr o ho => ?_) w (i, q) ⟨q, hq, kept_lt hM (List.mem_of_getElem? hq), Alk.refl⟩ hw
  obtain ⟨p, h1, h2, h3⟩ := hr
  rw [least_len] at ho
  have pm := List.mem_of_getElem? h1
  have pl := kept_lt hM pm
  obtain ⟨c1, c2⟩ := least_cell ho h1
  refine ⟨by rw [c2]; exact h3.rs ho, _, by rw [c1]; exact idx_get (kept_nx hM pm ho), (hM.cell ho h2).1, (al_alk hM (hM.cell ho pl).1).trans rfl (h3.nx ho)⟩
theorem least_alk0 (hM : M.Ok) : Alk (least M) M 0 0 := least_alk hM (kept_zero hM)
theorem least_reduced (hM : M.Ok) {i j : Nat} (hi : i < (least M).n) (hj : j < (least M).n) (h : Alk (least M) (least M) i j) : i = j := by
  obtain ⟨p, hp⟩ : ∃ p, (kept M)[i]? = some p := ⟨_, List.getElem?_eq_getElem hi⟩
  obtain ⟨q, hq⟩ : ∃ q, (kept M)[j]? = some q := ⟨_, List.getElem?_eq_getElem hj⟩
  have pm := List.mem_of_getElem? hp
  have qm := List.mem_of_getElem? hq
  have a : Alk M M p q := (((least_alk hM hp).symm least_len).trans least_len.symm h).trans least_len.symm (least_alk hM hq)
  have e := al_eq hM (kept_lt hM pm) (kept_lt hM qm) a
  rw [kept_al hM pm, kept_al hM qm] at e
  subst e
  exact (List.getElem?_inj hi (kept_nd hM)).mp (hp.trans hq.symm)
end
end Mn

set_option Elab.async false
set_option linter.all false
set_option maxRecDepth 100000
set_option maxHeartbeats 1000000
namespace Mn
open PySem
section
variable {M N : Md}
/-- two searches in step -/
structure PrOk (M N : Md) (r : Nat × Nat) : Prop where
  l1 : r.1 < M.n
  l2 : r.2 < N.n
  a1 : al M r.1 = r.1
  a2 : al N r.2 = r.2
  ak : Alk M N r.1 r.2
theorem PrOk.inj (hM : M.Ok) (hN : N.Ok) (hk : M.ops.length = N.ops.length) {r s : Nat × Nat} (h : PrOk M N r) (h' : PrOk M N s) : r.1 = s.1 ↔ r.2 = s.2 := by
  constructor
  · intro e
    have a : Alk N N r.2 s.2 := (h.ak.symm hk).trans hk.symm (by rw [e]; exact h'.ak)
    have := al_eq hN h.l2 h'.l2 a
    rw [h.a2, h'.a2] at this
    exact this
  · intro e
    have a : Alk M M r.1 s.1 := h.ak.trans hk (by rw [e]; exact h'.ak.symm hk)
    have := al_eq hM h.l1 h'.l1 a
    rw [h.a1, h'.a1] at this
    exact this
theorem PrOk.mem (hM : M.Ok) (hN : N.Ok) (hk : M.ops.length = N.ops.length) {x : Nat × Nat} (hx : PrOk M N x) : ∀ {z : List (Nat × Nat)}, (∀ r ∈ z, PrOk M N r) → (x.1 ∈ z.map (·.1) ↔ x.2 ∈ z.map (·.2))
  | [], _ => by simp
  | r :: z, h => by
    rw [List.map_cons, List.map_cons, List.mem_cons, List.mem_cons, hx.inj hM hN hk (h r (by simp)), PrOk.mem hM hN hk hx fun s hs => h s (by simp [hs])]
theorem PrOk.add (hM : M.Ok) (hN : N.Ok) (hk : M.ops.length = N.ops.length) {x : Nat × Nat} (hx : PrOk M N x) {z : List (Nat × Nat)} (h : ∀ r ∈ z, PrOk M N r) : ∃ z' : List (Nat × Nat), (∀ r ∈ z', PrOk M N r) ∧ addN (z.map (·.1)) x.1 = z'.map (·.1) ∧ addN (z.map (·.2)) x.2 = z'.map (·.2) ∧ ∃ t, z' = z ++ t := by
  have e := hx.mem hM hN hk h
  unfold addN
  by_cases c : x.1 ∈ z.map (·.1)
  · rw [if_pos c, if_pos (e.mp c)]
    exact ⟨z, h, rfl, rfl, [], by simp⟩
  · rw [if_neg c, if_neg fun q => c (e.mpr q)]
    refine ⟨z ++ [x], fun r hr => ?_, by simp, by simp, [x], rfl⟩
    rcases List.mem_append.mp hr with hr | hr
    · exact h r hr
    · have : r = x := by simpa using hr
      rw [this]; exact hx
theorem PrOk.nx (hM : M.Ok) (hN : N.Ok) (hk : M.ops.length = N.ops.length) {r : Nat × Nat} (h : PrOk M N r) {o : Nat} (ho : o < M.ops.length) : PrOk M N (al M (M.nx o r.1), al N (N.nx o r.2)) := by
  have c1 := (hM.cell ho h.l1).1
  have ho' : o < N.ops.length := by omega
  have c2 := (hN.cell ho' h.l2).1
  exact ⟨al_lt hM c1, al_lt hN c2, al_idem hM c1, al_idem hN c2, ((al_alk hM c1).trans rfl (h.ak.nx ho)).trans hk ((al_alk hN c2).symm rfl)⟩
theorem PrOk.fold (hM : M.Ok) (hN : N.Ok) (hk : M.ops.length = N.ops.length) {r : Nat × Nat} (hr : PrOk M N r) : ∀ (os : List Nat) (z : List (Nat × Nat)), (∀ o ∈ os, o < M.ops.length) → (∀ s ∈ z, PrOk M N s) →
    ∃ z' : List (Nat × Nat), (∀ s ∈ z', PrOk M N s) ∧ os.foldl (fun f o => addN f ((mgd M).nx o r.1)) (z.map (·.1)) = z'.map (·.1) ∧ os.foldl (fun f o => addN f ((mgd N).nx o r.2)) (z.map (·.2)) = z'.map (·.2)
  | [], z, _, h => ⟨z, h, rfl, rfl⟩
  | o :: os, z, ho, h => by
    have o1 := ho o (by simp)
    obtain ⟨z1, h1, e1, e2, _⟩ := (hr.nx hM hN hk o1).add hM hN hk h
    obtain ⟨z2, h2, e3, e4⟩ := PrOk.fold hM hN hk hr os z1 (fun o' h' => ho o' (by simp [h'])) h1
    refine ⟨z2, h2, ?_, ?_⟩
    · rw [List.foldl_cons, (mgd_cell hM o1 hr.l1).1, e1]; exact e3
    · rw [List.foldl_cons, (mgd_cell hN (by omega) hr.l2).1, e2]; exact e4
theorem PrOk.bfs (hM : M.Ok) (hN : N.Ok) (hk : M.ops.length = N.ops.length) : ∀ (n : Nat) (z : List (Nat × Nat)) (a : Nat), (∀ s ∈ z, PrOk M N s) → ∃ z' : List (Nat × Nat), (∀ s ∈ z', PrOk M N s) ∧ Mn.bfs (mgd M) n (z.map (·.1)) a = z'.map (·.1) ∧ Mn.bfs (mgd N) n (z.map (·.2)) a = z'.map (·.2)
  | 0, z, _, h => ⟨z, h, rfl, rfl⟩
  | n + 1, z, a, h => by
    unfold Mn.bfs
    rw [List.getElem?_map, List.getElem?_map]
    cases q : z[a]? with
    | none => exact ⟨z, h, rfl, rfl⟩
    | some r =>
      have hr := h r (List.mem_of_getElem? q)
      obtain ⟨z1, h1, e1, e2⟩ := hr.fold hM hN hk (List.range M.ops.length) z (fun o ho => List.mem_range.mp ho) h
      obtain ⟨z2, h2, e3, e4⟩ := PrOk.bfs hM hN hk n z1 (a + 1) h1
      refine ⟨z2, h2, ?_, ?_⟩
      · show Mn.bfs (mgd M) n (turnF (mgd M) (z.map (·.1)) r.1) (a + 1) = _
        unfold turnF
        rw [mgd_len, e1]; exact e3
      · show Mn.bfs (mgd N) n (turnF (mgd N) (z.map (·.2)) r.2) (a + 1) = _
        unfold turnF
        rw [mgd_len, ← hk, e2]; exact e4
theorem PrOk.idx (hM : M.Ok) (hN : N.Ok) (hk : M.ops.length = N.ops.length) {x : Nat × Nat} (hx : PrOk M N x) : ∀ {z : List (Nat × Nat)}, (∀ r ∈ z, PrOk M N r) → (z.map (·.1)).idxOf x.1 = (z.map (·.2)).idxOf x.2
  | [], _ => rfl
  | r :: z, h => by
    rw [List.map_cons, List.map_cons, List.idxOf_cons, List.idxOf_cons, PrOk.idx hM hN hk hx fun s hs => h s (by simp [hs])]
    have e := (h r (by simp)).inj hM hN hk hx
    by_cases c : r.1 = x.1
    · have c2 := e.mp c
      simp [c, c2]
    · have c2 : ¬ r.2 = x.2 := fun z => c (e.mpr z)
      have d1 : (r.1 == x.1) = false := by simpa using c
      have d2 : (r.2 == x.2) = false := by simpa using c2
      rw [d1, d2]
/-- what responds alike has one least model -/
theorem least_canon (hM : M.Ok) (hN : N.Ok) (hk : M.ops.length = N.ops.length) (h : Alk M N 0 0) : least M = least N := by
  have h0 : PrOk M N (0, 0) := ⟨hM.n1, hN.n1, al_zero hM, al_zero hN, h⟩
  obtain ⟨z, hz, e1, e2⟩ := PrOk.bfs hM hN hk 9 [(0, 0)] 0 fun s hs => by
    have : s = (0, 0) := by simpa using hs
    rw [this]; exact h0
  have e1 : kept M = z.map (·.1) := e1
  have e2 : kept N = z.map (·.2) := e2
  unfold least
  rw [e1, e2, ← hk]
  congr 1
  · simp
  · apply List.map_congr_left
    intro o ho
    have ho := List.mem_range.mp ho
    rw [List.map_map, List.map_map]
    apply List.map_congr_left
    intro r hr
    have hr := hz r hr
    show (List.idxOf _ _, _) = (List.idxOf _ _, _)
    rw [(hr.nx hM hN hk ho).idx hM hN hk hz, hr.ak.rs ho]
theorem least_idem (hM : M.Ok) : least (least M) = least M := least_canon (least_ok hM) hM least_len (least_alk0 hM)
theorem least_iff (hM : M.Ok) (hN : N.Ok) (hk : M.ops.length = N.ops.length) : Alk M N 0 0 ↔ least M = least N := by
  refine ⟨least_canon hM hN hk, fun e => ?_⟩
  have h1 := (least_alk0 hM).symm least_len
  have h2 := least_alk0 hN
  rw [← e] at h2
  exact h1.trans least_len.symm h2
/-- distinct members of a list -/
theorem nodup_sub {α : Type} [DecidableEq α] : ∀ {l m : List α}, l.Nodup → (∀ x ∈ l, x ∈ m) → l.length ≤ m.length
  | [], _, _, _ => Nat.zero_le _
  | x :: l, m, h, hs => by
    rw [List.nodup_cons] at h
    have hx := hs x (by simp)
    have := nodup_sub (m := m.erase x) h.2 fun y hy => (List.mem_erase_of_ne (a := y) (b := x) fun e => h.1 (by rw [← e]; exact hy)).mpr (hs y (by simp [hy]))
    rw [List.length_erase_of_mem hx] at this
    have : 0 < m.length := List.length_pos_of_mem hx
    rw [List.length_cons]; omega
theorem least_size (hM : M.Ok) : (least M).n ≤ (foundS M).length := by
  have := nodup_sub (l := kept M) (m := (foundS M).map (al M)) (kept_nd hM) fun x hx => by
    obtain ⟨p, hp, rfl⟩ := (kept_mem hM).mp hx
    exact List.mem_map.mpr ⟨p, (found_mem hM).mpr hp, rfl⟩
  rw [List.length_map] at this
  exact this
theorem least_found (hM : M.Ok) : (foundS (least M)).length = (least M).n := by
  have h1 := least_size (least_ok hM)
  rw [least_idem hM] at h1
  obtain ⟨a, hf, _⟩ := found_fnd (least_ok hM)
  have h2 := nodup_le (least M).n (foundS (least M)) (found_nd (least_ok hM)) hf.lt
  omega
theorem least_reach (hM : M.Ok) {i : Nat} (hi : i < (least M).n) : Reach (least M) i := by
  refine (found_mem (least_ok hM)).mp (Classical.byContradiction fun h => ?_)
  obtain ⟨a, hf, _⟩ := found_fnd (least_ok hM)
  have := nodup_le (least M).n (i :: foundS (least M)) (List.nodup_cons.mpr ⟨h, found_nd (least_ok hM)⟩) fun x hx => by
    rcases List.mem_cons.mp hx with rfl | hx
    · exact hi
    · exact hf.lt x hx
  rw [List.length_cons, least_found hM] at this
  omega
theorem least_evt (hM : M.Ok) {e : Nat × Nat} : Evt (least M) e ↔ Evt M e := by
  unfold Evt
  rw [least_len]
  constructor
  · rintro ⟨h1, i, hi, h2⟩
    have il := hi.lt (least_ok hM)
    obtain ⟨q, hq⟩ : ∃ q, (kept M)[i]? = some q := ⟨_, List.getElem?_eq_getElem il⟩
    obtain ⟨p, hp, rfl⟩ := (kept_mem hM).mp (List.mem_of_getElem? hq)
    rw [(least_cell h1 hq).2] at h2
    exact ⟨h1, p, hp, by rw [← h2]; exact ((al_alk hM (hp.lt hM)).rs h1).symm⟩
  · rintro ⟨h1, p, hp, h2⟩
    have hm := (kept_mem hM).mpr ⟨p, hp, rfl⟩
    have hi := List.idxOf_lt_length_of_mem hm
    refine ⟨h1, (kept M).idxOf (al M p), least_reach hM hi, ?_⟩
    rw [(least_cell h1 (idx_get hm)).2, ← h2]
    exact (al_alk hM (hp.lt hM)).rs h1
theorem least_evS (hM : M.Ok) : evS (least M) = evS M := sortG_eq ordP coll_nd coll_nd fun e => by rw [coll_mem (least_ok hM), coll_mem hM]; exact least_evt hM
theorem least_outs (hM : M.Ok) {w : List Nat} (hw : Wd M.ops.length w) : outs (least M) 0 w = outs M 0 w := least_alk0 hM w (by rw [least_len]; exact hw)
end
end Mn

set_option Elab.async false
set_option linter.all false
set_option maxRecDepth 100000
set_option maxHeartbeats 1000000
namespace Mn
open PySem
/-! ### equal data -/
theorem eqbs_map {α : Type} [DecidableEq α] {e : α → D} (h : ∀ a b, D.eqb (e a) (e b) = decide (a = b)) : ∀ (l m : List α), D.eqbs (l.map e) (m.map e) = decide (l = m)
  | [], [] => by simp [D.eqbs]
  | [], _ :: _ => by simp [D.eqbs]
  | _ :: _, [] => by simp [D.eqbs]
  | a :: l, b :: m => by
    rw [List.map_cons, List.map_cons]
    simp only [D.eqbs]
    rw [h, eqbs_map h l m]
    by_cases h1 : a = b <;> by_cases h2 : l = m <;> simp [h1, h2]
theorem eqb_tmap {α : Type} [DecidableEq α] {e : α → D} (h : ∀ a b, D.eqb (e a) (e b) = decide (a = b)) (l m : List α) : D.eqb (.tup (l.map e)) (.tup (m.map e)) = decide (l = m) := by
  simp only [D.eqb]; exact eqbs_map h l m
theorem eqb_lmap {α : Type} [DecidableEq α] {e : α → D} (h : ∀ a b, D.eqb (e a) (e b) = decide (a = b)) (l m : List α) : D.eqb (.lst (l.map e)) (.lst (m.map e)) = decide (l = m) := by
  simp only [D.eqb]; exact eqbs_map h l m
theorem eqb_row (a b : List (Nat × Nat)) : D.eqb (rowD a) (rowD b) = decide (a = b) := eqb_tmap eqb_pair a b
instance : DecidableEq Md := fun a b => match a, b with
  | ⟨n, r⟩, ⟨m, s⟩ => if h : n = m ∧ r = s then .isTrue (by rw [h.1, h.2]) else .isFalse fun e => h (by cases e; exact ⟨rfl, rfl⟩)
theorem eqb_md (a b : Md) : D.eqb a.d b.d = decide (a = b) := by
  obtain ⟨n, r⟩ := a
  obtain ⟨m, s⟩ := b
  have h1 := eqb_nat n m
  have h2 := eqb_tmap eqb_row r s
  simp only [iD] at h1
  simp only [Md.d, D.eqb, D.eqbs] at h1 h2 ⊢
  rw [h1, h2]
  by_cases e1 : n = m <;> by_cases e2 : r = s <;> simp [e1, e2]
theorem cmp_eq_md {a b : Md} : cmpD .eq a.d b.d = some (decide (a = b)) := by
  rw [cmp_eq_of (okb_le ok_md (by decide)) (okb_le ok_md (by decide)), eqb_md]
theorem cmp_ne_md {a b : Md} : cmpD .ne a.d b.d = some (!decide (a = b)) := by
  rw [cmp_ne_of (okb_le ok_md (by decide)) (okb_le ok_md (by decide)), eqb_md]
theorem cmp_eq_tn {a b : List Nat} : cmpD .eq (.tup (a.map iD)) (.tup (b.map iD)) = some (decide (a = b)) := by
  rw [cmp_eq_of ok_tnats ok_tnats, eqb_tmap eqb_nat]
theorem cmp_ne_tn {a b : List Nat} : cmpD .ne (.tup (a.map iD)) (.tup (b.map iD)) = some (!decide (a = b)) := by
  rw [cmp_ne_of ok_tnats ok_tnats, eqb_tmap eqb_nat]
theorem cmp_ne_ln {a b : List Nat} : cmpD .ne (.lst (a.map iD)) (.lst (b.map iD)) = some (!decide (a = b)) := by
  rw [cmp_ne_of (okb_le ok_nats (by decide)) (okb_le ok_nats (by decide)), eqb_lmap eqb_nat]
theorem cmp_eq_bb {a b : Bool} : cmpD .eq (.bl a) (.bl b) = some (a == b) := by
  cases a <;> cases b <;> rfl
theorem cmp_ne_bb {a b : Bool} : cmpD .ne (.bl a) (.bl b) = some (a != b) := by
  cases a <;> cases b <;> rfl
/-! ### the last of a list, and all before -/
theorem atI_last {α : Type} {l : List α} {x : α} : L2.atI (l ++ [x]) (-1) = some x := by
  have e : L2.ixN (l ++ [x]).length (-1) = some l.length := by
    unfold L2.ixN
    rw [List.length_append, List.length_singleton, if_neg (by omega), if_pos (by omega)]
    congr 1
    omega
  unfold L2.atI
  rw [e]
  simp
theorem cut_init {α : Type} {l : List α} {x : α} : cut (l ++ [x]) none (some (-1)) = l := by
  unfold cut
  have h1 : HT.sIx (l ++ [x]).length 0 none = 0 := rfl
  have h2 : HT.sIx (l ++ [x]).length (l ++ [x]).length (some (-1)) = l.length := by
    simp [HT.sIx]
    omega
  rw [h1, h2]
  simp
/-! ### what tells two states apart, after its first letter -/
theorem Tell.tail {M N : Md} (hM : M.Ok) (hN : N.Ok) (hk : M.ops.length = N.ops.length) {p q o : Nat} (h1 : p < M.n) (h2 : q < N.n) {w : List Nat} (t : Tell M N (p, q) (o :: w)) (hw : w ≠ []) :
    ∃ v, splF M N (M.nx o p, N.nx o q) = some v ∧ v.length = w.length := by
  have ho := t.wd o (by simp)
  have hw' : Wd M.ops.length w := fun x hx => t.wd x (by simp [hx])
  have hl : 0 < w.length := List.length_pos_iff.mpr hw
  have r1 : M.rs o p = N.rs o q := by
    have := t.least [o] (fun x hx => by
      have : x = o := by simpa using hx
      rw [this]; exact ho) (by simp; omega)
    exact (List.cons.inj this).1
  have ne : outs M (M.nx o p) w ≠ outs N (N.nx o q) w := fun e => t.not (by
    show _ :: _ = _ :: _
    rw [e]; exact congrArg (· :: _) r1)
  have l1 := (hM.cell ho h1).1
  have l2 := (hN.cell (o := o) (by omega) h2).1
  cases e : splF M N (M.nx o p, N.nx o q) with
  | none => exact absurd ((splF_none hM hN hk (r := (M.nx o p, N.nx o q)) l1 l2).mp e w hw') ne
  | some v =>
    have s := splF_some hM hN hk (r := (M.nx o p, N.nx o q)) l1 l2 e
    refine ⟨v, rfl, ?_⟩
    rcases Nat.lt_trichotomy v.length w.length with z | z | z
    · have := t.least (o :: v) (fun x hx => by
        rcases List.mem_cons.mp hx with rfl | hx
        · exact ho
        · exact s.wd x hx) (by simp; omega)
      exact absurd (List.cons.inj this).2 s.not
    · exact z
    · exact absurd (s.least w hw' z) ne
end Mn

set_option Elab.async false
set_option linter.all false
set_option maxRecDepth 1000000
set_option maxHeartbeats 4000000
namespace Mn
open PySem
/-! ### the standard models -/
def cellM (v : Nat) : Md := ⟨v, (List.range v).map (fun s => (s, s)) :: (List.range v).map (fun x => List.replicate v (x, 0))⟩
def countM (l : Nat) : Md := ⟨l + 1, [(List.range (l + 1)).map (fun s => if s < l then (s + 1, 0) else (s, 1)), (List.range (l + 1)).map (fun s => if 0 < s then (s - 1, 0) else (s, 1)), (List.range (l + 1)).map (fun s => (s, if s = 0 then 1 else 0))]⟩
def bufM (s : Nat) : Md := if s = 1 then ⟨3, [[(1, 0), (1, 1), (2, 1)], [(2, 0), (1, 1), (2, 1)], [(0, 2), (0, 0), (0, 1)]]⟩
  else ⟨7, [[(1, 0), (3, 0), (5, 0), (3, 1), (4, 1), (5, 1), (6, 1)], [(2, 0), (4, 0), (6, 0), (3, 1), (4, 1), (5, 1), (6, 1)], [(0, 2), (0, 0), (0, 1), (1, 0), (2, 0), (1, 1), (2, 1)]]⟩
/-- a model, by computation -/
def okB (M : Md) : Bool := decide (1 ≤ M.n) && decide (M.n ≤ 8) && decide (1 ≤ M.ops.length) && decide (M.ops.length ≤ 6) && M.ops.all fun r => decide (r.length = M.n) && r.all fun e => decide (e.1 < M.n) && decide (e.2 ≤ 3)
theorem okB_of {M : Md} (h : okB M = true) : M.Ok := by
  simp only [okB, Bool.and_eq_true, decide_eq_true_eq, List.all_eq_true] at h
  obtain ⟨⟨⟨⟨h1, h2⟩, h3⟩, h4⟩, h5⟩ := h
  exact ⟨h1, h2, h3, h4, fun r hr => ⟨(h5 r hr).1, fun e he => (h5 r hr).2 e he⟩⟩
section
variable {τ : Town}
theorem cell_eq {v : Nat} (h2 : 2 ≤ v) (h4 : v ≤ 4) : F_cell [.int v] τ = .ok (cellM v).d τ := by
  match v, h2, h4 with
  | 2, _, _ => kernel_rfl
  | 3, _, _ => kernel_rfl
  | 4, _, _ => kernel_rfl
theorem counter_eq {v : Nat} (h2 : 1 ≤ v) (h4 : v ≤ 7) : F_counter [.int v] τ = .ok (countM v).d τ := by
  match v, h2, h4 with
  | 1, _, _ => kernel_rfl
  | 2, _, _ => kernel_rfl
  | 3, _, _ => kernel_rfl
  | 4, _, _ => kernel_rfl
  | 5, _, _ => kernel_rfl
  | 6, _, _ => kernel_rfl
  | 7, _, _ => kernel_rfl
theorem buffer_eq {v : Nat} (h2 : 1 ≤ v) (h4 : v ≤ 2) : F_buffer [.int v] τ = .ok (bufM v).d τ := by
  match v, h2, h4 with
  | 1, _, _ => kernel_rfl
  | 2, _, _ => kernel_rfl
end
theorem cell_ok {v : Nat} (h2 : 2 ≤ v) (h4 : v ≤ 4) : (cellM v).Ok := okB_of (by
  match v, h2, h4 with
  | 2, _, _ => decide +kernel
  | 3, _, _ => decide +kernel
  | 4, _, _ => decide +kernel)
theorem count_ok {v : Nat} (h2 : 1 ≤ v) (h4 : v ≤ 7) : (countM v).Ok := okB_of (by
  have : ∀ v, v < 8 → 1 ≤ v → okB (countM v) = true := by decide +kernel
  exact this v (by omega) h2)
theorem buf_ok {v : Nat} (h2 : 1 ≤ v) (h4 : v ≤ 2) : (bufM v).Ok := okB_of (by
  have : ∀ v, v < 3 → 1 ≤ v → okB (bufM v) = true := by decide +kernel
  exact this v (by omega) h2)
theorem cell_len {v : Nat} (h2 : 2 ≤ v) (h4 : v ≤ 4) : (cellM v).ops.length = v + 1 ∧ (sortN (foundS (cellM v))).length = v := by
  have : ∀ v, v < 5 → 2 ≤ v → (cellM v).ops.length = v + 1 ∧ (sortN (foundS (cellM v))).length = v := by decide +kernel
  exact this v (by omega) h2
theorem count_len {v : Nat} (h2 : 1 ≤ v) (h4 : v ≤ 7) : (sortN (foundS (countM v))).length = v + 1 := by
  have : ∀ v, v < 8 → 1 ≤ v → (sortN (foundS (countM v))).length = v + 1 := by decide +kernel
  exact this v (by omega) h2
theorem buf_len {v : Nat} (h2 : 1 ≤ v) (h4 : v ≤ 2) : (bufM v).ops.length = 3 ∧ (sortN (foundS (bufM v))).length = (bufM v).n := by
  have : ∀ v, v < 3 → 1 ≤ v → (bufM v).ops.length = 3 ∧ (sortN (foundS (bufM v))).length = (bufM v).n := by decide +kernel
  exact this v (by omega) h2
theorem cell_step {v o q : Nat} (h2 : 2 ≤ v) (h4 : v ≤ 4) (ho : o < v + 1) (hq : q < v) : (cellM v).nx o q = (if o = 0 then q else o - 1) ∧ (cellM v).rs o q = if o = 0 then q else 0 := by
  have : ∀ v, v < 5 → 2 ≤ v → ∀ o, o < v + 1 → ∀ q, q < v → (cellM v).nx o q = (if o = 0 then q else o - 1) ∧ (cellM v).rs o q = if o = 0 then q else 0 := by decide +kernel
  exact this v (by omega) h2 o ho q hq
/-- a turn of the counter -/
def cstep (l o q : Nat) : Nat × Nat := if o = 0 then (if q < l then (q + 1, 0) else (q, 1)) else if o = 1 then (if 0 < q then (q - 1, 0) else (q, 1)) else (q, if q = 0 then 1 else 0)
theorem count_step {v o q : Nat} (h2 : 1 ≤ v) (h4 : v ≤ 7) (ho : o < 3) (hq : q < v + 1) : ((countM v).nx o q, (countM v).rs o q) = cstep v o q := by
  have : ∀ v, v < 8 → 1 ≤ v → ∀ o, o < 3 → ∀ q, q < v + 1 → ((countM v).nx o q, (countM v).rs o q) = cstep v o q := by decide +kernel
  exact this v (by omega) h2 o ho q hq
/-- what the buffer holds -/
def bitsF (q : Nat) : List Nat := [[], [0], [1], [0, 0], [0, 1], [1, 0], [1, 1]].getD q []
def bstep (s o : Nat) (b : List Nat) : List Nat × Nat := if o < 2 then (if b.length < s then (b ++ [o], 0) else (b, 1)) else (b.drop 1, b.getD 0 2)
theorem buf_step {v o q : Nat} (h2 : 1 ≤ v) (h4 : v ≤ 2) (ho : o < 3) (hq : q < (bufM v).n) : (bitsF ((bufM v).nx o q), (bufM v).rs o q) = bstep v o (bitsF q) := by
  have h1 : ∀ o, o < 3 → ∀ q, q < 3 → (bitsF ((bufM 1).nx o q) = (bstep 1 o (bitsF q)).1 ∧ (bufM 1).rs o q = (bstep 1 o (bitsF q)).2) := by decide +kernel
  have h2' : ∀ o, o < 3 → ∀ q, q < 7 → (bitsF ((bufM 2).nx o q) = (bstep 2 o (bitsF q)).1 ∧ (bufM 2).rs o q = (bstep 2 o (bitsF q)).2) := by decide +kernel
  match v, h2, h4, hq with
  | 1, _, _, hq =>
    obtain ⟨a, b⟩ := h1 o ho q hq
    exact Prod.ext a b
  | 2, _, _, hq =>
    obtain ⟨a, b⟩ := h2' o ho q hq
    exact Prod.ext a b
theorem bits_len {q : Nat} : (bitsF q).length ≤ 2 := by
  by_cases h : q < 7
  · have : ∀ q, q < 7 → (bitsF q).length ≤ 2 := by decide +kernel
    exact this q h
  · unfold bitsF
    rw [List.getD_eq_getElem?_getD, List.getElem?_eq_none (by simp; omega)]
    exact Nat.zero_le _
theorem buf_n {v : Nat} (h2 : 1 ≤ v) (h4 : v ≤ 2) : (bufM v).n = if v = 1 then 3 else 7 := by
  unfold bufM
  split <;> rfl
section
variable {τ : Town}
theorem place_eq {q : Nat} (h : q < 7) : F__law_place [.lst ((bitsF q).map iD)] τ = .ok (.int q) τ := by
  match q, h with
  | 0, _ => kernel_rfl
  | 1, _ => kernel_rfl
  | 2, _ => kernel_rfl
  | 3, _ => kernel_rfl
  | 4, _ => kernel_rfl
  | 5, _ => kernel_rfl
  | 6, _ => kernel_rfl
/-! ### the law's own rules -/
theorem law_cell_eq {v : Nat} (h2 : 2 ≤ v) (h4 : v ≤ 4) {ws : List Nat} (hw : ∀ o ∈ ws, o < v + 1) (hl : ws.length ≤ 30) : F__law_cell [.int v, .tup (ws.map iD)] τ = .ok (.tup [.tup ((outs (cellM v) 0 ws).map iD), .int (fin (cellM v) 0 ws)]) τ := by
  have hM := cell_ok h2 h4
  have hn := (cell_len h2 h4).1
  simp [F__law_cell, b__law_cell, runB_eq, parS]
  refine for_P (P := fun o => toRs o = .ok (.tup [.tup ((outs (cellM v) 0 ws).map iD), .int (fin (cellM v) 0 ws)]) τ) (I := fun (j : Nat) (s : S) => ∃ o2, s = ⟨[.val (.int v), .val (.tup (ws.map iD)), o2, .val (.int (fin (cellM v) 0 (ws.take j))), .lst ((outs (cellM v) 0 (ws.take j)).map iD)], τ⟩) ⟨.emp, rfl⟩ ?_ ?_
  · rintro j x s hx ⟨o2, rfl⟩
    rw [List.getElem?_map] at hx
    cases e : ws[j]? with
    | none => rw [e] at hx; cases hx
    | some o =>
      rw [e] at hx
      cases hx
      have ho := hw o (List.mem_of_getElem? e)
      have hf : fin (cellM v) 0 (ws.take j) < v := fin_lt hM (ws := ws.take j) (q := 0) hM.n1 fun o ho => by rw [hn]; exact hw o (List.mem_of_mem_take ho)
      have hL : (outs (cellM v) 0 (ws.take j)).length < LIM := by
        rw [outs_len, List.length_take]; unfold LIM; omega
      obtain ⟨s1, s2⟩ := cell_step h2 h4 ho hf
      rw [take_snoc e, fin_snoc, outs_snoc, s1, s2]
      generalize fin (cellM v) 0 (ws.take j) = q
      generalize outs (cellM v) 0 (ws.take j) = Z at hL
      by_cases h0 : o = 0
      · subst h0
        simp [forB_eq, iD, hL]
        exact .next ⟨_, rfl⟩
      · have h0' : ¬ (o : Int) = 0 := by omega
        have e1 : (o : Int) - 1 = ((o - 1 : Nat) : Int) := by omega
        simp [forB_eq, iD, hL, h0, e1]
        exact .next ⟨_, rfl⟩
  · rintro s' ⟨o2, rfl⟩
    simp
theorem law_counter_eq {v : Nat} (h2 : 1 ≤ v) (h4 : v ≤ 7) {ws : List Nat} (hw : ∀ o ∈ ws, o < 3) (hl : ws.length ≤ 30) : F__law_counter [.int v, .tup (ws.map iD)] τ = .ok (.tup [.tup ((outs (countM v) 0 ws).map iD), .int (fin (countM v) 0 ws)]) τ := by
  have hM := count_ok h2 h4
  simp [F__law_counter, b__law_counter, runB_eq, parS]
  refine for_P (P := fun o => toRs o = .ok (.tup [.tup ((outs (countM v) 0 ws).map iD), .int (fin (countM v) 0 ws)]) τ) (I := fun (j : Nat) (s : S) => ∃ o2 o5 o6, s = ⟨[.val (.int v), .val (.tup (ws.map iD)), o2, .val (.int (fin (countM v) 0 (ws.take j))), .lst ((outs (countM v) 0 (ws.take j)).map iD), o5, o6], τ⟩) ⟨.emp, .emp, .emp, rfl⟩ ?_ ?_
  · rintro j x s hx ⟨o2, o5, o6, rfl⟩
    rw [List.getElem?_map] at hx
    cases e : ws[j]? with
    | none => rw [e] at hx; cases hx
    | some o =>
      rw [e] at hx
      cases hx
      have ho := hw o (List.mem_of_getElem? e)
      have hf : fin (countM v) 0 (ws.take j) < v + 1 := fin_lt hM (ws := ws.take j) (q := 0) hM.n1 fun o ho => hw o (List.mem_of_mem_take ho)
      have hL : (outs (countM v) 0 (ws.take j)).length < LIM := by
        rw [outs_len, List.length_take]; unfold LIM; omega
      have st := count_step h2 h4 ho hf
      rw [take_snoc e, fin_snoc, outs_snoc]
      have s1 := congrArg Prod.fst st
      have s2 := congrArg Prod.snd st
      simp only at s1 s2
      rw [s1, s2]
      generalize fin (countM v) 0 (ws.take j) = q at hf
      generalize outs (countM v) 0 (ws.take j) = Z at hL
      match o, ho with
      | 0, _ =>
        have h0 : (0 : Int) ≤ (q : Int) + 1 := by omega
        by_cases hq : q < v
        · have h1 : (q : Int) + 1 ≤ v := by omega
          simp [forB_eq, iD, hL, cstep, hq, h0, h1]
          exact .next ⟨_, _, _, rfl⟩
        · have h1 : ¬ (q : Int) + 1 ≤ v := by omega
          simp [forB_eq, iD, hL, cstep, hq, h0, h1]
          exact .next ⟨_, _, _, rfl⟩
      | 1, _ =>
        by_cases hq : 0 < q
        · have h0 : (0 : Int) ≤ (q : Int) + -1 := by omega
          have h1 : (q : Int) + -1 ≤ v := by omega
          have e1 : (q : Int) + -1 = ((q - 1 : Nat) : Int) := by omega
          simp [forB_eq, iD, hL, cstep, hq, h0, h1]
          rw [e1]
          exact .next ⟨_, _, _, rfl⟩
        · have h0 : ¬ (0 : Int) ≤ (q : Int) + -1 := by omega
          simp [forB_eq, iD, hL, cstep, hq, h0]
          exact .next ⟨_, _, _, rfl⟩
      | 2, _ =>
        have h1 : (q : Int) ≤ v := by omega
        by_cases hq : q = 0
        · subst hq
          simp [forB_eq, iD, hL, cstep, h1]
          exact .next ⟨_, _, _, rfl⟩
        · have hq' : ¬ (q : Int) = 0 := by omega
          simp [forB_eq, iD, hL, cstep, hq, h1]
          exact .next ⟨_, _, _, rfl⟩
  · rintro s' ⟨o2, o5, o6, rfl⟩
    simp
theorem law_buffer_eq {v : Nat} (h2 : 1 ≤ v) (h4 : v ≤ 2) {ws : List Nat} (hw : ∀ o ∈ ws, o < 3) (hl : ws.length ≤ 30) : F__law_buffer [.int v, .tup (ws.map iD)] τ = .ok (.tup [.tup ((outs (bufM v) 0 ws).map iD), .lst ((bitsF (fin (bufM v) 0 ws)).map iD)]) τ := by
  have hM := buf_ok h2 h4
  have hn := (buf_len h2 h4).1
  simp [F__law_buffer, b__law_buffer, runB_eq, parS]
  refine for_P (P := fun o => toRs o = .ok (.tup [.tup ((outs (bufM v) 0 ws).map iD), .lst ((bitsF (fin (bufM v) 0 ws)).map iD)]) τ) (I := fun (j : Nat) (s : S) => ∃ o2 o3, s = ⟨[.val (.int v), .val (.tup (ws.map iD)), o2, o3, .lst ((outs (bufM v) 0 (ws.take j)).map iD)], τ⟩ ∧ (o3 = .lst ((bitsF (fin (bufM v) 0 (ws.take j))).map iD) ∨ o3 = .val (.lst ((bitsF (fin (bufM v) 0 (ws.take j))).map iD)))) ⟨.emp, .lst [], rfl, .inl rfl⟩ ?_ ?_
  · rintro j x s hx ⟨o2, o3, rfl, h3⟩
    rw [List.getElem?_map] at hx
    cases e : ws[j]? with
    | none => rw [e] at hx; cases hx
    | some o =>
      rw [e] at hx
      cases hx
      have ho := hw o (List.mem_of_getElem? e)
      have hf : fin (bufM v) 0 (ws.take j) < (bufM v).n := fin_lt hM (ws := ws.take j) (q := 0) hM.n1 fun o ho => by rw [hn]; exact hw o (List.mem_of_mem_take ho)
      have hL : (outs (bufM v) 0 (ws.take j)).length < LIM := by
        rw [outs_len, List.length_take]; unfold LIM; omega
      have st := buf_step h2 h4 ho hf
      rw [take_snoc e, fin_snoc, outs_snoc]
      have s1 := congrArg Prod.fst st
      have s2 := congrArg Prod.snd st
      simp only at s1 s2
      rw [s1, s2]
      have bl := bits_len (q := fin (bufM v) 0 (ws.take j))
      generalize bitsF (fin (bufM v) 0 (ws.take j)) = b at h3 bl
      generalize outs (bufM v) 0 (ws.take j) = Z at hL
      have b1 : b.length + 1 ≤ LIM := by unfold LIM; omega
      have b0 : b.length ≤ LIM := by unfold LIM; omega
      have cd : cut (b.map iD) (some 1) none = (b.map iD).drop 1 := cut_drop (i := 1)
      have cn : cmpD .ne (.lst (b.map iD)) (.lst []) = some (!decide (b = [])) := by
        rw [cmp_ne_of (okb_le ok_nats (by decide)) rfl]
        have := eqb_lmap eqb_nat b []
        rw [List.map_nil] at this
        rw [this]
      by_cases o2' : o < 2
      · have o2i : (o : Int) < 2 := by omega
        by_cases hb : b.length < v
        · have hbi : (b.length : Int) < v := by omega
          have es : bstep v o b = (b ++ [o], 0) := by simp [bstep, o2', hb]
          rw [es]
          rcases h3 with rfl | rfl <;> (simp [forB_eq, iD, hL, o2i, hbi, b1]; exact .next ⟨_, _, rfl, .inr rfl⟩)
        · have hbi : ¬ (b.length : Int) < v := by omega
          have es : bstep v o b = (b, 1) := by simp [bstep, o2', hb]
          rw [es]
          rcases h3 with rfl | rfl <;> (simp [forB_eq, iD, hL, o2i, hbi, b0]; exact .next ⟨_, _, rfl, .inr rfl⟩)
      · have o2i : ¬ (o : Int) < 2 := by omega
        cases b with
        | nil =>
          have es : bstep v o [] = ([], 2) := by simp [bstep, o2']
          have cn0 : cmpD .ne (.lst []) (.lst []) = some false := cn
          have cd0 : cut ([] : List D) (some 1) none = [] := cd
          rw [es]
          rcases h3 with rfl | rfl <;> (simp [forB_eq, iD, hL, o2i, cn0, cd0]; exact .next ⟨_, _, rfl, .inr rfl⟩)
        | cons x r =>
          have es : bstep v o (x :: r) = (r, x) := by simp [bstep, o2']
          have cn1 : cmpD .ne (.lst (.int x :: r.map iD)) (.lst []) = some true := cn
          have cd1 : cut ((.int x : D) :: r.map iD) (some 1) none = r.map iD := cd
          rw [es]
          rcases h3 with rfl | rfl <;> (simp [forB_eq, iD, hL, o2i, cn1, cd1]; exact .next ⟨_, _, rfl, .inr rfl⟩)
  · rintro s' ⟨o2, o3, rfl, h3⟩
    rcases h3 with rfl | rfl <;> simp
end
end Mn

set_option Elab.async false
set_option linter.all false
set_option maxRecDepth 1000000
set_option maxHeartbeats 4000000
namespace Mn
open PySem
theorem law_is_tt {τ : Town} : F__law_is [.bl true, .bl true] τ = .ok (.bl true) τ := by kernel_rfl
theorem okP {a : List Nat} {n : Nat} : D.okb DEP (.tup [.tup (a.map iD), .int n]) = true := okb_le (n := 3) (ok_tup fun x hx => by
  simp only [List.mem_cons, List.not_mem_nil, or_false] at hx
  rcases hx with rfl | rfl
  · exact ok_tup fun y hy => by
      obtain ⟨z, _, rfl⟩ := List.mem_map.mp hy
      rfl
  · rfl) (by decide)
theorem check_number_no {d : D} {n : Nat} {lo hi : Int} {τ : Town} (h : D.okb n d = true) (hb : isBtw d lo hi = false) : F_check_number [d, .int lo, .int hi] τ = .exc 10 τ := by
  simp [F_check_number, b_check_number, runB_eq, is_between_eq h, hb]
theorem cell_no {d : D} {n : Nat} {τ : Town} (h : D.okb n d = true) (hb : isBtw d 2 4 = false) : F_cell [d] τ = .exc 10 τ := by
  simp [F_cell, b_cell, runB_eq, check_number_no h hb]
theorem counter_no {d : D} {n : Nat} {τ : Town} (h : D.okb n d = true) (hb : isBtw d 1 7 = false) : F_counter [d] τ = .exc 10 τ := by
  simp [F_counter, b_counter, runB_eq, check_number_no h hb]
theorem buffer_no {d : D} {n : Nat} {τ : Town} (h : D.okb n d = true) (hb : isBtw d 1 2 = false) : F_buffer [d] τ = .exc 10 τ := by
  simp [F_buffer, b_buffer, runB_eq, check_number_no h hb]
theorem calv_at {Φ : Nat → Fn} {gc : Nat → D} {i n f : Nat} {fs : List (Nat × Nat)} {a : Ex} {s : S} (h : s.ρ[i]? = some (.val (.tok (n + 2)))) (hf : fs.lookup n = some f) (h9 : n < 900) : ev Φ gc (.calv i fs a) s = (ev Φ gc a s).bind (callD Φ f) := by
  rw [ev_calv, h]
  simp only
  rw [if_pos h9, hf]
theorem c_i1 {v : Nat} : idxD (cellM v).d (.int 0) = some (.int v) := rfl
theorem c_i2 {l : Nat} : idxD (countM l).d (.int 0) = some (.int ((l : Int) + 1)) := rfl
theorem c_i3 {z : Nat} : idxD (bufM z).d (.int 0) = some (.int (bufM z).n) := rfl
theorem c_i4 {z : Nat} (z1 : 1 ≤ z) (z2 : z ≤ 2) : idxD (.tup [.int 3, .int 7]) (.int ((z : Int) - 1)) = some (.int (bufM z).n) := by
  match z, z1, z2 with
  | 1, _, _ => rfl
  | 2, _, _ => rfl
theorem c_p1 {v : Nat} (v2 : 2 ≤ v) (v4 : v ≤ 4) : prim1 .len (.tup ((cellM v).ops.map rowD)) = some (.int ((v : Int) + 1)) := by
  show some (D.int ((cellM v).ops.map rowD).length) = _
  rw [List.length_map, (cell_len v2 v4).1]; rfl
theorem c_p2 {l : Nat} : prim1 .len (.tup ((countM l).ops.map rowD)) = some (.int 3) := rfl
theorem c_p3 {z : Nat} (z1 : 1 ≤ z) (z2 : z ≤ 2) : prim1 .len (.tup ((bufM z).ops.map rowD)) = some (.int 3) := by
  show some (D.int ((bufM z).ops.map rowD).length) = _
  rw [List.length_map, (buf_len z1 z2).1]; rfl
theorem c_q1 {v : Nat} (v2 : 2 ≤ v) (v4 : v ≤ 4) : prim1 .len (.tup ((sortN (foundS (cellM v))).map iD)) = some (.int v) := by
  show some (D.int (List.length _)) = _
  rw [List.length_map, (cell_len v2 v4).2]
theorem c_q2 {l : Nat} (l1 : 1 ≤ l) (l7 : l ≤ 7) : prim1 .len (.tup ((sortN (foundS (countM l))).map iD)) = some (.int ((l : Int) + 1)) := by
  show some (D.int (List.length _)) = _
  rw [List.length_map, count_len l1 l7]; rfl
theorem c_q3 {z : Nat} (z1 : 1 ≤ z) (z2 : z ≤ 2) : prim1 .len (.tup ((sortN (foundS (bufM z))).map iD)) = some (.int (bufM z).n) := by
  show some (D.int (List.length _)) = _
  rw [List.length_map, (buf_len z1 z2).2]
theorem isT {M : Md} (h : M.Ok) {τ : Town} : F_is_type [M.d] τ = .ok (.bl true) τ := by rw [is_type_eq ok_md, isType_md h]
/-- what the law's functions answer -/
structure F26 (Φ : Nat → Fn) : Prop where
  dr : ∀ (τ : Town) (m : Int), 0 < m → m ≤ 1000000 → ∃ (c : Nat) (τ' : Town), Φ 0 [.tok 1, .tok 0, .int m] τ = .ok (.int c) τ' ∧ (c : Int) < m
  ce : ∀ (v : Nat) (τ : Town), 2 ≤ v → v ≤ 4 → Φ 13 [.int v] τ = .ok (cellM v).d τ
  co : ∀ (v : Nat) (τ : Town), 1 ≤ v → v ≤ 7 → Φ 14 [.int v] τ = .ok (countM v).d τ
  bu : ∀ (v : Nat) (τ : Town), 1 ≤ v → v ≤ 2 → Φ 16 [.int v] τ = .ok (bufM v).d τ
  it : ∀ (M : Md) (τ : Town), M.Ok → Φ 4 [M.d] τ = .ok (.bl true) τ
  is : ∀ τ : Town, Φ 17 [.bl true, .bl true] τ = .ok (.bl true) τ
  re : ∀ (M : Md) (τ : Town), M.Ok → Φ 7 [M.d] τ = .ok (.tup ((sortN (foundS M)).map iD)) τ
  pe : ∀ (M : Md) (τ : Town) (ws : List Nat), M.Ok → (∀ o ∈ ws, o < M.ops.length) → ws.length ≤ 30 → Φ 11 [M.d, .tup (ws.map iD)] τ = .ok (.tup [.tup ((outs M 0 ws).map iD), .int (fin M 0 ws)]) τ
  lc : ∀ (v : Nat) (τ : Town) (ws : List Nat), 2 ≤ v → v ≤ 4 → (∀ o ∈ ws, o < v + 1) → ws.length ≤ 30 → Φ 18 [.int v, .tup (ws.map iD)] τ = .ok (.tup [.tup ((outs (cellM v) 0 ws).map iD), .int (fin (cellM v) 0 ws)]) τ
  lo : ∀ (v : Nat) (τ : Town) (ws : List Nat), 1 ≤ v → v ≤ 7 → (∀ o ∈ ws, o < 3) → ws.length ≤ 30 → Φ 19 [.int v, .tup (ws.map iD)] τ = .ok (.tup [.tup ((outs (countM v) 0 ws).map iD), .int (fin (countM v) 0 ws)]) τ
  lb : ∀ (v : Nat) (τ : Town) (ws : List Nat), 1 ≤ v → v ≤ 2 → (∀ o ∈ ws, o < 3) → ws.length ≤ 30 → Φ 20 [.int v, .tup (ws.map iD)] τ = .ok (.tup [.tup ((outs (bufM v) 0 ws).map iD), .lst ((bitsF (fin (bufM v) 0 ws)).map iD)]) τ
  pl : ∀ (q : Nat) (τ : Town), q < 7 → Φ 21 [.lst ((bitsF q).map iD)] τ = .ok (.int q) τ
theorem f26 : F26 (phi FS22) where
  dr := fun τ m h1 h2 => draw_ex τ h1 h2
  ce := fun v τ h1 h2 => cell_eq h1 h2
  co := fun v τ h1 h2 => counter_eq h1 h2
  bu := fun v τ h1 h2 => buffer_eq h1 h2
  it := fun M τ h => isT h
  is := fun τ => law_is_tt
  re := fun M τ h => reachable_eq h
  pe := fun M τ ws h h1 h2 => perform_eq h h1 h2
  lc := fun v τ ws h1 h2 h3 h4 => law_cell_eq h1 h2 h3 h4
  lo := fun v τ ws h1 h2 h3 h4 => law_counter_eq h1 h2 h3 h4
  lb := fun v τ ws h1 h2 h3 h4 => law_buffer_eq h1 h2 h3 h4
  pl := fun q τ h => place_eq h

theorem goes_seq {Φ : Nat → Fn} {gc : Nat → D} {a b : Sm} {s s' : S} {J : S → Prop} (h : ex Φ gc a s = .next s') (k : Goes (ex Φ gc b s') J) : Goes (ex Φ gc (.seq a b) s) J := by
  obtain ⟨s2, k1, k2⟩ := k
  refine ⟨s2, ?_, k2⟩
  show (ex Φ gc a s).bind (ex Φ gc b) = _
  rw [h]
  exact k1
/-- the bodies of the law's loops -/
def bodyOf : Sm → Sm
  | .seq (.for_ _ _ b) _ => b
  | s => s
theorem turn26 {Φ : Nat → Fn} {gc : Nat → D} (F : F26 Φ) {τ : Town} {o2 o3 o4 o5 o6 o7 o8 o13 o14 o15 o16 o17 : Slot} (h8 : o8.plain = true) : Goes (ex Φ gc (bodyOf b_law) ⟨[.val (.tok 1), .val (.tok 0), o2, o3, o4, o5, o6, o7, o8, .emp, .emp, .emp, .emp, o13, o14, o15, o16, o17], τ⟩)
    fun s => ∃ (τ : Town) (o2 o3 o4 o5 o6 o7 o8 o13 o14 o15 o16 o17 : Slot), s = ⟨[.val (.tok 1), .val (.tok 0), o2, o3, o4, o5, o6, o7, o8, .emp, .emp, .emp, .emp, o13, o14, o15, o16, o17], τ⟩ ∧ o8.plain = true := by
  obtain ⟨c1, τ1, d1, hc1⟩ := F.dr τ 3 (by decide) (by decide)
  obtain ⟨c2, τ2, d2, hc2⟩ := F.dr τ1 7 (by decide) (by decide)
  obtain ⟨c3, τ3, d3, hc3⟩ := F.dr τ2 2 (by decide) (by decide)
  obtain ⟨v, hv⟩ : ∃ v : Nat, v = 2 + c1 := ⟨_, rfl⟩
  obtain ⟨l, hl⟩ : ∃ l : Nat, l = 1 + c2 := ⟨_, rfl⟩
  obtain ⟨z, hz⟩ : ∃ z : Nat, z = 1 + c3 := ⟨_, rfl⟩
  have ev : (2 : Int) + (c1 : Int) = v := by omega
  have el : (1 : Int) + (c2 : Int) = l := by omega
  have ez : (1 : Int) + (c3 : Int) = z := by omega
  have v2 : 2 ≤ v := by omega
  have v4 : v ≤ 4 := by omega
  have l1 : 1 ≤ l := by omega
  have l7 : l ≤ 7 := by omega
  have z1 : 1 ≤ z := by omega
  have z2 : z ≤ 2 := by omega
  have M1 := cell_ok v2 v4
  have M2 := count_ok l1 l7
  have M3 := buf_ok z1 z2
  have i1 := c_i1 (v := v)
  have i2 := c_i2 (l := l)
  have i3 := c_i3 (z := z)
  have i4 := c_i4 z1 z2
  have j1 : idxD (cellM v).d (.int 1) = some (.tup ((cellM v).ops.map rowD)) := rfl
  have j2 : idxD (countM l).d (.int 1) = some (.tup ((countM l).ops.map rowD)) := rfl
  have j3 : idxD (bufM z).d (.int 1) = some (.tup ((bufM z).ops.map rowD)) := rfl
  have cne : ∀ a : Int, cmpD .ne (.int a) (.int a) = some false := fun a => cmp_ne_same rfl
  have p1 := c_p1 v2 v4
  have p2 := c_p2 (l := l)
  have p3 := c_p3 z1 z2
  have q1 := c_q1 v2 v4
  have q2 := c_q2 l1 l7
  have q3 := c_q3 z1 z2
  have kl : cmpD .ne (.lst [.int ((v : Int) + 1), .int 3, .int 3]) (.lst [.int ((v : Int) + 1), .int 3, .int 3]) = some false := cmp_ne_same rfl
  have g1 : ∀ τ, Φ 13 [.int v] τ = .ok (cellM v).d τ := fun τ => F.ce v τ v2 v4
  have g2 : ∀ τ, Φ 14 [.int l] τ = .ok (countM l).d τ := fun τ => F.co l τ l1 l7
  have g3 : ∀ τ, Φ 16 [.int z] τ = .ok (bufM z).d τ := fun τ => F.bu z τ z1 z2
  have t1 := fun τ => F.it _ τ M1
  have t2 := fun τ => F.it _ τ M2
  have t3 := fun τ => F.it _ τ M3
  have r1 := fun τ => F.re _ τ M1
  have r2 := fun τ => F.re _ τ M2
  have r3 := fun τ => F.re _ τ M3
  have is := F.is
  have lo1 : ∀ τ (ws : List Nat), (∀ o ∈ ws, o < v + 1) → ws.length ≤ 30 → ∃ d, Φ 18 [.int v, .tup (ws.map iD)] τ = .ok d τ ∧ Φ 11 [(cellM v).d, .tup (ws.map iD)] τ = .ok d τ ∧ cmpD .ne d d = some false := fun τ ws h1 h2 => ⟨_, F.lc v τ ws v2 v4 h1 h2, F.pe _ τ ws M1 (by rw [(cell_len v2 v4).1]; exact h1) h2, cmp_ne_same okP⟩
  have lo2 : ∀ τ (ws : List Nat), (∀ o ∈ ws, o < 3) → ws.length ≤ 30 → ∃ d, Φ 19 [.int l, .tup (ws.map iD)] τ = .ok d τ ∧ Φ 11 [(countM l).d, .tup (ws.map iD)] τ = .ok d τ ∧ cmpD .ne d d = some false := fun τ ws h1 h2 => ⟨_, F.lo l τ ws l1 l7 h1 h2, F.pe _ τ ws M2 h1 h2, cmp_ne_same okP⟩
  have lo3 : ∀ τ (ws : List Nat), (∀ o ∈ ws, o < 3) → ws.length ≤ 30 → ∃ (us : List Nat) (q : Nat), q < 7 ∧ Φ 11 [(bufM z).d, .tup (ws.map iD)] τ = .ok (.tup [.tup (us.map iD), .int q]) τ ∧ Φ 20 [.int z, .tup (ws.map iD)] τ = .ok (.tup [.tup (us.map iD), .lst ((bitsF q).map iD)]) τ ∧ cmpD .ne (.tup [.tup (us.map iD), .int q]) (.tup [.tup (us.map iD), .int q]) = some false := fun τ ws h1 h2 => by
    have h1' : ∀ o ∈ ws, o < (bufM z).ops.length := by rw [(buf_len z1 z2).1]; exact h1
    refine ⟨outs (bufM z) 0 ws, fin (bufM z) 0 ws, ?_, F.pe _ τ ws M3 h1' h2, F.lb z τ ws z1 z2 h1 h2, cmp_ne_same okP⟩
    have := fin_lt M3 (ws := ws) (q := 0) M3.n1 h1'
    rw [buf_n z1 z2] at this
    split at this <;> omega
  have dr := F.dr
  have pl := F.pl
  clear F M1 M2 M3
  generalize sortN (foundS (cellM v)) = s1 at *
  generalize sortN (foundS (countM l)) = s2 at *
  generalize sortN (foundS (bufM z)) = s3 at *
  generalize (cellM v).ops.map rowD = a1 at *
  generalize (countM l).ops.map rowD = a2 at *
  generalize (bufM z).ops.map rowD = a3 at *
  generalize (cellM v).d = A1 at *
  generalize (countM l).d = A2 at *
  generalize (bufM z).d = A3 at *
  generalize (bufM z).n = nz at *
  unfold b_law bodyOf
  dsimp only
  let st (o7 o8 o15 o16 o17 : Slot) (τ : Town) : S := ⟨[.val (.tok 1), .val (.tok 0), o2, .val (.int v), .val (.int l), .val (.int z), .val A3, o7, o8, .emp, .emp, .emp, .emp, .val A1, .val A2, o15, o16, o17], τ⟩
  refine goes_seq (s' := ⟨[.val (.tok 1), .val (.tok 0), o2, .val (.int v), o4, o5, o6, o7, o8, .emp, .emp, .emp, .emp, o13, o14, o15, o16, o17], τ1⟩) (by simp [d1, ev]) ?_
  refine goes_seq (s' := ⟨[.val (.tok 1), .val (.tok 0), o2, .val (.int v), .val (.int l), o5, o6, o7, o8, .emp, .emp, .emp, .emp, o13, o14, o15, o16, o17], τ2⟩) (by simp [d2, el]) ?_
  refine goes_seq (s' := ⟨[.val (.tok 1), .val (.tok 0), o2, .val (.int v), .val (.int l), .val (.int z), o6, o7, o8, .emp, .emp, .emp, .emp, o13, o14, o15, o16, o17], τ3⟩) (by simp [d3, ez]) ?_
  refine goes_seq (s' := ⟨[.val (.tok 1), .val (.tok 0), o2, .val (.int v), .val (.int l), .val (.int z), o6, o7, o8, .emp, .emp, .emp, .emp, .val A1, .val A2, o15, o16, o17], τ3⟩) (by simp [parS, g1, g2]) ?_
  refine goes_seq (s' := st o7 o8 o15 o16 o17 τ3) (by simp [st, g3]) ?_
  refine goes_seq (s' := st o7 o8 o15 o16 o17 τ3) (by simp [st, t1, is]) ?_
  refine goes_seq (s' := st o7 o8 o15 o16 o17 τ3) (by simp [st, t2, is]) ?_
  refine goes_seq (s' := st o7 o8 o15 o16 o17 τ3) (by simp [st, t3, is]) ?_
  refine goes_seq (s' := st o7 o8 o15 o16 o17 τ3) (by simp [st, i1, i2, i3, i4, cne]) ?_
  refine goes_seq (s' := st o7 o8 o15 o16 o17 τ3) (by simp [st, j1, j2, j3, p1, p2, p3, kl]) ?_
  refine goes_seq (s' := st o7 o8 o15 o16 o17 τ3) (by simp [st, r1, r2, r3, q1, q2, q3, i1, i2, i3, cne]) ?_
  -- the word of the cell
  have hw : ∃ (ws : List Nat) (τ4 : Town), (∀ o ∈ ws, o < v + 1) ∧ ws.length ≤ 30 ∧ ex Φ gc (.set 7 (.prm .tuple (.lc [8] (.cal 0 (.acons (.var 0) (.acons (.var 1) (.acons (.bin .add (.var 3) (.cst (.int 1))) .anil)))) (.nm 8) (.rng (.cst (.int 12))) (.cst (.bl true))))) (st o7 o8 o15 o16 o17 τ3) = .next (st (.val (.tup (ws.map iD))) o8 o15 o16 o17 τ4) := by
    have hX : ∃ (ws : List Nat) (τ4 : Town) (o : Slot), (∀ o ∈ ws, o < v + 1) ∧ ws.length ≤ 30 ∧ lcL (lcB Φ gc (.cal 0 (.acons (.var 0) (.acons (.var 1) (.acons (.bin .add (.var 3) (.cst (.int 1))) .anil)))) (.nm 8) (.cst (.bl true))) (fun s2 => { s2 with ρ := wipeS s2.ρ [8] }) ((List.range (Int.toNat 12)).map iD) [] (st o7 o8 o15 o16 o17 τ3) = .ok (ws.map iD) (st o7 o o15 o16 o17 τ4) := by
      refine lcL_P (P := fun X => ∃ (ws : List Nat) (τ4 : Town) (o : Slot), (∀ o ∈ ws, o < v + 1) ∧ ws.length ≤ 30 ∧ X = .ok (ws.map iD) (st o7 o o15 o16 o17 τ4)) (I := fun k acc s => ∃ (ws : List Nat) (τ4 : Town) (o : Slot), (∀ o ∈ ws, o < v + 1) ∧ ws.length = k ∧ acc = ws.map iD ∧ s = st o7 o o15 o16 o17 τ4) ⟨[], τ3, o8, by simp, rfl, rfl, rfl⟩ ?_ ?_
      · rintro k y acc s hy ⟨ws, τ4, o, a1, a2, rfl, rfl⟩
        obtain ⟨c, τ5, e, hc⟩ := dr τ4 ((v : Int) + 1) (by omega) (by omega)
        refine ⟨some (.int c), st o7 (.val y) o15 o16 o17 τ5, by simp [lcB_eq, wipeS, setW, st, e], ws ++ [c], τ5, .val y, fun w hw => ?_, by simp [a2], by simp [iD], rfl⟩
        rcases List.mem_append.mp hw with q | q
        · exact a1 w q
        · simp at q; omega
      · rintro ys s' ⟨ws, τ4, o, a1, a2, rfl, rfl⟩
        exact ⟨ws, τ4, o, a1, by rw [List.length_map, List.length_range] at a2; omega, rfl⟩
    obtain ⟨ws, τ4, o, a1, a2, a3⟩ := hX
    refine ⟨ws, τ4, a1, a2, ?_⟩
    simp only [ex_set, ev_prm, rd_lc, ev_lcE, ev_rng, ev_cst, ob_ok]
    rw [rng_int (by decide) (by decide)]
    simp only [of_some, ob_ok, items_lst, optK_some]
    rw [if_pos (by simp [st, h8]), a3]
    simp [st, backS, setW]
  obtain ⟨ws, τ4, w1, w2, w3⟩ := hw
  refine goes_seq w3 ?_
  obtain ⟨dd, x1, x2, x3⟩ := lo1 τ4 ws w1 w2
  refine goes_seq (s' := st (.val (.tup (ws.map iD))) o8 o15 o16 o17 τ4) (by simp [st, x1, x2, x3]) ?_
  refine goes_seq (s' := st (.val (.tup [])) o8 o15 o16 o17 τ4) (by simp [st]) ?_
  have hu : ∃ (us : List Nat) (τ5 : Town) (o8' o15' : Slot), (∀ o ∈ us, o < 3) ∧ us.length ≤ 30 ∧ o8'.plain = true ∧ ex Φ gc (.for_ (.nm 8) (.rng (.cst (.int 14))) (.seq (.set 15 (.cal 0 (.acons (.var 0) (.acons (.var 1) (.acons (.cst (.int 3)) .anil))))) (.seq (.set 7 (.bin .add (.var 7) (.tup (.acons (.ite (.cmp .gt (.cal 0 (.acons (.var 0) (.acons (.var 1) (.acons (.cst (.int 3)) .anil)))) (.cst (.int 0))) (.var 15) (.cst (.int 0))) .anil)))) .nop))) (st (.val (.tup [])) o8 o15 o16 o17 τ4) = .next (st (.val (.tup (us.map iD))) o8' o15' o16 o17 τ5) := by
    simp only [ex_forE, ev_rng, ev_cst, ob_ok]
    rw [rng_int (by decide) (by decide)]
    simp only [of_some, so_ok, items_lst, optK_some]
    refine forL_P (P := fun X => ∃ (us : List Nat) (τ5 : Town) (o8' o15' : Slot), (∀ o ∈ us, o < 3) ∧ us.length ≤ 30 ∧ o8'.plain = true ∧ X = .next (st (.val (.tup (us.map iD))) o8' o15' o16 o17 τ5)) (I := fun k s => ∃ (us : List Nat) (τ5 : Town) (o8' o15' : Slot), (∀ o ∈ us, o < 3) ∧ us.length = k ∧ o8'.plain = true ∧ s = st (.val (.tup (us.map iD))) o8' o15' o16 o17 τ5) ⟨[], τ4, o8, o15, by simp, rfl, h8, rfl⟩ ?_ ?_
    · rintro k y s hy ⟨us, τ5, p8, p15, a1, a2, a4, rfl⟩
      obtain ⟨c, τ6, e, hc⟩ := dr τ5 3 (by decide) (by decide)
      obtain ⟨c', τ7, e', hc'⟩ := dr τ6 3 (by decide) (by decide)
      have hk : k < 14 := by
        have := (List.getElem?_eq_some_iff.mp hy).1
        simpa using this
      have lim : us.length + 1 ≤ LIM := by unfold LIM; omega
      refine ⟨st (.val (.tup ((us ++ [if 0 < c' then c else 0]).map iD))) (.val y) (.val (.int c)) o16 o17 τ7, ?_, us ++ [if 0 < c' then c else 0], τ7, .val y, .val (.int c), fun w hw => ?_, by simp [a2], rfl, rfl⟩
      · by_cases h0 : 0 < c'
        · have h0' : (0 : Int) < c' := by omega
          simp [forB_eq, st, e, e', h0, lim, iD]
        · have h0' : ¬ (0 : Int) < c' := by omega
          simp [forB_eq, st, e, e', h0, lim, iD]
      · rcases List.mem_append.mp hw with q | q
        · exact a1 w q
        · simp at q; split at q <;> omega
    · rintro s' ⟨us, τ5, p8, p15, a1, a2, a4, rfl⟩
      exact ⟨us, τ5, p8, p15, a1, by rw [List.length_map, List.length_range] at a2; have : (Int.toNat 14) = 14 := rfl; omega, a4, rfl⟩
  obtain ⟨us, τ5, o8', o15', u1, u2, u4, u3⟩ := hu
  refine goes_seq u3 ?_
  obtain ⟨dd2, y1, y2, y3⟩ := lo2 τ5 us u1 u2
  refine goes_seq (s' := st (.val (.tup (us.map iD))) o8' o15' o16 o17 τ5) (by simp [st, y1, y2, y3]) ?_
  obtain ⟨gs, q, hq, e1, e2, e3⟩ := lo3 τ5 us u1 u2
  refine goes_seq (s' := st (.val (.tup (us.map iD))) o8' o15' (.val (.tup (gs.map iD))) (.val (.lst ((bitsF q).map iD))) τ5) (by simp [st, e2]) ?_
  refine goes_seq (s' := st (.val (.tup (us.map iD))) o8' o15' (.val (.tup (gs.map iD))) (.val (.lst ((bitsF q).map iD))) τ5) (by simp [st, e1, pl q _ hq, e3]) ?_
  exact .next ⟨_, _, _, _, _, _, _, _, _, _, _, _, _, rfl, u4⟩
def tailOf : Sm → Sm
  | .seq _ (.seq b _) => b
  | s => s
theorem odd26 {Φ : Nat → Fn} {gc : Nat → D} {τ : Town} {n f : Nat} {o : List Slot} {d9 d10 d11 x : D} {rest : List Slot} (h9 : n < 900) (hf : List.lookup n [(0, 13), (1, 14), (2, 16)] = some f) (hd : d9 = .tok (n + 2)) (hx : Φ f [x] τ = .exc 10 τ) {p0 p1 p2 p3 p4 p5 p6 p7 p8 p13 p14 p15 p16 p17 : Slot} :
    ex Φ gc (.ife (.cmp .ne (.res rsL (.calv 9 [(0, 13), (1, 14), (2, 16)] (.acons (.var 12) .anil))) (.tup (.acons (.cst (.str "number")) .anil))) (.seq (.ret (.cst (.bl false))) .nop) .nop) ⟨[p0, p1, p2, p3, p4, p5, p6, p7, p8, .val d9, .val d10, .val d11, .val x, p13, p14, p15, p16, p17], τ⟩ = .next ⟨[p0, p1, p2, p3, p4, p5, p6, p7, p8, .val d9, .val d10, .val d11, .val x, p13, p14, p15, p16, p17], τ⟩ := by
  subst hd
  have e := calv_at (Φ := Φ) (gc := gc) (a := .acons (.var 12) .anil) (i := 9) (n := n) (f := f) (fs := [(0, 13), (1, 14), (2, 16)]) (s := ⟨[p0.lend, p1.lend, p2.lend, p3.lend, p4.lend, p5.lend, p6.lend, p7.lend, p8.lend, .val (.tok (n + 2)), .val d10, .val d11, .val x, p13.lend, p14.lend, p15.lend, p16.lend, p17.lend], τ⟩) rfl hf h9
  have k : cmpD .ne (.tup [.str "number"]) (.tup [.str "number"]) = some false := by decide +kernel
  have lv : ∀ d, (Slot.val d).lend = .val d := fun _ => rfl
  simp [lv, e, hx, callD, rsL, errN, k]
theorem gcs26 : gcT gcsL 3 = .tok 2 ∧ gcT gcsL 4 = .tok 3 ∧ gcT gcsL 5 = .tok 4 := ⟨rfl, rfl, rfl⟩
theorem str_small {i : Int} (h : i.natAbs ≤ 10) : prim1 .str (.int i) = some (.str (toString i)) := by
  show (if i.natAbs ≤ LIM then some (D.str (toString i)) else none) = _
  rw [if_pos (Nat.le_trans h (by decide))]
/-- the deeds of the law's last loop -/
structure Deed (Φ : Nat → Fn) (n f : Nat) (lo hi : Int) : Prop where
  h9 : n < 900
  hf : List.lookup n [(0, 13), (1, 14), (2, 16)] = some f
  l : lo.natAbs ≤ 10
  h : ∀ (τ : Town) (x : D), x ∈ [.non, .bl true, .int (lo - 1), .int (hi + 1), .str (toString lo), .tup [.int lo]] → Φ f [x] τ = .exc 10 τ
theorem ok_odds {lo hi : Int} (x : D) (h : x ∈ [D.non, .bl true, .int (lo - 1), .int (hi + 1), .str (toString lo), .tup [.int lo]]) (hs : PyData.strOk (toString lo : Str) = true) : D.okb 3 x = true := by
  simp only [List.mem_cons, List.not_mem_nil, or_false] at h
  rcases h with rfl | rfl | rfl | rfl | rfl | rfl <;> first | rfl | exact hs
theorem btw_odds {lo hi : Int} (x : D) (h : x ∈ [D.non, .bl true, .int (lo - 1), .int (hi + 1), .str (toString lo), .tup [.int lo]]) : isBtw x lo hi = false := by
  simp only [List.mem_cons, List.not_mem_nil, or_false] at h
  rcases h with rfl | rfl | rfl | rfl | rfl | rfl <;> first | rfl | (simp [isBtw]; try omega)
theorem deed0 : Deed (phi FS22) 0 13 2 4 := ⟨by decide, rfl, by decide, fun τ x h => cell_no (ok_odds x h (by decide +kernel)) (btw_odds x h)⟩
theorem deed1 : Deed (phi FS22) 1 14 1 7 := ⟨by decide, rfl, by decide, fun τ x h => counter_no (ok_odds x h (by decide +kernel)) (btw_odds x h)⟩
theorem deed2 : Deed (phi FS22) 2 16 1 2 := ⟨by decide, rfl, by decide, fun τ x h => buffer_no (ok_odds x h (by decide +kernel)) (btw_odds x h)⟩
def bodyF : Sm → Sm
  | .for_ _ _ b => b
  | s => s
theorem deed26 {Φ : Nat → Fn} {gc : Nat → D} {τ : Town} {n f : Nat} {lo hi : Int} (d : Deed Φ n f lo hi) {p0 p1 p2 p3 p4 p5 p6 p7 p8 p12 p13 p14 p15 p16 p17 : Slot} :
    Goes (ex Φ gc (bodyF (tailOf b_law)) ⟨[p0, p1, p2, p3, p4, p5, p6, p7, p8, .val (.tok (n + 2)), .val (.int lo), .val (.int hi), p12, p13, p14, p15, p16, p17], τ⟩) fun s => ∃ p12, s = ⟨[p0, p1, p2, p3, p4, p5, p6, p7, p8, .val (.tok (n + 2)), .val (.int lo), .val (.int hi), p12, p13, p14, p15, p16, p17], τ⟩ := by
  unfold b_law tailOf bodyF
  dsimp only
  have st := str_small d.l
  simp only [ex_seq, ex_forE]
  have e : ev Φ gc (.tup (.acons (.cst .non) (.acons (.cst (.bl true)) (.acons (.bin .sub (.var 10) (.cst (.int 1))) (.acons (.bin .add (.var 11) (.cst (.int 1))) (.acons (.prm .str (.var 10)) (.acons (.tup (.acons (.var 10) .anil)) .anil))))))) ⟨[p0, p1, p2, p3, p4, p5, p6, p7, p8, .val (.tok (n + 2)), .val (.int lo), .val (.int hi), p12, p13, p14, p15, p16, p17], τ⟩ = .ok (.tup [.non, .bl true, .int (lo - 1), .int (hi + 1), .str (toString lo), .tup [.int lo]]) ⟨[p0, p1, p2, p3, p4, p5, p6, p7, p8, .val (.tok (n + 2)), .val (.int lo), .val (.int hi), p12, p13, p14, p15, p16, p17], τ⟩ := by simp [st]
  rw [e]
  simp only [so_ok, items_tup, optK_some]
  refine for_goes (fun _ s => ∃ p12, s = ⟨[p0, p1, p2, p3, p4, p5, p6, p7, p8, .val (.tok (n + 2)), .val (.int lo), .val (.int hi), p12, p13, p14, p15, p16, p17], τ⟩) ⟨p12, rfl⟩ ?_ ?_
  · rintro j x s hx ⟨q12, rfl⟩
    have o := odd26 (gc := gc) (d10 := .int lo) (d11 := .int hi) (p0 := p0) (p1 := p1) (p2 := p2) (p3 := p3) (p4 := p4) (p5 := p5) (p6 := p6) (p7 := p7) (p8 := p8) (p13 := p13) (p14 := p14) (p15 := p15) (p16 := p16) (p17 := p17) (o := []) (rest := []) d.h9 d.hf rfl (d.h τ x (List.mem_of_getElem? hx))
    refine ⟨⟨[p0, p1, p2, p3, p4, p5, p6, p7, p8, .val (.tok (n + 2)), .val (.int lo), .val (.int hi), .val x, p13, p14, p15, p16, p17], τ⟩, ?_, _, rfl⟩
    rw [forB_eq]
    show SO.bind (ex Φ gc _ ⟨[p0, p1, p2, p3, p4, p5, p6, p7, p8, .val (.tok (n + 2)), .val (.int lo), .val (.int hi), .val x, p13, p14, p15, p16, p17], τ⟩) _ = _
    rw [o]
    rfl
  · rintro s' ⟨q12, rfl⟩
    exact .next ⟨_, rfl⟩
theorem law_true : LawTrue := by
  intro scr hs
  suffices h : Ans (runB (phi FS22) (gcT gcsL) N_law.length b_law [.tok 1, .tok 0] ⟨0, [], scr, []⟩) (fun d _ => d = .bl true) by
    obtain ⟨d, τ', e, rfl⟩ := h
    exact ⟨τ', e⟩
  have F := f26
  have D0 := deed0
  have D1 := deed1
  have D2 := deed2
  obtain ⟨G0, G1, G2⟩ := gcs26
  generalize phi FS22 = Φ at *
  generalize gcT gcsL = gc at *
  obtain ⟨I, hI⟩ : ∃ I : Nat → S → Prop, I = fun _ s => ∃ (τ : Town) (o2 o3 o4 o5 o6 o7 o8 o13 o14 o15 o16 o17 : Slot), s = ⟨[.val (.tok 1), .val (.tok 0), o2, o3, o4, o5, o6, o7, o8, .emp, .emp, .emp, .emp, o13, o14, o15, o16, o17], τ⟩ ∧ o8.plain = true := ⟨_, rfl⟩
  have T : ∀ (τ : Town) (o2 o3 o4 o5 o6 o7 o8 o13 o14 o15 o16 o17 : Slot), o8.plain = true → Goes (ex Φ gc (bodyOf b_law) ⟨[.val (.tok 1), .val (.tok 0), o2, o3, o4, o5, o6, o7, o8, .emp, .emp, .emp, .emp, o13, o14, o15, o16, o17], τ⟩) (I 0) := fun τ o2 o3 o4 o5 o6 o7 o8 o13 o14 o15 o16 o17 h8 => by
    rw [hI]
    exact turn26 F h8
  have U : ∀ (n f : Nat) (lo hi : Int) (d : Deed Φ n f lo hi) (τ : Town) (p0 p1 p2 p3 p4 p5 p6 p7 p8 p12 p13 p14 p15 p16 p17 : Slot), Goes (ex Φ gc (bodyF (tailOf b_law)) ⟨[p0, p1, p2, p3, p4, p5, p6, p7, p8, .val (.tok (n + 2)), .val (.int lo), .val (.int hi), p12, p13, p14, p15, p16, p17], τ⟩) fun s => ∃ p12, s = ⟨[p0, p1, p2, p3, p4, p5, p6, p7, p8, .val (.tok (n + 2)), .val (.int lo), .val (.int hi), p12, p13, p14, p15, p16, p17], τ⟩ := fun n f lo hi d τ p0 p1 p2 p3 p4 p5 p6 p7 p8 p12 p13 p14 p15 p16 p17 => deed26 d
  have hb : b_law = .seq (.for_ (.nm 2) (.rng (.cst (.int 4))) (bodyOf b_law)) (.seq (.for_ (.tp (.pc (.nm 9) (.pc (.nm 10) (.pc (.nm 11) .pn)))) (.tup (.acons (.tup (.acons (.gcs 3) (.acons (.cst (.int 2)) (.acons (.cst (.int 4)) .anil)))) (.acons (.tup (.acons (.gcs 4) (.acons (.cst (.int 1)) (.acons (.cst (.int 7)) .anil)))) (.acons (.tup (.acons (.gcs 5) (.acons (.cst (.int 1)) (.acons (.cst (.int 2)) .anil)))) .anil)))) (bodyF (tailOf b_law))) (.seq (.ret (.cst (.bl true))) .nop)) := rfl
  rw [hb, runB_eq]
  generalize bodyOf b_law = body1 at *
  generalize bodyF (tailOf b_law) = body2 at *
  rw [ex_seq, ex_forE]
  simp only [ev_rng, ev_cst, ob_ok]
  rw [rng_int (by decide) (by decide)]
  simp only [of_some, so_ok, items_lst, optK_some]
  show Ans (toRs (SO.bind (forL _ _ ⟨[.val (.tok 1), .val (.tok 0), .emp, .emp, .emp, .emp, .emp, .emp, .emp, .emp, .emp, .emp, .emp, .emp, .emp, .emp, .emp, .emp], _⟩) _)) _
  refine for_ans I (by rw [hI]; exact ⟨_, _, _, _, _, _, _, _, _, _, _, _, _, rfl, rfl⟩) ?_ ?_
  · intro j x s hx hs
    rw [hI] at hs
    obtain ⟨τ, o2, o3, o4, o5, o6, o7, o8, o13, o14, o15, o16, o17, rfl, h8⟩ := hs
    have := T τ (.val x) o3 o4 o5 o6 o7 o8 o13 o14 o15 o16 o17 h8
    have e : I (j + 1) = I 0 := by rw [hI]
    rw [e]
    exact this
  · intro s' hs
    rw [hI] at hs
    obtain ⟨τ, o2, o3, o4, o5, o6, o7, o8, o13, o14, o15, o16, o17, rfl, h8⟩ := hs
    clear T hI hb
    rw [ex_seq, ex_forE]
    have e : ev Φ gc (.tup (.acons (.tup (.acons (.gcs 3) (.acons (.cst (.int 2)) (.acons (.cst (.int 4)) .anil)))) (.acons (.tup (.acons (.gcs 4) (.acons (.cst (.int 1)) (.acons (.cst (.int 7)) .anil)))) (.acons (.tup (.acons (.gcs 5) (.acons (.cst (.int 1)) (.acons (.cst (.int 2)) .anil)))) .anil)))) ⟨[.val (.tok 1), .val (.tok 0), o2, o3, o4, o5, o6, o7, o8, .emp, .emp, .emp, .emp, o13, o14, o15, o16, o17], τ⟩ = .ok (.tup [.tup [.tok 2, .int 2, .int 4], .tup [.tok 3, .int 1, .int 7], .tup [.tok 4, .int 1, .int 2]]) ⟨[.val (.tok 1), .val (.tok 0), o2, o3, o4, o5, o6, o7, o8, .emp, .emp, .emp, .emp, o13, o14, o15, o16, o17], τ⟩ := by simp [G0, G1, G2]
    rw [e]
    simp only [so_ok, items_tup, optK_some]
    refine for_ans (fun _ s => ∃ p9 p10 p11 p12, s = ⟨[.val (.tok 1), .val (.tok 0), o2, o3, o4, o5, o6, o7, o8, p9, p10, p11, p12, o13, o14, o15, o16, o17], τ⟩) ⟨_, _, _, _, rfl⟩ ?_ ?_
    · rintro j x s hx ⟨p9, p10, p11, p12, rfl⟩
      have hm := List.mem_of_getElem? hx
      simp only [List.mem_cons, List.not_mem_nil, or_false] at hm
      have fin : ∀ (n : Nat) (lo hi : Int) (q12 : Slot), Goes (ex Φ gc body2 ⟨[.val (.tok 1), .val (.tok 0), o2, o3, o4, o5, o6, o7, o8, .val (.tok (n + 2)), .val (.int lo), .val (.int hi), q12, o13, o14, o15, o16, o17], τ⟩) (fun s => ∃ p12, s = ⟨[.val (.tok 1), .val (.tok 0), o2, o3, o4, o5, o6, o7, o8, .val (.tok (n + 2)), .val (.int lo), .val (.int hi), p12, o13, o14, o15, o16, o17], τ⟩) → x = .tup [.tok (n + 2), .int lo, .int hi] → q12 = p12 → Goes (forB Φ gc (.tp (.pc (.nm 9) (.pc (.nm 10) (.pc (.nm 11) .pn)))) body2 x ⟨[.val (.tok 1), .val (.tok 0), o2, o3, o4, o5, o6, o7, o8, p9, p10, p11, p12, o13, o14, o15, o16, o17], τ⟩) (fun s => ∃ p9 p10 p11 p12, s = ⟨[.val (.tok 1), .val (.tok 0), o2, o3, o4, o5, o6, o7, o8, p9, p10, p11, p12, o13, o14, o15, o16, o17], τ⟩) := by
        rintro n lo hi q12 ⟨s', k1, q, k2⟩ rfl rfl
        refine ⟨s', ?_, _, _, _, q, k2⟩
        rw [forB_eq]
        exact k1
      rcases hm with rfl | rfl | rfl
      · exact fin 0 2 4 p12 (U 0 13 2 4 D0 _ _ _ _ _ _ _ _ _ _ _ _ _ _ _ _) rfl rfl
      · exact fin 1 1 7 p12 (U 1 14 1 7 D1 _ _ _ _ _ _ _ _ _ _ _ _ _ _ _ _) rfl rfl
      · exact fin 2 1 2 p12 (U 2 16 1 2 D2 _ _ _ _ _ _ _ _ _ _ _ _ _ _ _ _) rfl rfl
    · rintro s' ⟨p9, p10, p11, p12, rfl⟩
      exact ⟨_, _, rfl, rfl⟩
end Mn

set_option Elab.async false
set_option linter.all false
set_option maxRecDepth 100000
set_option maxHeartbeats 4000000
namespace Mn
open PySem L2 PySem.W
theorem exs_ok : ∀ (i : Nat) x, exsL[i]? = some x → (x == ("" : Str)) = false → x = cnR i := by
  intro i x h hx
  have a : ∀ i, i < 20 → (exsL.getD i "" == ("" : Str)) = true ∨ exsL.getD i "" = cnR i := by decide +kernel
  have hi : i < 20 := (List.getElem?_eq_some_iff.mp h).1
  have e : exsL.getD i "" = x := by rw [List.getD_eq_getElem?_getD, h]; rfl
  rcases a i hi with z | z
  · rw [e, hx] at z; cases z
  · rw [← e]; exact z
theorem exs_all : ∀ j, j < 20 → exsL[j]? = some (cnR j) ∧ (cnR j == ("" : Str)) = false := by decide +kernel
theorem res_mk {K : Frag} {h : Heap} {mg : Str → Option Value} (X : K.In h) (G : h.Ns mainGlobals mg) (t : TopF top defsL gcsL exsL K mg) (hE : gOk K "LockError" = true) (hV : nsIn K mainGlobals "ValueError" = some none) : ResT K mg :=
  ⟨⟨_, (t.fn ("_law_result", 44) (by decide +kernel)).1⟩, (t.fn ("_law_result", 44) (by decide +kernel)).2, mg_of X G (gOk_ns hE), fun j hj => (t.ex j _ (exs_all j hj).1 (exs_all j hj).2).2, t.blt _ (by decide +kernel), t.blt _ (by decide +kernel), mg_none_of X G hV⟩
theorem nm_mk {K : Frag} {mg : Str → Option Value} (t : TopF top defsL gcsL exsL K mg) (hk : rsL.map (fun c => kitV K c) = rsL.map kitG) : ∀ c ∈ rsL, c < 20 ∧ exV K (clsA K c) = exG ∧ kitV K c = kitG c := fun c hc => by
  have hl : c < 20 := by simpa [rsL] using (by revert hc; revert c; decide +kernel : c < 20)
  exact ⟨hl, (t.ex c _ (exs_all c hl).1 (exs_all c hl).2).1, List.map_inj_left.mp hk c hc⟩
end Mn
open PySem PySem.W PyProof.Rows
set_option maxRecDepth 100000 in
set_option maxHeartbeats 0 in
theorem PySem.Challenge.cw_eventlocks_k26_standard_holds : PySem.Challenge.rw_eventlocks_k26_standard.Holds := by
  w_on; o_law; k_head; (case hw => w_witness2)
  k_fill
  refine LamX.walk_ofTs (n := 63) (k := 67) (x := "script") (CX := fun w => L2.CX PySem.Challenge.pw_eventlocks_k26_standard w) rfl (by decide) rfl ⟨rfl, by decide, by decide⟩ (fun w h Y => PySem.W.km_in_of Y) ?F ?G
  case F =>
    intro w mg fa h Y KX G hmg
    have t : Mn.TopF Mn.top Mn.defsL Mn.gcsL Mn.exsL _ mg := Mn.topF_of KX G (by kernel_rfl) (by kernel_rfl) (by kernel_rfl) (by kernel_rfl) Mn.exs_ok (by kernel_rfl) (by kernel_rfl)
    have R : Mn.ResT _ mg := Mn.res_mk KX G t (by kernel_rfl) (by kernel_rfl)
    exact Mn.law_at t KX hmg Mn.law_true R (by kernel_rfl) (PySem.W.km_tabs_of Y) (Mn.nm_mk t (by kernel_rfl))
  case G =>
    intro w H s e s' h
    obtain ⟨_, _, _, _, _, _, _, _, _, _, _, _, z⟩ := h
    exact z

