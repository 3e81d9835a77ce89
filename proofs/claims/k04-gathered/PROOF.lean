import PyProof.Rows.All
import Wide.All
import OpenK.AllK
import Wide.FinOn
import HandS.ForMost
import HandS.ForExc
import HandS.Defaults
import HandS.Head0
import HandS.Head1
import HandS.Head2
import HandS.HeadEnd
import HandS.HeadHook1
import HandS.HeadHook2
import HandS.Wide
import HandS.TupAny
import HandS.CallSlots
import HandS.Deep
import HandS.IsInst
import HandS.Flow
import HandS.Rev
import HandS.More
import HandS.ExcIs
import HandS.SortInts
import HandS.RaiseMore
import HandS.RevTup
import HandS.DictTup
import KE.KeyNested
import KE.SortData
import HandS.TupMul
import HandS.Head3
import HandS.ExcOwn
import KE.GoesEnum
import KE.GoesMore
import HandS.Zip
import KE.DataMinMax
import PyProof.Rows.SumAny
import KE.KDictWalk
import KE.KDictSum
import KE.SortKeyHeap
import KE.KDictCopyH
import HandS.DictEq
import HandS.Conv
import PyProof.ReprRoads
import KE.KDictOf
import HandS.SortKw
import PyProof.Rows.RegFStrParts
import PySem.Challenge.RW_lots_k04_gathered
set_option Elab.async false
set_option linter.all false
set_option maxRecDepth 100000
/-! Lt: a small language of values over an abstract heap, and what its texts come to (weakest preconditions). -/
namespace Lt
open PySem PySem.Spec PyProof.Rows L2

/-! ### values, heaps -/
inductive D where
  | non | bl (b : Bool) | int (i : Int) | str (x : Str) | tup (xs : List D) | lst (xs : List D) | ref (a : Addr)
  | dct (ks : List NestedKey) (vs : List D)
  deriving Inhabited
inductive O where
  | lst (xs : List D) | rol (xs : List D) | dN (kvs : List (NestedKey × D))
/-- the heap of what may still change: finitely many objects -/
structure Hh where
  f : Addr → Option O
  fin : ∃ n, ∀ a, n ≤ a → f a = none
instance : CoeFun Hh (fun _ => Addr → Option O) := ⟨Hh.f⟩
theorem Hh.ext {h k : Hh} (e : ∀ a, h a = k a) : h = k := by
  cases h; cases k
  have e' := funext e
  simp only at e'
  subst e'; rfl
theorem Hh.free (h : Hh) : ∃ p, h p = none := let ⟨n, e⟩ := h.fin; ⟨n, e n (Nat.le_refl _)⟩
def emp : Hh := ⟨fun _ => none, 0, fun _ _ => rfl⟩
def up (h : Hh) (a : Addr) (o : O) : Hh := ⟨fun b => if b = a then some o else h b, let ⟨n, e⟩ := h.fin; ⟨max n (a + 1), fun b l => by
  have l1 : n ≤ b := Nat.le_trans (Nat.le_max_left _ _) l
  have l2 : a + 1 ≤ b := Nat.le_trans (Nat.le_max_right _ _) l
  show (if b = a then some o else h b) = none
  rw [if_neg (fun z => by subst z; exact absurd l2 (Nat.not_succ_le_self _))]; exact e b l1⟩⟩
theorem up_same {h : Hh} {a : Addr} {o : O} : up h a o a = some o := if_pos rfl
theorem up_ne {h : Hh} {a b : Addr} {o : O} (e : b ≠ a) : up h a o b = h b := if_neg e
/-- an object is let go -/
def era (h : Hh) (a : Addr) : Hh := ⟨fun b => if b = a then none else h b, let ⟨n, e⟩ := h.fin; ⟨n, fun b l => by
  by_cases z : b = a
  · rw [if_pos z]
  · rw [if_neg z]; exact e b l⟩⟩
theorem era_same {h : Hh} {a : Addr} : era h a a = none := if_pos rfl
theorem era_ne {h : Hh} {a b : Addr} (e : b ≠ a) : era h a b = h b := if_neg e
/-- what was not there at first is let go -/
def gcH (h0 h : Hh) : Hh := ⟨fun a => if h0 a = none then none else h a, let ⟨n, e⟩ := h.fin; ⟨n, fun b l => by
  by_cases z : h0 b = none
  · rw [if_pos z]
  · rw [if_neg z]; exact e b l⟩⟩
theorem gc_new {h0 h : Hh} {a : Addr} (e : h0 a = none) : gcH h0 h a = none := if_pos e
theorem gc_old {h0 h : Hh} {a : Addr} (e : h0 a ≠ none) : gcH h0 h a = h a := if_neg e
theorem era_up {h : Hh} {a : Addr} {o : O} (e : h a = none) : era (up h a o) a = h := Hh.ext fun b => by
  by_cases z : b = a
  · subst z; rw [era_same, e]
  · rw [era_ne z, up_ne z]
theorem gc_self {h : Hh} : gcH h h = h := Hh.ext fun b => by
  by_cases z : h b = none
  · rw [gc_new z, z]
  · rw [gc_old z]
theorem gc_up {h h' : Hh} {a : Addr} {o : O} (e : h a = none) : gcH h (up h' a o) = gcH h h' := Hh.ext fun b => by
  by_cases z : h b = none
  · rw [gc_new z, gc_new z]
  · rw [gc_old z, gc_old z, up_ne]
    intro y; subst y; exact z e
theorem gc_era {h h' : Hh} {a : Addr} (e : h a = none) : gcH h (era h' a) = gcH h h' := Hh.ext fun b => by
  by_cases z : h b = none
  · rw [gc_new z, gc_new z]
  · rw [gc_old z, gc_old z, era_ne]
    intro y; subst y; exact z e
theorem up_up {h : Hh} {a : Addr} {o u : O} : up (up h a o) a u = up h a u := Hh.ext fun b => by
  by_cases z : b = a
  · subst z; rw [up_same, up_same]
  · rw [up_ne z, up_ne z, up_ne z]
/-- the items of a list that is read -/
def rdL (h : Hh) (a : Addr) : Option (List D) := match h a with
  | some (.lst xs) => some xs
  | some (.rol xs) => some xs
  | _ => none
/-- of a list that may be changed -/
def wrL (h : Hh) (a : Addr) : Option (List D) := match h a with
  | some (.lst xs) => some xs
  | _ => none
/-- the items of a list, frozen or not -/
def lsD (h : Hh) : D → Option (List D)
  | .lst xs => some xs
  | .ref a => rdL h a
  | _ => none
/-- of a list or a tuple -/
def sqD (h : Hh) : D → Option (List D)
  | .tup xs => some xs
  | d => lsD h d
mutual
/-- data as a key -/
def keyD : D → Option NestedKey
  | .non => some .none
  | .int i => some (.num i)
  | .str x => some (.text x)
  | .tup xs => (keysD xs).map .tup
  | .bl _ => none
  | .lst _ => none
  | .ref _ => none
  | .dct _ _ => none
def keysD : List D → Option (List NestedKey)
  | [] => some []
  | x :: r => (keyD x).bind fun k => (keysD r).map (k :: ·)
end
mutual
def ofK : NestedKey → D
  | .none => .non
  | .num i => .int i
  | .text x => .str x
  | .tup ks => .tup (ofKs ks)
def ofKs : List NestedKey → List D
  | [] => []
  | k :: r => ofK k :: ofKs r
end
/-- a key of a dict: no text at the top, not too deep -/
def keyOk : NestedKey → Bool
  | .text _ => false
  | k => decide (k.depth ≤ 8)
def keyT (d : D) : Option NestedKey := match keyD d with
  | some k => if keyOk k = true then some k else none
  | none => none
def lkp {α : Type} (kvs : List (NestedKey × α)) (k : NestedKey) : Option α := (kvs.find? fun p => decide (p.1 = k)).map (·.2)
def stoK {α : Type} (kvs : List (NestedKey × α)) (k : NestedKey) (v : α) : List (NestedKey × α) := if kvs.any (fun p => decide (p.1 = k)) = true then kvs.map (fun p => if p.1 = k then (p.1, v) else p) else kvs ++ [(k, v)]
/-- of a dict that is read -/
def rdN (h : Hh) : D → Option (List (NestedKey × D))
  | .dct ks vs => some (ks.zip vs)
  | .ref a => match h a with
    | some (.dN kvs) => some kvs
    | _ => none
  | _ => none
/-- of one that may be changed -/
def wrN (h : Hh) (a : Addr) : Option (List (NestedKey × D)) := match h a with
  | some (.dN kvs) => some kvs
  | _ => none
def optW {α : Type} (o : Option α) (f : α → Prop) : Prop := match o with
  | some v => f v
  | none => False
theorem optW_some {α : Type} {v : α} {f : α → Prop} : optW (some v) f = f v := rfl
theorem optW_none {α : Type} {f : α → Prop} : optW none f = False := rfl
def selW (o : Option (List D)) (f : List D → Prop) (g : Prop) : Prop := match o with
  | some xs => f xs
  | none => g
theorem sel_some {xs : List D} {f : List D → Prop} {g : Prop} : selW (some xs) f g = f xs := rfl
theorem sel_none {f : List D → Prop} {g : Prop} : selW none f g = g := rfl
theorem optW_iff {α : Type} {o : Option α} {f : α → Prop} : optW o f ↔ ∃ v, o = some v ∧ f v := by
  cases o with
  | none => exact ⟨fun h => h.elim, fun ⟨_, e, _⟩ => nomatch e⟩
  | some v => exact ⟨fun h => ⟨v, rfl, h⟩, fun ⟨_, e, h⟩ => by cases e; exact h⟩

mutual
/-- at h, x is the data d -/
def IsP (h : Hh) (x : D) : PyData → Prop
  | .none => x = .non
  | .bool b => x = .bl b
  | .int i => x = .int i
  | .str z => x = .str z
  | .tuple ds => ∃ xs, x = .tup xs ∧ IsPs h xs ds
  | .list ds => ∃ xs, lsD h x = some xs ∧ IsPs h xs ds
  | .dict _ => False
def IsPs (h : Hh) (xs : List D) : List PyData → Prop
  | [] => xs = []
  | d :: ds => ∃ x r, xs = x :: r ∧ IsP h x d ∧ IsPs h r ds
end

abbrev QD := D → Hh → Prop
abbrev XD := Str → Hh → Prop
abbrev En := List (Option D)
def getE : En → Nat → Option D
  | [], _ => none
  | v :: _, 0 => v
  | _ :: r, n + 1 => getE r n
def setE : En → Nat → Option D → En
  | [], _, _ => []
  | _ :: r, 0, x => x :: r
  | v :: r, n + 1, x => v :: setE r n x
def wipeE (ρ : En) : List Nat → En
  | [] => ρ
  | v :: vs => setE (wipeE ρ vs) v none

/-! ### the text -/
inductive Bo where | add | sub | mul | div | mod | pow
inductive Co where | eq | ne | lt | le | gt | ge | isin | notin
inductive Bi where | len | abs | min2 | max2 | sum | any | all | list | tuple | int1 | str1
inductive Mt where | append | extend | pop | reverse | clear | index | insert | get
inductive Ty where | int | bool | str | tuple | list
inductive Ik where | val | range1 | range2 | range3 | enum | zip | rev
  deriving DecidableEq
/-- patterns of calls -/
inductive Px where | lrev | rpr | dnew | done | srt | srtK | srtL | sumV | dcp
  deriving DecidableEq
inductive Tg where | nm (i : Nat) | tp (is : List Nat)
mutual
inductive E where
  | kN | kB (b : Bool) | kI (i : Int) | kS (x : Str)
  | v (i : Nat) | g (x : Str)
  | op (o : Bo) (a b : E) | neg (a : E)
  | cm (o : Co) (a b : E) | cm2 (o p : Co) (a b c : E) | isN (a : E) | notN (a : E)
  | and (as : Es) | or (as : Es) | not (a : E) | ite (c a b : E)
  | tp (as : Es) | ls (as : Es)
  | ix (a i : E) | sl (a lo hi : E)
  | call (f : Str) (as : Es) | bi (f : Bi) (as : Es) | mt (m : Mt) (a : E) (as : Es)
  | isT (a : E) (t : Ty)
  | lc (k : Ik) (as : Es) (t : Tg) (own : List (Str × Nat)) (c : E) (e : E)
  | fz (e : E)
  | px (k : Px) (as : Es)
inductive Es where
  | nil | cons (a : E) (r : Es)
end
mutual
/-- what an except suite reckons: e's class is under one of cs .. -/
inductive HE where
  | kB (b : Bool) | isE (c : Str) | isT (cs : List Str) | not (a : HE) | and (as : HEs) | v (i : Nat) | tp (as : HEs) | ls (as : HEs)
inductive HEs where
  | nil | cons (a : HE) (r : HEs)
end
inductive HS where
  | set (j : Nat) (e : HE) | app (j : Nat) (e : HE)
inductive S where
  | skip | seq (a r : S)
  | tr (b : S) (c : Str) (i : Nat) (hs : List HS)
  | fg (is : List Nat)
  | pass | ex (e : E) | as (i : Nat) (e : E) | asT (is : List Nat) (e : E) | par (i j : Nat) (a b : E) | asI (a i e : E)
  | ret (e : E) | retN | ite (c : E) (a b : S) | iteL (c : E) (a b : S) | wh (c : E) (b : S) | fr (k : Ik) (as : Es) (t : Tg) (b : S)
  | rs (c : Str)
  | fz (i : Nat)
  | dfz (i : Nat)

/-! ### what it comes to -/
/-- what is known of the classes of errors: those that are raised, and which is under which -/
structure Ex where
  excs : List Str := []
  sub : Str → Str → Bool := fun _ _ => false
/-- the constants of the top, the classes of errors -/
structure Gn where
  glob : Str → Option D
  ex : Ex := {}
structure Cn where
  call : Str → List D → Hh → QD → XD → Prop
  glob : Str → Option D
  ex : Ex := {}

def binW : Bo → D → D → Hh → QD → Prop
  | .add, .int i, .int j, h, Q => Q (.int (i + j)) h
  | .add, .str x, .str y, h, Q => x.length + y.length ≤ sizeLine ∧ Q (.str (x ++ y)) h
  | .add, .tup x, .tup y, h, Q => x.length + y.length ≤ sizeLine ∧ Q (.tup (x ++ y)) h
  | .sub, .int i, .int j, h, Q => Q (.int (i - j)) h
  | .mul, .int i, .int j, h, Q => IntMulOk i j ∧ Q (.int (i * j)) h
  | .add, .lst xs, y, h, Q => optW (lsD h y) fun ys => xs.length + ys.length ≤ sizeLine ∧ ∀ p, h p = none → Q (.ref p) (up h p (.lst (xs ++ ys)))
  | .add, .ref a, y, h, Q => optW (rdL h a) fun xs => optW (lsD h y) fun ys => xs.length + ys.length ≤ sizeLine ∧ ∀ p, h p = none → Q (.ref p) (up h p (.lst (xs ++ ys)))
  | .mul, .ref a, .int k, h, Q => optW (rdL h a) fun xs => -(2 ^ 63) ≤ k ∧ k < 2 ^ 63 ∧ xs.length * k.toNat ≤ sizeLine ∧ ∀ p, h p = none → Q (.ref p) (up h p (.lst (List.replicate k.toNat xs).flatten))
  | .mul, .lst xs, .int k, h, Q => -(2 ^ 63) ≤ k ∧ k < 2 ^ 63 ∧ xs.length * k.toNat ≤ sizeLine ∧ ∀ p, h p = none → Q (.ref p) (up h p (.lst (List.replicate k.toNat xs).flatten))
  | .mul, .tup xs, .int k, h, Q => (-(2 ^ 63) ≤ k ∧ k ≤ 1000 ∧ xs.length ≤ 1000) ∧ Q (.tup (List.replicate k.toNat xs).flatten) h
  | .div, .int i, .int j, h, Q => j ≠ 0 ∧ Builtin.divisionGoesByPylong i j = false ∧ Q (.int (i.fdiv j)) h
  | .mod, .int i, .int j, h, Q => j ≠ 0 ∧ Q (.int (i.fmod j)) h
  | .pow, .int i, .int j, h, Q => CPow i j ∧ Q (.int (i ^ j.toNat)) h
  | _, _, _, _, _ => False
def negW : D → Hh → QD → Prop
  | .int i, h, Q => Q (.int (-i)) h
  | _, _, _ => False
def flatD : D → Bool
  | .non => true
  | .bl _ => true
  | .int _ => true
  | .str _ => true
  | _ => false
def eqD : D → D → Bool
  | .non, .non => true
  | .bl a, .bl b => a == b
  | .bl a, .int b => (if a then 1 else 0) == b
  | .int a, .bl b => a == (if b then 1 else 0)
  | .int a, .int b => a == b
  | .str a, .str b => a == b
  | _, _ => false
def inD (x : D) (xs : List D) : Bool := xs.any fun y => eqD y x
/-- == of data -/
def eqW (x y : D) (h : Hh) (K : Bool → Prop) : Prop := (∃ d e, IsP h x d ∧ IsP h y e ∧ SeqAt.shaped d = true ∧ SeqAt.shaped e = true ∧ K (PyData.eqv d e)) ∨ ∃ kx, rdN h x = some kx ∧ rdN h y = some [] ∧ K kx.isEmpty
def inW (x y : D) (h : Hh) (K : Bool → Prop) : Prop := match y with
  | .tup xs => flatD x = true ∧ xs.all flatD = true ∧ K (inD x xs)
  | .ref a => selW (rdL h a) (fun _ => ∃ d ds, IsP h x d ∧ IsP h y (.list ds) ∧ SeqAt.shaped d = true ∧ SeqAt.shaped (.list ds) = true ∧ K (ds.any fun z => PyData.eqv z d)) (optW (wrN h a) fun kvs => optW (keyT x) fun k => K (lkp kvs k).isSome)
  | .dct ks vs => optW (keyT x) fun k => K (lkp (ks.zip vs) k).isSome
  | .lst _ => ∃ d ds, IsP h x d ∧ IsP h y (.list ds) ∧ SeqAt.shaped d = true ∧ SeqAt.shaped (.list ds) = true ∧ K (ds.any fun z => PyData.eqv z d)
  | .str z => (match x with
    | .str w => ∃ c, w = ⟨#[c]⟩ ∧ K (decide (c ∈ z.cps.toList))
    | _ => False)
  | _ => False
def cmW : Co → D → D → Hh → QD → Prop
  | .lt, .int i, .int j, h, Q => Q (.bl (decide (i < j))) h
  | .le, .int i, .int j, h, Q => Q (.bl (decide (i ≤ j))) h
  | .gt, .int i, .int j, h, Q => Q (.bl (decide (j < i))) h
  | .ge, .int i, .int j, h, Q => Q (.bl (decide (j ≤ i))) h
  | .eq, .int i, .int j, h, Q => Q (.bl (decide (i = j))) h
  | .ne, .int i, .int j, h, Q => Q (.bl (!decide (i = j))) h
  | .eq, .str i, .str j, h, Q => Q (.bl (decide (i = j))) h
  | .ne, .str i, .str j, h, Q => Q (.bl (!decide (i = j))) h
  | .eq, x, y, h, Q => eqW x y h fun b => Q (.bl b) h
  | .ne, x, y, h, Q => eqW x y h fun b => Q (.bl (!b)) h
  | .isin, x, y, h, Q => inW x y h fun b => Q (.bl b) h
  | .notin, x, y, h, Q => inW x y h fun b => Q (.bl (!b)) h
  | _, _, _, _, _ => False
def intW (d : D) (f : Int → Prop) : Prop := match d with
  | .int i => f i
  | _ => False
def isNon : D → Bool
  | .non => true
  | _ => false
def ixW : D → D → Hh → QD → Prop
  | .tup xs, .int i, h, Q => optW (atI xs i) fun v => Q v h
  | .lst xs, .int i, h, Q => optW (atI xs i) fun v => Q v h
  | .str z, .int i, h, Q => z.length ≤ sizeLine ∧ optW (atI z.cps.toList i) fun c => Q (.str ⟨#[c]⟩) h
  | .dct ks vs, y, h, Q => optW (keyT y) fun k => optW (lkp (ks.zip vs) k) fun v => Q v h
  | .ref a, y, h, Q => selW (rdL h a) (fun xs => intW y fun i => optW (atI xs i) fun v => Q v h) (optW (wrN h a) fun kvs => optW (keyT y) fun k => optW (lkp kvs k) fun v => Q v h)
  | _, _, _, _ => False
def cutD (xs : List D) (lo hi : Option Int) : List D := (xs.drop (HT.sIx xs.length 0 lo)).take (HT.sIx xs.length xs.length hi - HT.sIx xs.length 0 lo)
def slW : D → Option Int → Option Int → Hh → QD → Prop
  | .tup xs, lo, hi, h, Q => Q (.tup (cutD xs lo hi)) h
  | .lst xs, lo, hi, h, Q => ∀ p, h p = none → Q (.ref p) (up h p (.lst (cutD xs lo hi)))
  | .ref a, lo, hi, h, Q => optW (rdL h a) fun xs => ∀ p, h p = none → Q (.ref p) (up h p (.lst (cutD xs lo hi)))
  | .str z, lo, hi, h, Q => z.length ≤ sizeLine ∧ Q (.str (cutS z lo hi)) h
  | _, _, _, _, _ => False
def blW (d : D) (f : Bool → Prop) : Prop := match d with
  | .bl b => f b
  | _ => False
def intsD : List D → Option (List Int)
  | [] => some []
  | .int i :: r => (intsD r).map (i :: ·)
  | _ :: _ => none
def blsD : List D → Option (List Bool)
  | [] => some []
  | .bl i :: r => (blsD r).map (i :: ·)
  | _ :: _ => none
def biW : Bi → List D → Hh → QD → Prop
  | .len, [.tup xs], h, Q => Q (.int (xs.length : Nat)) h
  | .len, [.str x], h, Q => x.length ≤ sizeLine ∧ Q (.int (x.length : Nat)) h
  | .len, [.ref a], h, Q => selW (rdL h a) (fun xs => Q (.int (xs.length : Nat)) h) (optW (wrN h a) fun kvs => Q (.int (kvs.length : Nat)) h)
  | .len, [.lst xs], h, Q => Q (.int (xs.length : Nat)) h
  | .len, [.dct ks vs], h, Q => Q (.int ((ks.zip vs).length : Nat)) h
  | .abs, [.int i], h, Q => Q (.int (if i < 0 then -i else i)) h
  | .int1, [.int i], h, Q => Q (.int i) h
  | .int1, [.bl b], h, Q => Q (.int (if b = true then 1 else 0)) h
  | .min2, [.int i, .int j], h, Q => Q (.int (if j < i then j else i)) h
  | .max2, [.int i, .int j], h, Q => Q (.int (if j > i then j else i)) h
  | .sum, [.ref a], h, Q => optW (rdL h a) fun xs => optW (intsD xs) fun ns => Q (.int ns.sum) h
  | .sum, [.lst xs], h, Q => optW (intsD xs) fun ns => Q (.int ns.sum) h
  | .sum, [.tup xs], h, Q => optW (intsD xs) fun ns => Q (.int ns.sum) h
  | .any, [.ref a], h, Q => optW (rdL h a) fun xs => optW (blsD xs) fun bs => Q (.bl (bs.any id)) h
  | .any, [.lst xs], h, Q => optW (blsD xs) fun bs => Q (.bl (bs.any id)) h
  | .all, [.ref a], h, Q => optW (rdL h a) fun xs => optW (blsD xs) fun bs => Q (.bl (bs.all id)) h
  | .all, [.lst xs], h, Q => optW (blsD xs) fun bs => Q (.bl (bs.all id)) h
  | .list, [.ref a], h, Q => optW (rdL h a) fun xs => ∀ p, h p = none → Q (.ref p) (up h p (.lst xs))
  | .list, [.lst xs], h, Q => ∀ p, h p = none → Q (.ref p) (up h p (.lst xs))
  | .list, [.tup xs], h, Q => ∀ p, h p = none → Q (.ref p) (up h p (.lst xs))
  | .tuple, [.ref a], h, Q => optW (rdL h a) fun xs => Q (.tup xs) h
  | .tuple, [.lst xs], h, Q => Q (.tup xs) h
  | .tuple, [.tup xs], h, Q => Q (.tup xs) h
  | _, _, _, _ => False
def mtT : Mt → D → Hh → Prop
  | .index, .ref a, h => ∃ xs, rdL h a = some xs
  | .index, .lst _, _ => True
  | .insert, .ref a, h => ∃ xs, rdL h a = some xs
  | .append, .ref a, h => ∃ xs, rdL h a = some xs
  | .extend, .ref a, h => ∃ xs, rdL h a = some xs
  | .pop, .ref a, h => ∃ xs, rdL h a = some xs
  | .reverse, .ref a, h => ∃ xs, rdL h a = some xs
  | .clear, .ref a, h => ∃ xs, rdL h a = some xs
  | .get, d, h => ∃ kvs, rdN h d = some kvs
  | _, _, _ => False
/-- a tuple or a list -/
def seqD : D → Bool
  | .tup _ => true
  | .lst _ => true
  | .ref _ => true
  | _ => false
/-- items in their order, by what they are -/
def srtD (xs : List D) (ds : List PyData) : List D := ((xs.zip ds).mergeSort fun a b => PySem.W.dataLe false (fun p : D × PyData => p.2) a b).map (·.1)
/-- what may be sorted -/
structure SrtOk (ds : List PyData) : Prop where
  al : PySem.W.AllAlike ds
  so : PySem.W.Sortable ds ∨ ds.length ≤ 1
  dp : ∀ d ∈ ds, d.depth ≤ 60
  ln : ds.length ≤ sizeLine
def lenK : NestedKey → Nat
  | .tup ks => ks.length
  | _ => 0
def tupK : NestedKey → Bool
  | .tup _ => true
  | _ => false
def numK : NestedKey → Bool
  | .num _ => true
  | _ => false
def pxW : Px → List D → Hh → QD → Prop
  | .lrev, [x], h, Q => optW (lsD h x) fun xs => ∀ p, h p = none → Q (.ref p) (up h p (.lst xs.reverse))
  | .dnew, [], h, Q => ∀ p, h p = none → Q (.ref p) (up h p (.dN []))
  | .done, [x, v], h, Q => optW (keyT x) fun k => ∀ p, h p = none → Q (.ref p) (up h p (.dN [(k, v)]))
  | .srt, [x], h, Q => (match rdN h x with
    | some kvs => SrtOk (kvs.map fun p => p.1.data) ∧ ∀ p, h p = none → Q (.ref p) (up h p (.lst (srtD (kvs.map fun p => ofK p.1) (kvs.map fun p => p.1.data))))
    | none => optW (lsD h x) fun xs => ∃ ds, IsPs h xs ds ∧ SrtOk ds ∧ ∀ p, h p = none → Q (.ref p) (up h p (.lst (srtD xs ds))))
  | .srtK, [x], h, Q => optW (rdN h x) fun kvs => SrtOk (kvs.map fun p => p.1.data) ∧ ∀ p, h p = none → Q (.ref p) (up h p (.lst (srtD (kvs.map fun p => ofK p.1) (kvs.map fun p => p.1.data))))
  | .srtL, [x], h, Q => optW (rdN h x) fun kvs => (kvs.all fun p => tupK p.1) = true ∧ ∀ p, h p = none → Q (.ref p) (up h p (.lst (srtD (kvs.map fun p => ofK p.1) (kvs.map fun p => .int (lenK p.1 : Int)))))
  | .dcp, [x], h, Q => optW (rdN h x) fun kvs => (kvs.all fun p => numK p.1) = true ∧ ∀ p, h p = none → Q (.ref p) (up h p (.dN kvs))
  | .sumV, [x], h, Q => optW (rdN h x) fun kvs => optW (intsD (kvs.map (·.2))) fun ns => Q (.int ns.sum) h
  | .rpr, [x], h, Q => ∃ d, seqD x = true ∧ IsP h x d ∧ (d.showable = true ∧ d.hasDict = false ∧ d.depth ≤ 60 ∧ d.shown.length ≤ sizeLine) ∧ Q (.str d.shown) h
  | _, _, _, _ => False
def idxD (x : D) (xs : List D) : Option Nat := xs.findIdx? fun y => eqD y x
def mtW : Mt → D → List D → Hh → QD → Prop
  | .get, x, [y], h, Q => optW (rdN h x) fun kvs => optW (keyT y) fun k => Q ((lkp kvs k).getD .non) h
  | .get, x, [y, z], h, Q => optW (rdN h x) fun kvs => optW (keyT y) fun k => Q ((lkp kvs k).getD z) h
  | .index, x, [y], h, Q => optW (lsD h x) fun xs => flatD y = true ∧ xs.all flatD = true ∧ optW (idxD y xs) fun j => Q (.int (j : Nat)) h
  | .insert, .ref a, [.int i, y], h, Q => optW (wrL h a) fun xs => xs.length < sizeLine ∧ 0 ≤ i ∧ i < 2 ^ 63 ∧ Q .non (up h a (.lst (xs.take i.toNat ++ [y] ++ xs.drop i.toNat)))
  | .append, .ref a, [x], h, Q => optW (wrL h a) fun xs => xs.length < sizeLine ∧ Q .non (up h a (.lst (xs ++ [x])))
  | .extend, .ref a, [y], h, Q => optW (wrL h a) fun xs => optW (sqD h y) fun ys => xs.length + ys.length ≤ sizeLine ∧ Q .non (up h a (.lst (xs ++ ys)))
  | .pop, .ref a, [], h, Q => optW (wrL h a) fun xs => optW xs[xs.length - 1]? fun y => Q y (up h a (.lst xs.dropLast))
  | .reverse, .ref a, [], h, Q => optW (wrL h a) fun xs => Q .non (up h a (.lst xs.reverse))
  | .clear, .ref a, [], h, Q => optW (wrL h a) fun xs => Q .non (up h a (.lst []))
  | _, _, _, _, _ => False
def isTy (h : Hh) : D → Ty → Option Bool
  | .non, _ => some false
  | .bl _, .int => some true
  | .bl _, .bool => some true
  | .bl _, _ => some false
  | .int _, .int => some true
  | .int _, _ => some false
  | .str _, .str => some true
  | .str _, _ => some false
  | .tup _, .tuple => some true
  | .tup _, _ => some false
  | .lst _, .list => some true
  | .lst _, _ => some false
  | .dct _ _, _ => none
  | .ref a, t => match rdL h a, t with
    | some _, .list => some true
    | some _, _ => some false
    | none, _ => none

/-! ### walks -/
inductive IT where
  | lst (a : Addr) | seq (xs : List D) | enu (a : Addr) | zip (a b : Addr) | zpf (a : Addr) (ys : List D)
inductive Nx where | stuck | stop | go (d : D)
def nxL (o : Option (List D)) (i : Nat) : Nx := match o with
  | some xs => (match xs[i]? with
    | some d => .go d
    | none => .stop)
  | none => .stuck
def nxE (o : Option (List D)) (i : Nat) : Nx := match o with
  | some xs => (match xs[i]? with
    | some d => .go (.tup [.int i, d])
    | none => .stop)
  | none => .stuck
def nxZ (o p : Option (List D)) (i : Nat) : Nx := match o with
  | some xs => (match p with
    | some ys => (match xs[i]? with
      | some x => (match ys[i]? with
        | some y => .go (.tup [x, y])
        | none => .stop)
      | none => .stop)
    | none => .stuck)
  | none => .stuck
def IT.nx : IT → Nat → Hh → Nx
  | .lst a, i, h => nxL (rdL h a) i
  | .seq xs, i, _ => nxL (some xs) i
  | .enu a, i, h => nxE (rdL h a) i
  | .zip a b, i, h => nxZ (rdL h a) (rdL h b) i
  | .zpf a ys, i, h => nxZ (rdL h a) (some ys) i
/-- lo, lo + 1, .., n of them -/
def rngD (lo : Int) : Nat → List D
  | 0 => []
  | n + 1 => .int lo :: rngD (lo + 1) n
def rng3 (lo c : Int) : Nat → List D
  | 0 => []
  | n + 1 => .int lo :: rng3 (lo + c) c n
def enuD (k : Nat) : List D → List D
  | [] => []
  | x :: r => .tup [.int k, x] :: enuD (k + 1) r
def zipD : List D → List D → List D
  | x :: r, y :: q => .tup [x, y] :: zipD r q
  | _, _ => []
def itW : Ik → List D → Hh → (IT → Hh → Prop) → Prop
  | .val, [.ref a], h, R => optW (rdL h a) fun _ => R (.lst a) h
  | .val, [.tup xs], h, R => R (.seq xs) h
  | .val, [.lst xs], h, R => R (.seq xs) h
  | .range1, [.int j], h, R => -(2 ^ 62) ≤ j ∧ j < 2 ^ 62 ∧ R (.seq (rngD 0 j.toNat)) h
  | .range2, [.int i, .int j], h, R => (-(2 ^ 62) ≤ i ∧ i < 2 ^ 62 ∧ -(2 ^ 62) ≤ j ∧ j < 2 ^ 62) ∧ R (.seq (rngD i (j - i).toNat)) h
  | .range3, [.int i, .int j, .int c], h, R => (c ≠ 0 ∧ c.natAbs < 1073741824 ∧ Builtin.Range.small i j c = true ∧ 0 ≤ Builtin.Range.rangeSize i j c) ∧ R (.seq (rng3 i c (Builtin.Range.rangeSize i j c).toNat)) h
  | .enum, [.ref a], h, R => optW (rdL h a) fun _ => R (.enu a) h
  | .enum, [.lst xs], h, R => R (.seq (enuD 0 xs)) h
  | .enum, [.tup xs], h, R => R (.seq (enuD 0 xs)) h
  | .zip, [.ref a, .ref b], h, R => optW (rdL h a) fun _ => optW (rdL h b) fun _ => R (.zip a b) h
  | .zip, [.ref a, .lst ys], h, R => optW (rdL h a) fun _ => R (.zpf a ys) h
  | .zip, [.lst xs, .lst ys], h, R => R (.seq (zipD xs ys)) h
  | .zip, [.tup xs, .tup ys], h, R => R (.seq (zipD xs ys)) h
  | .rev, [.lst xs], h, R => R (.seq xs.reverse) h
  | .rev, [.tup xs], h, R => R (.seq xs.reverse) h
  | _, _, _, _ => False
def setsE : En → List Nat → List D → Option En
  | ρ, [], [] => some ρ
  | ρ, i :: is, d :: ds => setsE (setE ρ i (some d)) is ds
  | _, _, _ => none
def tgW (t : Tg) (d : D) (ρ : En) (R : En → Prop) : Prop := match t with
  | .nm i => R (setE ρ i (some d))
  | .tp is => (match d with
    | .tup ds => optW (setsE ρ is ds) R
    | _ => False)
/-- a comprehension's turns -/
def lcW (it : IT) (t : Tg) (c e : En → Hh → QD → Prop) (p : Addr) (ρ : En) (K : Hh → Prop) : Nat → Nat → Hh → Prop
  | 0, _, _ => False
  | n + 1, i, h => match it.nx i h with
    | .stuck => False
    | .stop => K h
    | .go d => tgW t d ρ fun ρ1 => c ρ1 h fun b h1 => blW b fun b => if b = true then e ρ1 h1 fun y h2 => optW (wrL h2 p) fun acc => acc.length < sizeLine ∧ lcW it t c e p ρ K n (i + 1) (up h2 p (.lst (acc ++ [y])))
        else lcW it t c e p ρ K n (i + 1) h1
/-- over items that are known -/
def lcL (t : Tg) (c e : En → Hh → QD → Prop) (p : Addr) (ρ : En) (K : Hh → Prop) : List D → Hh → Prop
  | [], h => K h
  | d :: ds, h => tgW t d ρ fun ρ1 => c ρ1 h fun b h1 => blW b fun b => if b = true then e ρ1 h1 fun y h2 => optW (wrL h2 p) fun acc => acc.length < sizeLine ∧ lcL t c e p ρ K ds (up h2 p (.lst (acc ++ [y])))
      else lcL t c e p ρ K ds h1
def lcI (it : IT) (t : Tg) (c e : En → Hh → QD → Prop) (p : Addr) (ρ : En) (K : Hh → Prop) (h : Hh) : Prop := match it with
  | .seq xs => lcL t c e p ρ K xs h
  | it => ∃ n, lcW it t c e p ρ K n 0 h
structure Ed where
  nx : En → Hh → Prop
  rt : D → Hh → Prop
  ex : Str → En → Hh → Prop
def frW (it : IT) (t : Tg) (b : En → Hh → Ed → Prop) (K : Ed) : Nat → Nat → En → Hh → Prop
  | 0, _, _, _ => False
  | n + 1, i, ρ, h => match it.nx i h with
    | .stuck => False
    | .stop => K.nx ρ h
    | .go d => tgW t d ρ fun ρ1 => b ρ1 h { K with nx := frW it t b K n (i + 1) }
def frL (t : Tg) (b : En → Hh → Ed → Prop) (K : Ed) : List D → En → Hh → Prop
  | [], ρ, h => K.nx ρ h
  | d :: ds, ρ, h => tgW t d ρ fun ρ1 => b ρ1 h { K with nx := frL t b K ds }
def frI (it : IT) (t : Tg) (b : En → Hh → Ed → Prop) (K : Ed) (ρ : En) (h : Hh) : Prop := match it with
  | .seq xs => frL t b K xs ρ h
  | it => ∃ n, frW it t b K n 0 ρ h
/-- a list is made a value -/
def frzW (d : D) (h : Hh) (Q : QD) : Prop := match d with
  | .ref a => selW (wrL h a) (fun xs => Q (.lst xs) (era h a)) (optW (wrN h a) fun kvs => Q (.dct (kvs.map (·.1)) (kvs.map (·.2))) (era h a))
  | d => Q d h
/-- with all that hangs on it -/
def dfzs (f : D → Hh → D × Hh) : List D → Hh → List D × Hh
  | [], h => ([], h)
  | x :: r, h => ((f x h).1 :: (dfzs f r (f x h).2).1, (dfzs f r (f x h).2).2)
def dfzD : Nat → D → Hh → D × Hh
  | 0, d, h => (d, h)
  | n + 1, d, h => match d with
    | .ref a => (match h a with
      | some (.lst xs) => (.lst (dfzs (dfzD n) xs (era h a)).1, (dfzs (dfzD n) xs (era h a)).2)
      | some (.dN kvs) => (.dct (kvs.map (·.1)) (dfzs (dfzD n) (kvs.map (·.2)) (era h a)).1, (dfzs (dfzD n) (kvs.map (·.2)) (era h a)).2)
      | _ => (.ref a, h))
    | .tup xs => (.tup (dfzs (dfzD n) xs h).1, (dfzs (dfzD n) xs h).2)
    | .lst xs => (.lst (dfzs (dfzD n) xs h).1, (dfzs (dfzD n) xs h).2)
    | .dct ks xs => (.dct ks (dfzs (dfzD n) xs h).1, (dfzs (dfzD n) xs h).2)
    | d => (d, h)
def whW (c : En → Hh → QD → Prop) (b : En → Hh → Ed → Prop) (K : Ed) : Nat → En → Hh → Prop
  | 0, _, _ => False
  | n + 1, ρ, h => c ρ h fun d h1 => blW d fun d => if d = true then b ρ h1 { K with nx := whW c b K n } else K.nx ρ h1

def whI (c : En → Hh → QD → XD → Prop) (b : En → Hh → Ed → Prop) (K : Ed) (ρ : En) (h : Hh) : Prop := ∃ n, whW (fun ρ h Q => c ρ h Q fun c h1 => K.ex c ρ h1) b K n ρ h
def partW (lo : E) (f : En → Hh → QD → XD → Prop) : En → Hh → (Option Int → Hh → Prop) → XD → Prop := match lo with
  | .kN => fun _ h K _ => K none h
  | _ => fun ρ h K X => f ρ h (fun y h2 => intW y fun i => K (some i) h2) X
mutual
def wE (C : Cn) : E → En → Hh → QD → XD → Prop
  | .kN => fun _ h Q _ => Q .non h
  | .kB b => fun _ h Q _ => Q (.bl b) h
  | .kI i => fun _ h Q _ => Q (.int i) h
  | .kS x => fun _ h Q _ => Q (.str x) h
  | .v i => fun ρ h Q _ => optW (getE ρ i) fun d => Q d h
  | .g x => fun _ h Q _ => optW (C.glob x) fun d => Q d h
  | .op o a b => fun ρ h Q X => wE C a ρ h (fun x h1 => wE C b ρ h1 (fun y h2 => binW o x y h2 Q) X) X
  | .neg a => fun ρ h Q X => wE C a ρ h (fun x h1 => negW x h1 Q) X
  | .cm o a b => fun ρ h Q X => wE C a ρ h (fun x h1 => wE C b ρ h1 (fun y h2 => cmW o x y h2 Q) X) X
  | .cm2 o p a b c => fun ρ h Q X => wE C a ρ h (fun x h1 => wE C b ρ h1 (fun y h2 => cmW o x y h2 fun d h3 => blW d fun d => if d = true then wE C c ρ h3 (fun z h4 => cmW p y z h4 Q) X else Q (.bl false) h3) X) X
  | .isN a => fun ρ h Q X => wE C a ρ h (fun x h1 => Q (.bl (isNon x)) h1) X
  | .notN a => fun ρ h Q X => wE C a ρ h (fun x h1 => Q (.bl (!isNon x)) h1) X
  | .and as => fun ρ h Q X => wAn C as ρ h (fun b h1 => Q (.bl b) h1) X
  | .or as => fun ρ h Q X => wOr C as ρ h (fun b h1 => Q (.bl b) h1) X
  | .not a => fun ρ h Q X => wE C a ρ h (fun x h1 => blW x fun d => Q (.bl (!d)) h1) X
  | .ite c a b => fun ρ h Q X => wE C c ρ h (fun x h1 => blW x fun d => if d = true then wE C a ρ h1 Q X else wE C b ρ h1 Q X) X
  | .tp as => fun ρ h Q X => wA C as ρ h (fun xs h1 => xs.length ≤ sizeLine ∧ Q (.tup xs) h1) X
  | .ls as => fun ρ h Q X => wA C as ρ h (fun xs h1 => xs.length ≤ sizeLine ∧ ∀ p, h1 p = none → Q (.ref p) (up h1 p (.lst xs))) X
  | .ix a i => fun ρ h Q X => wE C a ρ h (fun x h1 => wE C i ρ h1 (fun y h2 => ixW x y h2 Q) X) X
  | .sl a lo hi => fun ρ h Q X => wE C a ρ h (fun x h1 => partW lo (wE C lo) ρ h1 (fun l h2 => partW hi (wE C hi) ρ h2 (fun u h3 => slW x l u h3 Q) X) X) X
  | .call f as => fun ρ h Q X => wA C as ρ h (fun xs h1 => C.call f xs h1 Q X) X
  | .bi f as => fun ρ h Q X => wA C as ρ h (fun xs h1 => biW f xs h1 Q) X
  | .mt m a as => fun ρ h Q X => wE C a ρ h (fun x h1 => mtT m x h1 ∧ wA C as ρ h1 (fun xs h2 => mtW m x xs h2 Q) X) X
  | .isT a t => fun ρ h Q X => wE C a ρ h (fun x h1 => optW (isTy h1 x t) fun b => Q (.bl b) h1) X
  | .lc k as t own c e => fun ρ h Q X => wA C as ρ h (fun xs h1 => itW k xs h1 fun it h2 => ∀ p, h2 p = none → lcI it t (fun ρ h Q => wE C c ρ h Q fun _ _ => False) (fun ρ h Q => wE C e ρ h Q fun _ _ => False) p (wipeE ρ (own.map (·.2))) (Q (.ref p)) (up h2 p (.lst []))) X
  | .fz e => fun ρ h Q X => wE C e ρ h (fun d h1 => frzW d h1 Q) X
  | .px k as => fun ρ h Q X => wA C as ρ h (fun xs h1 => pxW k xs h1 Q) X
def wA (C : Cn) : Es → En → Hh → (List D → Hh → Prop) → XD → Prop
  | .nil => fun _ h Q _ => Q [] h
  | .cons a r => fun ρ h Q X => wE C a ρ h (fun x h1 => wA C r ρ h1 (fun xs h2 => Q (x :: xs) h2) X) X
def wAn (C : Cn) : Es → En → Hh → (Bool → Hh → Prop) → XD → Prop
  | .nil => fun _ h Q _ => Q true h
  | .cons a r => fun ρ h Q X => wE C a ρ h (fun x h1 => blW x fun d => if d = true then wAn C r ρ h1 Q X else Q false h1) X
def wOr (C : Cn) : Es → En → Hh → (Bool → Hh → Prop) → XD → Prop
  | .nil => fun _ h Q _ => Q false h
  | .cons a r => fun ρ h Q X => wE C a ρ h (fun x h1 => blW x fun d => if d = true then Q true h1 else wOr C r ρ h1 Q X) X
end
mutual
def hE (f : Str → Bool) : HE → En → Hh → QD → Prop
  | .kB b => fun _ h Q => Q (.bl b) h
  | .isE c => fun _ h Q => Q (.bl (f c)) h
  | .isT cs => fun _ h Q => cs.length ≤ sizeLine ∧ Q (.bl (cs.any f)) h
  | .not a => fun ρ h Q => hE f a ρ h fun d h1 => blW d fun b => Q (.bl (!b)) h1
  | .and as => fun ρ h Q => hN f as ρ h fun b h1 => Q (.bl b) h1
  | .v i => fun ρ h Q => optW (getE ρ i) fun d => Q d h
  | .tp as => fun ρ h Q => hA f as ρ h fun xs h1 => xs.length ≤ sizeLine ∧ Q (.tup xs) h1
  | .ls as => fun ρ h Q => hA f as ρ h fun xs h1 => xs.length ≤ sizeLine ∧ ∀ p, h1 p = none → Q (.ref p) (up h1 p (.lst xs))
def hA (f : Str → Bool) : HEs → En → Hh → (List D → Hh → Prop) → Prop
  | .nil => fun _ h Q => Q [] h
  | .cons a r => fun ρ h Q => hE f a ρ h fun x h1 => hA f r ρ h1 fun xs h2 => Q (x :: xs) h2
def hN (f : Str → Bool) : HEs → En → Hh → (Bool → Hh → Prop) → Prop
  | .nil => fun _ h Q => Q true h
  | .cons a r => fun ρ h Q => hE f a ρ h fun x h1 => blW x fun d => if d = true then hN f r ρ h1 Q else Q false h1
end
def hS (f : Str → Bool) : List HS → En → Hh → (En → Hh → Prop) → Prop
  | [], ρ, h, K => K ρ h
  | .set j e :: r, ρ, h, K => hE f e ρ h fun d h1 => hS f r (setE ρ j (some d)) h1 K
  | .app j e :: r, ρ, h, K => optW (getE ρ j) fun x => mtT .append x h ∧ hE f e ρ h fun d h1 => mtW .append x [d] h1 fun _ h2 => hS f r ρ h2 K
def asW (x y z : D) (h : Hh) (R : Hh → Prop) : Prop := match x with
  | .ref a => selW (wrL h a) (fun xs => intW y fun i => optW (ixN xs.length i) fun j => R (up h a (.lst (xs.set j z)))) (optW (wrN h a) fun kvs => kvs.length < sizeLine ∧ optW (keyT y) fun k => R (up h a (.dN (stoK kvs k z))))
  | _ => False
def wS (C : Cn) : S → En → Hh → Ed → Prop
  | .skip => fun ρ h K => K.nx ρ h
  | .tr b c i hs => fun ρ h K => wS C b ρ h { K with ex := fun x ρ1 h1 => (C.ex.excs.contains x = true ∧ i < ρ1.length) ∧ if C.ex.sub x c = true then hS (C.ex.sub x) hs (setE ρ1 i none) h1 (fun ρ2 h2 => K.nx (setE ρ2 i none) h2) else K.ex x ρ1 h1 }
  | .fg is => fun ρ h K => K.nx (wipeE ρ is) h
  | .seq a r => fun ρ h K => wS C a ρ h { K with nx := fun ρ1 h1 => wS C r ρ1 h1 K }
  | .pass => fun ρ h K => K.nx ρ h
  | .ex e => fun ρ h K => wE C e ρ h (fun _ h1 => K.nx ρ h1) fun c h1 => K.ex c ρ h1
  | .as i e => fun ρ h K => wE C e ρ h (fun d h1 => K.nx (setE ρ i (some d)) h1) fun c h1 => K.ex c ρ h1
  | .asT is e => fun ρ h K => wE C e ρ h (fun d h1 => tgW (.tp is) d ρ fun ρ1 => K.nx ρ1 h1) fun c h1 => K.ex c ρ h1
  | .par i j a b => fun ρ h K => wE C a ρ h (fun x h1 => wE C b ρ h1 (fun y h2 => K.nx (setE (setE ρ i (some x)) j (some y)) h2) fun c h2 => K.ex c ρ h2) fun c h1 => K.ex c ρ h1
  | .asI a i e => fun ρ h K => wE C e ρ h (fun z h1 => wE C a ρ h1 (fun x h2 => wE C i ρ h2 (fun y h3 => asW x y z h3 fun h4 => K.nx ρ h4) fun c h1 => K.ex c ρ h1) fun c h1 => K.ex c ρ h1) fun c h1 => K.ex c ρ h1
  | .ret e => fun ρ h K => wE C e ρ h K.rt fun c h1 => K.ex c ρ h1
  | .retN => fun ρ h K => K.rt .non h
  | .ite c a b => fun ρ h K => wE C c ρ h (fun d h1 => blW d fun d => if d = true then wS C a ρ h1 K else wS C b ρ h1 K) fun c h1 => K.ex c ρ h1
  | .iteL c a b => fun ρ h K => wE C c ρ h (fun d h1 => optW (lsD h1 d) fun xs => if xs.isEmpty = true then wS C b ρ h1 K else wS C a ρ h1 K) fun c h1 => K.ex c ρ h1
  | .wh c b => fun ρ h K => whI (wE C c) (wS C b) K ρ h
  | .fr k as t b => fun ρ h K => wA C as ρ h (fun xs h1 => itW k xs h1 fun it h2 => frI it t (wS C b) K ρ h2) fun c h1 => K.ex c ρ h1
  | .rs c => fun ρ h K => K.ex c ρ h
  | .fz i => fun ρ h K => optW (getE ρ i) fun d => frzW d h fun d1 h1 => K.nx (setE ρ i (some d1)) h1
  | .dfz i => fun ρ h K => optW (getE ρ i) fun d => K.nx (setE ρ i (some (dfzD 8 d h).1)) (dfzD 8 d h).2
end Lt

set_option maxHeartbeats 4000000
/-! xs.extend(a list or a tuple), frozen or not -/
namespace LtR
open PySem PySem.Spec PyProof.Rows L2
theorem ext_any {T : String} (hT : T = "list" ∨ T = "tuple") (l b : Addr) (xs ys : Array Value) (n m : Nat) (od : Option Addr) (sl : Array (Option Value)) (c1 : ¬(!xs.isEmpty && Builtin.List.listTooLong (xs.size + ys.size)) = true) (c2 : xs.size ≤ sizeLine) (c3 : xs.size + ys.size ≤ sizeLine) :
    Meets (Builtin.«list.extend» ⟨[.ref l, .ref b], []⟩) fun _ R s => s.heap.get? l = some { cls := .type "list", data := .seq xs n } ∧ s.heap.get? b = some { cls := .type T, dict := od, data := .seq ys m, slots := sl } ∧ R (.ok (.ret Value.none)) { s with heap := s.heap.update l (Obj.mapSeq fun x => x ++ ys), toks := s.toks } := by
  rcases hT with rfl | rfl
  · exact .of_wp fun P W A R s q => by
      obtain ⟨H, g, dr, tk, os⟩ := s
      obtain ⟨e1, e2, q⟩ := q
      have i1 := AutoSeq1.idx_int; have i2 := AutoSeq1.sub_tuple_tuple; have i3 := AutoSeq1.sub_list_list; have i4 := AutoSeq1.sub_tuple_list; have i5 := AutoSeq1.sub_list_tuple
      have z : (xs ++ ys).size ≤ sizeLine + 1 := by rw [Array.size_append]; omega
      wp_walk using (wpAny_updateSeq e1 rfl (hz := c2) (_hz' := z)), wpAny_loadPart' e1, wpAny_loadPart' e2
      exact ⟨_, rfl, q⟩
  · exact .of_wp fun P W A R s q => by
      obtain ⟨H, g, dr, tk, os⟩ := s
      obtain ⟨e1, e2, q⟩ := q
      have i1 := AutoSeq1.idx_int; have i2 := AutoSeq1.sub_tuple_tuple; have i3 := AutoSeq1.sub_list_list; have i4 := AutoSeq1.sub_tuple_list; have i5 := AutoSeq1.sub_list_tuple
      have z : (xs ++ ys).size ≤ sizeLine + 1 := by rw [Array.size_append]; omega
      wp_walk using (wpAny_updateSeq e1 rfl (hz := c2) (_hz' := z)), wpAny_loadPart' e1, wpAny_loadPart' e2
      exact ⟨_, rfl, q⟩
def rExtA (K : PySem.W.Frag) : V → List V → Hp → VK → Prop := fun x vs H Q => ∃ l b xs zs, x = .ref l ∧ vs = [.ref b] ∧ H l = some (.lst xs) ∧ (SqL K H b zs ∨ SqT K H b zs) ∧ xs.length + zs.length ≤ sizeLine ∧ Q .non (upd H l (.lst (xs ++ zs)))
theorem mt_extA {X : Cx} : MtR X "list.extend" (rExtA X.K) := by
  intro pins s σ H x vs v us Q I rx rv h
  obtain ⟨l, b, xs, zs, rfl, rfl, hH, hB, hz, q⟩ := h
  cases rx
  obtain ⟨u, rfl, ru⟩ := rv.one
  cases ru
  obtain ⟨z, its, n, r, hl, e⟩ := I.lstM hH
  have fin : ∀ {T : String} {its2 : List Value} {o : Obj} {m : Nat}, (T = "list" ∨ T = "tuple") → Vals zs its2 → s.heap.get? b = some o → o.cls = .type T → o.data = .seq its2.toArray m → wpAny (model X.prog X.w) X.A (call (.builtin "list.extend") [.ref l, .ref b]) (EP X pins σ Q) X.xe s := fun {T its2 o m} hT r2 e2 c2 d2 => by
    obtain ⟨oc, od, oda, os⟩ := o
    cases c2; cases d2
    have l2 := r2.length
    have sz : its.toArray.size + its2.toArray.size ≤ sizeLine := by rw [List.size_toArray, List.size_toArray]; omega
    have lo : ¬ (!its.toArray.isEmpty && Builtin.List.listTooLong (its.toArray.size + its2.toArray.size)) = true := by
      rw [notLongL sz, Bool.and_false]; exact Bool.false_ne_true
    refine call_meets F.slot_list_extend ⟨_, e, rfl⟩ F.entry_list_extend (F.args_list_extend_2 _ _) (ext_any hT l b its.toArray its2.toArray n m od os lo (by rw [List.size_toArray]; omega) sz) ⟨e, e2, ?_⟩
    refine ⟨.non, _, I.lset (its' := its ++ its2) hH e (by simp) (r.append r2) ?_, rfl, q⟩
    rw [List.length_append]; exact hz
  rcases hB with hB | hB
  · obtain ⟨its2, r2, ⟨o, m, e2, c, _, d⟩, _⟩ := I.list hB
    exact fin (.inl rfl) r2 e2 c d
  · obtain ⟨its2, r2, ⟨o, e2, c, m, d⟩, _⟩ := I.tuple hB
    exact fin (.inr rfl) r2 e2 c d
end LtR

set_option maxHeartbeats 4000000
/-! list * int, tuple * int of any kind -/
namespace LtR
open PySem PySem.Spec PyProof.Rows L2
theorem rmul_any (a : Int) (t : Tok) (l : Addr) (xs : Array Value) (n : Nat) (od : Option Addr) (sl : Array (Option Value)) :
    Meets (Builtin.«int.__rmul__» ⟨[.int a t, .ref l], []⟩) fun _ R s => s.heap.get? l = some { cls := .type "list", dict := od, data := .seq xs n, slots := sl } ∧ R (.ok (.ret Value.notImplemented)) s :=
  .of_wp fun P W A R s q => by
    obtain ⟨H, g, dr, tk, os⟩ := s
    obtain ⟨e, q⟩ := q
    wp_walk using wpAny_loadPart' e
    exact ⟨_, rfl, q⟩
theorem mul_any (l : Addr) (xs : Array Value) (n : Nat) (od : Option Addr) (sl : Array (Option Value)) (k : Int) (t : Tok) (c0 : ¬(!Builtin.List.listFitsIndex k) = true) (c1 : ¬xs.size * k.toNat > (2 ^ 63 - 1) / 8) (c2 : ¬Builtin.List.listTooLong (xs.size * k.toNat) = true) (z : (List.foldl (fun x1 x2 => x1 ++ x2) #[] (List.replicate (if xs.isEmpty = true then 0 else k.toNat) xs)).size ≤ sizeLine) :
    Meets (Builtin.«list.__mul__» ⟨[.ref l, .int k t], []⟩) fun _ R s => s.heap.get? l = some { cls := .type "list", dict := od, data := .seq xs n, slots := sl } ∧
      R (.ok (.ret (Value.ref s.heap.objs.size))) { s with heap := s.heap.push { cls := Value.type "list", data := Data.seq (List.foldl (fun x1 x2 => x1 ++ x2) #[] (List.replicate (if xs.isEmpty = true then 0 else k.toNat) xs)) }, toks := s.toks } :=
  .of_wp fun P W A R s q => by
    obtain ⟨H, g, dr, tk, os⟩ := s
    obtain ⟨e, q⟩ := q
    wp_walk using wpAny_loadPart' e
    refine wpAny_ite_false (decide_eq_false (Nat.not_lt.mpr z)) ?_
    wp_walk using wpAny_loadPart' e
    exact ⟨_, rfl, q⟩
theorem tmul_same (l : Addr) (xs : Array Value) (n : Nat) (od : Option Addr) (sl : Array (Option Value)) (k : Int) (t : Tok) (c0 : (decide (k < -(2 ^ 63)) || decide (k ≥ 2 ^ 63)) = false) (c1 : (xs.isEmpty || k == 1) = true) :
    Meets (Builtin.«tuple.__mul__» ⟨[.ref l, .int k t], []⟩) fun _ R s => s.heap.get? l = some { cls := .type "tuple", dict := od, data := .seq xs n, slots := sl } ∧ R (.ok (.ret (.ref l))) s :=
  .of_wp fun P W A R s q => by
    obtain ⟨H, g, dr, tk, os⟩ := s
    obtain ⟨e, q⟩ := q
    have i1 := AutoSeq1.idx_int
    wp_walk using wpAny_loadPart' e
    repeat (first
      | (refine wpAny_ite_false (decide_eq_false (by rw [c0]; exact Bool.false_ne_true)) ?_; wp_walk using wpAny_loadPart' e)
      | (refine wpAny_ite_true (decide_eq_true c1) ?_; wp_walk using wpAny_loadPart' e))
    exact ⟨_, rfl, q⟩
theorem tmul_none (l : Addr) (xs : Array Value) (n : Nat) (od : Option Addr) (sl : Array (Option Value)) (k : Int) (t : Tok) (c0 : (decide (k < -(2 ^ 63)) || decide (k ≥ 2 ^ 63)) = false) (c1 : (xs.isEmpty || k == 1) = false) (c2 : (decide (k ≤ 0) || xs.isEmpty) = true) :
    Meets (Builtin.«tuple.__mul__» ⟨[.ref l, .int k t], []⟩) fun _ R s => s.heap.get? l = some { cls := .type "tuple", dict := od, data := .seq xs n, slots := sl } ∧ R (.ok (.ret (Value.ref s.heap.objs.size))) { s with heap := s.heap.push { cls := Value.type "tuple", data := Data.seq #[] }, toks := s.toks } :=
  .of_wp fun P W A R s q => by
    obtain ⟨H, g, dr, tk, os⟩ := s
    obtain ⟨e, q⟩ := q
    have i1 := AutoSeq1.idx_int
    wp_walk using wpAny_loadPart' e
    repeat (first
      | (refine wpAny_ite_false (decide_eq_false (by rw [c0]; exact Bool.false_ne_true)) ?_; wp_walk using wpAny_loadPart' e)
      | (refine wpAny_ite_false (decide_eq_false (by rw [c1]; exact Bool.false_ne_true)) ?_; wp_walk using wpAny_loadPart' e)
      | (refine wpAny_ite_true (decide_eq_true c2) ?_; wp_walk using wpAny_loadPart' e))
    exact ⟨_, rfl, q⟩
section
variable {X : Cx}
/-- list * int, frozen or not -/
def rMulL (K : PySem.W.Frag) : R2 := fun x y H Q => ∃ l k xs, x = .ref l ∧ y = .int k ∧ SqL K H l xs ∧ -(2 ^ 63) ≤ k ∧ k < 2 ^ 63 ∧ xs.length * k.toNat ≤ sizeLine ∧ ∀ p, H p = none → Q (.ref p) (L2.upd H p (.lst (List.replicate k.toNat xs).flatten))
theorem op_mulL : OpR X (binaryOp .Mult) (rMulL X.K) := by
  intro pins s σ H x y v u Q I rx ry h
  obtain ⟨l, k, xs, rfl, rfl, hL, h1, h2, hz, q⟩ := h
  cases rx
  obtain ⟨t, rfl⟩ := ry
  obtain ⟨its, r, ⟨⟨cls, dd, data, sl⟩, n, ho, hc, _, hd⟩, hs⟩ := I.list hL
  simp only at hc hd
  subst hc hd
  have hl := r.length
  have len : its.toArray.size * k.toNat ≤ sizeLine := by rw [List.size_toArray, ← hl]; exact hz
  have cap : ¬ its.toArray.size * k.toNat > (2 ^ 63 - 1) / 8 := by
    have : (sizeLine : Nat) ≤ (2 ^ 63 - 1) / 8 := by decide
    omega
  have fit : ¬ (!Builtin.List.listFitsIndex k) = true := by
    rw [fitsIndex_both h1 h2]; exact Bool.false_ne_true
  have long : ¬ Builtin.List.listTooLong (its.toArray.size * k.toNat) = true := by
    rw [notLongL len]; exact Bool.false_ne_true
  have new : List.foldl (fun x1 x2 => x1 ++ x2) #[] (List.replicate (if its.toArray.isEmpty = true then 0 else k.toNat) its.toArray) = (List.replicate k.toNat its).flatten.toArray := by
    rw [size_rep]
    cases its with
    | nil => simp
    | cons a r' => rw [if_neg (by simp)]
  have fl : (List.replicate k.toNat its).flatten.length ≤ sizeLine := by
    rw [PyProof.Rows.lm_len_rep_flat, Nat.mul_comm]
    rw [List.size_toArray] at len; exact len
  refine wpAny_binaryOp_repeat_ref (T := "list") (U := "int") (by decide) ⟨_, ho, rfl⟩ (fun s' => typeIs_int s' k t) noFill_list_mul PySem.F.fills_int_mul PySem.F.slot_int_rmul repeat_list PySem.F.slot_int_index.lookup
    (call_meets PySem.F.slot_int_rmul (typeIs_int s k t) PySem.F.entry_int_rmul (PySem.F.args_int_rmul_2 _ _) (rmul_any k t l its.toArray n dd sl)
      ⟨ho, rfl, ⟨_, ho, rfl⟩, call_meets PySem.F.slot_list_mul ⟨_, ho, rfl⟩ PySem.F.entry_list_mul (PySem.F.args_list_mul_2 _ _) (mul_any l its.toArray n dd sl k t fit cap long (by rw [new, List.size_toArray]; exact fl)) ⟨ho, ?_⟩⟩)
  rw [new]
  exact ⟨.ref _, _, I.lnew (t' := s.toks) (r.rep k.toNat) (by rw [PyProof.Rows.lm_len_rep_flat, Nat.mul_comm]; exact hz), rfl, q _ I.fresh⟩
/-- tuple * int: the tuple itself, a new one -/
def rMulT (K : PySem.W.Frag) : R2 := fun x y H Q => ∃ l k xs, x = .ref l ∧ y = .int k ∧ SqT K H l xs ∧ -(2 ^ 63) ≤ k ∧ k ≤ 1000 ∧ xs.length ≤ 1000 ∧ ((xs = [] ∨ k = 1) → Q (.ref l) H) ∧ ∀ p, H p = none → Q (.ref p) (upd H p (.tup (List.replicate k.toNat xs).flatten))
theorem op_mulT : OpR X (binaryOp .Mult) (rMulT X.K) := by
  intro pins s σ H x y v u Q I rx ry h
  obtain ⟨l, k, xs, rfl, rfl, hT, h1, h2, hz, q1, q⟩ := h
  by_cases big : xs ≠ [] ∧ 2 ≤ k
  · exact op_repT pins s σ H _ _ v u Q I rx ry ⟨l, k, xs, rfl, rfl, hT, big.1, big.2, h2, hz, q⟩
  · cases rx
    obtain ⟨t, rfl⟩ := ry
    obtain ⟨its, r, ⟨⟨cls, dd, data, sl⟩, ho, hc, n, hd⟩, hs⟩ := I.tuple hT
    simp only at hc hd
    subst hc hd
    have hl := r.length
    have c0 : (decide (k < -(2 ^ 63)) || decide (k ≥ 2 ^ 63)) = false := by rw [decide_eq_false (by omega), decide_eq_false (by omega)]; rfl
    have em : its.toArray.isEmpty = decide (xs = []) := by
      cases its with
      | nil => rw [List.eq_nil_of_length_eq_zero hl]; rfl
      | cons a b =>
        rw [decide_eq_false (fun e => by rw [e] at hl; cases hl)]; rfl
    have both : ∀ {Q' : Value → Shared → Prop}, wpAny (model X.prog X.w) X.A (call (.builtin "tuple.__mul__") [.ref l, .int k t]) Q' X.xe s → wpAny (model X.prog X.w) X.A (binaryOp .Mult (.ref l) (.int k t)) Q' X.xe s := fun w =>
      wpAny_binaryOp_repeat_ref (T := "tuple") (U := "int") (by decide) ⟨_, ho, rfl⟩ (fun s' => typeIs_int s' k t) noFill_tuple_mul F.fills_int_mul F.slot_int_rmul repeat_tuple F.slot_int_index.lookup
        (call_meets F.slot_int_rmul (typeIs_int s k t) F.entry_int_rmul (F.args_int_rmul_2 _ _) (int_rmul_tuple k t l its.toArray n dd sl) ⟨ho, rfl, ⟨_, ho, rfl⟩, w⟩)
    refine both ?_
    by_cases c : xs = [] ∨ k = 1
    · have c1 : (its.toArray.isEmpty || k == 1) = true := by
        rw [em, Bool.or_eq_true, decide_eq_true_eq, beq_iff_eq]; exact c
      exact call_meets F.slot_tuple_mul ⟨_, ho, rfl⟩ F.entry_tuple_mul (F.args_tuple_mul_2 _ _) (tmul_same l its.toArray n dd sl k t c0 c1) ⟨ho, .ref l, H, I, rfl, q1 c⟩
    · have n1 : xs ≠ [] := fun e => c (.inl e)
      have n2 : k ≠ 1 := fun e => c (.inr e)
      have n3 : k ≤ 0 := by
        have : ¬ 2 ≤ k := fun z => big ⟨n1, z⟩
        omega
      have c1 : (its.toArray.isEmpty || k == 1) = false := by
        rw [em, decide_eq_false n1, Bool.false_or]; exact beq_eq_false_iff_ne.mpr n2
      have c2 : (decide (k ≤ 0) || its.toArray.isEmpty) = true := by rw [decide_eq_true n3]; rfl
      have e0 : (List.replicate k.toNat xs).flatten = [] := by rw [show k.toNat = 0 by omega]; rfl
      refine call_meets F.slot_tuple_mul ⟨_, ho, rfl⟩ F.entry_tuple_mul (F.args_tuple_mul_2 _ _) (tmul_none l its.toArray n dd sl k t c0 c1 c2) ⟨ho, ?_⟩
      refine ⟨.ref s.heap.objs.size, _, I.laid (t' := s.toks) (o := .tup (List.replicate k.toNat xs).flatten) (fun b ob q => Heap.get?_push_of_some _ q) (Nat.le_refl _) ?_, rfl, q _ (I.hok.fresh (Nat.le_refl _))⟩
      rw [e0]
      exact ⟨Nat.zero_le _, [], .nil, IsTup.new _ _⟩
end
end LtR

set_option maxHeartbeats 4000000
namespace LtG
open PySem PySem.Spec PyProof.Rows L2
/-! ### defs that run where nothing is being shown: a promise with that one premise more -/
structure FnG (P : Program) (w : World) (K : PySem.W.Frag) (mg : Str → Option Value) (base : Heap) (CX : CXT) (k : Nat) (f : Addr) (fd : FuncData) (ps : List Str) (sp : Sp) : Prop where
  len : ∀ vs H Q E, sp vs H Q E → vs.length = ps.length
  run : ∀ (A : Around) (outer : List Env) (s : Shared) (H : Hp) (args : Args) (us : List Value) (vs : List V) (Q : VK) (E : XK), A.guards = some [] → Room k A → Env0 P w K mg base A outer s H → BindsTo s fd args (ps.zip us) → Vals vs us → sp vs H Q E →
    codeAny (model P w) A (.call (.ref f) args) (CR CX outer P w H s Q E) s
section
variable {X : Cx} {CX : CXT} {k : Nat} {f : Addr} {fd : FuncData} {ps : List Str} {sp : Sp} {E : L2.St → XK} {x : Str} {p pos : Pos} {e : Expr} {es : List Expr} {t : TA}
theorem pe_callG (F : FnG X.prog X.w X.K X.mg X.base CX k f fd ps sp) (gd : X.A.guards = some []) (hr : Room k X.A) (hg : Gl X x) (hm : X.mg x = some (.ref f)) (hk : PySem.W.keepIn X.K (.ref f) = true) (hb : Binds X.K fd ps []) (hx : ∀ σ, PassesAt CX X σ (E σ))
    (ha : PA X (e :: es) t) (hdb : (x == ("__debug__" : Str)) = false := by decide) (he : starEach (e :: es) X.env = (false, eval e X.env) :: starEach es X.env := by rfl) (hpl : (backTo pos (starEach es X.env)).any (·.1) = false := by rfl) :
    PE X (.Call (.Name x p) (e :: es) [] pos) (tCallS sp E t) := by
  constructor
  intro pins s σ H Q I h
  refine wpAny_Call_Name_kw (ld_glob I hg hm ?_ hdb)
  refine PySem.W.callWith_K (h₀ := X.base) I.ok.mod.kin hk (thn (ha.run pos pins s σ H _ I h) ?_) he hpl
  rintro us s1 ⟨vs, H1, I1, r, q⟩
  refine ⟨I1.kIn, ?_⟩
  have nl : us.length = ps.length := r.length.symm.trans (F.len _ _ _ _ q)
  have bd := hb s1 us I1.kIn (by simpa using nl)
  simp only [List.append_nil] at bd
  refine wpAny_call (codeAny_mono (F.run X.A X.stack s1 H1 ⟨us, []⟩ us vs Q (E σ) gd hr I1.env0 bd r q) ?_)
  rintro (_ | fl) s' hq
  · exact hx σ pins H1 s1 _ s' I1 hq
  · cases fl with
    | ret u => exact I1.after hq
    | next => exact hq.elim
    | brk => exact hq.elim
    | cont => exact hq.elim
end
section
variable {P : Program} {w : World} {K : PySem.W.Frag} {mg : Str → Option Value} {base : Heap} {x qual : Str} {params : Arguments} {body : List Stmt} {scope : Scope} {f : Addr} {fd : FuncData}
theorem fn_ofG {CX : CXT} {N ps : List Str} {k : Nat} {sp : Sp} (F : FunD K x qual params body scope [] [] f fd) (S : FnScope N ps scope) (len : ∀ vs H Q E, sp vs H Q E → vs.length = ps.length)
    (hbody : ∀ (cdv : Value) (A : Around) (outer : List Env) (s : Shared) (H : Hp) (vs : List V) (Q : VK) (E : XK), A.guards = some [] → Room k (A.deeper (envOfC qual scope s.heap.objs.size f cdv)) → sp vs H Q E →
      ∃ t, PSs (cxOf CX P w K mg base N qual scope f cdv A outer s H E) body t ∧ t { nx := fun _ H' => Q .non H', rt := Q } (start N vs) H) : FnG P w K mg base CX (k + 1) f fd ps sp := by
  obtain ⟨oc, od, dV, kV, doc, pm, an, cdv, ct, osl, rfl, lk, hcd, _, _⟩ := F.ex
  refine ⟨len, ?_⟩
  intro A outer s H args us vs Q E gd hr e0 hb r hsp
  have bs1 : ∀ b o, base.get? b = some o → s.heap.get? b = some o := fun b o e => (e0.bs b o e).1
  have KX : K.In s.heap := e0.mod.kin.keeps bs1
  have lim : s.heap.NoLimit := e0.mod.nolimit.keeps bs1
  have hkind : ∀ y ∈ ps.zip us, scope.names.lookup y.1 = some .local ∨ (scope.names.lookup y.1 = some .cell ∧ ((cellsFrom (s.heap.objs.size + 1) scope.names []).lookup y.1).isSome = true) := by
    rintro ⟨n, v⟩ hy
    exact (S.par n (List.of_mem_zip hy).1).imp id fun q => ⟨q, PySem.W.cellsFrom_some _ _ _ (.inl q)⟩
  refine codeAny_call_function hr.depth (KX _ _ lk) rfl S.co S.gen rfl (PySem.W.codeRec_of KX hcd) (hb _ _ _ _ ?_)
  refine wpAny_newFunctionEnv_cells S.kind hkind ?_
  rintro env rfl s1 x
  refine ⟨lim.keeps x.toInCall.keep, codeAny_func ?_⟩
  obtain ⟨t, ht, hq⟩ := hbody cdv A outer s H vs Q E gd (hr.deeper _) hsp
  refine wpAny_mono (ht.run [] s1 (start N vs) H _ (inv_start S hr.hd e0 (len _ _ _ _ hsp) r x) hq) ?_ fun e s' hs => hs
  intro fl s' hs
  cases fl with
  | ret u => obtain ⟨v, σ', H', J, rv, q⟩ := hs; exact ⟨v, H', J.os, J.bare, J.base, J.hok, rv, q⟩
  | next => obtain ⟨σ', H', J, q⟩ := hs; exact ⟨.non, H', J.os, J.bare, J.base, J.hok, rfl, q⟩
  | brk => obtain ⟨_, _, _, q⟩ := hs; exact q.elim
  | cont => obtain ⟨_, _, _, q⟩ := hs; exact q.elim
end

section
variable {P : Program} {w : World} {K : PySem.W.Frag} {mg mb : Str → Option Value} {CX : CXT} {k : Nat} {fa a : Addr} {fd : FuncData} {x : Str} {sp : Sp} {s1 : Shared} {vs : List Value} {ns : List Int}
/-- what a law's call has to end in -/
abbrev Told (s1 : Shared) : Result → Shared → Prop := fun r s' => r = .ok (.ret (.bool true)) ∧ OldK s1.heap s'.heap ∧ s'.os = s1.os ∧ AllBare s'.gens
/-- from a heap in which nothing but the script may be tracked -/
theorem told_of (KX : K.In s1.heap) (hns : s1.heap.Ns mainGlobals mg) (hb : s1.heap.Ns builtinsNs mb) (hbb : ∀ x : Str, x ≠ "__name__" → mb x = bootBuiltins x) (hlim : s1.heap.NoLimit) (hg : s1.gens = #[])
    (ha : s1.heap.get? a = some { cls := .type "list", data := .seq vs.toArray }) (hr : Room k callerA)
    (F : ∀ base : Heap, K.In base → base.Ns mainGlobals mg → FnG P w K mg base CX k fa fd [x] sp) (hbind : ∀ (s : Shared) (u : Value), BindsTo s fd ⟨[u], []⟩ [(x, u)])
    (hCX : ∀ H e s', CX [] H s1 (fun _ _ _ => False) e s' → False) {H : Hp} (hO : Only H) (hsp : sp [.ref a] H (fun v _ => v = .bl true) fun _ _ _ => False)
    (hok : HOk P w H s1.heap) (hA : ∀ b, H b ≠ none → b = a) (hK : H a ≠ none → K.lookup a = none) :
    codeAny (model P w) callerA (.call (.ref fa) ⟨[.ref a], []⟩) (Told s1) s1 := by
  have only : ∀ {b : Addr}, b ≠ a → H b = none := fun {b} n => by
    cases q : H b with
    | none => rfl
    | some u => exact absurd (hA b (by rw [q]; simp)) n
  have nsK : ∀ {b : Addr} {m : Str → Option Value}, s1.heap.Ns b m → (hidT s1.heap H).Ns b m := by
    rintro b m ⟨o, es, ep, e, d, r⟩
    refine ⟨o, es, ep, hidT_get e (only ?_), d, r⟩
    rintro rfl
    rw [ha] at e; cases e
    cases d
  have hKb : K.In (hidT s1.heap H) := fun b o e => hidT_get (KX b o e) (by
    cases q : H b with
    | none => rfl
    | some u =>
      have e' : b = a := hA b (by rw [q]; simp)
      subst e'
      rw [hK (by rw [q]; simp)] at e; cases e)
  have hM : Mod K mg (hidT s1.heap H) := ⟨hKb, nsK hns, ⟨mb, nsK hb, hbb⟩, let ⟨mc, h1, h2⟩ := hlim; ⟨mc, nsK h1, h2⟩⟩
  have e0 : Env0 P w K mg (hidT s1.heap H) callerA [] s1 H := ⟨rfl, hM, fun b o e => of_hidT e, Nat.le_of_eq (hidT_size _ _), trivial, fun b hb => absurd (show b ∈ ([] : List Addr) from hb) (by simp), hok, .of_eq hg⟩
  refine codeAny_mono ((F _ hKb (nsK hns)).run callerA [] s1 H ⟨[.ref a], []⟩ [.ref a] [.ref a] _ _ rfl hr e0 (hbind s1 (.ref a)) (.cons rfl .nil) hsp) ?_
  rintro (e | fl) s' h
  · exact (hCX H e s' h).elim
  · cases fl with
    | next => exact h.elim
    | brk => exact h.elim
    | cont => exact h.elim
    | ret u =>
      obtain ⟨v, H', os, bare, un, hok', r', rfl⟩ := h
      obtain rfl : u = Value.bool true := r'
      refine ⟨rfl, OldK.of_keep fun b o e => ?_, os, bare⟩
      cases q : H b with
      | none => exact un.keep b o e q (by intro z; exact absurd (show b ∈ ([] : List Addr) from z) (by simp)) (by simp)
      | some u =>
        rcases hO b with z | ⟨ob, xs, z⟩
        · rw [q] at z; cases z
        · obtain ⟨e1, _⟩ := hok b _ z
          rw [e] at e1; cases e1
          exact (hok' b _ (un.frzs b o _ z)).1
theorem law_callG (KX : K.In s1.heap) (hns : s1.heap.Ns mainGlobals mg) (hb : s1.heap.Ns builtinsNs mb) (hbb : ∀ x : Str, x ≠ "__name__" → mb x = bootBuiltins x) (hlim : s1.heap.NoLimit) (hg : s1.gens = #[])
    (ha : s1.heap.get? a = some { cls := .type "list", data := .seq vs.toArray }) (hi : IntsAre vs ns) (hl : ns.length ≤ sizeLine) (hr : Room k callerA)
    (F : ∀ base : Heap, K.In base → base.Ns mainGlobals mg → FnG P w K mg base CX k fa fd [x] sp) (hbind : ∀ (s : Shared) (u : Value), BindsTo s fd ⟨[u], []⟩ [(x, u)])
    (hsp : ∀ H : Hp, Only H → SqL K H a (ns.map V.int) → sp [.ref a] H (fun v _ => v = .bl true) fun _ _ _ => False)
    (hCX : ∀ H e s', CX [] H s1 (fun _ _ _ => False) e s' → False) :
    codeAny (model P w) callerA (.call (.ref fa) ⟨[.ref a], []⟩) (Told s1) s1 := by
  have rv := vals_ints hi
  have go := fun {H : Hp} (hO : Only H) (hS : SqL K H a (ns.map V.int)) => told_of KX hns hb hbb hlim hg ha hr F hbind hCX hO (hsp H hO hS)
  cases hk : K.lookup a with
  | some o =>
    have e := KX a o hk
    rw [ha] at e
    cases e
    exact go (H := fun _ => none) (fun _ => .inl rfl) (.inr ⟨_, vs.toArray, _, hk, rfl, rfl, rfl, by rw [List.size_toArray, hi.length]; exact hl, by simpa using rv⟩) (fun b u z => nomatch (show (none : Option HO) = some u from z)) (fun b z => absurd rfl z) fun z => absurd rfl z
  | none =>
    have at' : ∀ b, (if b = a then some (HO.frz { cls := .type "list", data := .seq vs.toArray } (.lst (ns.map V.int))) else none) ≠ none → b = a := fun b z => by
      by_cases hb : b = a
      · exact hb
      · exact absurd (if_neg hb) z
    refine go (H := fun b => if b = a then some (.frz { cls := .type "list", data := .seq vs.toArray } (.lst (ns.map V.int))) else none) (fun b => ?_) (.inl (.inr ⟨{ cls := .type "list", data := .seq vs.toArray }, if_pos rfl⟩)) (fun b u z => ?_) at' fun _ => hk
    · by_cases hb : b = a
      · exact .inr ⟨_, _, if_pos hb⟩
      · exact .inl (if_neg hb)
    · have z0 : (if b = a then some (HO.frz { cls := .type "list", data := .seq vs.toArray } (.lst (ns.map V.int))) else none) = some u := z
      have hb := at' b (by rw [z0]; simp)
      subst hb
      rw [if_pos rfl] at z0
      cases z0
      exact ⟨ha, by rw [List.length_map]; exact hl, vs, _, rv, ha⟩
end
theorem walk_ofEG {l : PySem.W.OpenLaw} {n k : Nat} {q : Program} {loose : List Str} {XP : (Str → Option Value) → Heap → Prop} {YP : World → Heap → Prop} {d : DefRec} {CX : CXT} {x : Str}
    (hn : l.most = some n) (hn2 : n ≤ sizeLine) (hdf : d.params.defaults = []) (hr : Room k callerA)
    (F : ∀ (w : World) (mg : Str → Option Value) (fa : Addr) (h : Heap), YP w h → h.Ns mainGlobals mg → mg d.name = some (.ref fa) →
      ∃ (K : PySem.W.Frag) (fd : FuncData) (sp : Sp), K.In h ∧ (∀ (s : Shared) (u : Value), BindsTo s fd ⟨[u], []⟩ [(x, u)]) ∧
        (∀ (H : Hp) (a : Addr) (ns : List Int), ns.length ≤ n → Only H → SqL K H a (ns.map V.int) → sp [.ref a] H (fun v _ => v = .bl true) fun _ _ _ => False) ∧
        ∀ base : Heap, K.In base → base.Ns mainGlobals mg → FnG l.prog w K mg base CX k fa fd [x] sp)
    (hCX : ∀ (H : Hp) (s : Shared) (e : Value) (s' : Shared), CX [] H s (fun _ _ _ => False) e s' → False) :
    PySem.W.WalkO q loose XP YP l.row.toRowW d [] (fun f vs => PySem.call f vs) := by
  refine Att.attach_call hn hdf ?_
  intro w s₀ s₁ mg mb fa o pm cd doc a vs ns G Y ho hd hcd hmg hobj hints hlen hg
  obtain ⟨K, fd, sp, KX, hb, hsp, hF⟩ := F w mg fa _ Y G.T.g hmg
  exact law_callG KX G.T.g G.T.b G.T.builtins G.T.nolimit hg hobj hints (Nat.le_trans hlen hn2) hr hF hb (fun H hO hS => hsp H a ns hlen hO hS) fun H e s' => hCX H s₁ e s'
end LtG

set_option maxHeartbeats 4000000
/-! enumerate over a tuple -/
namespace Lt
open PySem PySem.Spec PyProof.Rows L2
open PySem.AutoSeq1 (wpAny_loadPart')
theorem sub_enum1 : isSubtype (.type "enumerate") (.type "enumerate") = pure true := sub_enumerate
theorem meets_enumV {v : Value} {o : Obj} {Hh0 : Heap → Prop} (B : Begins v o Hh0) :
    Meets (Builtin.«enumerate.__new__» ⟨[.type "enumerate", v], []⟩) (fun _ R s => Hh0 s.heap ∧
      R (.ok (.ret (.ref (s.heap.push o).objs.size))) { s with heap := (s.heap.push o).push { cls := .type "enumerate", data := .fields #[.none, .bool false, .ref s.heap.objs.size, rawInt 0, .none, .none] } }) :=
  .of_wp fun prog w A R s h => by
    obtain ⟨hp, g, d, tk, os⟩ := s
    obtain ⟨h1, h2⟩ := h
    have hsub := sub_enumerate
    have go : ∀ {A' : Around} {E' : Value → Shared → Prop} {Q' : Value → Shared → Prop}, Q' (.ref hp.objs.size) ⟨hp.push o, g, d, tk, os⟩ → wpAny (model prog w) A' (pyIter v) Q' E' ⟨hp, g, d, tk, os⟩ := fun z =>
      B.iter prog w _ _ ⟨hp, g, d, tk, os⟩ _ h1 z
    wp_walk using go
    refine wpAny_stack_any fun st => wpAny_pure ?_
    split
    · rename_i c _ _ _ _ _
      cases (c == Value.type "enumerate") <;> (wp_walk using go; exact ⟨_, rfl, h2⟩)
    · wp_walk using go
      exact ⟨_, rfl, h2⟩
section
variable {prog : Program} {w : World} {A : Around} {E : Value → Shared → Prop} {s : Shared}
theorem call_enumV {v : Value} {o : Obj} {Hh0 : Heap → Prop} {Q : Value → Shared → Prop} (B : Begins v o Hh0) (h1 : Hh0 s.heap)
    (h : ∀ h', IsEnum h' (s.heap.objs.size + 1) s.heap.objs.size 0 .none → h'.get? s.heap.objs.size = some o → h'.objs.size = s.heap.objs.size + 2 →
      (∀ b ob, s.heap.get? b = some ob → h'.get? b = some ob) → Q (.ref (s.heap.objs.size + 1)) { s with heap := h' }) :
    wpAny (model prog w) A (call (.type "enumerate") [v]) Q E s := by
  refine callType_new F.called_enumerate (by decide) (F.typeCall_enumerate_1 _) (F.newCall_enumerate_1 _) (fun obj => F.args_object_init_2 obj _) F.entry_enumerate_new (meets_enumV B) ⟨h1, ?_⟩
  have hz : (s.heap.push o).objs.size = s.heap.objs.size + 1 := Heap.size_push ..
  show _ ∧ _
  rw [hz]
  have he : IsEnum ((s.heap.push o).push { cls := .type "enumerate", data := .fields #[.none, .bool false, .ref s.heap.objs.size, rawInt 0, .none, .none] }) (s.heap.objs.size + 1) s.heap.objs.size 0 .none := by
    have z := Heap.get?_push_size (s.heap.push o) (o := { cls := .type "enumerate", data := .fields #[.none, .bool false, .ref s.heap.objs.size, rawInt 0, .none, .none] }) rfl
    rw [hz] at z; exact z
  exact ⟨⟨_, he, rfl⟩, h _ he (Heap.get?_push_of_some _ (Heap.get?_push_size _ B.free)) (by rw [Heap.size_push, hz]) fun b ob z => Heap.get?_push_of_some _ (Heap.get?_push_of_some _ z)⟩
end
/-- the tuple at a, each item with its place -/
def IteT (K : PySem.W.Frag) (a : Addr) : It :=
  ⟨fun i H => ∃ (xs : List V) (x : V), SqT K H a xs ∧ xs[i]? = some x, fun i H v H' => ∃ T x, v = .ref T ∧ H T = none ∧ H' = L2.upd H T (.tup [.int (i : Nat), x]) ∧ ∀ xs, SqT K H a xs → xs[i]? = some x, fun i H => ∃ xs : List V, SqT K H a xs ∧ xs.length ≤ i⟩
theorem turn_enumT {P : Program} {w : World} {K : PySem.W.Frag} {elts : List Expr} {kk : Nat} {tpos : Pos} (a e it : Addr) :
    Turn P w K (.Tuple elts kk tpos) (IteT K a) [e, it] e (fun i h => (∃ old, IsEnum h e it ((i : Nat) : Int) old) ∧ h.IsTupleIter it a i ∧ (e ≠ it ∧ a ≠ it ∧ a ≠ e)) where
  mem := by simp
  obj := fun i h st b hb => by
    obtain ⟨⟨old, he⟩, ⟨o, ho, hc, hd⟩, _⟩ := st
    rcases (show b = e ∨ b = it by simpa using hb) with z | z
    · subst z; exact ⟨_, he, fun v q => nomatch q⟩
    · subst z; exact ⟨o, ho, fun v q => by rw [hd] at q; cases q⟩
  keep := fun i h h' st k => ⟨let ⟨old, he⟩ := st.1; ⟨old, k e (by simp) _ he⟩, st.2.1.at fun o q => k it (by simp) o q, st.2.2⟩
  item := by
    intro X hP hw hK hc i pins s σ H E I hf st hg
    subst hP hw hK
    obtain ⟨⟨old, he⟩, hit, hne, hna, hae⟩ := st
    obtain ⟨xs, x, hq, hx⟩ := hg
    obtain ⟨its, rv, p, hz⟩ := I.tuple hq
    obtain ⟨u, hu, ru⟩ := rv.get hx
    have hel : e < s.heap.objs.size := Heap.lt_size he
    have hil : it < s.heap.objs.size := by obtain ⟨_, q, _⟩ := hit; exact Heap.lt_size q
    have hlt : i < its.toArray.size := by
      have l := List.getElem?_eq_some_iff.mp hu
      obtain ⟨l, _⟩ := l
      simpa using l
    have hh : X.A.handled = none := I.ok.hd hc
    refine wpAny_pyNext_enum_itemD (Draws.tuple (A := X.A.in1) hh it a hna its.toArray) he ⟨hit, p⟩ hlt hne (by simp [hne, Ne.symm hae]) fun u' h' tk hP' ho hst' hT hsz hk => ?_
    have eu : u' = u := by
      have e1 : its.toArray[i]? = some u := by simpa using hu
      rw [e1] at hP'; cases hP'; rfl
    subst eu
    refine ⟨_, rfl, wpAny_letOwnedTupleGo_enum (s := { s with heap := h', toks := tk + 1 }) ho fun h'' he' sb => ?_⟩
    have hT2 : h''.get? s.heap.objs.size = some { cls := .type "tuple", data := .seq #[.int i tk, u'] } := (sb.2 _ (Nat.ne_of_gt hel)).trans hT
    have new : ObjOk X.prog X.w (L2.upd H s.heap.objs.size (.tup [.int (i : Nat), x])) h'' s.heap.objs.size (.tup [.int (i : Nat), x]) :=
      ⟨by show 2 ≤ sizeLine; decide, [.int i tk, u'], .cons ⟨_, rfl⟩ (.cons ru .nil), ⟨_, hT2, rfl, _, rfl⟩⟩
    have I1 : L2.Inv X pins σ (L2.upd H s.heap.objs.size (.tup [.int (i : Nat), x])) { s with heap := h'', toks := tk + 1 } :=
      I.turnedNew (t' := tk + 1) (ch := [e, it]) (fun b ob hb q => (sb.2 b (fun z => hb (by simp [z]))).trans (hk b ob (fun z => hb (by simp [z])) (fun z => hb (by simp [z])) q)) hf (Nat.le_refl _) new
    refine ⟨.ref s.heap.objs.size, _, I1, rfl, ⟨_, x, rfl, I.hok.fresh (Nat.le_refl _), rfl, fun ys hy => by rw [I.tuple_inj hy hq]; exact hx⟩, ⟨⟨u', ?_⟩, hst'.1.at fun o q => (sb.2 it (Ne.symm hne)).trans q, hne, hna, hae⟩, fun b hb => ?_⟩
    · rw [show ((i + 1 : Nat) : Int) = (i : Int) + 1 by omega]; exact he'
    · have hb' : b < s.heap.objs.size := by
        rcases (show b = e ∨ b = it by simpa using hb) with z | z
        · subst z; exact hel
        · subst z; exact hil
      rw [L2.upd_ne (Nat.ne_of_lt hb')]
      exact (hf b hb).1
  done := by
    intro X hP hw hK hc i pins s σ H E I hf st hg
    subst hP hw hK
    obtain ⟨⟨old, he⟩, hit, hne, hna, hae⟩ := st
    obtain ⟨xs, hq, hx⟩ := hg
    obtain ⟨its, rv, p, hz⟩ := I.tuple hq
    obtain ⟨f0, f1, f2, f3, f4, f5⟩ := hf it (by simp)
    have hl := rv.length
    have hh : X.A.handled = none := I.ok.hd hc
    have D := Draws.tuple (prog := X.prog) (w := X.w) (A := X.A.in1) hh it a hna its.toArray
    unfold pyNext
    have hT : s.TypeIs (.ref e) "enumerate" := ⟨_, he, rfl⟩
    refine wpAny_bind (wpAny_attempt (wpAny_callSpecial?_slot (name := Str.ofString "__next__") hT F.slot_enumerate_next (wpAny_call_entry F.slot_enumerate_next hT F.entry_enumerate_next ?_ (F.args_enumerate_next_1 _))))
    show wpAny _ _ (field (.ref e) 2 >>= _) _ _ _
    refine wpAny_bind (wpAny_field he rfl (x := .ref it) rfl ?_)
    refine wpAny_bind (wpAny_nextOf_tuple_end (A := X.A.in1) hh hit p (by simp; omega) fun h' x he' hx' => ?_)
    obtain ⟨o, ho, hc'⟩ := hx'
    refine wpAny_bind (wpAny_isInstance (T := "StopIteration") (b := true) ⟨o, ho, hc'⟩ isSubtype_stop ?_)
    exact wpAny_pure ⟨rfl, I.turned (t' := s.toks) (fun b o hb q => he' b o hb q) f0 f1 f3 f4 f5⟩
  self := fun A i s Q E st h => let ⟨⟨_, he⟩, _⟩ := st; wpAny_pyIter_enum he h
def iEnumA (K : PySem.W.Frag) (ta : TA) : TI := fun σ H R => ta σ H fun vs H1 => ∃ a xs, vs = [.ref a] ∧ ((SqL K H1 a xs ∧ R (Ite K a) H1) ∨ (SqT K H1 a xs ∧ R (IteT K a) H1))
theorem pi_enumA {X : Cx} {e : Expr} {ta : TA} {p pos tpos : Pos} {elts : List Expr} {kk : Nat} (hg : Gl X "enumerate") (hm : X.mg "enumerate" = none) (ha : PA X [e] ta) (hs : starEach [e] X.env = [(false, eval e X.env)]) :
    PI X (.Tuple elts kk tpos) (.Call (.Name "enumerate" p) [e] [] pos) (iEnumA X.K ta) := by
  refine ⟨fun pins s σ H R I h => ?_⟩
  refine Call_ (ld_blt I hg hm boot_enumerate (PyProof.Rows.callWith_type1 (thn (ha.run pos pins s σ H _ I h) fun us s1 ⟨vs, H1, I1, r1, q1⟩ => ?_) hs rfl))
  obtain ⟨a, xs, ex, q1⟩ := q1
  subst ex
  cases r1 with
  | cons r rr =>
    cases rr
    cases r
    have fin : ∀ {h' : Heap}, (∀ b ob, s1.heap.get? b = some ob → h'.get? b = some ob) → L2.Inv X pins σ H1 { s1 with heap := h' } := fun hk => I1.kept (t' := s1.toks) hk
    have fr : ∀ b, b ∈ [s1.heap.objs.size + 1, s1.heap.objs.size] → s1.heap.objs.size ≤ b := fun b hb => by
      rcases (show b = s1.heap.objs.size + 1 ∨ b = s1.heap.objs.size by simpa using hb) with z | z <;> omega
    rcases q1 with ⟨hq, q⟩ | ⟨hq, q⟩
    · obtain ⟨its, rv, p', hz⟩ := I1.list hq
      refine call_enumerate_list p'.isList fun h' he hit hsz hk => wpAny_pyIter_enum he ?_
      exact ⟨s1.heap.objs.size + 1, [s1.heap.objs.size + 1, s1.heap.objs.size], _, _, H1, rfl, fin hk, turn_enum a (s1.heap.objs.size + 1) s1.heap.objs.size, ⟨⟨.none, he⟩, hit, Nat.succ_ne_self _⟩, fun b hb => I1.fpOk (fr b hb) (I1.hok.fresh (fr b hb)), q⟩
    · obtain ⟨its, rv, p', hz⟩ := I1.tuple hq
      have hal : a < s1.heap.objs.size := by obtain ⟨o, ho, _⟩ := p'; exact Heap.lt_size ho
      refine call_enumV (begins_tuple a its.toArray) p' fun h' he hit hsz hk => wpAny_pyIter_enum he ?_
      exact ⟨s1.heap.objs.size + 1, [s1.heap.objs.size + 1, s1.heap.objs.size], _, _, H1, rfl, fin hk, turn_enumT a (s1.heap.objs.size + 1) s1.heap.objs.size, ⟨⟨.none, he⟩, ⟨_, hit, rfl, rfl⟩, Nat.succ_ne_self _, Nat.ne_of_lt hal, Nat.ne_of_lt (Nat.lt_succ_of_lt hal)⟩, fun b hb => I1.fpOk (fr b hb) (I1.hok.fresh (fr b hb)), q⟩
end Lt

namespace LtR
open PySem PySem.Spec PyProof.Rows L2
section
variable {prog : Program} {w : World} {A : Around} {E : Value → Shared → Prop} {s : Shared} {l : Addr} {xs : Array (Int × Tok)}
theorem sum_tup {Q : Value → Shared → Prop} (hh : A.handled = none) (hl : s.heap.IsTuple l (intItems xs))
    (h : ∀ h' tk t', (∀ b o, s.heap.get? b = some o → h'.get? b = some o) → Q (.int (preSum (numAt xs) xs.size) t') { s with heap := h', toks := tk }) :
    wpAny (model prog w) A (call (.builtin "sum") [.ref l]) Q E s := by
  have hlt : l < s.heap.objs.size := by obtain ⟨_, e, _⟩ := hl; exact Heap.lt_size e
  refine call_sum_walkG (PySem.W.iter_tupleW (A := A.in1) hh hl fun s2 e W st hfp _ keep => ?_)
  subst e
  refine ⟨_, _, _, _, _, _, numAt xs, rfl, Walks.tuple (A := A.in1) hh _ l (Nat.ne_of_lt hlt) (intItems xs), st, hfp, (fun _ _ => intItems_at), fun h' tk t' hk => ?_⟩
  have := h h' tk t' fun b o e => hk b o (fun hb => absurd (Heap.lt_size e) ((List.mem_singleton.mp hb) ▸ Nat.lt_irrefl _)) (keep b o e)
  simpa [intItems] using this
end
section
variable {X : Cx}
theorem call_sumT (hc : X.calm = true) : CallR X (.builtin "sum") (fun vs H Q => ∃ (a : Addr) (ns : List Int), vs = [V.ref a] ∧ SqT X.K H a (ns.map V.int) ∧ Q (.int ns.sum) H) := by
  intro pins s σ H vs us Q I r h
  obtain ⟨a, ns, rfl, hs, q⟩ := h
  obtain ⟨its, rv, hl, _⟩ := I.tuple hs
  rw [Vals.ref1 r]
  have hi := rv.ints
  obtain ⟨xs, e⟩ := hi.allInts.items
  have hn : numsOf (intItems xs).toList = ns := by rw [← e]; exact hi.numsOf
  rw [nums_intItems] at hn
  rw [e] at hl
  refine sum_tup (I.ok.hd hc) hl fun h' tk t' hk => ?_
  rw [preSum_eq, List.take_of_length_le (by simp), hn]
  exact ⟨.int _, H, I.kept (t' := tk) hk, ⟨_, rfl⟩, q⟩
end
end LtR

namespace LtK
open PySem PySem.Spec PyProof.Rows L2
open Sem (wp)
/-! ### dicts whose keys are ints, None, and tuples (nested) -/
/-- an entry: the key, the object that is the key, the value -/
abbrev Ent := NestedKey × Value × Value
def ent (w : World) (x : Ent) : DictEntry := { hash := x.1.hash w, key := x.2.1, val := x.2.2 }
/-- v is the key k, no text at its top -/
structure KeyAt (h : Heap) (k : NestedKey) (v : Value) : Prop where
  is : NestedIs h k v
  dp : k.depth ≤ 8
  ns : ∀ x t, v ≠ .str x t
def Keys (h : Heap) (xs : List Ent) : Prop := ∀ x ∈ xs, KeyAt h x.1 x.2.1
def Raw (w : World) (h : Heap) (d : Addr) (xs : List Ent) : Prop := ∃ o es ep, h.get? d = some o ∧ o.ExactDict ∧ o.data = .dict es ep ∧ es.toList = xs.map (ent w) ∧ (xs.map (·.1)).Nodup
theorem KeyAt.at {h h' : Heap} {k : NestedKey} {v : Value} (x : KeyAt h k v) (hk : ∀ a o vs n, h.get? a = some o → o.data = .seq vs n → h'.get? a = some o) : KeyAt h' k v := ⟨x.is.at hk, x.dp, x.ns⟩
theorem Raw.at {w : World} {h h' : Heap} {d : Addr} {xs : List Ent} (x : Raw w h d xs) (e : ∀ o, h.get? d = some o → h'.get? d = some o) : Raw w h' d xs :=
  let ⟨o, es, ep, h1, r⟩ := x; ⟨o, es, ep, e o h1, r⟩
theorem Raw.ty {w : World} {s : Shared} {d : Addr} {xs : List Ent} (x : Raw w s.heap d xs) : s.TypeIs (.ref d) "dict" := let ⟨o, _, _, h1, h2, _⟩ := x; ⟨o, h1, h2.1⟩
theorem Raw.dict {w : World} {h : Heap} {d : Addr} {xs : List Ent} (x : Raw w h d xs) : ∃ es ep, h.DictRaw d es ep ∧ es.toList = xs.map (ent w) := let ⟨o, es, ep, h1, h2, h3, h4, _⟩ := x; ⟨es, ep, ⟨o, h1, h2, h3⟩, h4⟩
theorem Raw.new (w : World) (h : Heap) : Raw w (h.push { cls := .type "dict", data := .dict #[] }) h.objs.size [] := ⟨_, #[], 0, Heap.get?_push_size _ rfl, ⟨rfl, rfl, rfl⟩, rfl, rfl, List.nodup_nil⟩
/-- where the key stands -/
def Hit (xs : List Ent) (k : NestedKey) (i : Nat) : Prop := ∃ x, xs[i]? = some x ∧ x.1 = k
theorem Hit.one {xs : List Ent} {k : NestedKey} {i j : Nat} (hn : (xs.map (·.1)).Nodup) (hi : Hit xs k i) (hj : Hit xs k j) : i = j := by
  obtain ⟨x, e1, e2⟩ := hi
  obtain ⟨y, e3, e4⟩ := hj
  have a : (xs.map (·.1))[i]? = some k := by rw [List.getElem?_map, e1, ← e2]; rfl
  have b : (xs.map (·.1))[j]? = some k := by rw [List.getElem?_map, e3, ← e4]; rfl
  exact (List.getElem?_inj (List.getElem?_eq_some_iff.1 a).1 hn).1 (a.trans b.symm)
def look (xs : List Ent) (k : NestedKey) : Option Value := (xs.find? fun x => decide (x.1 = k)).map (·.2.2)
theorem look_hit {k : NestedKey} : ∀ {xs : List Ent} {i : Nat} {x : Ent}, (xs.map (·.1)).Nodup → xs[i]? = some x → x.1 = k → look xs k = some x.2.2
  | [], _, _, _, e, _ => by cases e
  | y :: r, 0, x, hn, e, q => by
    cases e
    unfold look; rw [List.find?_cons, decide_eq_true q]; rfl
  | y :: r, i + 1, x, hn, e, q => by
    rw [List.map_cons, List.nodup_cons] at hn
    have m : k ∈ r.map (·.1) := List.mem_map.2 ⟨x, List.mem_of_getElem? (by simpa using e), q⟩
    have ne : ¬ y.1 = k := fun z => hn.1 (z ▸ m)
    have := look_hit (k := k) hn.2 (show r[i]? = some x by simpa using e) q
    unfold look at this ⊢
    rw [List.find?_cons, decide_eq_false ne]; exact this
theorem look_none {xs : List Ent} {k : NestedKey} (h : ∀ i, ¬ Hit xs k i) : look xs k = none := by
  unfold look
  rw [List.find?_eq_none.2]
  · rfl
  · intro x hx e
    obtain ⟨i, hi⟩ := List.mem_iff_getElem?.1 hx
    exact h i ⟨x, hi, of_decide_eq_true e⟩
section
variable {prog : Program} {w : World} {A : Around} {E : Value → Shared → Prop} {s : Shared} {d : Addr} {kv : Value} {k : NestedKey} {xs : List Ent}
theorem wp_ite {α : Type} {M : Model} {c : Prop} [Decidable c] {x y : Sem α} {Q : α → Shared → Prop} (h1 : wpAny M A x Q E s) (h2 : wpAny M A y Q E s) : wpAny M A (if c then x else y) Q E s := by
  split
  · exact h1
  · exact h2
theorem wp_neg {α : Type} {M : Model} {c : Prop} [Decidable c] {x y : Sem α} {Q : α → Shared → Prop} (h : ¬ c) (q : wpAny M A y Q E s) : wpAny M A (if c then x else y) Q E s := by rw [if_neg h]; exact q
theorem quiet_ok {v : Value} {Q : Bool → Shared → Prop} (hk : KeyAt s.heap k v) (h : Q true s) : wpAny (model prog w) A (eqIsQuiet 8 v) Q E s := quiet_key k v 8 s hk.is hk.dp A E Q h
theorem tells_ok {stored : List Value} {Q : Bool → Shared → Prop} (hk : KeyAt s.heap k kv) (hst : ∀ v ∈ stored, ∃ k', KeyAt s.heap k' v) (h : Q false s) : wpAny (model prog w) A (tableMayTell kv stored) Q E s := by
  unfold tableMayTell
  split
  · exact wpAny_pure h
  refine wpAny_bind (quiet_ok hk ?_)
  simp only [Bool.not_true, Bool.false_eq_true, if_false]
  refine wpAny_bind (wpAny_forIn_list _ (fun rest r t => t = s ∧ r = (none, ()) ∧ ∀ v ∈ rest, ∃ k', KeyAt s.heap k' v) _ ?_ ?_ _ _ ⟨rfl, rfl, hst⟩)
  · rintro v rest r t ⟨rfl, rfl, hr⟩
    obtain ⟨k', hb⟩ := hr v (by simp)
    refine wpAny_bind (quiet_ok hb ?_)
    simp only [Bool.not_true, Bool.false_eq_true, if_false]
    exact wpAny_pure ⟨rfl, rfl, fun u hu => hr u (by simp [hu])⟩
  · rintro r t ⟨rfl, rfl, _⟩
    exact wpAny_pure h
theorem eq_ok {k' : NestedKey} {u v : Value} {Q : Bool → Shared → Prop} (hu : A.units + 8 < cLine) (h1 : KeyAt s.heap k' u) (h2 : KeyAt s.heap k v) (h : Q (decide (k' = k)) s) : wpAny (model prog w) A (eqBool u v) Q E s := by
  rw [NestedKey.decide_eq] at h
  exact eqAt_key k' k A s u v h1.is h2.is (by have := h1.dp; omega) _ _ _ _ h
theorem find_ok {o : Obj} {es : Array DictEntry} {ep : Nat} {Q : Option Nat → Shared → Prop} (hu : A.units + 8 < cLine) (hk : KeyAt s.heap k kv) (ho : s.heap.get? d = some o) (hd : o.data = .dict es ep)
    (he : es.toList = xs.map (ent w)) (hs : Keys s.heap xs) (hn : (xs.map (·.1)).Nodup) (h0 : (∀ i, ¬ Hit xs k i) → Q none s) (h1 : ∀ i, Hit xs k i → Q (some i) s) :
    wpAny (model prog w) A (dictFind d kv (k.hash w)) Q E s := by
  have at_ : ∀ i, es[i]? = (xs[i]?).map (ent w) := fun i => by rw [← Array.getElem?_toList, he, List.getElem?_map]
  have hz : es.size = xs.length := by rw [← Array.length_toList, he, List.length_map]
  generalize hP : placesWithHash es.size (fun i => es[i]?.map (·.hash)) (k.hash w) = places
  have hp : ∀ i, i ∈ places ↔ i < es.size ∧ (es[i]?.map (·.hash)) = some (k.hash w) := fun i => by
    rw [← hP, placesWithHash, List.mem_filter, List.mem_range]; simp
  have nd : places.Nodup := by rw [← hP, placesWithHash]; exact List.nodup_range.filter _
  have ofHit : ∀ i, Hit xs k i → i ∈ places := fun i ⟨x, e1, e2⟩ => (hp i).2 ⟨by rw [hz]; exact (List.getElem?_eq_some_iff.1 e1).1, by rw [at_ i, e1, ← e2]; rfl⟩
  have inP : ∀ i, i ∈ places → ∃ x, xs[i]? = some x ∧ es[i]? = some (ent w x) ∧ x.1.hash w = k.hash w ∧ KeyAt s.heap x.1 x.2.1 := fun i hi => by
    obtain ⟨h1, h2⟩ := (hp i).1 hi
    have hx : xs[i]? = some (xs[i]'(by omega)) := List.getElem?_eq_getElem _
    rw [at_ i, hx] at h2
    exact ⟨_, hx, by rw [at_ i, hx]; rfl, Option.some.inj h2, hs _ (List.getElem_mem _)⟩
  have hst : ∀ v ∈ places.filterMap (fun i => es[i]?.map (·.key)), ∃ k', KeyAt s.heap k' v := fun v hv => by
    obtain ⟨i, hi, e⟩ := List.mem_filterMap.1 hv
    obtain ⟨x, _, e2, _, e3⟩ := inP i hi
    rw [e2] at e; cases e
    exact ⟨x.1, e3⟩
  have plain : wpAny (model prog w) A (dictWalkPlain d kv (k.hash w) es places) Q E s := by
    refine wpAny_bind (wpAny_forIn_list _ (fun rest b t => t = s ∧ b = (none, ()) ∧ ∃ pre, places = pre ++ rest ∧ ∀ i ∈ pre, ¬ Hit xs k i) _ ?_ ?_ _ _ ⟨rfl, rfl, [], rfl, fun i hi => by cases hi⟩)
    · rintro i rest b t ⟨rfl, rfl, pre, hpre, hno⟩
      obtain ⟨x, e1, e2, e3, e4⟩ := inP i (by rw [hpre]; simp)
      simp only [e2]
      rw [if_pos (show ((ent w x).hash == k.hash w) = true by show (x.1.hash w == k.hash w) = true; rw [e3]; simp)]
      refine wpAny_bind (wpAny_dictEpoch ho hd (wpAny_bind (eq_ok hu e4 hk (wpAny_bind (wpAny_dictEpoch ho hd ?_)))))
      rw [if_neg (show ¬ (ep != ep) = true by simp)]
      by_cases c : x.1 = k
      · rw [decide_eq_true c]
        exact wpAny_bind (wpAny_rule (wpAny_pure (wpAny_pure (h1 i ⟨x, e1, c⟩))))
      · rw [decide_eq_false c]
        refine wpAny_bind (wpAny_rule (wpAny_pure ⟨rfl, rfl, pre ++ [i], by rw [hpre]; simp, fun j hj => ?_⟩))
        rcases List.mem_append.1 hj with q | q
        · exact hno j q
        · rw [List.mem_singleton] at q; subst q
          rintro ⟨y, f1, f2⟩; rw [e1] at f1; cases f1; exact c f2
    · rintro b t ⟨rfl, rfl, pre, hpre, hno⟩
      rw [List.append_nil] at hpre
      exact wpAny_pure (h0 fun i hi => hno i (by rw [← hpre]; exact ofHit i hi) hi)
  unfold dictFind
  try with_reducible refine wpAny_holding ?_
  refine wpAny_bind (wpAny_dictEntries ho hd ?_)
  dsimp only
  rw [hP]
  split
  · exact absurd rfl (hk.ns _ _)
  · by_cases cv : (kv :: places.filterMap (fun i => es[i]?.map (·.key))).all carriedByValue = true
    · rw [if_pos cv]; exact plain
    rw [if_neg cv]
    have anyN : ¬ (es.any fun e => e.key == kv && e.hash != k.hash w) = true := by
      rw [← Array.any_toList, List.any_eq_true]
      rintro ⟨e, hin, hc⟩
      rw [he] at hin
      obtain ⟨x, hx, rfl⟩ := List.mem_map.1 hin
      simp only [ent, Bool.and_eq_true, beq_iff_eq, bne_iff_ne, ne_eq] at hc
      obtain ⟨c1, c2⟩ := hc
      have q := (hs x hx).is
      rw [c1] at q
      exact c2 (by rw [NestedIs.inj _ _ _ q hk.is])
    split <;> (first | rw [if_neg anyN] | skip) <;> refine wp_ite ?_ ?_ <;> (first | refine wpAny_bind (wpAny_pure ?_) | refine wpAny_bind (tells_ok hk hst ?_)) <;> (
      refine wp_neg (fun z => Bool.false_ne_true z) ?_
      refine wpAny_bind (wpAny_forIn_list _ (fun rest b t => t = s ∧ ∃ pre hit, b = (none, hit) ∧ places = pre ++ rest ∧ ((hit = none ∧ ∀ i ∈ pre, ¬ Hit xs k i) ∨ ∃ j, hit = some j ∧ j ∈ pre ∧ Hit xs k j)) _ ?_ ?_ _ _ ⟨rfl, [], none, rfl, rfl, .inl ⟨rfl, fun i hi => by cases hi⟩⟩)
      · rintro i rest b t ⟨rfl, pre, hit, rfl, hpre, hH⟩
        obtain ⟨x, e1, e2, e3, e4⟩ := inP i (by rw [hpre]; simp)
        simp only [e2]
        rw [if_pos (show ((ent w x).hash == k.hash w) = true by show (x.1.hash w == k.hash w) = true; rw [e3]; simp)]
        refine wpAny_bind (wpAny_dictEpoch ho hd (wpAny_bind (eq_ok hu e4 hk (wpAny_bind (wpAny_dictEpoch ho hd ?_)))))
        rw [if_neg (show ¬ (ep != ep) = true by simp)]
        by_cases c : x.1 = k
        · rw [decide_eq_true c, if_pos rfl]
          have hitN : hit = none := by
            rcases hH with ⟨q, _⟩ | ⟨j, rfl, q1, q2⟩
            · exact q
            · have := Hit.one hn q2 ⟨x, e1, c⟩
              subst this
              rw [hpre, List.nodup_append] at nd
              exact absurd rfl (nd.2.2 j q1 j (by simp))
          subst hitN
          refine wp_neg (fun z => Bool.false_ne_true z) ?_
          refine wpAny_bind (wpAny_rule ?_)
          split
          · exact wpAny_pure (wpAny_pure (h1 i ⟨x, e1, c⟩))
          · exact wpAny_pure ⟨rfl, pre ++ [i], some i, rfl, by rw [hpre]; simp, .inr ⟨i, rfl, by simp, x, e1, c⟩⟩
        · rw [decide_eq_false c]
          refine wp_neg (fun z => Bool.false_ne_true z) ?_
          refine wpAny_bind (wpAny_rule ?_)
          refine wp_neg (fun z => Bool.false_ne_true z) ?_
          refine wpAny_pure ⟨rfl, pre ++ [i], hit, rfl, by rw [hpre]; simp, ?_⟩
          rcases hH with ⟨q, hno⟩ | ⟨j, q, q1, q2⟩
          · refine .inl ⟨q, fun j hj => ?_⟩
            rcases List.mem_append.1 hj with z | z
            · exact hno j z
            · rw [List.mem_singleton] at z; subst z
              rintro ⟨y, f1, f2⟩; rw [e1] at f1; cases f1; exact c f2
          · exact .inr ⟨j, q, List.mem_append_left _ q1, q2⟩
      · rintro b t ⟨rfl, pre, hit, rfl, hpre, hH⟩
        rw [List.append_nil] at hpre
        rcases hH with ⟨rfl, hno⟩ | ⟨j, rfl, _, q⟩
        · exact wpAny_pure (h0 fun i hi => hno i (by rw [← hpre]; exact ofHit i hi) hi)
        · exact wpAny_pure (h1 j q))
/-- d[k] = v -/
def sto (xs : List Ent) (k : NestedKey) (kv v : Value) : List Ent := if xs.any (fun x => decide (x.1 = k)) = true then xs.map (fun x => if x.1 = k then (x.1, x.2.1, v) else x) else xs ++ [(k, kv, v)]
theorem any_hit {xs : List Ent} {k : NestedKey} : (xs.any (fun x => decide (x.1 = k)) = true) ↔ ∃ i, Hit xs k i := by
  rw [List.any_eq_true]
  constructor
  · rintro ⟨x, hx, e⟩
    obtain ⟨i, hi⟩ := List.mem_iff_getElem?.1 hx
    exact ⟨i, x, hi, of_decide_eq_true e⟩
  · rintro ⟨i, x, hi, e⟩
    exact ⟨x, List.mem_of_getElem? hi, decide_eq_true e⟩
theorem sto_new {kv v : Value} (h : ∀ i, ¬ Hit xs k i) : sto xs k kv v = xs ++ [(k, kv, v)] := by
  unfold sto; rw [if_neg]
  intro q
  obtain ⟨i, hi⟩ := any_hit.1 q
  exact h i hi
theorem sto_old {kv v : Value} {i : Nat} (h : Hit xs k i) : sto xs k kv v = xs.map (fun x => if x.1 = k then (x.1, x.2.1, v) else x) := by
  unfold sto; rw [if_pos (any_hit.2 ⟨i, h⟩)]
theorem keys_map (k : NestedKey) (v : Value) (xs : List Ent) : (xs.map (fun x => if x.1 = k then (x.1, x.2.1, v) else x)).map (·.1) = xs.map (·.1) := by
  rw [List.map_map]
  exact List.map_congr_left fun x _ => by
    show (if x.1 = k then (x.1, x.2.1, v) else x).1 = x.1
    split <;> rfl
theorem sto_nodup {kv v : Value} (hn : (xs.map (·.1)).Nodup) : ((sto xs k kv v).map (·.1)).Nodup := by
  by_cases h : ∃ i, Hit xs k i
  · obtain ⟨i, h⟩ := h
    rw [sto_old h, keys_map]; exact hn
  · have h' : ∀ i, ¬ Hit xs k i := fun i q => h ⟨i, q⟩
    rw [sto_new h', List.map_append, List.nodup_append]
    refine ⟨hn, by simp, fun a ha b hb => ?_⟩
    simp only [List.map_cons, List.map_nil, List.mem_singleton] at hb
    subst hb
    rintro rfl
    obtain ⟨x, hx, e⟩ := List.mem_map.1 ha
    obtain ⟨i, hi⟩ := List.mem_iff_getElem?.1 hx
    exact h' i ⟨x, hi, e⟩
theorem sto_keys {h : Heap} {kv v : Value} (hs : Keys h xs) (hk : KeyAt h k kv) : Keys h (sto xs k kv v) := by
  intro x hx
  unfold sto at hx
  split at hx
  · obtain ⟨y, hy, rfl⟩ := List.mem_map.1 hx
    split <;> exact hs y hy
  · rcases List.mem_append.1 hx with q | q
    · exact hs x q
    · rw [List.mem_singleton] at q; subst q; exact hk
theorem modify_at {f : Ent → DictEntry} {g : DictEntry → DictEntry} {v : Value} (hg : ∀ x : Ent, x.1 = k → g (f x) = f (x.1, x.2.1, v)) :
    ∀ {xs : List Ent} {i : Nat}, (xs.map (·.1)).Nodup → Hit xs k i → (xs.map f).modify i g = (xs.map (fun x => if x.1 = k then (x.1, x.2.1, v) else x)).map f
  | [], _, _, ⟨_, e, _⟩ => by cases e
  | y :: r, 0, hn, ⟨x, e, q⟩ => by
    cases e
    rw [List.map_cons, List.nodup_cons] at hn
    have un : r.map (fun x => if x.1 = k then (x.1, x.2.1, v) else x) = r := by
      rw [List.map_congr_left (g := id) fun z hz => ?_, List.map_id]
      have : ¬ z.1 = k := fun c => hn.1 (List.mem_map.2 ⟨z, hz, c.trans q.symm⟩)
      rw [if_neg this]; rfl
    rw [List.map_cons, List.map_cons, List.map_cons, un, if_pos q, ← hg y q]; rfl
  | y :: r, i + 1, hn, ⟨x, e, q⟩ => by
    rw [List.map_cons, List.nodup_cons] at hn
    have e' : r[i]? = some x := by simpa using e
    have ne : ¬ y.1 = k := fun c => hn.1 (List.mem_map.2 ⟨x, List.mem_of_getElem? e', q.trans c.symm⟩)
    have := modify_at hg hn.2 ⟨x, e', q⟩
    rw [List.map_cons, List.map_cons, List.map_cons, if_neg ne, ← this]; rfl
theorem dget_ok {Q : Option Value → Shared → Prop} (hu : A.units + 8 < cLine) (hk : KeyAt s.heap k kv) (R : Raw w s.heap d xs) (hs : Keys s.heap xs)
    (h : Q (look xs k) { s with toks := s.toks + k.draws }) : wpAny (model prog w) A (dictGet d kv) Q E s := by
  obtain ⟨o, es, ep, ho, _, hd, he, hn⟩ := R
  unfold dictGet
  try with_reducible refine wpAny_holding ?_
  refine wpAny_bind (pyHash_key k kv A s _ hk.is (by have := hk.dp; omega) (wpAny_bind (find_ok (s := { s with toks := s.toks + k.draws }) hu hk ho hd he hs hn (fun no => ?_) fun i hi => ?_)))
  · rw [look_none no] at h
    exact wpAny_pure h
  · obtain ⟨x, e1, e2⟩ := hi
    rw [look_hit hn e1 e2] at h
    have e3 : es[i]? = some (ent w x) := by rw [← Array.getElem?_toList, he, List.getElem?_map, e1]; rfl
    refine wpAny_bind (wpAny_dictEntries (s := { s with toks := s.toks + k.draws }) ho hd ?_)
    rw [e3]
    exact wpAny_pure h
theorem dset_ok {v : Value} {Q : Unit → Shared → Prop} (hu : A.units + 8 < cLine) (hk : KeyAt s.heap k kv) (R : Raw w s.heap d xs) (hs : Keys s.heap xs) (hz : xs.length ≤ sizeLine)
    (h : ∀ h', Raw w h' d (sto xs k kv v) → Heap.SameBut d s.heap h' → Q () { s with heap := h', toks := s.toks + k.draws }) : wpAny (model prog w) A (dictSet d kv v) Q E s := by
  obtain ⟨o, es, ep, ho, hc, hd, he, hn⟩ := R
  have hz2 : es.size = xs.length := by rw [← Array.length_toList, he, List.length_map]
  unfold dictSet
  try with_reducible refine wpAny_holding ?_
  refine wpAny_bind (pyHash_key k kv A s _ hk.is (by have := hk.dp; omega) ?_)
  unfold dictSetHashed
  try with_reducible refine wpAny_holding ?_
  refine wpAny_bind (find_ok (s := { s with toks := s.toks + k.draws }) hu hk ho hd he hs hn (fun no => ?_) fun i hi => ?_)
  · refine wpAny_bind (wpAny_rule (wpAny_updateDictKeys (hz := by omega) (s := { s with toks := s.toks + k.draws }) ho hd (h _ ⟨_, _, ep + 1, Heap.get?_update_self _ ho (Obj.isFreed_of_dict (Obj.data_mapDictKeys hd _)), hc.mapDictKeys _, Obj.data_mapDictKeys hd _, ?_, sto_nodup hn⟩ (Heap.SameBut.update ..))))
    rw [sto_new no]
    simp [he, ent]
  · refine wpAny_bind (wpAny_rule (wpAny_bind (wpAny_updateDict (s := { s with toks := s.toks + k.draws }) ho hd (wpAny_point (h _ ⟨_, _, ep, Heap.get?_update_self _ ho (Obj.isFreed_of_dict (Obj.data_mapDict hd _)), hc.mapDict _, Obj.data_mapDict hd _, ?_, sto_nodup hn⟩ (Heap.SameBut.update ..))))))
    rw [sto_old hi]
    have := modify_at (f := ent w) (g := fun e : DictEntry => { e with val := v }) (v := v) (fun _ _ => rfl) hn hi
    rw [← he] at this
    obtain ⟨l⟩ := es
    simpa using this
theorem in_ok {Q : Bool → Shared → Prop} (hu : A.units + 9 < cLine) (hk : KeyAt s.heap k kv) (lo : (d == sysModules) = false) (R : Raw w s.heap d xs) (hs : Keys s.heap xs)
    (h : Q (look xs k).isSome { s with toks := s.toks + k.draws }) : wpAny (model prog w) A (contains (.ref d) kv) Q E s := by
  unfold contains
  try with_reducible refine wpAny_holding ?_
  refine wpAny_bind (wpAny_specialOf R.ty slot_dict_contains.lookup ?_)
  show wpAny _ _ (if (some (Value.builtin "dict.__contains__") == some Value.none) = true then _ else _) _ E s
  refine wp_neg (by rw [beq_builtin_none]; exact Bool.false_ne_true) ?_
  refine wpAny_bind (wpAny_callSpecialUnlessNone?_slot (name := Str.ofString "__contains__") R.ty slot_dict_contains (wpAny_call_entry slot_dict_contains R.ty entry_dict_contains ?_ (args_dict_contains _ _)))
  show wpAny _ _ (dictGet d kv >>= _) _ _ s
  refine wpAny_bind (dget_ok (by show A.units + 1 + 8 < cLine; omega) hk R hs ?_)
  cases hf : look xs k with
  | some p =>
    rw [hf] at h
    show wpAny _ _ (ret (.bool true)) _ _ _
    exact wpAny_pure ⟨_, rfl, wpAny_truthy_bool h⟩
  | none =>
    rw [hf] at h
    show wpAny _ _ (Builtin.Dict.pendingKey? d kv >>= _) _ _ _
    exact wpAny_bind (wpAny_pendingKey_other lo (wpAny_pure ⟨_, rfl, wpAny_truthy_bool h⟩))
theorem item_ok {v : Value} {Q : Value → Shared → Prop} (hu : A.units + 9 < cLine) (hk : KeyAt s.heap k kv) (R : Raw w s.heap d xs) (hs : Keys s.heap xs) (hv : look xs k = some v)
    (h : Q v { s with toks := s.toks + k.draws }) : wpAny (model prog w) A (getItem (.ref d) kv) Q E s := by
  unfold getItem
  try with_reducible refine wpAny_holding ?_
  refine wpAny_bind (wpAny_sequenceKey R.ty (by decide) ?_)
  refine wpAny_bind (wpAny_callSpecial?_slot (name := Str.ofString "__getitem__") R.ty slot_dict_getitem (wpAny_call_entry slot_dict_getitem R.ty entry_dict_getitem ?_ (args_dict_getitem _ _)))
  show wpAny _ _ (dictGet d kv >>= _) _ _ s
  refine wpAny_bind (dget_ok (by show A.units + 1 + 8 < cLine; omega) hk R hs ?_)
  rw [hv]
  exact wpAny_pure ⟨v, rfl, wpAny_pure h⟩
theorem store_ok {v : Value} {Q : Unit → Shared → Prop} (hu : A.units + 9 < cLine) (hk : KeyAt s.heap k kv) (R : Raw w s.heap d xs) (hs : Keys s.heap xs) (hz : xs.length ≤ sizeLine)
    (h : ∀ h', Raw w h' d (sto xs k kv v) → Heap.SameBut d s.heap h' → Q () { s with heap := h', toks := s.toks + k.draws }) : wpAny (model prog w) A (setItem (.ref d) kv v) Q E s := by
  unfold setItem
  try with_reducible refine wpAny_holding ?_
  refine wpAny_bind (wpAny_sequenceKey R.ty (by decide) ?_)
  refine wpAny_bind (wpAny_callSpecial?_slot (name := Str.ofString "__setitem__") R.ty slot_dict_setitem (wpAny_call_entry slot_dict_setitem R.ty entry_dict_setitem ?_ (args_dict_setitem _ _ _)))
  show wpAny _ _ (Builtin.Dict.notOrdered "__setitem__" ⟨[.ref d, kv, v], []⟩ >>= _) _ _ s
  refine wpAny_bind (wpAny_notOrdered_dict R.ty ?_)
  show wpAny _ _ (dictSet d kv v >>= _) _ _ s
  exact wpAny_bind (dset_ok (by show A.units + 1 + 8 < cLine; omega) hk R hs hz fun h' R' sb => wpAny_pure ⟨.none, rfl, wpAny_pure (h h' R' sb)⟩)
theorem meets_get (lo : (d == sysModules) = false) (x : Value) :
    MeetsIn prog w (Builtin.«dict.get» ⟨[.ref d, kv, x], []⟩) (fun A T s => A.units + 9 < cLine ∧ ∃ k xs, KeyAt s.heap k kv ∧ Raw w s.heap d xs ∧ Keys s.heap xs ∧ T (.ok (.ret ((look xs k).getD x))) { s with toks := s.toks + k.draws }) :=
  .of_wp fun A T s ⟨hu, k, xs, hk, R, hs, h⟩ => by
    show wpAny _ _ (dictGet d kv >>= _) _ _ s
    refine wpAny_bind (dget_ok (by show A.units + 1 + 8 < cLine; omega) hk R hs ?_)
    cases hf : look xs k with
    | some v =>
      rw [hf] at h
      exact wpAny_pure ⟨v, rfl, h⟩
    | none =>
      rw [hf] at h
      show wpAny _ _ (Builtin.Dict.missed d kv >>= _) _ _ _
      exact wpAny_bind (wpAny_missed_other lo (wpAny_pure ⟨x, rfl, h⟩))
theorem meets_get1 (lo : (d == sysModules) = false) :
    MeetsIn prog w (Builtin.«dict.get» ⟨[.ref d, kv], []⟩) (fun A T s => A.units + 9 < cLine ∧ ∃ k xs, KeyAt s.heap k kv ∧ Raw w s.heap d xs ∧ Keys s.heap xs ∧ T (.ok (.ret ((look xs k).getD .none))) { s with toks := s.toks + k.draws }) :=
  .of_wp fun A T s ⟨hu, k, xs, hk, R, hs, h⟩ => by
    show wpAny _ _ (dictGet d kv >>= _) _ _ s
    refine wpAny_bind (dget_ok (by show A.units + 1 + 8 < cLine; omega) hk R hs ?_)
    cases hf : look xs k with
    | some v =>
      rw [hf] at h
      exact wpAny_pure ⟨v, rfl, h⟩
    | none =>
      rw [hf] at h
      show wpAny _ _ (Builtin.Dict.missed d kv >>= _) _ _ _
      exact wpAny_bind (wpAny_missed_other lo (wpAny_pure ⟨.none, rfl, h⟩))
theorem getOr_ok {x : Value} {Q : Value → Shared → Prop} (hu : A.units + 9 < cLine) (hk : KeyAt s.heap k kv) (lo : (d == sysModules) = false) (R : Raw w s.heap d xs) (hs : Keys s.heap xs)
    (h : Q ((look xs k).getD x) { s with toks := s.toks + k.draws }) : wpAny (model prog w) A (call (.builtin "dict.get") [.ref d, kv, x]) Q E s :=
  call_meetsIn F.slot_dict_get R.ty F.entry_dict_get (F.args_dict_get_3 _ _ _) (meets_get lo x) ⟨hu, k, xs, hk, R, hs, h⟩
theorem get_ok {Q : Value → Shared → Prop} (hu : A.units + 9 < cLine) (hk : KeyAt s.heap k kv) (lo : (d == sysModules) = false) (R : Raw w s.heap d xs) (hs : Keys s.heap xs)
    (h : Q ((look xs k).getD .none) { s with toks := s.toks + k.draws }) : wpAny (model prog w) A (call (.builtin "dict.get") [.ref d, kv]) Q E s :=
  call_meetsIn F.slot_dict_get R.ty F.entry_dict_get (F.args_dict_get_2 _ _) (meets_get1 lo) ⟨hu, k, xs, hk, R, hs, h⟩
end
end LtK

/-- the world whose hashes are meant -/
class Lt.Wd where
  w : PySem.World
namespace LtK
open PySem PySem.Spec PyProof.Rows L2
open Lt (Wd lkp stoK)
/-- an entry without the heap -/
abbrev VEnt := NestedKey × V × V
def RE (p : VEnt) (q : Ent) : Prop := p.1 = q.1 ∧ RelV p.2.1 q.2.1 ∧ RelV p.2.2 q.2.2
/-- a dict at a -/
def dnO (w : World) (a : Addr) (es : List VEnt) : HO := .ext fun h => es.length ≤ sizeLine ∧ (a == sysModules) = false ∧ ∃ xs : List Ent, Paired RE es xs ∧ Raw w h a xs
theorem dnO_ok {P : Program} {w w' : World} {H : Hp} {h : Heap} {a : Addr} {es : List VEnt} {xs : List Ent} (hl : es.length ≤ sizeLine) (lo : (a == sysModules) = false) (p : Paired RE es xs) (r : Raw w h a xs) : ObjOk P w' H h a (dnO w a es) := by
  obtain ⟨o, _, _, e, _⟩ := id r
  exact ⟨⟨hl, lo, xs, p, r⟩, ⟨o, e⟩, fun h1 h2 ⟨q1, q2, ys, q3, q4⟩ k => ⟨q1, q2, ys, q3, q4.at k⟩⟩
theorem dnO_inv {P : Program} {w w' : World} {H : Hp} {h : Heap} {a : Addr} {es : List VEnt} (x : ObjOk P w' H h a (dnO w a es)) : es.length ≤ sizeLine ∧ (a == sysModules) = false ∧ ∃ xs : List Ent, Paired RE es xs ∧ Raw w h a xs := x.1
theorem dnO_notup {w : World} {a : Addr} {es : List VEnt} {vs : List V} : some (dnO w a es) ≠ some (HO.tup vs) := by intro e; cases e
theorem dnO_nofrz {w : World} {a : Addr} {es : List VEnt} {o : Obj} {u : HO} : some (dnO w a es) ≠ some (HO.frz o u) := by intro e; cases e
theorem dnO_mut {w : World} {a : Addr} {es : List VEnt} : Mut (some (dnO w a es)) := trivial
def stoE (es : List VEnt) (k : NestedKey) (kv v : V) : List VEnt := if es.any (fun p => decide (p.1 = k)) = true then es.map (fun p => if p.1 = k then (p.1, p.2.1, v) else p) else es ++ [(k, kv, v)]
theorem RE.any {k : NestedKey} : ∀ {es : List VEnt} {xs : List Ent}, Paired RE es xs → es.any (fun p => decide (p.1 = k)) = xs.any (fun p => decide (p.1 = k))
  | _, _, .nil => rfl
  | _, _, .cons r t => by rw [List.any_cons, List.any_cons, RE.any t, r.1]
theorem RE.app {es fs : List VEnt} {xs ys : List Ent} : Paired RE es xs → Paired RE fs ys → Paired RE (es ++ fs) (xs ++ ys)
  | .nil, s => s
  | .cons r t, s => .cons r (RE.app t s)
theorem RE.put {k : NestedKey} {v : V} {u : Value} (rv : RelV v u) : ∀ {es : List VEnt} {xs : List Ent}, Paired RE es xs → Paired RE (es.map (fun p => if p.1 = k then (p.1, p.2.1, v) else p)) (xs.map (fun p => if p.1 = k then (p.1, p.2.1, u) else p))
  | _, _, .nil => .nil
  | e :: _, x :: _, .cons r t => by
    rw [List.map_cons, List.map_cons]
    refine .cons ?_ (RE.put rv t)
    have e1 : e.1 = x.1 := r.1
    by_cases c : e.1 = k
    · rw [if_pos c, if_pos (e1 ▸ c)]; exact ⟨r.1, r.2.1, rv⟩
    · rw [if_neg c, if_neg (e1 ▸ c)]; exact r
theorem RE.sto {k : NestedKey} {kv v : V} {ku u : Value} (rk : RelV kv ku) (rv : RelV v u) {es : List VEnt} {xs : List Ent} (p : Paired RE es xs) : Paired RE (stoE es k kv v) (LtK.sto xs k ku u) := by
  unfold stoE LtK.sto
  rw [RE.any p]
  split
  · exact RE.put rv p
  · exact RE.app p (.cons ⟨rfl, rk, rv⟩ .nil)
theorem RE.len {es : List VEnt} {xs : List Ent} : Paired RE es xs → es.length = xs.length
  | .nil => rfl
  | .cons _ t => by rw [List.length_cons, List.length_cons, RE.len t]
theorem any_keys {α β : Type} {k : NestedKey} : ∀ {es : List (NestedKey × α)} {kvs : List (NestedKey × β)}, es.map (·.1) = kvs.map (·.1) → es.any (fun p => decide (p.1 = k)) = kvs.any (fun p => decide (p.1 = k))
  | [], [], _ => rfl
  | [], _ :: _, e => by cases e
  | _ :: _, [], e => by cases e
  | a :: es, b :: kvs, e => by
    rw [List.map_cons, List.map_cons] at e
    injection e with e1 e2
    rw [List.any_cons, List.any_cons, any_keys e2, e1]
theorem stoE_keys {α : Type} {k : NestedKey} {kv v : V} {d : α} {es : List VEnt} {kvs : List (NestedKey × α)} (e : es.map (·.1) = kvs.map (·.1)) : (stoE es k kv v).map (·.1) = (stoK kvs k d).map (·.1) := by
  unfold stoE stoK
  rw [any_keys e]
  split
  · rw [List.map_map, List.map_map]
    have a : (es.map ((fun x => x.1) ∘ fun p : VEnt => if p.1 = k then (p.1, p.2.1, v) else p)) = es.map (·.1) := List.map_congr_left fun x _ => by show (if x.1 = k then _ else _ : VEnt).1 = _; split <;> rfl
    have b : (kvs.map ((fun x => x.1) ∘ fun p : NestedKey × α => if p.1 = k then (p.1, d) else p)) = kvs.map (·.1) := List.map_congr_left fun x _ => by show (if x.1 = k then _ else _ : NestedKey × α).1 = _; split <;> rfl
    rw [a, b, e]
  · rw [List.map_append, List.map_append, e]; rfl
theorem stoE_mem {k : NestedKey} {kv v : V} {es : List VEnt} {x : VEnt} (h : x ∈ stoE es k kv v) : (∃ y ∈ es, x.1 = y.1 ∧ x.2.1 = y.2.1) ∨ (x.1 = k ∧ x.2.1 = kv) := by
  unfold stoE at h
  split at h
  · obtain ⟨y, hy, rfl⟩ := List.mem_map.1 h
    refine .inl ⟨y, hy, ?_⟩
    split <;> exact ⟨rfl, rfl⟩
  · rcases List.mem_append.1 h with q | q
    · exact .inl ⟨x, q, rfl, rfl⟩
    · rw [List.mem_singleton] at q; subst q; exact .inr ⟨rfl, rfl⟩
theorem stoE_len {k : NestedKey} {kv v : V} {es : List VEnt} : (stoE es k kv v).length ≤ es.length + 1 := by
  unfold stoE
  split
  · rw [List.length_map]; omega
  · rw [List.length_append]; exact Nat.le_refl _
end LtK

set_option maxHeartbeats 4000000
namespace Lt
open PySem PySem.Spec PyProof.Rows L2
variable [Wd]
/-! ### what stands for what -/
structure TKeep (H H' : Hp) : Prop where
  t : ∀ a vs, H a = some (.tup vs) → H' a = some (.tup vs)
  f : ∀ a ob u, H a = some (.frz ob u) → H' a = some (.frz ob u)
theorem TKeep.refl (H : Hp) : TKeep H H := ⟨fun _ _ h => h, fun _ _ _ h => h⟩
theorem TKeep.trans {H H1 H2 : Hp} (a : TKeep H H1) (b : TKeep H1 H2) : TKeep H H2 := ⟨fun p vs h => b.t p vs (a.t p vs h), fun p ob u h => b.f p ob u (a.f p ob u h)⟩
def TupAt (K : PySem.W.Frag) (H : Hp) (a : Addr) (xs : List V) : Prop := H a = some (.tup xs) ∨
  ∃ (o : Obj) (its : Array Value) (n : Nat), K.lookup a = some o ∧ o.cls = .type "tuple" ∧ o.data = .seq its n ∧ its.size ≤ sizeLine ∧ Vals xs its.toList
theorem TupAt.sq {K : PySem.W.Frag} {H : Hp} {a : Addr} {xs : List V} (h : TupAt K H a xs) : SqT K H a xs := h.elim (fun z => .inl (.inl z)) .inr
theorem TupAt.keep {K : PySem.W.Frag} {H H' : Hp} {a : Addr} {xs : List V} (k : TKeep H H') (h : TupAt K H a xs) : TupAt K H' a xs := h.elim (fun z => .inl (k.t _ _ z)) .inr
/-- a list that changes no more -/
def FrzL (K : PySem.W.Frag) (H : Hp) (a : Addr) (xs : List V) : Prop := (∃ ob, H a = some (.frz ob (.lst xs))) ∨
  ∃ (o : Obj) (its : Array Value) (n : Nat), K.lookup a = some o ∧ o.cls = .type "list" ∧ o.dict = none ∧ o.data = .seq its n ∧ its.size ≤ sizeLine ∧ Vals xs its.toList
theorem FrzL.sq {K : PySem.W.Frag} {H : Hp} {a : Addr} {xs : List V} (h : FrzL K H a xs) : SqL K H a xs := h.elim (fun z => .inl (.inr z)) .inr
theorem FrzL.keep {K : PySem.W.Frag} {H H' : Hp} {a : Addr} {xs : List V} (k : TKeep H H') (h : FrzL K H a xs) : FrzL K H' a xs := h.elim (fun ⟨ob, z⟩ => .inl ⟨ob, k.f _ _ _ z⟩) .inr
theorem TKeep.upd {H : Hp} {p : Addr} {o : HO} (h : ∀ vs, H p ≠ some (.tup vs)) (g : ∀ ob u, H p ≠ some (.frz ob u)) : TKeep H (L2.upd H p o) :=
  ⟨fun a vs e => by rw [upd_ne fun z => by subst z; exact h vs e]; exact e, fun a ob u e => by rw [upd_ne fun z => by subst z; exact g ob u e]; exact e⟩
theorem TKeep.new {H : Hp} {p : Addr} {o : HO} (h : H p = none) : TKeep H (L2.upd H p o) := TKeep.upd (fun vs e => by rw [h] at e; cases e) fun ob u e => by rw [h] at e; cases e
theorem TKeep.lst {H : Hp} {p : Addr} {o : HO} {xs : List V} (h : H p = some (.lst xs)) : TKeep H (L2.upd H p o) := TKeep.upd (fun vs e => by rw [h] at e; cases e) fun ob u e => by rw [h] at e; cases e

mutual
/-- v is the key k -/
def KeyR (K : PySem.W.Frag) (H : Hp) : NestedKey → V → Prop
  | .none, v => v = .non
  | .num i, v => v = .int i
  | .text x, v => v = .str x
  | .tup ks, v => ∃ a vs, v = .ref a ∧ TupAt K H a vs ∧ KeyRs K H ks vs
def KeyRs (K : PySem.W.Frag) (H : Hp) : List NestedKey → List V → Prop
  | [], vs => vs = []
  | k :: ks, vs => ∃ v r, vs = v :: r ∧ KeyR K H k v ∧ KeyRs K H ks r
end
def KeysOk (K : PySem.W.Frag) (H : Hp) (es : List LtK.VEnt) : Prop := ∀ e ∈ es, KeyR K H e.1 e.2.1 ∧ keyOk e.1 = true
mutual
def Rep (K : PySem.W.Frag) (H : Hp) : D → V → Prop
  | .non, v => v = .non
  | .bl b, v => v = .bl b
  | .int i, v => v = .int i
  | .str x, v => v = .str x
  | .tup xs, v => ∃ a vs, v = .ref a ∧ TupAt K H a vs ∧ Reps K H xs vs
  | .lst xs, v => ∃ a vs, v = .ref a ∧ FrzL K H a vs ∧ Reps K H xs vs
  | .ref a, v => v = .ref a
  | .dct ks ds, v => ∃ a es, v = .ref a ∧ (∃ ob, H a = some (.frz ob (LtK.dnO Wd.w a es))) ∧ es.map (·.1) = ks ∧ KeysOk K H es ∧ Reps K H ds (es.map (·.2.2))
def Reps (K : PySem.W.Frag) (H : Hp) : List D → List V → Prop
  | [], vs => vs = []
  | d :: ds, vs => ∃ v r, vs = v :: r ∧ Rep K H d v ∧ Reps K H ds r
end
section
variable {K : PySem.W.Frag} {H H' : Hp}
mutual
theorem KeyR.keep (k : TKeep H H') : ∀ {d : NestedKey} {v : V}, KeyR K H d v → KeyR K H' d v
  | .none, _, h => by unfold KeyR at h ⊢; exact h
  | .num _, _, h => by unfold KeyR at h ⊢; exact h
  | .text _, _, h => by unfold KeyR at h ⊢; exact h
  | .tup ks, _, h => by
    unfold KeyR at h ⊢
    obtain ⟨a, vs, e, t, r⟩ := h
    exact ⟨a, vs, e, t.keep k, KeyRs.keep k r⟩
theorem KeyRs.keep (k : TKeep H H') : ∀ {ds : List NestedKey} {vs : List V}, KeyRs K H ds vs → KeyRs K H' ds vs
  | [], _, h => by unfold KeyRs at h ⊢; exact h
  | d :: ds, _, h => by
    unfold KeyRs at h ⊢
    obtain ⟨v, r, e, h1, h2⟩ := h
    exact ⟨v, r, e, KeyR.keep k h1, KeyRs.keep k h2⟩
end
theorem KeysOk.keep {es : List LtK.VEnt} (k : TKeep H H') (h : KeysOk K H es) : KeysOk K H' es := fun e he => ⟨(h e he).1.keep k, (h e he).2⟩
mutual
theorem Rep.keep (k : TKeep H H') : ∀ {d : D} {v : V}, Rep K H d v → Rep K H' d v
  | .non, _, h => by unfold Rep at h ⊢; exact h
  | .bl _, _, h => by unfold Rep at h ⊢; exact h
  | .int _, _, h => by unfold Rep at h ⊢; exact h
  | .str _, _, h => by unfold Rep at h ⊢; exact h
  | .ref _, _, h => by unfold Rep at h ⊢; exact h
  | .tup xs, _, h => by
    unfold Rep at h ⊢
    obtain ⟨a, vs, e, t, r⟩ := h
    exact ⟨a, vs, e, t.keep k, Reps.keep k r⟩
  | .lst xs, _, h => by
    unfold Rep at h ⊢
    obtain ⟨a, vs, e, t, r⟩ := h
    exact ⟨a, vs, e, t.keep k, Reps.keep k r⟩
  | .dct ks ds, _, h => by
    unfold Rep at h ⊢
    obtain ⟨a, es, e, ⟨ob, t⟩, q, o, r⟩ := h
    exact ⟨a, es, e, ⟨ob, k.f _ _ _ t⟩, q, o.keep k, Reps.keep k r⟩
theorem Reps.keep (k : TKeep H H') : ∀ {ds : List D} {vs : List V}, Reps K H ds vs → Reps K H' ds vs
  | [], _, h => by unfold Reps at h ⊢; exact h
  | d :: ds, _, h => by
    unfold Reps at h ⊢
    obtain ⟨v, r, e, h1, h2⟩ := h
    exact ⟨v, r, e, Rep.keep k h1, Reps.keep k h2⟩
end
theorem Reps.nil : Reps K H [] [] := by unfold Reps; rfl
theorem Reps.cons {d : D} {v : V} {ds : List D} {vs : List V} (h : Rep K H d v) (r : Reps K H ds vs) : Reps K H (d :: ds) (v :: vs) := by
  rw [Reps]; exact ⟨v, vs, rfl, h, r⟩
theorem Reps.nil_inv {vs : List V} (h : Reps K H [] vs) : vs = [] := by unfold Reps at h; exact h
theorem Reps.cons_inv {d : D} {ds : List D} {vs : List V} (h : Reps K H (d :: ds) vs) : ∃ v r, vs = v :: r ∧ Rep K H d v ∧ Reps K H ds r := by rw [Reps] at h; exact h
theorem Reps.length : ∀ {ds : List D} {vs : List V}, Reps K H ds vs → ds.length = vs.length
  | [], _, h => by rw [h.nil_inv]; rfl
  | d :: ds, _, h => by
    obtain ⟨v, r, rfl, _, h2⟩ := h.cons_inv
    rw [List.length_cons, List.length_cons, Reps.length h2]
theorem Reps.append : ∀ {ds es : List D} {vs ws : List V}, Reps K H ds vs → Reps K H es ws → Reps K H (ds ++ es) (vs ++ ws)
  | [], _, _, _, h, k => by rw [h.nil_inv]; exact k
  | d :: ds, _, _, _, h, k => by
    obtain ⟨v, r, rfl, h1, h2⟩ := h.cons_inv
    exact .cons h1 (Reps.append h2 k)
theorem Reps.get : ∀ {ds : List D} {vs : List V} {i : Nat}, Reps K H ds vs → (∀ d, ds[i]? = some d → ∃ v, vs[i]? = some v ∧ Rep K H d v)
  | [], _, _, h => fun d e => by simp at e
  | d :: ds, _, 0, h => fun e q => by
    obtain ⟨v, r, rfl, h1, _⟩ := h.cons_inv
    simp at q; subst q
    exact ⟨v, rfl, h1⟩
  | d :: ds, _, i + 1, h => fun e q => by
    obtain ⟨v, r, rfl, _, h2⟩ := h.cons_inv
    exact Reps.get (i := i) h2 e (by simpa using q)
theorem Reps.get' {ds : List D} {vs : List V} {i : Nat} {v : V} (h : Reps K H ds vs) (e : vs[i]? = some v) : ∃ d, ds[i]? = some d ∧ Rep K H d v := by
  cases q : ds[i]? with
  | none =>
    rw [List.getElem?_eq_none_iff, h.length, ← List.getElem?_eq_none_iff, e] at q
    cases q
  | some d =>
    obtain ⟨w, e2, r⟩ := h.get d q
    rw [e] at e2; cases e2
    exact ⟨d, rfl, r⟩
theorem Reps.none {ds : List D} {vs : List V} {i : Nat} (h : Reps K H ds vs) (e : ds[i]? = Option.none) : vs[i]? = Option.none := by
  rw [List.getElem?_eq_none_iff] at e ⊢
  rw [← h.length]; exact e
theorem Reps.take : ∀ {ds : List D} {vs : List V} (n : Nat), Reps K H ds vs → Reps K H (ds.take n) (vs.take n)
  | _, _, 0, _ => by simpa using Reps.nil
  | [], _, n + 1, h => by rw [h.nil_inv]; simpa using Reps.nil
  | d :: ds, _, n + 1, h => by
    obtain ⟨v, r, rfl, h1, h2⟩ := h.cons_inv
    exact .cons h1 (Reps.take n h2)
theorem Reps.drop : ∀ {ds : List D} {vs : List V} (n : Nat), Reps K H ds vs → Reps K H (ds.drop n) (vs.drop n)
  | _, _, 0, h => h
  | [], _, n + 1, h => by rw [h.nil_inv]; simpa using Reps.nil
  | d :: ds, _, n + 1, h => by
    obtain ⟨v, r, rfl, h1, h2⟩ := h.cons_inv
    exact Reps.drop n h2
theorem Reps.set : ∀ {ds : List D} {vs : List V} {d : D} {v : V} (n : Nat), Rep K H d v → Reps K H ds vs → Reps K H (ds.set n d) (vs.set n v)
  | [], _, _, _, _, _, h => by rw [h.nil_inv]; simpa using Reps.nil
  | _ :: _, _, _, _, 0, k, h => by
    obtain ⟨v, r, rfl, h1, h2⟩ := h.cons_inv
    exact .cons k h2
  | _ :: _, _, _, _, n + 1, k, h => by
    obtain ⟨v, r, rfl, h1, h2⟩ := h.cons_inv
    exact .cons h1 (Reps.set n k h2)
theorem Reps.dropLast {ds : List D} {vs : List V} (h : Reps K H ds vs) : Reps K H ds.dropLast vs.dropLast := by
  rw [List.dropLast_eq_take, List.dropLast_eq_take, h.length]; exact h.take _
theorem Reps.reverse : ∀ {ds : List D} {vs : List V}, Reps K H ds vs → Reps K H ds.reverse vs.reverse
  | [], _, h => by rw [h.nil_inv]; exact Reps.nil
  | d :: ds, _, h => by
    obtain ⟨v, r, rfl, h1, h2⟩ := h.cons_inv
    rw [List.reverse_cons, List.reverse_cons]
    exact (Reps.reverse h2).append (.cons h1 .nil)
theorem Reps.rep {ds : List D} {vs : List V} (h : Reps K H ds vs) : ∀ n, Reps K H (List.replicate n ds).flatten (List.replicate n vs).flatten
  | 0 => Reps.nil
  | n + 1 => by
    rw [List.replicate_succ, List.replicate_succ, List.flatten_cons, List.flatten_cons]
    exact h.append (Reps.rep h n)
theorem Reps.at {ds : List D} {vs : List V} {i : Int} {d : D} (h : Reps K H ds vs) (e : atI ds i = some d) : ∃ v, atI vs i = some v ∧ Rep K H d v := by
  unfold atI at e ⊢
  rw [← h.length]
  cases q : ixN ds.length i with
  | none => rw [q] at e; cases e
  | some j =>
    rw [q] at e
    exact h.get d e
theorem Reps.cut {ds : List D} {vs : List V} (h : Reps K H ds vs) (lo hi : Option Int) : Reps K H (cutD ds lo hi) (cutV vs lo hi) := by
  unfold cutD cutV
  rw [← h.length]
  exact (h.drop _).take _
theorem Reps.ints : ∀ {ds : List D} {vs : List V} {ns : List Int}, intsD ds = some ns → Reps K H ds vs → vs = ns.map V.int
  | [], _, _, e, h => by cases e; exact h.nil_inv
  | .int i :: r, _, _, e, h => by
    obtain ⟨v, w, rfl, h1, h2⟩ := h.cons_inv
    unfold intsD at e
    cases q : intsD r with
    | none => rw [q] at e; cases e
    | some ms =>
      rw [q] at e; cases e
      have e1 : v = V.int i := by unfold Rep at h1; exact h1
      rw [e1, Reps.ints q h2]; rfl
  | .non :: _, _, _, e, _ => nomatch e
  | .bl _ :: _, _, _, e, _ => nomatch e
  | .str _ :: _, _, _, e, _ => nomatch e
  | .tup _ :: _, _, _, e, _ => nomatch e
  | .lst _ :: _, _, _, e, _ => nomatch e
  | .ref _ :: _, _, _, e, _ => nomatch e
theorem Reps.bls : ∀ {ds : List D} {vs : List V} {ns : List Bool}, blsD ds = some ns → Reps K H ds vs → vs = ns.map V.bl
  | [], _, _, e, h => by cases e; exact h.nil_inv
  | .bl i :: r, _, _, e, h => by
    obtain ⟨v, w, rfl, h1, h2⟩ := h.cons_inv
    unfold blsD at e
    cases q : blsD r with
    | none => rw [q] at e; cases e
    | some ms =>
      rw [q] at e; cases e
      have e1 : v = V.bl i := by unfold Rep at h1; exact h1
      rw [e1, Reps.bls q h2]; rfl
  | .non :: _, _, _, e, _ => nomatch e
  | .int _ :: _, _, _, e, _ => nomatch e
  | .str _ :: _, _, _, e, _ => nomatch e
  | .tup _ :: _, _, _, e, _ => nomatch e
  | .lst _ :: _, _, _, e, _ => nomatch e
  | .ref _ :: _, _, _, e, _ => nomatch e
end

/-! ### heaps -/
def RepO (K : PySem.W.Frag) (H : Hp) (a : Addr) : O → Prop
  | .lst xs => ∃ vs, H a = some (.lst vs) ∧ Reps K H xs vs
  | .rol xs => ∃ vs, Rd H a (.lst vs) ∧ Reps K H xs vs
  | .dN kvs => ∃ es, H a = some (LtK.dnO Wd.w a es) ∧ es.map (·.1) = kvs.map (·.1) ∧ KeysOk K H es ∧ Reps K H (kvs.map (·.2)) (es.map (·.2.2))
def Sim (K : PySem.W.Frag) (H : Hp) (h : Hh) : Prop := ∀ a o, h a = some o → RepO K H a o
section
variable {K : PySem.W.Frag} {H H' : Hp} {h : Hh} {a p : Addr} {o : O}
theorem RepO.move (k : TKeep H H') (e : H' a = H a) (r : RepO K H a o) : RepO K H' a o := by
  cases o with
  | lst xs => obtain ⟨vs, h1, h2⟩ := r; exact ⟨vs, e.trans h1, h2.keep k⟩
  | rol xs =>
    obtain ⟨vs, h1, h2⟩ := r
    refine ⟨vs, ?_, h2.keep k⟩
    rcases h1 with h1 | ⟨ob, h1⟩
    · exact .inl (e.trans h1)
    · exact .inr ⟨ob, e.trans h1⟩
  | dN kvs => obtain ⟨es, h1, h2, h3, h4⟩ := r; exact ⟨es, e.trans h1, h2, h3.keep k, h4.keep k⟩
theorem RepO.some (r : RepO K H a o) : H a ≠ none := fun e => by
  cases o with
  | lst xs => obtain ⟨vs, h1, h2⟩ := r; rw [e] at h1; cases h1
  | rol xs =>
    obtain ⟨vs, h1, h2⟩ := r
    rcases h1 with h1 | ⟨ob, h1⟩ <;> (rw [e] at h1; cases h1)
  | dN kvs => obtain ⟨es, h1, _⟩ := r; rw [e] at h1; cases h1
theorem RepO.notup {vs : List V} (r : RepO K H a o) : H a ≠ Option.some (.tup vs) := fun e => by
  cases o with
  | lst xs => obtain ⟨vs, h1, h2⟩ := r; rw [e] at h1; cases h1
  | rol xs =>
    obtain ⟨vs, h1, h2⟩ := r
    rcases h1 with h1 | ⟨ob, h1⟩ <;> (rw [e] at h1; cases h1)
  | dN kvs => obtain ⟨es, h1, _⟩ := r; rw [e] at h1; cases h1
theorem Sim.fresh (s : Sim K H h) (e : H p = none) : h p = none := by
  cases q : h p with
  | none => rfl
  | some o => exact absurd e (s p o q).some
/-- a tuple is laid -/
theorem Sim.tup {u : HO} (s : Sim K H h) (e : H p = none) : Sim K (upd H p u) h := fun a o q => (s a o q).move (TKeep.new e) (upd_ne fun z => by
  subst z; rw [s.fresh e] at q; cases q)
/-- an object is laid or changed -/
theorem Sim.upd {u : HO} (s : Sim K H h) (k : TKeep H (L2.upd H p u)) (r : RepO K (L2.upd H p u) p o) : Sim K (L2.upd H p u) (up h p o) := fun a w q => by
  by_cases z : a = p
  · subst z; rw [up_same] at q; cases q; exact r
  · rw [up_ne z] at q
    exact (s a w q).move k (upd_ne z)
theorem Sim.lst {xs : List D} {vs : List V} (s : Sim K H h) (k : TKeep H (L2.upd H p (.lst vs))) (r : Reps K H xs vs) : Sim K (L2.upd H p (.lst vs)) (up h p (.lst xs)) := s.upd k ⟨vs, upd_same, r.keep k⟩
theorem Sim.wr {xs : List D} (s : Sim K H h) (e : wrL h a = some xs) : ∃ vs, H a = some (.lst vs) ∧ Reps K H xs vs := by
  unfold wrL at e
  cases q : h a with
  | none => rw [q] at e; cases e
  | some o =>
    rw [q] at e
    cases o with
    | lst ys => cases e; exact s a _ q
    | rol ys => cases e
    | dN _ => cases e
theorem Sim.rd {xs : List D} (s : Sim K H h) (e : rdL h a = some xs) : ∃ vs, Rd H a (.lst vs) ∧ Reps K H xs vs := by
  unfold rdL at e
  cases q : h a with
  | none => rw [q] at e; cases e
  | some o =>
    rw [q] at e
    cases o with
    | lst ys => cases e; obtain ⟨vs, h1, h2⟩ := s a _ q; exact ⟨vs, .inl h1, h2⟩
    | rol ys => cases e; exact s a _ q
    | dN _ => cases e
theorem Sim.wrN {kvs : List (NestedKey × D)} (s : Sim K H h) (e : wrN h a = some kvs) : ∃ es, H a = some (LtK.dnO Wd.w a es) ∧ es.map (·.1) = kvs.map (·.1) ∧ KeysOk K H es ∧ Reps K H (kvs.map (·.2)) (es.map (·.2.2)) := by
  unfold Lt.wrN at e
  cases q : h a with
  | none => rw [q] at e; cases e
  | some o =>
    rw [q] at e
    cases o with
    | lst ys => cases e
    | rol ys => cases e
    | dN _ => cases e; exact s a _ q
theorem wrN_none {xs : List D} (e : wrL h a = some xs) : Lt.wrN h a = none := by
  unfold wrL at e; unfold Lt.wrN
  cases q : h a with
  | none => rfl
  | some o =>
    rw [q] at e
    cases o with
    | lst ys => rfl
    | rol ys => rfl
    | dN _ => cases e
theorem wrN_rd {xs : List D} (e : rdL h a = some xs) : Lt.wrN h a = none := by
  unfold rdL at e; unfold Lt.wrN
  cases q : h a with
  | none => rfl
  | some o =>
    rw [q] at e
    cases o with
    | lst ys => rfl
    | rol ys => rfl
    | dN _ => cases e
/-- an object is let go -/
theorem Sim.era (s : Sim K H h) : Sim K H (era h p) := fun a o e => by
  by_cases z : a = p
  · subst z; rw [era_same] at e; cases e
  · rw [era_ne z] at e; exact s a o e
theorem Sim.gc {h0 : Hh} (s : Sim K H h) : Sim K H (gcH h0 h) := fun a o e => by
  by_cases z : h0 a = none
  · rw [gc_new z] at e; cases e
  · rw [gc_old z] at e; exact s a o e
theorem Sim.frz {xs : List D} {vs : List V} {ob : Obj} {u : HO} (s : Sim K H h) (e : H p = some (.lst vs)) : Sim K (L2.upd H p (.frz ob u)) (Lt.era h p) := fun a o q => by
  by_cases z : a = p
  · subst z; rw [era_same] at q; cases q
  · rw [era_ne z] at q
    exact (s a o q).move (TKeep.lst e) (upd_ne z)
theorem Sim.ls {d : D} {v : V} {xs : List D} (s : Sim K H h) (r : Rep K H d v) (e : lsD h d = some xs) : ∃ a vs, v = .ref a ∧ SqL K H a vs ∧ Reps K H xs vs := by
  cases d with
  | lst ys =>
    cases e
    unfold Rep at r
    obtain ⟨a, vs, rfl, t, r⟩ := r
    exact ⟨a, vs, rfl, t.sq, r⟩
  | ref a =>
    obtain ⟨vs, h1, h2⟩ := s.rd (show rdL h a = some xs from e)
    unfold Rep at r
    exact ⟨a, vs, r, .inl h1, h2⟩
  | _ => cases e
mutual
theorem IsP.dp (s : Sim K H h) : ∀ (d : PyData) {x : D} {v : V}, IsP h x d → Rep K H x v → Dp K H v d
  | .none, x, v, e, r => by
    unfold IsP at e; subst e; unfold Rep at r; subst r; exact .non
  | .bool b, x, v, e, r => by
    unfold IsP at e; subst e; unfold Rep at r; subst r; exact .bl _
  | .int b, x, v, e, r => by
    unfold IsP at e; subst e; unfold Rep at r; subst r; exact .int _
  | .str b, x, v, e, r => by
    unfold IsP at e; subst e; unfold Rep at r; subst r; exact .str _
  | .tuple ds, x, v, e, r => by
    unfold IsP at e
    obtain ⟨xs, rfl, e⟩ := e
    unfold Rep at r
    obtain ⟨a, vs, rfl, t, r⟩ := r
    exact .tup t.sq (IsPs.dp s ds e r)
  | .list ds, x, v, e, r => by
    unfold IsP at e
    obtain ⟨xs, e1, e⟩ := e
    obtain ⟨a, vs, rfl, h1, h2⟩ := s.ls r e1
    exact .lst h1 (IsPs.dp s ds e h2)
  | .dict _, x, v, e, r => by unfold IsP at e; exact e.elim
theorem IsPs.dp (s : Sim K H h) : ∀ (ds : List PyData) {xs : List D} {vs : List V}, IsPs h xs ds → Reps K H xs vs → DpAll K H vs ds
  | [], xs, vs, e, r => by
    unfold IsPs at e; subst e; rw [r.nil_inv]; exact .nil
  | d :: ds, xs, vs, e, r => by
    unfold IsPs at e
    obtain ⟨x, q, rfl, e1, e2⟩ := e
    obtain ⟨v, w, rfl, r1, r2⟩ := r.cons_inv
    exact .cons (IsP.dp s d e1 r1) (IsPs.dp s ds e2 r2)
end
end

/-! ### links -/
def LkV (K : PySem.W.Frag) (H : Hp) (R : QD) (Q : VK) : Prop := ∀ v H' d h', TKeep H H' → Sim K H' h' → Rep K H' d v → R d h' → Q v H'
theorem LkV.keep {K : PySem.W.Frag} {H H1 : Hp} {R : QD} {Q : VK} (l : LkV K H R Q) (k : TKeep H H1) : LkV K H1 R Q := fun v H' d h' k1 => l v H' d h' (k.trans k1)
/-- a two-place rule over data -/
def r2 (K : PySem.W.Frag) (w : D → D → Hh → QD → Prop) : R2 := fun x y H Q => ∃ d e h R, Sim K H h ∧ Rep K H d x ∧ Rep K H e y ∧ w d e h R ∧ LkV K H R Q
def r1 (K : PySem.W.Frag) (w : D → Hh → QD → Prop) : V → Hp → VK → Prop := fun x H Q => ∃ d h R, Sim K H h ∧ Rep K H d x ∧ w d h R ∧ LkV K H R Q
def rs (K : PySem.W.Frag) (w : List D → Hh → QD → Prop) : List V → Hp → VK → Prop := fun xs H Q => ∃ ds h R, Sim K H h ∧ Reps K H ds xs ∧ w ds h R ∧ LkV K H R Q
def rm (K : PySem.W.Frag) (w : D → List D → Hh → QD → Prop) : V → List V → Hp → VK → Prop := fun x xs H Q => ∃ d ds h R, Sim K H h ∧ Rep K H d x ∧ Reps K H ds xs ∧ w d ds h R ∧ LkV K H R Q

section
variable {X : Cx}
/-- a new list -/
theorem LkV.new {K : PySem.W.Frag} {H : Hp} {h : Hh} {R : QD} {Q : VK} {xs : List D} {vs : List V} (l : LkV K H R Q) (s : Sim K H h) (r : Reps K H xs vs) (w : ∀ p, h p = none → R (.ref p) (up h p (.lst xs))) :
    ∀ p, H p = none → Q (.ref p) (upd H p (.lst vs)) := fun p hp =>
  l _ _ _ _ (TKeep.new hp) (s.lst (TKeep.new hp) r) (by unfold Rep; rfl) (w p (s.fresh hp))
theorem LkV.chg {K : PySem.W.Frag} {H : Hp} {h : Hh} {R : QD} {Q : VK} {a : Addr} {d : D} {v : V} {us vs : List V} {xs : List D} (l : LkV K H R Q) (s : Sim K H h) (e : H a = some (.lst us)) (r : Reps K H xs vs) (rd : Rep K H d v) (w : R d (up h a (.lst xs))) :
    Q v (upd H a (.lst vs)) := l _ _ _ _ (TKeep.lst e) (s.lst (TKeep.lst e) r) (rd.keep (TKeep.lst e)) w
theorem LkV.same {K : PySem.W.Frag} {H : Hp} {h : Hh} {R : QD} {Q : VK} {d : D} {v : V} (l : LkV K H R Q) (s : Sim K H h) (r : Rep K H d v) (w : R d h) : Q v H := l _ _ _ _ (TKeep.refl H) s r w
/-- a tuple, new or there -/
theorem LkV.tup {K : PySem.W.Frag} {H : Hp} {h : Hh} {R : QD} {Q : VK} {xs : List D} {vs : List V} (l : LkV K H R Q) (s : Sim K H h) (r : Reps K H xs vs) (w : R (.tup xs) h) :
    ∀ p, H p = none → Q (.ref p) (upd H p (.tup vs)) := fun p hp =>
  l _ _ _ _ (TKeep.new hp) (s.tup hp) (by unfold Rep; exact ⟨p, vs, rfl, .inl upd_same, r.keep (TKeep.new hp)⟩) w
theorem rep_int {K : PySem.W.Frag} {H : Hp} {i : Int} {v : V} : Rep K H (.int i) v ↔ v = .int i := by unfold Rep; exact Iff.rfl
theorem rep_bl {K : PySem.W.Frag} {H : Hp} {i : Bool} {v : V} : Rep K H (.bl i) v ↔ v = .bl i := by unfold Rep; exact Iff.rfl
theorem rep_str {K : PySem.W.Frag} {H : Hp} {i : Str} {v : V} : Rep K H (.str i) v ↔ v = .str i := by unfold Rep; exact Iff.rfl
theorem rep_non {K : PySem.W.Frag} {H : Hp} {v : V} : Rep K H .non v ↔ v = .non := by unfold Rep; exact Iff.rfl
theorem rep_ref {K : PySem.W.Frag} {H : Hp} {a : Addr} {v : V} : Rep K H (.ref a) v ↔ v = .ref a := by unfold Rep; exact Iff.rfl
theorem rep_tup {K : PySem.W.Frag} {H : Hp} {xs : List D} {v : V} : Rep K H (.tup xs) v ↔ ∃ a vs, v = .ref a ∧ TupAt K H a vs ∧ Reps K H xs vs := by rw [Rep]

theorem rep_lst {K : PySem.W.Frag} {H : Hp} {xs : List D} {v : V} : Rep K H (.lst xs) v ↔ ∃ a vs, v = .ref a ∧ FrzL K H a vs ∧ Reps K H xs vs := by rw [Rep]
/-- list + list, list * int, frozen or not -/
def rCatR (K : PySem.W.Frag) : R2 := fun x y H Q => ∃ l b xs zs, x = .ref l ∧ y = .ref b ∧ SqL K H l xs ∧ SqL K H b zs ∧ xs.length + zs.length ≤ sizeLine ∧ ∀ p, H p = none → Q (.ref p) (L2.upd H p (.lst (xs ++ zs)))
theorem op_mulG : OpR X (binaryOp .Mult) (rI IntMulOk fun i j => .int (i * j)) := opI fun _ _ _ _ _ _ _ hc q => mul_int q hc
theorem op_fdivG : OpR X (binaryOp .FloorDiv) (rI (fun i j => j ≠ 0 ∧ Builtin.divisionGoesByPylong i j = false) fun i j => .int (i.fdiv j)) := opI fun _ _ _ _ _ _ _ hc q => floordiv_int hc.1 q (.inl hc.2)

theorem op_catR : OpR X (binaryOp .Add) (rCatR X.K) := by
  intro pins s σ H x y v u Q I rx ry h
  obtain ⟨l, b, xs, zs, rfl, rfl, hH, hB, hz, q⟩ := h
  cases rx
  cases ry
  obtain ⟨its, r, ⟨o, n, e, c1, c2, c3⟩, hl⟩ := I.list hH
  obtain ⟨its2, r2, ⟨o2, n2, e2, d1, d2, d3⟩, hl2⟩ := I.list hB
  obtain ⟨oc, od, oda, os⟩ := o
  obtain ⟨pc, pd, pda, ps⟩ := o2
  cases c1; cases c2; cases c3; cases d1; cases d2; cases d3
  have l1 := r.length
  have l2 := r2.length
  refine concat_meets ⟨_, e, rfl⟩ ⟨_, e2, rfl⟩ noFill_list_add seq_list_add PySem.F.slot_list_add PySem.F.entry_list_add (PySem.F.args_list_add_2 _ _) (PyProof.Rows.list_addW l b its.toArray its2.toArray n n2 none none os ps (by rw [List.size_toArray, List.size_toArray]; omega)) ⟨e, e2, ?_⟩
  have ea : its.toArray ++ its2.toArray = (its ++ its2).toArray := by simp
  rw [ea]
  exact ⟨.ref _, _, I.lnew (t' := s.toks) (r.append r2) (by rw [List.length_append]; omega), rfl, q _ I.fresh⟩
/-- list * int -/
def rRepR : R2 := fun x y H Q => ∃ l k xs, x = .ref l ∧ y = .int k ∧ Rd H l (.lst xs) ∧ -(2 ^ 63) ≤ k ∧ k < 2 ^ 63 ∧ xs.length * k.toNat ≤ sizeLine ∧
  ∀ p, H p = none → Q (.ref p) (L2.upd H p (.lst (List.replicate k.toNat xs).flatten))
theorem op_repR : OpR X (binaryOp .Mult) rRepR := by
  intro pins s σ H x y v u Q I rx ry h
  obtain ⟨l, k, xs, rfl, rfl, hH, h1, h2, hz, q⟩ := h
  cases rx
  obtain ⟨t, rfl⟩ := ry
  obtain ⟨z, its, n, r, e⟩ := hH.ok I.hok
  have hl := r.length
  have hlen : its.toArray.size * k.toNat ≤ sizeLine := by rw [List.size_toArray, ← hl]; exact hz
  have hcap : ¬ its.toArray.size * k.toNat > (2 ^ 63 - 1) / 8 := by
    have : (sizeLine : Nat) ≤ (2 ^ 63 - 1) / 8 := by decide
    omega
  have hfit : ¬ (!Builtin.List.listFitsIndex k) = true := by
    rw [fitsIndex_both h1 h2]
    exact Bool.false_ne_true
  have hlong : ¬ Builtin.List.listTooLong (its.toArray.size * k.toNat) = true := by
    rw [notLongL hlen]
    exact Bool.false_ne_true
  have hnew : List.foldl (fun x1 x2 => x1 ++ x2) #[] (List.replicate (if its.toArray.isEmpty = true then 0 else k.toNat) its.toArray) = (List.replicate k.toNat its).flatten.toArray := by
    have f0 : ∀ m : Nat, List.foldl (fun x1 x2 => x1 ++ x2) #[] (List.replicate m its.toArray) = (List.replicate m its).flatten.toArray := fun m => by
      have := foldl_rep its m []
      rw [List.nil_append] at this
      exact this
    rw [f0]
    cases its with
    | nil => simp
    | cons a r' => rw [if_neg (by simp)]
  refine wpAny_binaryOp_repeat_ref (T := "list") (U := "int") (by decide) ⟨_, e, rfl⟩ (fun s' => typeIs_int s' k t) noFill_list_mul PySem.F.fills_int_mul PySem.F.slot_int_rmul repeat_list PySem.F.slot_int_index.lookup
    (call_meets PySem.F.slot_int_rmul (typeIs_int s k t) PySem.F.entry_int_rmul (PySem.F.args_int_rmul_2 _ _) (int___rmul___int_list k t l its.toArray n)
      ⟨e, rfl, ⟨_, e, rfl⟩, call_meets PySem.F.slot_list_mul ⟨_, e, rfl⟩ PySem.F.entry_list_mul (PySem.F.args_list_mul_2 _ _) (AutoListH.list___mul___list_int_3 l its.toArray n k t hfit hcap hlong) ⟨e, ?_⟩⟩)
  rw [hnew]
  exact ⟨.ref _, _, I.lnew (t' := s.toks) (r.rep k.toNat) (by rw [PyProof.Rows.lm_len_rep_flat, Nat.mul_comm]; exact hz), rfl, q _ I.fresh⟩

theorem lsL {K : PySem.W.Frag} {H : Hp} {xs : List D} {v : V} (r : Rep K H (.lst xs) v) : ∃ a vs, v = .ref a ∧ SqL K H a vs ∧ Reps K H xs vs := by
  rw [rep_lst] at r; obtain ⟨a, vs, e, t, r⟩ := r; exact ⟨a, vs, e, t.sq, r⟩
theorem lsR {K : PySem.W.Frag} {H : Hp} {h : Hh} {b : Addr} {xs : List D} {v : V} (S : Sim K H h) (r : Rep K H (.ref b) v) (e : rdL h b = some xs) : ∃ a vs, v = .ref a ∧ SqL K H a vs ∧ Reps K H xs vs := S.ls r e
def opOf : Bo → Operator
  | .add => .Add | .sub => .Sub | .mul => .Mult | .div => .FloorDiv | .mod => .Mod | .pow => .Pow
theorem opR_bin (o : Bo) : OpR X (binaryOp (opOf o)) (r2 X.K (binW o)) := by
  intro pins s σ H x y v u Q I rx ry hh
  obtain ⟨d, e, h, R, S, r1, r2, w, l⟩ := hh
  have r1' := r1
  have r2' := r2
  cases o <;> cases d <;> cases e <;> first
    | (simp only [binW] at w; done)
    | (simp only [binW] at w
       rw [rep_int] at r1' r2'; subst r1' r2'
       first
        | exact op_add pins s σ H _ _ v u Q I rx ry ⟨_, _, rfl, rfl, l.same S (rep_int.2 rfl) w⟩
        | exact op_sub pins s σ H _ _ v u Q I rx ry ⟨_, _, rfl, rfl, l.same S (rep_int.2 rfl) w⟩
        | exact op_mulG pins s σ H _ _ v u Q I rx ry ⟨_, _, rfl, rfl, w.1, l.same S (rep_int.2 rfl) w.2⟩
        | exact op_fdivG pins s σ H _ _ v u Q I rx ry ⟨_, _, rfl, rfl, ⟨w.1, w.2.1⟩, l.same S (rep_int.2 rfl) w.2.2⟩
        | exact op_modN pins s σ H _ _ v u Q I rx ry ⟨_, _, rfl, rfl, w.1, l.same S (rep_int.2 rfl) w.2⟩
        | exact op_pow pins s σ H _ _ v u Q I rx ry ⟨_, _, rfl, rfl, w.1, l.same S (rep_int.2 rfl) w.2⟩)
    | (simp only [binW] at w
       rw [rep_str] at r1' r2'; subst r1' r2'
       exact op_add_str pins s σ H _ _ v u Q I rx ry ⟨_, _, rfl, rfl, w.1, l.same S (rep_str.2 rfl) w.2⟩)
    | (simp only [binW] at w
       rw [rep_tup] at r1' r2'
       obtain ⟨a, vs, rfl, ta, ra⟩ := r1'
       obtain ⟨b, ws, rfl, tb, rb⟩ := r2'
       refine op_catA pins s σ H _ _ v u Q I rx ry ⟨a, b, vs, ws, rfl, rfl, ta.sq, tb.sq, by rw [← ra.length, ← rb.length]; exact w.1, fun e => ?_, fun _ e => ?_, fun _ _ => l.tup S (ra.append rb) w.2⟩
       · have e1 := ra.length
         rw [e, List.length_nil] at e1
         have e2 := List.eq_nil_of_length_eq_zero e1
         refine l.same S (d := .tup _) ?_ w.2
         rw [e2]; exact r2
       · have e1 := rb.length
         rw [e, List.length_nil] at e1
         have e2 := List.eq_nil_of_length_eq_zero e1
         refine l.same S (d := .tup _) ?_ w.2
         rw [e2, List.append_nil]; exact r1)
    | (simp only [binW] at w
       rw [rep_tup] at r1'; rw [rep_int] at r2'; subst r2'
       obtain ⟨a, vs, rfl, ta, ra⟩ := r1'
       obtain ⟨⟨h1, h2, hz⟩, w⟩ := w
       refine LtR.op_mulT pins s σ H _ _ v u Q I rx ry ⟨a, _, vs, rfl, rfl, ta.sq, h1, h2, by rw [← ra.length]; exact hz, fun c => ?_, l.tup S (ra.rep _) w⟩
       refine l.same S (d := .tup _) ?_ w
       rw [rep_tup]
       refine ⟨a, vs, rfl, ta, ?_⟩
       have := ra.rep (Int.toNat ‹Int›)
       rcases c with c | c
       · subst c
         have e := ra.length
         rw [List.length_nil] at e
         rw [List.eq_nil_of_length_eq_zero e] at this ⊢
         simpa using this
       · subst c
         simpa using ra)
    | (simp only [binW] at w
       rw [rep_lst] at r1'; rw [rep_int] at r2'; subst r2'
       obtain ⟨a, vs, rfl, ta, ra⟩ := r1'
       obtain ⟨h1, h2, hz, w⟩ := w
       exact LtR.op_mulL pins s σ H _ _ v u Q I rx ry ⟨a, _, vs, rfl, rfl, ta.sq, h1, h2, by rw [← ra.length]; exact hz, l.new S (ra.rep _) w⟩)
    | (simp only [binW] at w
       rw [rep_ref] at r1'; rw [rep_int] at r2'; subst r1' r2'
       rw [optW_iff] at w
       obtain ⟨xs, e1, h1, h2, hz, w⟩ := w
       obtain ⟨vs, h3, q1⟩ := S.rd e1
       exact op_repR pins s σ H _ _ v u Q I rx ry ⟨_, _, vs, rfl, rfl, h3, h1, h2, by rw [← q1.length]; exact hz, l.new S (q1.rep _) w⟩)
    | (simp only [binW] at w
       rw [optW_iff] at w
       obtain ⟨ys, e2, hz, w⟩ := w
       obtain ⟨a, vs, rfl, h1, q1⟩ := lsL r1'
       obtain ⟨b, ws, rfl, h2, q2⟩ := S.ls r2' e2
       exact op_catR pins s σ H _ _ v u Q I rx ry ⟨_, _, vs, ws, rfl, rfl, h1, h2, by rw [← q1.length, ← q2.length]; exact hz, l.new S (q1.append q2) w⟩)
    | (simp only [binW] at w
       rw [optW_iff] at w
       obtain ⟨xs, e1, w⟩ := w
       rw [optW_iff] at w
       obtain ⟨ys, e2, hz, w⟩ := w
       obtain ⟨a, vs, rfl, h1, q1⟩ := lsR S r1' e1
       obtain ⟨b, ws, rfl, h2, q2⟩ := S.ls r2' e2
       exact op_catR pins s σ H _ _ v u Q I rx ry ⟨_, _, vs, ws, rfl, rfl, h1, h2, by rw [← q1.length, ← q2.length]; exact hz, l.new S (q1.append q2) w⟩)
end
end Lt

set_option maxHeartbeats 4000000
namespace Lt
open PySem PySem.Spec PyProof.Rows L2
variable [Wd]
section
variable {K : PySem.W.Frag} {H : Hp}
mutual
theorem KeyR.of : ∀ {d : D} {k : NestedKey} {v : V}, keyD d = some k → Rep K H d v → KeyR K H k v
  | .non, k, v, e, r => by rw [keyD] at e; cases e; unfold Rep at r; unfold KeyR; exact r
  | .bl _, k, v, e, r => by rw [keyD] at e; cases e
  | .int _, k, v, e, r => by rw [keyD] at e; cases e; unfold Rep at r; unfold KeyR; exact r
  | .str _, k, v, e, r => by rw [keyD] at e; cases e; unfold Rep at r; unfold KeyR; exact r
  | .tup xs, k, v, e, r => by
    rw [keyD] at e
    obtain ⟨ks, e1, rfl⟩ := Option.map_eq_some_iff.1 e
    unfold Rep at r
    obtain ⟨a, vs, rfl, t, r⟩ := r
    unfold KeyR
    exact ⟨a, vs, rfl, t, KeyRs.of e1 r⟩
  | .lst _, k, v, e, r => by rw [keyD] at e; cases e
  | .ref _, k, v, e, r => by rw [keyD] at e; cases e
  | .dct _ _, k, v, e, r => by rw [keyD] at e; cases e
theorem KeyRs.of : ∀ {ds : List D} {ks : List NestedKey} {vs : List V}, keysD ds = some ks → Reps K H ds vs → KeyRs K H ks vs
  | [], ks, vs, e, r => by rw [keysD] at e; cases e; rw [r.nil_inv]; unfold KeyRs; rfl
  | d :: ds, ks, vs, e, r => by
    rw [keysD] at e
    obtain ⟨k, e1, e⟩ := Option.bind_eq_some_iff.1 e
    obtain ⟨ks, e2, rfl⟩ := Option.map_eq_some_iff.1 e
    obtain ⟨v, w, rfl, r1, r2⟩ := r.cons_inv
    rw [KeyRs]
    exact ⟨v, w, rfl, KeyR.of e1 r1, KeyRs.of e2 r2⟩
end
mutual
theorem KeyR.rep : ∀ {k : NestedKey} {v : V}, KeyR K H k v → Rep K H (ofK k) v
  | .none, v, r => by unfold KeyR at r; rw [ofK, rep_non]; exact r
  | .num _, v, r => by unfold KeyR at r; rw [ofK, rep_int]; exact r
  | .text _, v, r => by unfold KeyR at r; rw [ofK, rep_str]; exact r
  | .tup ks, v, r => by
    unfold KeyR at r
    obtain ⟨a, vs, rfl, t, r⟩ := r
    rw [ofK, rep_tup]
    exact ⟨a, vs, rfl, t, KeyRs.rep r⟩
theorem KeyRs.rep : ∀ {ks : List NestedKey} {vs : List V}, KeyRs K H ks vs → Reps K H (ofKs ks) vs
  | [], vs, r => by unfold KeyRs at r; subst r; rw [ofKs]; exact .nil
  | k :: ks, vs, r => by
    rw [KeyRs] at r
    obtain ⟨v, w, rfl, r1, r2⟩ := r
    rw [ofKs]
    exact .cons (KeyR.rep r1) (KeyRs.rep r2)
end
theorem keyT_some {d : D} {k : NestedKey} (e : keyT d = some k) : keyD d = some k ∧ keyOk k = true := by
  unfold keyT at e
  split at e
  · rename_i k' e1
    split at e
    · rename_i o; cases e; exact ⟨e1, o⟩
    · cases e
  · cases e
end
section
variable {X : Cx} {pins : List (Addr × Obj)} {σ : L2.St} {H : Hp} {s : Shared}
mutual
theorem KeyR.is (I : Inv X pins σ H s) : ∀ {k : NestedKey} {v : V} {u : Value}, KeyR X.K H k v → RelV v u → NestedIs s.heap k u
  | .none, v, u, r, ru => by unfold KeyR at r; subst r; cases (show u = _ from ru); exact .none
  | .num _, v, u, r, ru => by unfold KeyR at r; subst r; obtain ⟨t, rfl⟩ := ru; exact .int _ _
  | .text _, v, u, r, ru => by unfold KeyR at r; subst r; obtain ⟨t, rfl⟩ := ru; exact .text _ _
  | .tup ks, v, u, r, ru => by
    unfold KeyR at r
    obtain ⟨a, vs, rfl, t, r⟩ := r
    cases (show u = _ from ru)
    obtain ⟨its, rv, ⟨o, ho, hc, n, hd⟩, _⟩ := I.tuple t.sq
    exact .tup ho hc hd (KeyRs.is I r rv)
theorem KeyRs.is (I : Inv X pins σ H s) : ∀ {ks : List NestedKey} {vs : List V} {us : List Value}, KeyRs X.K H ks vs → Vals vs us → NestedAll s.heap ks us
  | [], vs, us, r, ru => by unfold KeyRs at r; subst r; cases ru; exact .nil
  | k :: ks, vs, us, r, ru => by
    rw [KeyRs] at r
    obtain ⟨v, w, rfl, r1, r2⟩ := r
    cases ru with
    | cons a b => exact .cons (KeyR.is I r1 a) (KeyRs.is I r2 b)
end
theorem KeyR.at (I : Inv X pins σ H s) {k : NestedKey} {v : V} {u : Value} (r : KeyR X.K H k v) (o : keyOk k = true) (ru : RelV v u) : LtK.KeyAt s.heap k u := by
  have q := r.is I ru
  refine ⟨q, ?_, fun x t e => ?_⟩
  · cases k <;> first
      | exact of_decide_eq_true o
      | exact absurd o Bool.false_ne_true
  · subst e; cases q; exact absurd o Bool.false_ne_true
theorem key_at (I : Inv X pins σ H s) {y : D} {k : NestedKey} {v : V} {u : Value} (e : keyT y = some k) (r : Rep X.K H y v) (ru : RelV v u) : LtK.KeyAt s.heap k u ∧ KeyR X.K H k v ∧ keyOk k = true := by
  obtain ⟨e1, o⟩ := keyT_some e
  have q := KeyR.of e1 r
  exact ⟨q.at I o ru, q, o⟩
theorem look_at : ∀ {kvs : List (NestedKey × D)} {es : List LtK.VEnt} {xs : List LtK.Ent} {k : NestedKey}, es.map (·.1) = kvs.map (·.1) → Reps X.K H (kvs.map (·.2)) (es.map (·.2.2)) → PySem.Paired LtK.RE es xs →
    (∀ d, lkp kvs k = some d → ∃ v u, LtK.look xs k = some u ∧ RelV v u ∧ Rep X.K H d v) ∧ (lkp kvs k = none → LtK.look xs k = none)
  | [], [], _, k, _, _, p => by cases p; exact ⟨(fun d e => by cases e), (fun _ => rfl)⟩
  | [], _ :: _, _, k, e, _, _ => by cases e
  | _ :: _, [], _, k, e, _, _ => by cases e
  | q :: kvs, e :: es, x :: xr, k, h, r, .cons a t => by
    rw [List.map_cons, List.map_cons] at h
    injection h with h1 h2
    obtain ⟨v, w, e1, r1, r2⟩ := r.cons_inv
    injection e1 with e1 e2
    subst e1 e2
    have x1 : x.1 = q.1 := a.1.symm.trans h1
    by_cases c : q.1 = k
    · constructor
      · intro d z
        unfold lkp at z
        rw [List.find?_cons, decide_eq_true c] at z
        cases z
        refine ⟨e.2.2, x.2.2, ?_, a.2.2, r1⟩
        unfold LtK.look
        rw [List.find?_cons, decide_eq_true (x1.trans c)]; rfl
      · intro z
        unfold lkp at z
        rw [List.find?_cons, decide_eq_true c] at z
        cases z
    · have ih := look_at (k := k) h2 r2 t
      have l1 : lkp (q :: kvs) k = lkp kvs k := by unfold lkp; rw [List.find?_cons, decide_eq_false c]
      have l2 : LtK.look (x :: xr) k = LtK.look xr k := by unfold LtK.look; rw [List.find?_cons, decide_eq_false (fun z => c (x1 ▸ z))]
      rw [l1, l2]; exact ih
/-- what is known of a dict that is read -/
structure DnAt (X : Cx) (H : Hp) (s : Shared) (kvs : List (NestedKey × D)) (a : Addr) (es : List LtK.VEnt) (xs : List LtK.Ent) : Prop where
  rd : Rd H a (LtK.dnO Wd.w a es)
  re : PySem.Paired LtK.RE es xs
  raw : LtK.Raw X.w s.heap a xs
  keys : LtK.Keys s.heap xs
  lo : (a == sysModules) = false
  ln : es.length ≤ sizeLine
  ek : es.map (·.1) = kvs.map (·.1)
  ko : KeysOk X.K H es
  rv : Reps X.K H (kvs.map (·.2)) (es.map (·.2.2))
theorem zip_fst {α β : Type} : ∀ {ks : List α} {vs : List β}, ks.length = vs.length → (ks.zip vs).map (·.1) = ks
  | [], [], _ => rfl
  | [], _ :: _, e => by cases e
  | _ :: _, [], e => by cases e
  | k :: ks, v :: vs, e => by rw [List.zip_cons_cons, List.map_cons, zip_fst (by simpa using e)]
theorem zip_snd {α β : Type} : ∀ {ks : List α} {vs : List β}, ks.length = vs.length → (ks.zip vs).map (·.2) = vs
  | [], [], _ => rfl
  | [], _ :: _, e => by cases e
  | _ :: _, [], e => by cases e
  | k :: ks, v :: vs, e => by rw [List.zip_cons_cons, List.map_cons, zip_snd (by simpa using e)]
theorem keys_of (I : Inv X pins σ H s) : ∀ {es : List LtK.VEnt} {xs : List LtK.Ent}, KeysOk X.K H es → PySem.Paired LtK.RE es xs → LtK.Keys s.heap xs
  | _, _, _, .nil => fun x hx => by cases hx
  | e :: es, x :: xs, o, .cons a t => fun y hy => by
    rcases List.mem_cons.1 hy with z | z
    · subst z
      obtain ⟨q1, q2⟩ := o e (List.mem_cons_self ..)
      have := q1.at I q2 a.2.1
      rw [← a.1]; exact this
    · exact keys_of I (fun e he => o e (List.mem_cons_of_mem _ he)) t y z
theorem dn_at (hw : X.w = Wd.w) (I : Inv X pins σ H s) {h : Hh} (S : Sim X.K H h) {x : D} {v : V} {u : Value} {kvs : List (NestedKey × D)} (r : Rep X.K H x v) (e : rdN h x = some kvs) (ru : RelV v u) :
    ∃ a es xs, v = .ref a ∧ u = .ref a ∧ DnAt X H s kvs a es xs := by
  have key : ∃ a es, v = .ref a ∧ Rd H a (LtK.dnO Wd.w a es) ∧ es.map (·.1) = kvs.map (·.1) ∧ KeysOk X.K H es ∧ Reps X.K H (kvs.map (·.2)) (es.map (·.2.2)) := by
    cases x with
    | ref a =>
      rw [rep_ref] at r
      have e' : wrN h a = some kvs := e
      obtain ⟨es, h1, h2, h3, h4⟩ := S.wrN e'
      exact ⟨a, es, r, .inl h1, h2, h3, h4⟩
    | dct ks vs =>
      unfold Rep at r
      obtain ⟨a, es, rfl, ⟨ob, t⟩, q, o, r⟩ := r
      have e' : ks.zip vs = kvs := Option.some.inj e
      have ll : ks.length = vs.length := by rw [← q, List.length_map, r.length, List.length_map]
      subst e'
      exact ⟨a, es, rfl, .inr ⟨ob, t⟩, by rw [zip_fst ll, q], o, by rw [zip_snd ll]; exact r⟩
    | _ => cases e
  obtain ⟨a, es, rfl, h1, h2, h3, h4⟩ := key
  cases (show u = _ from ru)
  obtain ⟨l1, l2, xs, l3, l4⟩ := LtK.dnO_inv (h1.ok I.hok)
  exact ⟨a, es, xs, rfl, rfl, h1, l3, by rw [hw]; exact l4, keys_of I h3 l3, l2, l1, h2, h3, h4⟩
end
end Lt

set_option maxHeartbeats 4000000
namespace Lt
open PySem PySem.Spec PyProof.Rows L2
variable [Wd]
section
variable {X : Cx} {pins : List (Addr × Obj)} {σ : L2.St} {H : Hp} {s : Shared}
theorem dn_in (hw : X.w = Wd.w) (hu : X.A.units + 65 < cLine) (I : Inv X pins σ H s) {h : Hh} (S : Sim X.K H h) {d e : D} {x y : V} {v u : Value} {kvs : List (NestedKey × D)} {k : NestedKey} {Q : VK}
    (r1 : Rep X.K H d x) (rx : RelV x v) (r2 : Rep X.K H e y) (ry : RelV y u) (e1 : rdN h e = some kvs) (k1 : keyT d = some k) (q : Q (.bl (lkp kvs k).isSome) H) :
    wpAny (model X.prog X.w) X.A (compareOp .In v u) (EP X pins σ Q) X.xe s := by
  obtain ⟨a, es, xs, rfl, rfl, A⟩ := dn_at hw I S r2 e1 ry
  obtain ⟨k2, _, _⟩ := key_at I k1 r1 rx
  show wpAny _ _ (do return Value.bool (← contains (.ref a) v)) _ _ s
  refine wpAny_bind (LtK.in_ok (by omega) k2 A.lo A.raw A.keys (wpAny_pure ⟨.bl _, H, I.tok _, rfl, ?_⟩))
  have := look_at (X := X) (H := H) (k := k) A.ek A.rv A.re
  cases z : lkp kvs k with
  | none => rw [z] at q; rw [this.2 z]; exact q
  | some d' => obtain ⟨_, _, e3, _⟩ := this.1 _ z; rw [z] at q; rw [e3]; exact q
theorem dn_notin (hw : X.w = Wd.w) (hu : X.A.units + 65 < cLine) (I : Inv X pins σ H s) {h : Hh} (S : Sim X.K H h) {d e : D} {x y : V} {v u : Value} {kvs : List (NestedKey × D)} {k : NestedKey} {Q : VK}
    (r1 : Rep X.K H d x) (rx : RelV x v) (r2 : Rep X.K H e y) (ry : RelV y u) (e1 : rdN h e = some kvs) (k1 : keyT d = some k) (q : Q (.bl (!(lkp kvs k).isSome)) H) :
    wpAny (model X.prog X.w) X.A (compareOp .NotIn v u) (EP X pins σ Q) X.xe s := by
  obtain ⟨a, es, xs, rfl, rfl, A⟩ := dn_at hw I S r2 e1 ry
  obtain ⟨k2, _, _⟩ := key_at I k1 r1 rx
  show wpAny _ _ (do return Value.bool (!(← contains (.ref a) v))) _ _ s
  refine wpAny_bind (LtK.in_ok (by omega) k2 A.lo A.raw A.keys (wpAny_pure ⟨.bl _, H, I.tok _, rfl, ?_⟩))
  have := look_at (X := X) (H := H) (k := k) A.ek A.rv A.re
  cases z : lkp kvs k with
  | none => rw [z] at q; rw [this.2 z]; exact q
  | some d' => obtain ⟨_, _, e3, _⟩ := this.1 _ z; rw [z] at q; rw [e3]; exact q
theorem dn_ix (hw : X.w = Wd.w) (hu : X.A.units + 65 < cLine) (I : Inv X pins σ H s) {h : Hh} (S : Sim X.K H h) {d e d' : D} {x y : V} {v u : Value} {kvs : List (NestedKey × D)} {k : NestedKey} {Q : VK} {value slice : Expr}
    (r1 : Rep X.K H d x) (rx : RelV x v) (r2 : Rep X.K H e y) (ry : RelV y u) (e1 : rdN h d = some kvs) (k1 : keyT e = some k) (l : lkp kvs k = some d') (q : ∀ z, Rep X.K H d' z → Q z H)
    (hs : subscripted slice false v u = operate [v, u] (getItem v u)) : wpAny (model X.prog X.w) X.A (subscriptTail value slice v u) (EP X pins σ Q) X.xe s := by
  obtain ⟨a, es, xs, rfl, rfl, A⟩ := dn_at hw I S r1 e1 rx
  obtain ⟨k2, _, _⟩ := key_at I k1 r2 ry
  obtain ⟨z, w, e3, rz, rd⟩ := (look_at (X := X) (H := H) (k := k) A.ek A.rv A.re).1 _ l
  exact tail_any A.raw.ty slot_dict_getitem.lookup (LtK.item_ok (by omega) k2 A.raw A.keys e3 ⟨z, H, I.tok _, rz, q z rd⟩) hs
theorem dn_len (hw : X.w = Wd.w) (I : Inv X pins σ H s) {h : Hh} (S : Sim X.K H h) {d : D} {x : V} {v : Value} {kvs : List (NestedKey × D)} {Q : VK}
    (r1 : Rep X.K H d x) (rx : RelV x v) (e1 : rdN h d = some kvs) (q : Q (.int (kvs.length : Nat)) H) : wpAny (model X.prog X.w) X.A (call (.builtin "len") [v]) (EP X pins σ Q) X.xe s := by
  obtain ⟨a, es, xs, rfl, rfl, A⟩ := dn_at hw I S r1 e1 rx
  obtain ⟨ds, ep, hr, he⟩ := A.raw.dict
  have l1 : ds.size = kvs.length := by
    have a1 : xs.length = es.length := (LtK.RE.len A.re).symm
    have a2 : es.length = kvs.length := by have := congrArg List.length A.ek; simpa using this
    rw [← Array.length_toList, he, List.length_map, a1, a2]
  have l2 : kvs.length ≤ sizeLine := by have := congrArg List.length A.ek; rw [List.length_map, List.length_map] at this; rw [← this]; exact A.ln
  rw [sizeLine_eq] at l2
  refine PyProof.Rows.call_len_slot (n := (kvs.length : Int)) hr.typeIs F.slot_dict_len (fun Q' hq => call_len_raw A.lo hr (by rw [l1]; exact hq)) (by omega) (by omega) ?_
  exact ⟨.int (kvs.length : Nat), H, I.tok _, ⟨_, rfl⟩, q⟩
theorem dn_set (hw : X.w = Wd.w) (hu : X.A.units + 65 < cLine) (I : Inv X pins σ H s) {h : Hh} (S : Sim X.K H h) {y z : D} {a : Addr} {yv zv : V} {yu zu : Value} {kvs : List (NestedKey × D)} {k : NestedKey} {Q : Hp → Prop}
    (r2 : Rep X.K H y yv) (ry : RelV yv yu) (r3 : Rep X.K H z zv) (rz : RelV zv zu) (e1 : wrN h a = some kvs) (k1 : keyT y = some k) (hl : kvs.length < sizeLine)
    (q : ∀ H', TKeep H H' → Sim X.K H' (up h a (.dN (stoK kvs k z))) → Q H') : wpAny (model X.prog X.w) X.A (setItem (.ref a) yu zu) (fun _ s' => ∃ H', Inv X pins σ H' s' ∧ Q H') X.xe s := by
  obtain ⟨es, f1, f2, f3, f4⟩ := S.wrN e1
  obtain ⟨l1, lo, xs, re, raw⟩ := LtK.dnO_inv (I.hok a _ f1)
  rw [← hw] at raw f1
  obtain ⟨k2, k3, k4⟩ := key_at I k1 r2 ry
  have zl : xs.length ≤ sizeLine := by rw [← LtK.RE.len re]; exact l1
  have el : es.length = kvs.length := by have := congrArg List.length f2; simpa using this
  refine LtK.store_ok (by omega) k2 raw (keys_of I f3 re) zl fun h' R' sb => ?_
  have re' : PySem.Paired LtK.RE (LtK.stoE es k yv zv) (LtK.sto xs k yu zu) := LtK.RE.sto ry rz re
  have ln' : (LtK.stoE es k yv zv).length ≤ sizeLine := Nat.le_trans LtK.stoE_len (by omega)
  obtain ⟨o, _, _, g1, _⟩ := id R'
  have I2 := d_write (t' := s.toks + k.draws) (ob := LtK.dnO X.w a (LtK.stoE es k yv zv)) I (by rw [f1]; exact LtK.dnO_mut) sb ⟨o, g1⟩ (LtK.dnO_ok ln' lo re' R')
  have kp : TKeep H (L2.upd H a (LtK.dnO X.w a (LtK.stoE es k yv zv))) := TKeep.upd (fun vs => by rw [f1]; exact LtK.dnO_notup) (fun ob u => by rw [f1]; exact LtK.dnO_nofrz)
  refine ⟨_, I2, q _ kp (S.upd kp ⟨LtK.stoE es k yv zv, by rw [← hw]; exact L2.upd_same, LtK.stoE_keys f2, fun e he => ?_, ?_⟩)⟩
  · rcases LtK.stoE_mem he with ⟨y', hy, e1, e2⟩ | ⟨e1, e2⟩
    · rw [e1, e2]; exact ⟨(f3 y' hy).1.keep kp, (f3 y' hy).2⟩
    · rw [e1, e2]; exact ⟨k3.keep kp, k4⟩
  · have r3' := r3.keep kp
    have f4' := f4.keep kp
    have vals : ∀ {kvs : List (NestedKey × D)} {es : List LtK.VEnt} (H' : Hp), es.map (·.1) = kvs.map (·.1) → Reps X.K H' (kvs.map (·.2)) (es.map (·.2.2)) → Rep X.K H' z zv →
        Reps X.K H' ((kvs.map (fun p => if p.1 = k then (p.1, z) else p)).map (·.2)) ((es.map (fun p => if p.1 = k then (p.1, p.2.1, zv) else p)).map (·.2.2)) := by
      intro kvs
      induction kvs with
      | nil => intro es H' e r _; cases es with
        | nil => exact .nil
        | cons _ _ => cases e
      | cons p kvs ih =>
        intro es H' e r rz
        cases es with
        | nil => cases e
        | cons b es =>
          rw [List.map_cons, List.map_cons] at e
          injection e with e1 e2
          obtain ⟨v, w, g1, g2, g3⟩ := r.cons_inv
          injection g1 with g1 g4
          subst g1 g4
          simp only [List.map_cons]
          refine .cons ?_ (ih H' e2 g3 rz)
          by_cases c : p.1 = k
          · rw [if_pos c, if_pos (e1.trans c)]; exact rz
          · rw [if_neg c, if_neg (fun z => c (e1.symm.trans z))]; exact g2
    have fin : ∀ H', Reps X.K H' (kvs.map (·.2)) (es.map (·.2.2)) → Rep X.K H' z zv → Reps X.K H' ((stoK kvs k z).map (·.2)) ((LtK.stoE es k yv zv).map (·.2.2)) := by
      intro H' a b
      unfold stoK LtK.stoE
      rw [LtK.any_keys f2]
      split
      · exact vals _ f2 a b
      · rw [List.map_append, List.map_append]
        exact a.append (.cons b .nil)
    exact fin _ f4' r3'
theorem dn_new {Q : VK} (hw : X.w = Wd.w) (I : Inv X pins σ H s) {h : Hh} (S : Sim X.K H h) {pos : Pos} (q : ∀ p H', H p = none → TKeep H H' → Sim X.K H' (up h p (.dN [])) → Q (.ref p) H') :
    wpAny (model X.prog X.w) X.A (eval (.Dict [] [] pos) X.env) (EP X pins σ Q) X.xe s := by
  have hn : H s.heap.objs.size = none := I.hok.fresh (Nat.le_refl _)
  have lo : (s.heap.objs.size == sysModules) = false := beq_eq_false_iff_ne.mpr (Ne.symm (Nat.ne_of_lt I.big))
  have I2 := I.laid (a := s.heap.objs.size) (o := LtK.dnO X.w s.heap.objs.size []) (h' := s.heap.push { cls := .type "dict", data := .dict #[] }) (t' := s.toks) (fun _ _ q => Heap.get?_push_of_some _ q) (Nat.le_refl _) (LtK.dnO_ok (Nat.zero_le _) lo .nil (LtK.Raw.new _ _))
  exact wpAny_Dict_empty ⟨.ref s.heap.objs.size, _, I2, rfl, q _ _ hn (TKeep.new hn) (S.upd (TKeep.new hn) ⟨[], by rw [← hw]; exact L2.upd_same, rfl, (fun e he => by cases he), .nil⟩)⟩
theorem dn_get2 (hw : X.w = Wd.w) (hu : X.A.units + 65 < cLine) (I : Inv X pins σ H s) {h : Hh} (S : Sim X.K H h) {d e : D} {x y : V} {v u : Value} {kvs : List (NestedKey × D)} {k : NestedKey} {Q : VK}
    (r1 : Rep X.K H d x) (rx : RelV x v) (r2 : Rep X.K H e y) (ry : RelV y u) (e1 : rdN h d = some kvs) (k1 : keyT e = some k) (q : ∀ z, Rep X.K H ((lkp kvs k).getD .non) z → Q z H) :
    wpAny (model X.prog X.w) X.A (call (.builtin "dict.get") [v, u]) (EP X pins σ Q) X.xe s := by
  obtain ⟨a, es, xs, rfl, rfl, A⟩ := dn_at hw I S r1 e1 rx
  obtain ⟨k2, _, _⟩ := key_at I k1 r2 ry
  refine LtK.get_ok (by omega) k2 A.lo A.raw A.keys ?_
  have := look_at (X := X) (H := H) (k := k) A.ek A.rv A.re
  cases z : lkp kvs k with
  | none => rw [z] at q; rw [this.2 z]; exact ⟨.non, H, I.tok _, rfl, q _ (rep_non.2 rfl)⟩
  | some d' => obtain ⟨w, _, e3, e4, e5⟩ := this.1 _ z; rw [z] at q; rw [e3]; exact ⟨w, H, I.tok _, e4, q _ e5⟩
theorem dn_get3 (hw : X.w = Wd.w) (hu : X.A.units + 65 < cLine) (I : Inv X pins σ H s) {h : Hh} (S : Sim X.K H h) {d e f : D} {x y f1 : V} {v u f2 : Value} {kvs : List (NestedKey × D)} {k : NestedKey} {Q : VK}
    (r1 : Rep X.K H d x) (rx : RelV x v) (r2 : Rep X.K H e y) (ry : RelV y u) (r3 : Rep X.K H f f1) (rz : RelV f1 f2) (e1 : rdN h d = some kvs) (k1 : keyT e = some k) (q : ∀ z, Rep X.K H ((lkp kvs k).getD f) z → Q z H) :
    wpAny (model X.prog X.w) X.A (call (.builtin "dict.get") [v, u, f2]) (EP X pins σ Q) X.xe s := by
  obtain ⟨a, es, xs, rfl, rfl, A⟩ := dn_at hw I S r1 e1 rx
  obtain ⟨k2, _, _⟩ := key_at I k1 r2 ry
  refine LtK.getOr_ok (by omega) k2 A.lo A.raw A.keys ?_
  have := look_at (X := X) (H := H) (k := k) A.ek A.rv A.re
  cases z : lkp kvs k with
  | none => rw [z] at q; rw [this.2 z]; exact ⟨f1, H, I.tok _, rz, q _ r3⟩
  | some d' => obtain ⟨w, _, e3, e4, e5⟩ := this.1 _ z; rw [z] at q; rw [e3]; exact ⟨w, H, I.tok _, e4, q _ e5⟩
/-! ### sorted -/
open PySem.W in
/-- items that are data, in their order -/
def srtV (vs : List V) (ds : List PyData) : List V := ((vs.zip ds).mergeSort (dataLe false fun p : V × PyData => p.2)).map (·.1)
open PySem.W in
theorem each_of : ∀ {vs : List V} {us : List Value} {ds : List PyData}, Vals vs us → vs.length = ds.length → EachIs (fun (u : Value) (b : V × PyData) => RelV b.1 u) us (vs.zip ds)
  | _, _, [], .nil, _ => .nil
  | _, _, _ :: _, .nil, e => by cases e
  | _, _, [], .cons _ _, e => by cases e
  | _, _, d :: ds, .cons r t, e => by
    rw [List.zip_cons_cons]
    exact .cons r (each_of t (by simpa using e))
open PySem.W in
theorem each_reads {hp : Heap} : ∀ {vs : List V} {us : List Value} {ds : List PyData}, vs.length = ds.length → (∀ (i : Nat) u d, us[i]? = some u → ds[i]? = some d → ∃ as, Reads hp u d as) → us.length = vs.length → EachIs (fun (u : Value) (b : V × PyData) => ∃ as, Reads hp u b.2 as) us (vs.zip ds)
  | [], [], [], _, _, _ => .nil
  | [], [], _ :: _, e, _, _ => by cases e
  | [], _ :: _, _, _, _, e => by cases e
  | _ :: _, [], _, _, _, e => by cases e
  | _ :: _, _ :: _, [], e, _, _ => by cases e
  | v :: vs, u :: us, d :: ds, e, r, l => by
    rw [List.zip_cons_cons]
    exact .cons (r 0 u d rfl rfl) (each_reads (by simpa using e) (fun i u d a b => r (i + 1) u d (by simpa using a) (by simpa using b)) (by simpa using l))
open PySem.W in
theorem vals_each : ∀ {us : List Value} {bs : List (V × PyData)}, EachIs (fun (u : Value) (b : V × PyData) => RelV b.1 u) us bs → Vals (bs.map (·.1)) us
  | _, _, .nil => .nil
  | _, _, .cons r t => .cons r (vals_each t)
theorem zip_map2 {ds : List PyData} {vs : List V} (h : vs.length = ds.length) : (vs.zip ds).map (fun p => p.2) = ds := zip_snd h
theorem srtV_one {vs : List V} {ds : List PyData} (h : vs.length ≤ 1) (k : ds.length ≤ 1) (e : vs.length = ds.length := by omega) : srtV vs ds = vs := by
  unfold srtV
  match vs, ds, e with
  | [], [], _ => simp
  | [v], [d], _ => simp
  | _ :: _ :: _, _, _ => simp at h
theorem perm_one {its out : List Value} (h : its.length ≤ 1) (hp : out.Perm its) : out = its := by
  match its with
  | [] => exact List.perm_nil.1 hp
  | [v] => exact List.perm_singleton.1 hp
  | _ :: _ :: _ => simp at h
open PySem.W PyProof.Rows in
theorem ls_one {prog : Program} {w : World} {A : Around} {E : Value → Shared → Prop} {s : Shared} {a : Addr} {vs : List Value} {n : Nat} {Q : Value → Shared → Prop} (hl : vs.length ≤ 1)
    (h : s.heap.get? a = some (seqObj "list" vs.toArray n)) (q : Q Value.none { s with heap := sortedHeap s.heap a vs vs.toArray }) :
    wpAny (model prog w) A (call (Value.builtin "list.sort") [Value.ref a]) Q E s := by
  refine PySem.wpAny_call_entry F.slot_list_sort ⟨_, h, rfl⟩ F.entry_list_sort ?_ (F.args_list_sort_1 _)
  refine Srt.list_sort_any h (Nat.le_trans hl (by decide)) (fun z => by omega) fun out hp => ?_
  rw [perm_one hl hp]
  exact ⟨_, rfl, q⟩
/-- sorted of a list -/
theorem srt_list (hu : X.A.units + 65 < cLine) (I : Inv X pins σ H s) {a : Addr} {vs : List V} {ds : List PyData} {Q : VK} (sq : SqL X.K H a vs) (dp : DpAll X.K H vs ds) (ok : SrtOk ds)
    (q : ∀ p, H p = none → Q (.ref p) (upd H p (.lst (srtV vs ds)))) : wpAny (model X.prog X.w) X.A (call (.builtin "sorted") [.ref a]) (EP X pins σ Q) X.xe s := by
  obtain ⟨its, rv, pl, hz⟩ := I.list sq
  obtain ⟨as, ra⟩ := Dp.readsAll I ds vs its dp rv
  have e1 := PySem.W.readsAll_each (h := s.heap) (enc := id) (vs := its) (bs := ds) (by simpa using ra)
  have ll : vs.length = ds.length := by rw [rv.length, e1.length]
  have er : PySem.W.EachIs (fun (u : Value) (b : V × PyData) => ∃ as, Reads s.heap u b.2 as) its (vs.zip ds) := each_reads ll (fun i u d h1 h2 => by
    have hz : (u, d) ∈ its.zip ds := List.mem_of_getElem? (i := i) (by rw [List.getElem?_zip_eq_some]; exact ⟨h1, h2⟩)
    exact e1.zip _ hz) rv.length.symm
  have m2 : (vs.zip ds).map (fun p : V × PyData => p.2) = ds := zip_map2 ll
  have hlen : (srtV vs ds).length ≤ sizeLine := by
    unfold srtV
    rw [List.length_map, List.length_mergeSort, List.length_zip]; have := ok.ln; omega
  have fin : ∀ out : List Value, Vals (srtV vs ds) out → EP X pins σ Q (Value.ref (s.heap.objs.size + 1)) { s with heap := PyProof.Rows.sortedAll s.heap its out.toArray } := fun out rv2 => by
    obtain ⟨ep, he'⟩ := PyProof.Rows.sortedAll_at s.heap its out.toArray
    exact ⟨.ref _, upd H (s.heap.objs.size + 1) (.lst (srtV vs ds)), I.laid (t' := s.toks) (fun _ _ => PyProof.Rows.sortedAll_old) (Nat.le_succ _) ⟨hlen, out, ep, rv2, he'⟩, rfl, q _ (I.hok.fresh (Nat.le_succ _))⟩
  rcases ok.so with so | so
  · refine PySem.W.sorted_data (enc := fun p : V × PyData => p.2) pl.isList (each_of rv ll) er (by rw [m2]; exact ok.al) (by rw [m2]; exact so) (by rw [List.length_zip]; have := ok.ln; omega) (fun b hb => ?_) fun out ho eo => fin out (vals_each eo)
    have := ok.dp b.2 (by rw [← m2]; exact List.mem_map_of_mem hb)
    omega
  · have il : its.length ≤ 1 := by rw [← rv.length]; omega
    refine Srt.sorted_any pl.isList (Nat.le_trans il (by decide)) (fun z => by omega) fun out hp => fin out ?_
    rw [srtV_one (by omega) so, perm_one il hp]
    exact rv
end
end Lt

set_option maxHeartbeats 4000000
namespace Lt
open PySem PySem.Spec PyProof.Rows L2
variable [Wd]
/-! ### the order by what items are does not look at the items -/
theorem reps_mem {K : PySem.W.Frag} {H : Hp} : ∀ {L : List (D × V)}, (∀ t ∈ L, Rep K H t.1 t.2) → Reps K H (L.map (·.1)) (L.map (·.2))
  | [], _ => .nil
  | t :: L, h => .cons (h t (List.mem_cons_self ..)) (reps_mem fun x hx => h x (List.mem_cons_of_mem _ hx))
theorem zip_mem {K : PySem.W.Frag} {H : Hp} : ∀ {xs : List D} {vs : List V}, Reps K H xs vs → ∀ t ∈ xs.zip vs, Rep K H t.1 t.2
  | [], _, _, t, ht => by cases ht
  | x :: xs, _, r, t, ht => by
    obtain ⟨v, w, rfl, r1, r2⟩ := r.cons_inv
    rw [List.zip_cons_cons] at ht
    rcases List.mem_cons.1 ht with z | z
    · subst z; exact r1
    · exact zip_mem r2 t z
theorem srt_reps {K : PySem.W.Frag} {H : Hp} {xs : List D} {vs : List V} {ds : List PyData} (r : Reps K H xs vs) : Reps K H (srtD xs ds) (srtV vs ds) := by
  let T : List ((D × V) × PyData) := (xs.zip vs).zip ds
  have ll := r.length
  have m1 : ∀ {xs : List D} {vs : List V} {ds : List PyData}, xs.length = vs.length → ((xs.zip vs).zip ds).map (fun t => (t.1.1, t.2)) = xs.zip ds := by
    intro xs
    induction xs with
    | nil => intro vs ds _; cases vs <;> simp
    | cons x xs ih =>
      intro vs ds e
      cases vs with
      | nil => cases e
      | cons v vs =>
        cases ds with
        | nil => simp
        | cons d ds => simp only [List.zip_cons_cons, List.map_cons]; rw [ih (by simpa using e)]
  have m2 : ∀ {xs : List D} {vs : List V} {ds : List PyData}, xs.length = vs.length → ((xs.zip vs).zip ds).map (fun t => (t.1.2, t.2)) = vs.zip ds := by
    intro xs
    induction xs with
    | nil => intro vs ds e; cases vs with
      | nil => simp
      | cons _ _ => cases e
    | cons x xs ih =>
      intro vs ds e
      cases vs with
      | nil => cases e
      | cons v vs =>
        cases ds with
        | nil => simp
        | cons d ds => simp only [List.zip_cons_cons, List.map_cons]; rw [ih (by simpa using e)]
  have s1 : (xs.zip ds).mergeSort (fun a b => PySem.W.dataLe false (fun p : D × PyData => p.2) a b) = (T.mergeSort (fun a b => PySem.W.dataLe false (fun p : (D × V) × PyData => p.2) a b)).map (fun t => (t.1.1, t.2)) := by
    rw [← m1 (ds := ds) ll, List.map_mergeSort]
    intro a _ b _; rfl
  have s2 : (vs.zip ds).mergeSort (PySem.W.dataLe false fun p : V × PyData => p.2) = (T.mergeSort (fun a b => PySem.W.dataLe false (fun p : (D × V) × PyData => p.2) a b)).map (fun t => (t.1.2, t.2)) := by
    rw [← m2 (ds := ds) ll, List.map_mergeSort]
    intro a _ b _; rfl
  unfold srtD srtV
  rw [s1, s2, List.map_map, List.map_map]
  have : ∀ L : List ((D × V) × PyData), (∀ t ∈ L, Rep K H t.1.1 t.1.2) → Reps K H (L.map ((fun x => x.1) ∘ fun t => (t.1.1, t.2))) (L.map ((fun x => x.1) ∘ fun t => (t.1.2, t.2))) := by
    intro L
    induction L with
    | nil => intro _; exact .nil
    | cons t L ih => intro h; exact .cons (h t (List.mem_cons_self ..)) (ih fun x hx => h x (List.mem_cons_of_mem _ hx))
  refine this _ fun t ht => ?_
  have ht' : t ∈ T := List.mem_mergeSort.1 ht
  exact zip_mem r t.1 (List.of_mem_zip ht').1
section
variable {X : Cx} {pins : List (Addr × Obj)} {σ : L2.St} {H : Hp} {s : Shared}
mutual
theorem KeyR.reads (I : Inv X pins σ H s) : ∀ {k : NestedKey} {v : V} {u : Value}, KeyR X.K H k v → RelV v u → Reads s.heap u k.data []
  | .none, v, u, r, ru => by unfold KeyR at r; subst r; cases (show u = _ from ru); exact .none
  | .num _, v, u, r, ru => by unfold KeyR at r; subst r; obtain ⟨t, rfl⟩ := ru; exact .int _ _
  | .text _, v, u, r, ru => by unfold KeyR at r; subst r; obtain ⟨t, rfl⟩ := ru; exact .str _ _
  | .tup ks, v, u, r, ru => by
    unfold KeyR at r
    obtain ⟨a, vs, rfl, t, r⟩ := r
    cases (show u = _ from ru)
    obtain ⟨its, rv, ⟨o, ho, hc, n, hd⟩, _⟩ := I.tuple t.sq
    rw [NestedKey.data]
    exact .tuple ho hc hd (KeyRs.reads I r rv)
theorem KeyRs.reads (I : Inv X pins σ H s) : ∀ {ks : List NestedKey} {vs : List V} {us : List Value}, KeyRs X.K H ks vs → Vals vs us → ReadsAll s.heap us (NestedKey.datas ks) []
  | [], vs, us, r, ru => by unfold KeyRs at r; subst r; cases ru; rw [NestedKey.datas]; exact .nil
  | k :: ks, vs, us, r, ru => by
    rw [KeyRs] at r
    obtain ⟨v, w, rfl, r1, r2⟩ := r
    cases ru with
    | cons a b => rw [NestedKey.datas]; exact .cons (KeyR.reads I r1 a) (KeyRs.reads I r2 b)
end
/-- sorted of what yields the keys of a dict -/
theorem srt_src {T : String} {r d : Addr} {n : Nat} {P : Nat → Value → Prop} {OK : Heap → Prop} (Ks : PySem.W.KdlSrc X.prog X.w T r d n P OK) (cal : X.calm = true) (hu : X.A.units + 65 < cLine) (I : Inv X pins σ H s) (ok0 : OK s.heap)
    {es : List LtK.VEnt} {Q : VK} (hn : es.length = n) (ln : n ≤ sizeLine) (rel : ∀ i v, P i v → ∃ e, es[i]? = some e ∧ RelV e.2.1 v) (ko : KeysOk X.K H es) (ok : SrtOk (es.map fun e => e.1.data))
    (q : ∀ p, H p = none → Q (.ref p) (upd H p (.lst (srtV (es.map (·.2.1)) (es.map fun e => e.1.data))))) : wpAny (model X.prog X.w) X.A (call (.builtin "sorted") [.ref r]) (EP X pins σ Q) X.xe s := by
  refine PySem.Calls.call_function_entry kind_sorted plain_sorted entry_sorted (args_sorted1 _) ?_
  unfold Builtin.«sorted»
  refine wpAny_bind (m := checkCount "sorted" 1 1 _) (wpAny_pure ?_)
  refine wpAny_bind (PySem.W.kdu_collect (A := X.A.in1) Ks (show X.A.in1.handled = none from I.ok.hd cal) ok0 ln fun h' tk acc hk hacc => ?_)
  have hl : acc.toList.length = n := by rw [Array.length_toList]; exact hacc.1
  have I1 : Inv X pins σ H { s with heap := h', toks := tk } := I.kept (t' := tk) hk
  refine wpAny_bind (wpAny_newList ?_ (by rw [hl]; exact ln))
  have fr : H h'.objs.size = none := I1.hok.fresh (Nat.le_refl _)
  have item : ∀ (i : Nat) (u : Value), acc.toList[i]? = some u → ∃ e : LtK.VEnt, es[i]? = some e ∧ RelV e.2.1 u := fun i u e => rel i u (hacc.2 i u (by rw [← Array.getElem?_toList]; exact e))
  have rv : ∀ {us : List Value} {fs : List LtK.VEnt}, us.length = fs.length → (∀ (i : Nat) (u : Value), us[i]? = some u → ∃ e : LtK.VEnt, fs[i]? = some e ∧ RelV e.2.1 u) → Vals (fs.map (·.2.1)) us := by
    intro us
    induction us with
    | nil => intro fs e _; cases fs with
      | nil => exact .nil
      | cons _ _ => cases e
    | cons u us ih =>
      intro fs e f
      cases fs with
      | nil => cases e
      | cons g gs =>
        obtain ⟨e1, e2, e3⟩ := f 0 u rfl
        cases e2
        exact .cons e3 (ih (by simpa using e) fun i u h => f (i + 1) u (by simpa using h))
  have rv0 : Vals (es.map (·.2.1)) acc.toList := rv (hl.trans hn.symm) item
  have ll : (es.map (·.2.1)).length = (es.map fun e => e.1.data).length := by rw [List.length_map, List.length_map]
  have er : PySem.W.EachIs (fun (u : Value) (b : V × PyData) => ∃ as, Reads (h'.push (seqObj "list" acc.toList.toArray 0)) u b.2 as ∧ h'.objs.size ∉ as) acc.toList ((es.map (·.2.1)).zip (es.map fun e => e.1.data)) := by
    have key : ∀ {us : List Value} {fs : List LtK.VEnt}, Vals (fs.map (·.2.1)) us → KeysOk X.K H fs → PySem.W.EachIs (fun (u : Value) (b : V × PyData) => ∃ as, Reads (h'.push (seqObj "list" acc.toList.toArray 0)) u b.2 as ∧ h'.objs.size ∉ as) us ((fs.map (·.2.1)).zip (fs.map fun e => e.1.data)) := by
      intro us fs
      induction fs generalizing us with
      | nil => intro r _; cases r; exact .nil
      | cons f fs ih =>
        intro r k
        rw [List.map_cons] at r
        cases r with
        | cons a b =>
          simp only [List.map_cons, List.zip_cons_cons]
          refine .cons ⟨[], ?_, by simp⟩ (ih b fun e he => k e (List.mem_cons_of_mem _ he))
          exact PyProof.Rows.Reads.keeps (fun _ _ e => Heap.get?_push_of_some _ e) ((k f (List.mem_cons_self ..)).1.reads I1 a)
    exact key rv0 ko
  have m2 : ((es.map (·.2.1)).zip (es.map fun e => e.1.data)).map (fun p : V × PyData => p.2) = es.map fun e => e.1.data := zip_map2 ll
  have at0 : (h'.push (seqObj "list" acc.toList.toArray 0)).get? h'.objs.size = some (seqObj "list" acc.toList.toArray 0) := Heap.get?_push_size _ rfl
  have hlen : (srtV (es.map (·.2.1)) (es.map fun e => e.1.data)).length ≤ sizeLine := by
    unfold srtV
    rw [List.length_map, List.length_mergeSort, List.length_zip]; have := ok.ln; omega
  have fin : ∀ out : List Value, Vals (srtV (es.map (·.2.1)) (es.map fun e => e.1.data)) out → EP X pins σ Q (.ref h'.objs.size) { s with heap := sortedHeap (h'.push (seqObj "list" acc.toList.toArray 0)) h'.objs.size acc.toList out.toArray, toks := tk } := fun out rv2 => by
    obtain ⟨ep, he'⟩ := sortedHeap_at (vs := acc.toList) (out := out.toArray) at0
    refine ⟨.ref _, upd H h'.objs.size (.lst (srtV (es.map fun e : LtK.VEnt => e.2.1) (es.map fun e : LtK.VEnt => e.1.data))), I1.laid (t' := tk) (fun b u e => ?_) (Nat.le_refl _) ⟨hlen, out, ep, rv2, he'⟩, rfl, q _ fr⟩
    have lt := Heap.lt_size e
    rw [sortedHeap_old (Nat.ne_of_lt lt) (by rw [size_push']; exact Nat.lt_succ_of_lt lt)]
    exact Heap.get?_push_of_some _ e
  have core : wpAny (model X.prog X.w) X.A.in1 (call (.builtin "list.sort") [.ref h'.objs.size]) (fun _ s' => EP X pins σ Q (.ref h'.objs.size) s') X.xe { s with heap := h'.push (seqObj "list" acc.toList.toArray 0), toks := tk } := by
    rcases ok.so with so | so
    · refine PySem.W.list_sort_data (A := X.A.in1) (s := { s with heap := h'.push (seqObj "list" acc.toList.toArray 0), toks := tk }) (enc := fun p : V × PyData => p.2) (Q := fun _ s' => EP X pins σ Q (.ref h'.objs.size) s') at0 (each_of rv0 ll) er (by rw [m2]; exact ok.al) (by rw [m2]; exact so) (by rw [List.length_zip]; have := ok.ln; omega) (fun b hb => ?_) fun out ho eo => fin out (vals_each eo)
      have := ok.dp b.2 (by rw [← m2]; exact List.mem_map_of_mem hb)
      show X.A.units + 1 + 1 + b.2.depth < cLine
      omega
    · have il : acc.toList.length ≤ 1 := by rw [hl, ← hn]; rw [List.length_map] at so; exact so
      refine ls_one (s := { s with heap := h'.push (seqObj "list" acc.toList.toArray 0), toks := tk }) il at0 (fin _ ?_)
      rw [srtV_one (by rw [List.length_map]; rw [List.length_map] at so; exact so) so]
      exact rv0
  exact wpAny_bind (wpAny_holding (wpAny_mono core (fun _ s' x => wpAny_pure ⟨_, rfl, x⟩) fun _ _ e => e))
/-- a view of a dict's keys, of its values -/
def kvO (p d : Addr) : HO := .ext fun h => PySem.W.KdlKeysView h p d
def vvO (p d : Addr) : HO := .ext fun h => h.IsValuesView p d
theorem kvO_ok {P : Program} {w : World} {H : Hp} {h : Heap} {p d : Addr} (x : PySem.W.KdlKeysView h p d) : ObjOk P w H h p (kvO p d) := ⟨x, (let ⟨o, e, _⟩ := x; ⟨o, e⟩), fun _ _ ⟨o, e, r⟩ k => ⟨o, k o e, r⟩⟩
theorem vvO_ok {P : Program} {w : World} {H : Hp} {h : Heap} {p d : Addr} (x : h.IsValuesView p d) : ObjOk P w H h p (vvO p d) := ⟨x, (let ⟨o, e, _⟩ := x; ⟨o, e⟩), fun _ _ ⟨o, e, r⟩ k => ⟨o, k o e, r⟩⟩
theorem Raw_nodict {w : World} {h : Heap} {d : Addr} {xs : List LtK.Ent} (x : LtK.Raw w h d xs) : ∀ b, Value.ref d = .ref b → ∃ ob, h.get? b = some ob ∧ ob.dict = none := fun b e => by
  cases e; obtain ⟨o, _, _, h1, h2, _⟩ := x; exact ⟨o, h1, h2.2.1⟩
/-- what a dict's reading tells, for its views -/
def DR (X : Cx) (x : V) (H : Hp) (kvs : List (NestedKey × D)) : Prop := ∃ d h, Sim X.K H h ∧ Rep X.K H d x ∧ rdN h d = some kvs
theorem DR.new {x : V} {kvs : List (NestedKey × D)} {p : Addr} {u : HO} (r : DR X x H kvs) (e : H p = none) : DR X x (upd H p u) kvs := let ⟨d, h, a, b, c⟩ := r; ⟨d, h, a.tup e, b.keep (TKeep.new e), c⟩
theorem pe_keys (hw : X.w = Wd.w) {o : Expr} {to : TE} {ap cp : Pos} (ho : PE X o to) (hbase : attributeBase o "keys" X.env (eval o X.env) = eval o X.env) (hline : (ap.endLine == cp.line) = true) :
    PE X (.Call (.Attribute o "keys" ap) [] [] cp) (fun σ H Q => to σ H fun x H1 => (∃ kvs, DR X x H1 kvs) ∧ ∀ p a, x = .ref a → H1 p = none → Q (.ref p) (upd H1 p (kvO p a))) := by
  refine ⟨fun pins s σ H Q I h => ?_⟩
  refine wpAny_Call_method (T := "dict") (id := "dict.keys") hbase rfl hline F.plainAttrs_dict F.slot_dict_keys F.type_dict_keys (thn (ho.run pins s σ H _ I h) fun u s1 ⟨x, H1, I1, rx, ⟨kvs, d, h1, S, r, e⟩, q⟩ => ?_)
  obtain ⟨a, es, xs, rfl, rfl, A⟩ := dn_at hw I1 S r e rx
  refine ⟨A.raw.ty, Raw_nodict A.raw, ?_⟩
  obtain ⟨ds, ep, hr, he⟩ := A.raw.dict
  have fin : EP X pins σ Q (.ref s1.heap.objs.size) { s1 with heap := s1.heap.push { cls := .type "dict_keys", data := .fields #[.ref a] } } :=
    ⟨.ref _, _, I1.laid (a := s1.heap.objs.size) (o := kvO s1.heap.objs.size a) (t' := s1.toks) (fun _ _ q => Heap.get?_push_of_some _ q) (Nat.le_refl _) (kvO_ok ⟨_, Heap.get?_push_size _ rfl, rfl, rfl⟩), rfl, q _ _ rfl (I1.hok.fresh (Nat.le_refl _))⟩
  show wpAny _ _ (callWith cp (.builtin "dict.keys") [.ref a] [] []) _ X.xe s1
  exact method_meetsIn F.slot_dict_keys F.entry_dict_keys rfl (PySem.evalArgs_none ⟨rfl, A.raw.ty, F.args_dict_keys_1 _, _, meets_dict_keys_raw a A.lo, ⟨ds, ep, hr⟩, fin⟩)
theorem pe_values (hw : X.w = Wd.w) {o : Expr} {to : TE} {ap cp : Pos} (ho : PE X o to) (hbase : attributeBase o "values" X.env (eval o X.env) = eval o X.env) (hline : (ap.endLine == cp.line) = true) :
    PE X (.Call (.Attribute o "values" ap) [] [] cp) (fun σ H Q => to σ H fun x H1 => (∃ kvs, DR X x H1 kvs) ∧ ∀ p a, x = .ref a → H1 p = none → Q (.ref p) (upd H1 p (vvO p a))) := by
  refine ⟨fun pins s σ H Q I h => ?_⟩
  refine wpAny_Call_method (T := "dict") (id := "dict.values") hbase rfl hline F.plainAttrs_dict F.slot_dict_values F.type_dict_values (thn (ho.run pins s σ H _ I h) fun u s1 ⟨x, H1, I1, rx, ⟨kvs, d, h1, S, r, e⟩, q⟩ => ?_)
  obtain ⟨a, es, xs, rfl, rfl, A⟩ := dn_at hw I1 S r e rx
  refine ⟨A.raw.ty, Raw_nodict A.raw, ?_⟩
  obtain ⟨ds, ep, hr, he⟩ := A.raw.dict
  have fin : EP X pins σ Q (.ref s1.heap.objs.size) { s1 with heap := s1.heap.push { cls := .type "dict_values", data := .fields #[.ref a] } } :=
    ⟨.ref _, _, I1.laid (a := s1.heap.objs.size) (o := vvO s1.heap.objs.size a) (t' := s1.toks) (fun _ _ q => Heap.get?_push_of_some _ q) (Nat.le_refl _) (vvO_ok ⟨_, Heap.get?_push_size _ rfl, rfl, rfl⟩), rfl, q _ _ rfl (I1.hok.fresh (Nat.le_refl _))⟩
  show wpAny _ _ (callWith cp (.builtin "dict.values") [.ref a] [] []) _ X.xe s1
  exact method_meetsIn F.slot_dict_values F.entry_dict_values rfl (PySem.evalArgs_none ⟨rfl, A.raw.ty, F.args_dict_values_1 _, _, meets_dict_values_raw a A.lo, ⟨ds, ep, hr⟩, fin⟩)
theorem ent_key {w : World} {ds : Array DictEntry} {es : List LtK.VEnt} {xs : List LtK.Ent} (he : ds.toList = xs.map (LtK.ent w)) (re : PySem.Paired LtK.RE es xs) : ∀ {i : Nat} (hi : i < ds.size), ∃ e, es[i]? = some e ∧ RelV e.2.1 ds[i].key ∧ RelV e.2.2 ds[i].val := by
  intro i hi
  have h1 : ds[i]? = (xs[i]?).map (LtK.ent w) := by rw [← Array.getElem?_toList, he, List.getElem?_map]
  rw [Array.getElem?_eq_getElem hi] at h1
  obtain ⟨x, e1, e2⟩ := Option.map_eq_some_iff.1 h1.symm
  have : ∀ {es : List LtK.VEnt} {xs : List LtK.Ent} {i : Nat} {x : LtK.Ent}, PySem.Paired LtK.RE es xs → xs[i]? = some x → ∃ e, es[i]? = some e ∧ LtK.RE e x := by
    intro es xs i x r
    induction r generalizing i with
    | nil => intro e; cases e
    | cons a t ih =>
      intro e
      cases i with
      | zero => cases e; exact ⟨_, rfl, a⟩
      | succ i => obtain ⟨e', g1, g2⟩ := ih (i := i) (by simpa using e); exact ⟨e', by simpa using g1, g2⟩
  obtain ⟨e, g1, g2⟩ := this re e1
  rw [← e2]
  exact ⟨e, g1, g2.2.1, g2.2.2⟩
theorem ds_size {w : World} {ds : Array DictEntry} {es : List LtK.VEnt} {xs : List LtK.Ent} (he : ds.toList = xs.map (LtK.ent w)) (re : PySem.Paired LtK.RE es xs) : es.length = ds.size := by
  rw [← Array.length_toList, he, List.length_map, LtK.RE.len re]
theorem map_eq_of {es : List LtK.VEnt} {kvs : List (NestedKey × D)} {α : Type} (g : NestedKey → α) (e : es.map (·.1) = kvs.map (·.1)) : (es.map fun x : LtK.VEnt => g x.1) = kvs.map fun p => g p.1 := by
  have := congrArg (List.map g) e
  rw [List.map_map, List.map_map] at this
  exact this
theorem reps_keys {K : PySem.W.Frag} {es : List LtK.VEnt} {kvs : List (NestedKey × D)} (e : es.map (·.1) = kvs.map (·.1)) (ko : KeysOk K H es) : Reps K H (kvs.map fun p => ofK p.1) (es.map fun x : LtK.VEnt => x.2.1) := by
  rw [← map_eq_of ofK e]
  clear e
  induction es with
  | nil => exact .nil
  | cons x es ih => exact .cons (ko x (List.mem_cons_self ..)).1.rep (ih fun y hy => ko y (List.mem_cons_of_mem _ hy))
/-- sorted of a dict -/
theorem dn_sorted (hw : X.w = Wd.w) (cal : X.calm = true) (hu : X.A.units + 65 < cLine) (I : Inv X pins σ H s) {h : Hh} (S : Sim X.K H h) {d : D} {x : V} {v : Value} {kvs : List (NestedKey × D)} {Q : VK}
    (r1 : Rep X.K H d x) (rx : RelV x v) (e1 : rdN h d = some kvs) (ok : SrtOk (kvs.map fun p => p.1.data))
    (q : ∀ p vs, H p = none → Reps X.K H (srtD (kvs.map fun p => ofK p.1) (kvs.map fun p => p.1.data)) vs → Q (.ref p) (upd H p (.lst vs))) : wpAny (model X.prog X.w) X.A (call (.builtin "sorted") [v]) (EP X pins σ Q) X.xe s := by
  obtain ⟨a, es, xs, rfl, rfl, A⟩ := dn_at hw I S r1 e1 rx
  obtain ⟨ds, ep, hr, he⟩ := A.raw.dict
  have sz := ds_size he A.re
  refine srt_src (KdlSrc.rawDict (es := ds) (ep := ep) A.lo) cal hu I hr sz (by rw [← sz]; exact A.ln) (fun i v ⟨hi, e⟩ => by obtain ⟨e', g1, g2, _⟩ := ent_key he A.re hi; rw [e]; exact ⟨e', g1, g2⟩) A.ko (by rw [map_eq_of NestedKey.data A.ek]; exact ok) fun p hp => q p _ hp ?_
  rw [map_eq_of NestedKey.data A.ek]
  exact srt_reps (reps_keys A.ek A.ko)
/-- sorted of a dict's keys -/
def rSrtK (X : Cx) : List V → Hp → VK → Prop := fun vs H Q => ∃ p a kvs, vs = [.ref p] ∧ H p = some (kvO p a) ∧ DR X (.ref a) H kvs ∧ SrtOk (kvs.map fun p => p.1.data) ∧
  ∀ q vs, H q = none → Reps X.K H (srtD (kvs.map fun p => ofK p.1) (kvs.map fun p => p.1.data)) vs → Q (.ref q) (upd H q (.lst vs))
theorem cr_srtK (hw : X.w = Wd.w) (cal : X.calm = true) (hu : X.A.units + 65 < cLine) : CallR X (.builtin "sorted") (rSrtK X) := by
  intro pins s σ H vs us Q I r ⟨p, a, kvs, e, hp, ⟨d, h, S, r1, e1⟩, ok, q⟩
  subst e
  rw [Vals.ref1 r]
  obtain ⟨a', es, xs, ea, _, A⟩ := dn_at hw I S r1 e1 (u := .ref a) rfl
  cases ea
  obtain ⟨ds, ep, hr, he⟩ := A.raw.dict
  have sz := ds_size he A.re
  have kv : PySem.W.KdlKeysView s.heap p a := (I.hok p _ hp).1
  refine srt_src (KdlSrc.rawKeys (es := ds) (ep := ep)) cal hu I ⟨kv, hr⟩ sz (by rw [← sz]; exact A.ln) (fun i v ⟨hi, e⟩ => by obtain ⟨e', g1, g2, _⟩ := ent_key he A.re hi; rw [e]; exact ⟨e', g1, g2⟩) A.ko (by rw [map_eq_of NestedKey.data A.ek]; exact ok) fun p hp => q p _ hp ?_
  rw [map_eq_of NestedKey.data A.ek]
  exact srt_reps (reps_keys A.ek A.ko)
theorem preSum_ns (ns : List Int) : ∀ n, n ≤ ns.length → preSum (fun i => (ns[i]?).getD 0) n = (ns.take n).sum
  | 0, _ => by simp [preSum]
  | n + 1, h => by
    show preSum (fun i => (ns[i]?).getD 0) n + (ns[n]?).getD 0 = _
    rw [preSum_ns ns n (by omega), List.getElem?_eq_getElem (by omega), List.take_succ_eq_append_getElem (by omega), List.sum_append]
    simp
/-- sum of a dict's values -/
def rSumV (X : Cx) : List V → Hp → VK → Prop := fun vs H Q => ∃ p a kvs ns, vs = [.ref p] ∧ H p = some (vvO p a) ∧ DR X (.ref a) H kvs ∧ intsD (kvs.map (·.2)) = some ns ∧ Q (.int ns.sum) H
theorem cr_sumV (hw : X.w = Wd.w) (cal : X.calm = true) : CallR X (.builtin "sum") (rSumV X) := by
  intro pins s σ H vs us Q I r ⟨p, a, kvs, ns, e, hp, ⟨d, h, S, r1, e1⟩, hn, q⟩
  subst e
  rw [Vals.ref1 r]
  obtain ⟨a', es, xs, ea, _, A⟩ := dn_at hw I S r1 e1 (u := .ref a) rfl
  cases ea
  obtain ⟨ds, ep, hr, he⟩ := A.raw.dict
  have sz := ds_size he A.re
  have vv : s.heap.IsValuesView p a := (I.hok p _ hp).1
  have vi := Reps.ints hn A.rv
  have Ks := KdlSrc.rawValues (prog := X.prog) (w := X.w) (r := p) (d := a) (es := ds) (ep := ep)
  refine call_sum_walkAnyS ?_
  obtain ⟨oI, St, hit, W, st⟩ := Ks.iter X.A.in1 s (show X.A.in1.handled = none from I.ok.hd cal) ⟨vv, hr⟩
  refine hit _ _ ⟨s.heap.objs.size, _, _, _, ds.size, _, _, (fun i => (ns[i]?).getD 0), rfl, W.toS, st, fun b hb => ?_, fun i v hv => ?_, fun s' t' hm => ?_⟩
  · show b < (s.heap.push oI).objs.size
    rw [size_push']
    rcases List.mem_cons.1 hb with e | hb
    · rw [e]; exact Nat.lt_succ_self _
    · rw [List.mem_singleton.1 hb]; exact Nat.lt_succ_of_lt (Ks.there _ ⟨vv, hr⟩).2
  · obtain ⟨hi, e⟩ := hv
    obtain ⟨e', g1, _, g2⟩ := ent_key he A.re hi
    have : (es.map (·.2.2))[i]? = some e'.2.2 := by rw [List.getElem?_map, g1]; rfl
    rw [vi, List.getElem?_map] at this
    obtain ⟨z, g3, g4⟩ := Option.map_eq_some_iff.1 this
    rw [← g4] at g2
    obtain ⟨t, g5⟩ := g2
    exact ⟨t, by rw [e, g5]; show Value.int z t = Value.int ((ns[i]?).getD 0) t; rw [g3]; rfl⟩
  · have hk : ∀ b o, s.heap.get? b = some o → s'.heap.get? b = some o := fun b o e =>
      hm.heap b o (fun hI => absurd (Heap.lt_size e) (by rw [List.mem_singleton.1 hI]; exact Nat.lt_irrefl _)) (Heap.get?_push_of_some _ e)
    have nl : ns.length = ds.size := by rw [← sz]; have := congrArg List.length vi; simpa using this.symm
    rw [Moved.eq_with hm, ← nl, preSum_ns ns ns.length (Nat.le_refl _), List.take_length]
    exact ⟨.int _, H, I.kept (t' := s'.toks) hk, ⟨_, rfl⟩, q⟩
end
end Lt

set_option maxHeartbeats 4000000
namespace LtK
open PySem PySem.Spec PyProof.Rows L2 PySem.W
section
variable {prog : Program} {w : World} {A : Around} {E : Value → Shared → Prop} {s : Shared}
/-- a dict beside an empty one -/
theorem same_empty {nm : String} {a b : Addr} {xs : List Ent} {Q : Bool → Shared → Prop} (ha : (a == sysModules) = false) (hb : (b == sysModules) = false) (ra : Raw w s.heap a xs) (rb : Raw w s.heap b []) (h : Q xs.isEmpty s) :
    wpAny (model prog w) A (Builtin.Dict.samePairs nm a b) Q E s := by
  obtain ⟨oa, es, ep, hoa, _, hda, hka, _⟩ := ra
  obtain ⟨ob, es', ep', hob, _, hdb, hkb, _⟩ := rb
  have z1 : es.size = xs.length := by rw [← Array.length_toList, hka, List.length_map]
  have z2 : es'.size = 0 := by rw [← Array.length_toList, hkb]; rfl
  unfold Builtin.Dict.samePairs Builtin.Dict.showsAll
  rw [if_neg (show ¬ (a == sysModules) = true by rw [ha]; exact Bool.false_ne_true), if_neg (show ¬ (b == sysModules) = true by rw [hb]; exact Bool.false_ne_true)]
  refine wpAny_bind (wpAny_pure (wpAny_bind (wpAny_pure ?_)))
  refine wpAny_bind (wpAny_dictEntries hoa hda ?_)
  dsimp only
  refine wpAny_bind (wpAny_dictEntries hob hdb ?_)
  cases xs with
  | cons x xs =>
    rw [if_pos (by rw [z1, z2]; simp)]
    exact wpAny_bind (wpAny_rule (wpAny_pure h))
  | nil =>
    rw [z1, z2, if_neg (by simp)]
    refine wpAny_bind (wpAny_dictEpoch hoa hda ?_)
    refine wpAny_bind ?_
    rw [Std.Legacy.Range.forIn_eq_forIn_range']
    simp only [Std.Legacy.Range.size, List.length_nil, Nat.sub_zero, Nat.add_sub_cancel, Nat.div_one, List.range'_zero, List.forIn_nil]
    exact wpAny_pure (wpAny_pure h)
theorem eq_empty {a b : Addr} {xs : List Ent} {Q : Value → Shared → Prop} (ha : (a == sysModules) = false) (hb : (b == sysModules) = false) (ra : Raw w s.heap a xs) (rb : Raw w s.heap b []) (hu : A.units < cLine) (h : Q (.bool xs.isEmpty) s) :
    wpAny (model prog w) A (richCompare .Eq (.ref a) (.ref b)) Q E s := by
  refine wpAny_richCompare_same_room (op := .Eq) ra.ty rb.ty PySem.F.slot_dict_eq (wpAny_call_entry PySem.F.slot_dict_eq ra.ty PySem.F.entry_dict_eq ?_ (PySem.F.args_dict_eq_2 _ _)) hu
  show wpAny _ _ (Builtin.Dict.dictSlotArgs "__eq__" ⟨[.ref a, .ref b], []⟩ >>= _) _ _ s
  refine wpAny_bind ?_
  unfold Builtin.Dict.dictSlotArgs
  refine wpAny_bind (wpAny_notOrdered_dict ra.ty ?_)
  show wpAny _ _ (pure (Value.ref a, Value.ref b)) _ _ s
  refine wpAny_pure ?_
  refine wpAny_bind (wpAny_isInstance (T := "dict") rb.ty PySem.F.sub_dict_dict ?_)
  simp only [Bool.not_true, Bool.false_eq_true, if_false]
  refine wpAny_bind (wpAny_pure (wpAny_bind (wpAny_pure ?_)))
  refine wpAny_bind (same_empty ha hb ra rb ?_)
  refine wpAny_pure ⟨_, rfl, (fun x => nomatch x), ?_⟩
  cases hx : xs.isEmpty <;> (rw [hx] at h; exact h)
theorem ne_empty {a b : Addr} {xs : List Ent} {Q : Value → Shared → Prop} (ha : (a == sysModules) = false) (hb : (b == sysModules) = false) (ra : Raw w s.heap a xs) (rb : Raw w s.heap b []) (hu : A.units < cLine) (h : Q (.bool (!xs.isEmpty)) s) :
    wpAny (model prog w) A (richCompare .NotEq (.ref a) (.ref b)) Q E s := by
  refine wpAny_richCompare_same_room (op := .NotEq) ra.ty rb.ty PySem.F.slot_dict_ne (wpAny_call_entry PySem.F.slot_dict_ne ra.ty PySem.F.entry_dict_ne ?_ (PySem.F.args_dict_ne_2 _ _)) hu
  show wpAny _ _ (Builtin.Dict.dictSlotArgs "__ne__" ⟨[.ref a, .ref b], []⟩ >>= _) _ _ s
  refine wpAny_bind ?_
  unfold Builtin.Dict.dictSlotArgs
  refine wpAny_bind (wpAny_notOrdered_dict ra.ty ?_)
  show wpAny _ _ (pure (Value.ref a, Value.ref b)) _ _ s
  refine wpAny_pure ?_
  refine wpAny_bind (wpAny_isInstance (T := "dict") rb.ty PySem.F.sub_dict_dict ?_)
  simp only [Bool.not_true, Bool.false_eq_true, if_false]
  refine wpAny_bind (wpAny_pure (wpAny_bind (wpAny_pure ?_)))
  refine wpAny_bind (same_empty ha hb ra rb ?_)
  refine wpAny_pure ⟨_, rfl, (fun x => nomatch x), ?_⟩
  cases hx : xs.isEmpty <;> (rw [hx] at h; exact h)
end
end LtK
namespace Lt
open PySem PySem.Spec PyProof.Rows L2
variable [Wd]
section
variable {X : Cx} {pins : List (Addr × Obj)} {σ : L2.St} {H : Hp} {s : Shared}
theorem dn_eq (hw : X.w = Wd.w) (hu : X.A.units + 65 < cLine) (I : Inv X pins σ H s) {h : Hh} (S : Sim X.K H h) {d e : D} {x y : V} {v u : Value} {kvs : List (NestedKey × D)} {Q : VK}
    (r1 : Rep X.K H d x) (rx : RelV x v) (r2 : Rep X.K H e y) (ry : RelV y u) (e1 : rdN h d = some kvs) (e2 : rdN h e = some []) (q : Q (.bl kvs.isEmpty) H) : wpAny (model X.prog X.w) X.A (compareOp .Eq v u) (EP X pins σ Q) X.xe s := by
  obtain ⟨a, es, xs, rfl, rfl, A⟩ := dn_at hw I S r1 e1 rx
  obtain ⟨b, fs, ys, rfl, rfl, B⟩ := dn_at hw I S r2 e2 ry
  have yn : ys = [] := by
    have h1 := LtK.RE.len B.re
    have h2 := congrArg List.length B.ek
    rw [List.length_map] at h2
    exact List.eq_nil_of_length_eq_zero (by rw [← h1, h2]; rfl)
  subst yn
  have xn : xs.isEmpty = kvs.isEmpty := by
    have h1 := LtK.RE.len A.re
    have h2 := congrArg List.length A.ek
    rw [List.length_map, List.length_map] at h2
    have h3 : xs.length = kvs.length := by rw [← h1, h2]
    clear h1 h2 e1 e2 r1 r2 q A B
    cases xs <;> cases kvs <;> first | rfl | (simp at h3)
  show wpAny _ _ (richCompare .Eq (.ref a) (.ref b)) _ _ s
  exact LtK.eq_empty A.lo B.lo A.raw B.raw (by omega) ⟨.bl _, H, I, rfl, by rw [xn]; exact q⟩
theorem dn_ne (hw : X.w = Wd.w) (hu : X.A.units + 65 < cLine) (I : Inv X pins σ H s) {h : Hh} (S : Sim X.K H h) {d e : D} {x y : V} {v u : Value} {kvs : List (NestedKey × D)} {Q : VK}
    (r1 : Rep X.K H d x) (rx : RelV x v) (r2 : Rep X.K H e y) (ry : RelV y u) (e1 : rdN h d = some kvs) (e2 : rdN h e = some []) (q : Q (.bl (!kvs.isEmpty)) H) : wpAny (model X.prog X.w) X.A (compareOp .NotEq v u) (EP X pins σ Q) X.xe s := by
  obtain ⟨a, es, xs, rfl, rfl, A⟩ := dn_at hw I S r1 e1 rx
  obtain ⟨b, fs, ys, rfl, rfl, B⟩ := dn_at hw I S r2 e2 ry
  have yn : ys = [] := by
    have h1 := LtK.RE.len B.re
    have h2 := congrArg List.length B.ek
    rw [List.length_map] at h2
    exact List.eq_nil_of_length_eq_zero (by rw [← h1, h2]; rfl)
  subst yn
  have xn : xs.isEmpty = kvs.isEmpty := by
    have h1 := LtK.RE.len A.re
    have h2 := congrArg List.length A.ek
    rw [List.length_map, List.length_map] at h2
    have h3 : xs.length = kvs.length := by rw [← h1, h2]
    clear h1 h2 e1 e2 r1 r2 q A B
    cases xs <;> cases kvs <;> first | rfl | (simp at h3)
  show wpAny _ _ (richCompare .NotEq (.ref a) (.ref b)) _ _ s
  exact LtK.ne_empty A.lo B.lo A.raw B.raw (by omega) ⟨.bl _, H, I, rfl, by rw [xn]; exact q⟩
end
end Lt

set_option maxHeartbeats 4000000
namespace Lt
open PySem PySem.Spec PyProof.Rows L2
variable [Wd]
section
variable {X : Cx}
theorem un_negR : UnR X (unaryOp .USub) (r1 X.K negW) := by
  intro pins s σ H x v Q I rx hh
  obtain ⟨d, h, R, S, r1, w, l⟩ := hh
  cases d <;> first
    | (simp only [negW] at w; done)
    | (simp only [negW] at w
       rw [rep_int] at r1; subst r1
       exact un_neg pins s σ H _ v Q I rx ⟨_, rfl, l.same S (rep_int.2 rfl) w⟩)

theorem eqW_eq {d e : D} {h : Hh} {K : Bool → Prop} {H : Hp} {x y : V} {Kf : PySem.W.Frag} (S : Sim Kf H h) (r1 : Rep Kf H d x) (r2 : Rep Kf H e y) (w : ∃ a b, IsP h d a ∧ IsP h e b ∧ SeqAt.shaped a = true ∧ SeqAt.shaped b = true ∧ K (PyData.eqv a b)) :
    ∃ a b, Dp Kf H x a ∧ Dp Kf H y b ∧ SeqAt.shaped a = true ∧ SeqAt.shaped b = true ∧ K (PyData.eqv a b) := by
  obtain ⟨a, b, h1, h2, h3, h4, k⟩ := w
  exact ⟨a, b, h1.dp S _ r1, h2.dp S _ r2, h3, h4, k⟩
theorem flat_rep {K : PySem.W.Frag} {H : Hp} {d : D} {x : V} (r : Rep K H d x) (f : flatD d = true) : flatV x = true := by
  cases d <;> first
    | (rw [rep_non] at r; subst r; rfl)
    | (rw [rep_bl] at r; subst r; rfl)
    | (rw [rep_int] at r; subst r; rfl)
    | (rw [rep_str] at r; subst r; rfl)
    | exact absurd f Bool.false_ne_true
theorem flat_eq {K : PySem.W.Frag} {H : Hp} {d e : D} {x y : V} (r : Rep K H d x) (q : Rep K H e y) (f : flatD d = true) (g : flatD e = true) : eqD d e = eqV x y := by
  cases d <;> cases e <;> first
    | exact absurd f Bool.false_ne_true
    | exact absurd g Bool.false_ne_true
    | (simp only [rep_non, rep_bl, rep_int, rep_str] at r q; subst r q; rfl)
theorem flat_all {K : PySem.W.Frag} {H : Hp} : ∀ {ds : List D} {vs : List V}, Reps K H ds vs → ds.all flatD = true → vs.all flatV = true
  | [], _, h, _ => by rw [h.nil_inv]; rfl
  | d :: ds, _, h, f => by
    obtain ⟨v, r, rfl, h1, h2⟩ := h.cons_inv
    rw [List.all_cons, Bool.and_eq_true] at f ⊢
    exact ⟨flat_rep h1 f.1, flat_all h2 f.2⟩
theorem flat_in {K : PySem.W.Frag} {H : Hp} {d : D} {x : V} (r : Rep K H d x) (f : flatD d = true) : ∀ {ds : List D} {vs : List V}, Reps K H ds vs → ds.all flatD = true → inD d ds = inV x vs
  | [], _, h, _ => by rw [h.nil_inv]; rfl
  | e :: ds, _, h, g => by
    obtain ⟨v, w, rfl, h1, h2⟩ := h.cons_inv
    rw [List.all_cons, Bool.and_eq_true] at g
    have ih := flat_in r f h2 g.2
    unfold inD inV at ih ⊢
    rw [List.any_cons, List.any_cons, flat_eq h1 r g.1 f, ih]

def coOf : Co → CmpOp
  | .eq => .Eq | .ne => .NotEq | .lt => .Lt | .le => .LtE | .gt => .Gt | .ge => .GtE | .isin => .In | .notin => .NotIn
theorem shaped_int (i : Int) : SeqAt.shaped (.int i) = true := by
  simp [SeqAt.shaped, PyData.canLay0, PyData.depth]
theorem opR_eq (hw : X.w = Wd.w) (hu : X.A.units + 65 < cLine) : OpR X (compareOp .Eq) (r2 X.K (cmW .eq)) := by
  intro pins s σ H x y v u Q I rx ry hh
  obtain ⟨d, e, h, R, S, r1, r2, w, l⟩ := hh
  have gen : eqW d e h (fun b => R (.bl b) h) → wpAny (model X.prog X.w) X.A (compareOp .Eq v u) (EP X pins σ Q) X.xe s := fun w => by
    rcases w with w | ⟨kx, e1, e2, w⟩
    case inr => exact dn_eq hw hu I S r1 rx r2 ry e1 e2 (l.same S (rep_bl.2 rfl) w)
    obtain ⟨a, b, h1, h2, h3, h4, k⟩ := eqW_eq (K := fun b => R (.bl b) h) S r1 r2 w
    exact op_eqD (by omega) pins s σ H x y v u Q I rx ry ⟨a, b, h1, h2, h3, h4, l.same S (rep_bl.2 rfl) k⟩
  cases d <;> cases e <;> first
    | (simp only [cmW] at w; exact gen w)
    | (simp only [cmW] at w
       refine gen (.inl ⟨.int _, .int _, by unfold IsP; rfl, by unfold IsP; rfl, shaped_int _, shaped_int _, ?_⟩)
       show R (.bl (_ == _)) h
       rw [Bool.beq_eq_decide_eq]; exact w)
    | (simp only [cmW] at w
       rw [rep_str] at r1 r2; subst r1 r2
       refine op_eq pins s σ H _ _ v u Q I rx ry ⟨rfl, l.same S (rep_bl.2 rfl) ?_⟩
       simpa using w)
theorem opR_ne (hw : X.w = Wd.w) (hu : X.A.units + 65 < cLine) : OpR X (compareOp .NotEq) (r2 X.K (cmW .ne)) := by
  intro pins s σ H x y v u Q I rx ry hh
  obtain ⟨d, e, h, R, S, r1, r2, w, l⟩ := hh
  have gen : eqW d e h (fun b => R (.bl (!b)) h) → wpAny (model X.prog X.w) X.A (compareOp .NotEq v u) (EP X pins σ Q) X.xe s := fun w => by
    rcases w with w | ⟨kx, e1, e2, w⟩
    case inr => exact dn_ne hw hu I S r1 rx r2 ry e1 e2 (l.same S (rep_bl.2 rfl) w)
    obtain ⟨a, b, h1, h2, h3, h4, k⟩ := eqW_eq (K := fun b => R (.bl (!b)) h) S r1 r2 w
    exact op_neD (by omega) pins s σ H x y v u Q I rx ry ⟨a, b, h1, h2, h3, h4, l.same S (rep_bl.2 rfl) k⟩
  cases d <;> cases e <;> first
    | (simp only [cmW] at w; exact gen w)
    | (simp only [cmW] at w
       refine gen (.inl ⟨.int _, .int _, by unfold IsP; rfl, by unfold IsP; rfl, shaped_int _, shaped_int _, ?_⟩)
       show R (.bl (!(_ == _))) h
       rw [Bool.beq_eq_decide_eq]; exact w)
    | (simp only [cmW] at w
       rw [rep_str] at r1 r2; subst r1 r2
       refine op_ne pins s σ H _ _ v u Q I rx ry ⟨rfl, l.same S (rep_bl.2 rfl) ?_⟩
       simpa using w)
theorem opR_ord (o : Co) (ho : o = .lt ∨ o = .le ∨ o = .gt ∨ o = .ge) : OpR X (compareOp (coOf o)) (r2 X.K (cmW o)) := by
  intro pins s σ H x y v u Q I rx ry hh
  obtain ⟨d, e, h, R, S, r1, r2, w, l⟩ := hh
  rcases ho with rfl | rfl | rfl | rfl <;> cases d <;> cases e <;> first
    | (simp only [cmW] at w; done)
    | (simp only [cmW] at w
       rw [rep_int] at r1 r2; subst r1 r2
       first
        | exact op_lt pins s σ H _ _ v u Q I rx ry ⟨_, _, rfl, rfl, l.same S (rep_bl.2 rfl) w⟩
        | exact op_le pins s σ H _ _ v u Q I rx ry ⟨_, _, rfl, rfl, l.same S (rep_bl.2 rfl) w⟩
        | exact op_gt pins s σ H _ _ v u Q I rx ry ⟨_, _, rfl, rfl, l.same S (rep_bl.2 rfl) w⟩
        | exact op_ge pins s σ H _ _ v u Q I rx ry ⟨_, _, rfl, rfl, l.same S (rep_bl.2 rfl) w⟩)
theorem opR_in (hw : X.w = Wd.w) (hu : X.A.units + 65 < cLine) : OpR X (compareOp .In) (r2 X.K (cmW .isin)) := by
  intro pins s σ H x y v u Q I rx ry hh
  obtain ⟨d, e, h, R, S, r1, r2, w, l⟩ := hh
  have w : inW d e h fun b => R (.bl b) h := by cases d <;> cases e <;> (simp only [cmW] at w; exact w)
  cases e with
  | tup xs =>
    obtain ⟨f1, f2, k⟩ := w
    rw [rep_tup] at r2
    obtain ⟨a, vs, rfl, t, r⟩ := r2
    exact op_in_seq pins s σ H _ _ v u Q I rx ry ⟨a, vs, rfl, .inr t.sq, flat_rep r1 f1, flat_all r f2, by rw [← flat_in r1 f1 r f2]; exact l.same S (rep_bl.2 rfl) k⟩
  | ref a =>
    cases wz : rdL h a with
    | some _ =>
      simp only [inW, wz, sel_some] at w
      obtain ⟨a, b, h1, h2, h3, h4, k⟩ := w
      exact op_inD hu pins s σ H _ _ v u Q I rx ry ⟨a, b, h1.dp S _ r1, h2.dp S _ r2, h3, h4, l.same S (rep_bl.2 rfl) k⟩
    | none =>
      simp only [inW, wz, sel_none] at w
      obtain ⟨kvs, wz, w⟩ := optW_iff.1 w
      obtain ⟨k, k1, w⟩ := optW_iff.1 w
      exact dn_in hw hu I S r1 rx r2 ry (show rdN h (.ref a) = some kvs from wz) k1 (l.same S (rep_bl.2 rfl) w)
  | dct ks vs =>
    obtain ⟨k, k1, w⟩ := optW_iff.1 (show optW (keyT d) fun k => R (.bl (lkp (ks.zip vs) k).isSome) h from w)
    exact dn_in hw hu I S r1 rx r2 ry rfl k1 (l.same S (rep_bl.2 rfl) w)
  | lst a =>
    obtain ⟨a, b, h1, h2, h3, h4, k⟩ := w
    exact op_inD hu pins s σ H _ _ v u Q I rx ry ⟨a, b, h1.dp S _ r1, h2.dp S _ r2, h3, h4, l.same S (rep_bl.2 rfl) k⟩
  | str z =>
    cases d with
    | str w' =>
      obtain ⟨c, rfl, k⟩ := w
      rw [rep_str] at r1 r2; subst r1 r2
      exact op_in_sign pins s σ H _ _ v u Q I rx ry ⟨c, z, rfl, rfl, l.same S (rep_bl.2 rfl) k⟩
    | non => exact w.elim
    | bl _ => exact w.elim
    | int _ => exact w.elim
    | tup _ => exact w.elim
    | lst _ => exact w.elim
    | ref _ => exact w.elim
    | dct _ _ => exact w.elim
  | non => exact w.elim
  | bl _ => exact w.elim
  | int _ => exact w.elim
theorem opR_notin (hw : X.w = Wd.w) (hu : X.A.units + 65 < cLine) : OpR X (compareOp .NotIn) (r2 X.K (cmW .notin)) := by
  intro pins s σ H x y v u Q I rx ry hh
  obtain ⟨d, e, h, R, S, r1, r2, w, l⟩ := hh
  have w : inW d e h fun b => R (.bl (!b)) h := by cases d <;> cases e <;> (simp only [cmW] at w; exact w)
  cases e with
  | tup xs =>
    obtain ⟨f1, f2, k⟩ := w
    rw [rep_tup] at r2
    obtain ⟨a, vs, rfl, t, r⟩ := r2
    refine op_notIn_seq pins s σ H _ _ v u Q I rx ry ⟨a, vs, rfl, .inr t.sq, flat_rep r1 f1, flat_all r f2, ?_⟩
    rw [← flat_in r1 f1 r f2]; exact l.same S (rep_bl.2 rfl) k
  | ref a =>
    cases wz : rdL h a with
    | some _ =>
      simp only [inW, wz, sel_some] at w
      obtain ⟨a, b, h1, h2, h3, h4, k⟩ := w
      exact op_notInD hu pins s σ H _ _ v u Q I rx ry ⟨a, b, h1.dp S _ r1, h2.dp S _ r2, h3, h4, l.same S (rep_bl.2 rfl) k⟩
    | none =>
      simp only [inW, wz, sel_none] at w
      obtain ⟨kvs, wz, w⟩ := optW_iff.1 w
      obtain ⟨k, k1, w⟩ := optW_iff.1 w
      exact dn_notin hw hu I S r1 rx r2 ry (show rdN h (.ref a) = some kvs from wz) k1 (l.same S (rep_bl.2 rfl) w)
  | dct ks vs =>
    obtain ⟨k, k1, w⟩ := optW_iff.1 (show optW (keyT d) fun k => R (.bl (!(lkp (ks.zip vs) k).isSome)) h from w)
    exact dn_notin hw hu I S r1 rx r2 ry rfl k1 (l.same S (rep_bl.2 rfl) w)
  | lst a =>
    obtain ⟨a, b, h1, h2, h3, h4, k⟩ := w
    exact op_notInD hu pins s σ H _ _ v u Q I rx ry ⟨a, b, h1.dp S _ r1, h2.dp S _ r2, h3, h4, l.same S (rep_bl.2 rfl) k⟩
  | str z =>
    cases d with
    | str w' =>
      obtain ⟨c, rfl, k⟩ := w
      rw [rep_str] at r1 r2; subst r1 r2
      exact op_notIn_sign pins s σ H _ _ v u Q I rx ry ⟨c, z, rfl, rfl, l.same S (rep_bl.2 rfl) k⟩
    | non => exact w.elim
    | bl _ => exact w.elim
    | int _ => exact w.elim
    | tup _ => exact w.elim
    | lst _ => exact w.elim
    | ref _ => exact w.elim
    | dct _ _ => exact w.elim
  | non => exact w.elim
  | bl _ => exact w.elim
  | int _ => exact w.elim
theorem opR_cm (hw : X.w = Wd.w) (hu : X.A.units + 65 < cLine) (o : Co) : OpR X (compareOp (coOf o)) (r2 X.K (cmW o)) := by
  cases o with
  | eq => exact opR_eq hw hu
  | ne => exact opR_ne hw hu
  | isin => exact opR_in hw hu
  | notin => exact opR_notin hw hu
  | lt => exact opR_ord .lt (.inl rfl)
  | le => exact opR_ord .le (.inr (.inl rfl))
  | gt => exact opR_ord .gt (.inr (.inr (.inl rfl)))
  | ge => exact opR_ord .ge (.inr (.inr (.inr rfl)))

/-! ### subscripts -/
theorem ixR_ (hw : X.w = Wd.w) (hu : X.A.units + 65 < cLine) : IxR X (r2 X.K ixW) := by
  intro value slice pins s σ H x y v u Q I rx ry hh hs
  obtain ⟨d, e, h, R, S, r1, r2, w, l⟩ := hh
  cases d with
  | dct ks vs =>
    obtain ⟨k, k1, w⟩ := optW_iff.1 (show optW (keyT e) fun k => optW (lkp (ks.zip vs) k) fun v => R v h by cases e <;> exact w)
    obtain ⟨d', k2, w⟩ := optW_iff.1 w
    exact dn_ix hw hu I S r1 rx r2 ry rfl k1 k2 (fun z rz => l.same S rz w) hs
  | ref a =>
    have w : selW (rdL h a) (fun xs => intW e fun i => optW (atI xs i) fun v => R v h) (optW (wrN h a) fun kvs => optW (keyT e) fun k => optW (lkp kvs k) fun v => R v h) := by cases e <;> exact w
    cases e0 : rdL h a with
    | none =>
      rw [e0, sel_none] at w
      obtain ⟨kvs, wz, w⟩ := optW_iff.1 w
      obtain ⟨k, k1, w⟩ := optW_iff.1 w
      obtain ⟨d', k2, w⟩ := optW_iff.1 w
      exact dn_ix hw hu I S r1 rx r2 ry (show rdN h (.ref a) = some kvs from wz) k1 k2 (fun z rz => l.same S rz w) hs
    | some xs =>
      rw [e0, sel_some] at w
      cases e with
      | int i =>
        have w : optW (atI xs i) fun v => R v h := w
        rw [rep_ref] at r1; rw [rep_int] at r2; subst r1 r2
        rw [optW_iff] at w
        obtain ⟨d, e, w⟩ := w
        obtain ⟨vs, h1, r⟩ := S.rd e0
        obtain ⟨v2, e2, rv⟩ := r.at e
        exact ix_list value slice pins s σ H _ _ v u Q I rx ry ⟨_, vs, _, v2, rfl, rfl, .inl h1, e2, l.same S rv w⟩ hs
      | _ => exact w.elim
  | tup xs =>
    cases e with
    | int i =>
      simp only [ixW] at w
      rw [rep_tup] at r1; rw [rep_int] at r2; subst r2
      obtain ⟨a, vs, rfl, t, r⟩ := r1
      rw [optW_iff] at w
      obtain ⟨d, e, w⟩ := w
      obtain ⟨v2, e2, rv⟩ := r.at e
      exact ix_tup value slice pins s σ H _ _ v u Q I rx ry ⟨a, vs, _, v2, rfl, rfl, t.sq, e2, l.same S rv w⟩ hs
    | _ => exact w.elim
  | lst xs =>
    cases e with
    | int i =>
      simp only [ixW] at w
      rw [rep_lst] at r1; rw [rep_int] at r2; subst r2
      obtain ⟨a, vs, rfl, t, r⟩ := r1
      rw [optW_iff] at w
      obtain ⟨d, e, w⟩ := w
      obtain ⟨v2, e2, rv⟩ := r.at e
      exact ix_list value slice pins s σ H _ _ v u Q I rx ry ⟨a, vs, _, v2, rfl, rfl, t.sq, e2, l.same S rv w⟩ hs
    | _ => exact w.elim
  | str z =>
    cases e with
    | int i =>
      simp only [ixW] at w
      rw [rep_str] at r1; rw [rep_int] at r2; subst r1 r2
      rw [optW_iff] at w
      obtain ⟨hz, d, e, w⟩ := w
      exact ix_str value slice pins s σ H _ _ v u Q I rx ry ⟨_, _, d, rfl, rfl, hz, e, l.same S (rep_str.2 rfl) w⟩ hs
    | _ => exact w.elim
  | _ => exact w.elim
def rsl (K : PySem.W.Frag) : V → Option Int → Option Int → Hp → VK → Prop := fun x lo hi H Q => ∃ d h R, Sim K H h ∧ Rep K H d x ∧ slW d lo hi h R ∧ LkV K H R Q
theorem cutD_whole (xs : List D) (lo hi : Option Int) (h : HT.sIx xs.length 0 lo = 0 ∧ HT.sIx xs.length xs.length hi = xs.length) : cutD xs lo hi = xs := by
  unfold cutD
  rw [h.1, h.2]
  simp
theorem slR_ : SlR X (rsl X.K) := by
  intro pins s σ H x v vl vu lo hi sl Q I rx hs pl pu hh
  obtain ⟨d, h, R, S, r1, w, l⟩ := hh
  cases d with
  | non => exact w.elim
  | bl _ => exact w.elim
  | int _ => exact w.elim
  | dct _ _ => exact w.elim
  | tup xs =>
    have r1' := r1
    rw [rep_tup] at r1
    obtain ⟨a, vs, rfl, t, r⟩ := r1
    refine sl_tupA pins s σ H _ v vl vu lo hi sl Q I rx hs pl pu ⟨a, vs, rfl, t.sq, fun e => ?_, fun _ => l.tup S (r.cut lo hi) w⟩
    rw [← r.length] at e
    have w' : R (.tup (cutD xs lo hi)) h := w
    rw [cutD_whole _ _ _ e] at w'
    exact l.same S r1' w'
  | lst xs =>
    rw [rep_lst] at r1
    obtain ⟨a, vs, rfl, t, r⟩ := r1
    exact sl_list pins s σ H _ v vl vu lo hi sl Q I rx hs pl pu ⟨a, vs, rfl, t.sq, l.new S (r.cut lo hi) w⟩
  | ref a =>
    rw [rep_ref] at r1; subst r1
    have w' : optW (rdL h a) fun xs => ∀ p, h p = none → R (.ref p) (up h p (.lst (cutD xs lo hi))) := w
    rw [optW_iff] at w'
    obtain ⟨xs, e0, w'⟩ := w'
    obtain ⟨vs, h1, r⟩ := S.rd e0
    exact sl_list pins s σ H _ v vl vu lo hi sl Q I rx hs pl pu ⟨a, vs, rfl, .inl h1, l.new S (r.cut lo hi) w'⟩
  | str z =>
    rw [rep_str] at r1; subst r1
    exact sl_str pins s σ H _ v vl vu lo hi sl Q I rx hs pl pu ⟨z, rfl, w.1, l.same S (rep_str.2 rfl) w.2⟩

/-! ### built-ins -/
theorem reps1 {K : PySem.W.Frag} {H : Hp} {d : D} {vs : List V} (r : Reps K H [d] vs) : ∃ v, vs = [v] ∧ Rep K H d v := by
  obtain ⟨v, w, rfl, h1, h2⟩ := r.cons_inv
  rw [h2.nil_inv]; exact ⟨v, rfl, h1⟩
theorem reps2 {K : PySem.W.Frag} {H : Hp} {d e : D} {vs : List V} (r : Reps K H [d, e] vs) : ∃ v w, vs = [v, w] ∧ Rep K H d v ∧ Rep K H e w := by
  obtain ⟨v, w, rfl, h1, h2⟩ := r.cons_inv
  obtain ⟨u, rfl, h3⟩ := reps1 h2
  exact ⟨v, u, rfl, h1, h3⟩
theorem cr_len (hw : X.w = Wd.w) : CallR X (.builtin "len") (rs X.K (biW .len)) := by
  intro pins s σ H xs us Q I r hh
  obtain ⟨ds, h, R, S, rd, w, l⟩ := hh
  match ds, w with
  | [.tup xs], w =>
    simp only [biW] at w
    obtain ⟨v, rfl, r1⟩ := reps1 rd
    rw [rep_tup] at r1
    obtain ⟨a, vs, rfl, t, rr⟩ := r1
    exact call_len_seq pins s σ H _ us Q I r ⟨a, vs, rfl, .inr t.sq, by rw [← rr.length]; exact l.same S (rep_int.2 rfl) w⟩
  | [.str x], w =>
    simp only [biW] at w
    obtain ⟨v, rfl, r1⟩ := reps1 rd
    rw [rep_str] at r1; subst r1
    exact call_len_str pins s σ H _ us Q I r ⟨_, rfl, w.1, l.same S (rep_int.2 rfl) w.2⟩
  | [.ref a], w =>
    simp only [biW] at w
    obtain ⟨v, rfl, r1⟩ := reps1 rd
    cases e0 : rdL h a with
    | none =>
      rw [e0, sel_none] at w
      obtain ⟨kvs, wz, w⟩ := optW_iff.1 w
      obtain ⟨u, rfl, ru⟩ := vals1 r
      exact dn_len hw I S r1 ru (show rdN h (.ref a) = some kvs from wz) (l.same S (rep_int.2 rfl) w)
    | some xs =>
      rw [e0, sel_some] at w
      rw [rep_ref] at r1; subst r1
      obtain ⟨vs, h1, rr⟩ := S.rd e0
      exact call_len_seq pins s σ H _ us Q I r ⟨a, vs, rfl, .inl (.inl h1), by rw [← rr.length]; exact l.same S (rep_int.2 rfl) w⟩
  | [.dct ks vs], w =>
    simp only [biW] at w
    obtain ⟨v, rfl, r1⟩ := reps1 rd
    obtain ⟨u, rfl, ru⟩ := vals1 r
    exact dn_len hw I S r1 ru rfl (l.same S (rep_int.2 rfl) w)
  | [.lst xs], w =>
    simp only [biW] at w
    obtain ⟨v, rfl, r1⟩ := reps1 rd
    obtain ⟨a, vs, rfl, t, rr⟩ := lsL r1
    exact call_len_seq pins s σ H _ us Q I r ⟨a, vs, rfl, .inl t, by rw [← rr.length]; exact l.same S (rep_int.2 rfl) w⟩
theorem cr_abs : CallR X (.builtin "abs") (rs X.K (biW .abs)) := by
  intro pins s σ H xs us Q I r hh
  obtain ⟨ds, h, R, S, rd, w, l⟩ := hh
  match ds, w with
  | [.int i], w =>
    simp only [biW] at w
    obtain ⟨v, rfl, r1⟩ := reps1 rd
    rw [rep_int] at r1; subst r1
    exact call_abs pins s σ H _ us Q I r ⟨i, rfl, l.same S (rep_int.2 rfl) w⟩
theorem cr_int1 : CallR X (.type "int") (rs X.K (biW .int1)) := by
  intro pins s σ H xs us Q I r hh
  obtain ⟨ds, h, R, S, rd, w, l⟩ := hh
  match ds, w with
  | [.int i], w =>
    simp only [biW] at w
    obtain ⟨v, rfl, r1⟩ := reps1 rd
    rw [rep_int] at r1; subst r1
    exact call_int1 pins s σ H _ us Q I r (.inl ⟨i, rfl, l.same S (rep_int.2 rfl) w⟩)
  | [.bl b], w =>
    simp only [biW] at w
    obtain ⟨v, rfl, r1⟩ := reps1 rd
    rw [rep_bl] at r1; subst r1
    exact call_int1 pins s σ H _ us Q I r (.inr ⟨b, rfl, l.same S (rep_int.2 rfl) w⟩)
theorem cr_min2 (hc : X.calm = true) : CallR X (.builtin "min") (rs X.K (biW .min2)) := by
  intro pins s σ H xs us Q I r hh
  obtain ⟨ds, h, R, S, rd, w, l⟩ := hh
  match ds, w with
  | [.int i, .int j], w =>
    simp only [biW] at w
    obtain ⟨v, v2, rfl, r1, r2⟩ := reps2 rd
    rw [rep_int] at r1 r2; subst r1 r2
    exact call_min2 hc pins s σ H _ us Q I r ⟨i, j, rfl, l.same S (rep_int.2 rfl) w⟩
theorem cr_max2 (hc : X.calm = true) : CallR X (.builtin "max") (rs X.K (biW .max2)) := by
  intro pins s σ H xs us Q I r hh
  obtain ⟨ds, h, R, S, rd, w, l⟩ := hh
  match ds, w with
  | [.int i, .int j], w =>
    simp only [biW] at w
    obtain ⟨v, v2, rfl, r1, r2⟩ := reps2 rd
    rw [rep_int] at r1 r2; subst r1 r2
    exact call_max2 hc pins s σ H _ us Q I r ⟨i, j, rfl, l.same S (rep_int.2 rfl) w⟩
theorem cr_sumR (hc : X.calm = true) : CallR X (.builtin "sum") (rs X.K (biW .sum)) := by
  intro pins s σ H xs us Q I r hh
  obtain ⟨ds, h, R, S, rd, w, l⟩ := hh
  match ds, w with
  | [.ref a], w =>
    simp only [biW] at w
    obtain ⟨v, rfl, r1⟩ := reps1 rd
    rw [rep_ref] at r1; subst r1
    rw [optW_iff] at w
    obtain ⟨xs, e0, w⟩ := w
    rw [optW_iff] at w
    obtain ⟨ns, e1, w⟩ := w
    obtain ⟨vs, h1, rr⟩ := S.rd e0
    have e2 := rr.ints e1
    subst e2
    exact cr_sum hc pins s σ H _ us Q I r ⟨a, ns, rfl, .inl h1, l.same S (rep_int.2 rfl) w⟩
  | [.lst xs], w =>
    simp only [biW] at w
    obtain ⟨v, rfl, r1⟩ := reps1 rd
    rw [optW_iff] at w
    obtain ⟨ns, e1, w⟩ := w
    obtain ⟨a, vs, rfl, t, rr⟩ := lsL r1
    have e2 := rr.ints e1
    subst e2
    exact cr_sum hc pins s σ H _ us Q I r ⟨a, ns, rfl, t, l.same S (rep_int.2 rfl) w⟩
  | [.tup xs], w =>
    simp only [biW] at w
    obtain ⟨v, rfl, r1⟩ := reps1 rd
    rw [optW_iff] at w
    obtain ⟨ns, e1, w⟩ := w
    unfold Rep at r1
    obtain ⟨a, vs, rfl, t, rr⟩ := r1
    have e2 := rr.ints e1
    subst e2
    exact LtR.call_sumT hc pins s σ H _ us Q I r ⟨a, ns, rfl, t.sq, l.same S (rep_int.2 rfl) w⟩
theorem cr_anyR (hc : X.calm = true) : CallR X (.builtin "any") (rs X.K (biW .any)) := by
  intro pins s σ H xs us Q I r hh
  obtain ⟨ds, h, R, S, rd, w, l⟩ := hh
  match ds, w with
  | [.ref a], w =>
    simp only [biW] at w
    obtain ⟨v, rfl, r1⟩ := reps1 rd
    rw [rep_ref] at r1; subst r1
    rw [optW_iff] at w
    obtain ⟨xs, e0, w⟩ := w
    rw [optW_iff] at w
    obtain ⟨ns, e1, w⟩ := w
    obtain ⟨vs, h1, rr⟩ := S.rd e0
    have e2 := rr.bls e1
    subst e2
    exact cr_any hc pins s σ H _ us Q I r ⟨a, ns, rfl, .inl h1, l.same S (rep_bl.2 rfl) w⟩
  | [.lst xs], w =>
    simp only [biW] at w
    obtain ⟨v, rfl, r1⟩ := reps1 rd
    rw [optW_iff] at w
    obtain ⟨ns, e1, w⟩ := w
    obtain ⟨a, vs, rfl, t, rr⟩ := lsL r1
    have e2 := rr.bls e1
    subst e2
    exact cr_any hc pins s σ H _ us Q I r ⟨a, ns, rfl, t, l.same S (rep_bl.2 rfl) w⟩
theorem cr_allR (hc : X.calm = true) : CallR X (.builtin "all") (rs X.K (biW .all)) := by
  intro pins s σ H xs us Q I r hh
  obtain ⟨ds, h, R, S, rd, w, l⟩ := hh
  match ds, w with
  | [.ref a], w =>
    simp only [biW] at w
    obtain ⟨v, rfl, r1⟩ := reps1 rd
    rw [rep_ref] at r1; subst r1
    rw [optW_iff] at w
    obtain ⟨xs, e0, w⟩ := w
    rw [optW_iff] at w
    obtain ⟨ns, e1, w⟩ := w
    obtain ⟨vs, h1, rr⟩ := S.rd e0
    have e2 := rr.bls e1
    subst e2
    exact cr_all hc pins s σ H _ us Q I r ⟨a, ns, rfl, .inl h1, l.same S (rep_bl.2 rfl) w⟩
  | [.lst xs], w =>
    simp only [biW] at w
    obtain ⟨v, rfl, r1⟩ := reps1 rd
    rw [optW_iff] at w
    obtain ⟨ns, e1, w⟩ := w
    obtain ⟨a, vs, rfl, t, rr⟩ := lsL r1
    have e2 := rr.bls e1
    subst e2
    exact cr_all hc pins s σ H _ us Q I r ⟨a, ns, rfl, t, l.same S (rep_bl.2 rfl) w⟩
theorem cr_list : CallR X (.type "list") (rs X.K (biW .list)) := by
  intro pins s σ H xs us Q I r hh
  obtain ⟨ds, h, R, S, rd, w, l⟩ := hh
  match ds, w with
  | [.ref a], w =>
    simp only [biW] at w
    obtain ⟨v, rfl, r1⟩ := reps1 rd
    rw [rep_ref] at r1; subst r1
    rw [optW_iff] at w
    obtain ⟨xs, e0, w⟩ := w
    obtain ⟨vs, h1, rr⟩ := S.rd e0
    exact call_list_of pins s σ H _ us Q I r ⟨a, vs, rfl, .inl (.inl h1), l.new S rr w⟩
  | [.lst xs], w =>
    simp only [biW] at w
    obtain ⟨v, rfl, r1⟩ := reps1 rd
    obtain ⟨a, vs, rfl, t, rr⟩ := lsL r1
    exact call_list_of pins s σ H _ us Q I r ⟨a, vs, rfl, .inl t, l.new S rr w⟩
  | [.tup xs], w =>
    simp only [biW] at w
    obtain ⟨v, rfl, r1⟩ := reps1 rd
    rw [rep_tup] at r1
    obtain ⟨a, vs, rfl, t, rr⟩ := r1
    exact call_list_of pins s σ H _ us Q I r ⟨a, vs, rfl, .inr t.sq, l.new S rr w⟩
theorem cr_tuple : CallR X (.type "tuple") (rs X.K (biW .tuple)) := by
  intro pins s σ H xs us Q I r hh
  obtain ⟨ds, h, R, S, rd, w, l⟩ := hh
  match ds, w with
  | [.ref a], w =>
    simp only [biW] at w
    obtain ⟨v, rfl, r1⟩ := reps1 rd
    rw [rep_ref] at r1; subst r1
    rw [optW_iff] at w
    obtain ⟨xs, e0, w⟩ := w
    obtain ⟨vs, h1, rr⟩ := S.rd e0
    exact call_tuple_of pins s σ H _ us Q I r ⟨a, vs, rfl, .inl ⟨.inl h1, l.tup S rr w⟩⟩
  | [.lst xs], w =>
    simp only [biW] at w
    obtain ⟨v, rfl, r1⟩ := reps1 rd
    obtain ⟨a, vs, rfl, t, rr⟩ := lsL r1
    exact call_tuple_of pins s σ H _ us Q I r ⟨a, vs, rfl, .inl ⟨t, l.tup S rr w⟩⟩
  | [.tup xs], w =>
    simp only [biW] at w
    obtain ⟨v, rfl, r1⟩ := reps1 rd
    have r1' := r1
    rw [rep_tup] at r1
    obtain ⟨a, vs, rfl, t, rr⟩ := r1
    exact call_tuple_of pins s σ H _ us Q I r ⟨a, vs, rfl, .inr ⟨t.sq, l.same S r1' w⟩⟩

/-! ### methods -/
theorem mt_appendR : MtR X "list.append" (rm X.K (mtW .append)) := by
  intro pins s σ H x xs v us Q I rx rs hh
  obtain ⟨d, ds, h, R, S, r1, r2, w, l⟩ := hh
  match d, ds, w with
  | .ref a, [y], w =>
    simp only [mtW] at w
    rw [rep_ref] at r1; subst r1
    obtain ⟨v2, rfl, q2⟩ := reps1 r2
    rw [optW_iff] at w
    obtain ⟨xs, e0, hz, w⟩ := w
    obtain ⟨vs, h1, rr⟩ := S.wr e0
    exact mt_append pins s σ H _ _ v us Q I rx rs ⟨a, vs, v2, rfl, rfl, h1, by rw [← rr.length]; exact hz, l.chg S h1 (rr.append (.cons q2 .nil)) (rep_non.2 rfl) w⟩
theorem mt_extendR : MtR X "list.extend" (rm X.K (mtW .extend)) := by
  intro pins s σ H x xs v us Q I rx rs hh
  obtain ⟨d, ds, h, R, S, r1, r2, w, l⟩ := hh
  match d, ds, w with
  | .ref a, [y], w =>
    simp only [mtW] at w
    rw [rep_ref] at r1; subst r1
    obtain ⟨v2, rfl, q2⟩ := reps1 r2
    rw [optW_iff] at w
    obtain ⟨xs, e0, w⟩ := w
    rw [optW_iff] at w
    obtain ⟨ys, e1, hz, w⟩ := w
    obtain ⟨vs, h1, rr⟩ := S.wr e0
    have sq : ∃ b ws, v2 = .ref b ∧ (SqL X.K H b ws ∨ SqT X.K H b ws) ∧ Reps X.K H ys ws := by
      cases y with
      | tup zs =>
        cases e1
        rw [rep_tup] at q2
        obtain ⟨b, ws, rfl, t, r⟩ := q2
        exact ⟨b, ws, rfl, .inr t.sq, r⟩
      | lst zs =>
        obtain ⟨b, ws, rfl, t, r⟩ := S.ls q2 e1
        exact ⟨b, ws, rfl, .inl t, r⟩
      | ref b =>
        obtain ⟨b, ws, rfl, t, r⟩ := S.ls q2 e1
        exact ⟨b, ws, rfl, .inl t, r⟩
      | _ => cases e1
    obtain ⟨b, ws, rfl, h2, rq⟩ := sq
    exact LtR.mt_extA pins s σ H _ _ v us Q I rx rs ⟨a, b, vs, ws, rfl, rfl, h1, h2, by rw [← rr.length, ← rq.length]; exact hz, l.chg S h1 (rr.append rq) (rep_non.2 rfl) w⟩
theorem mt_popR : MtR X "list.pop" (rm X.K (mtW .pop)) := by
  intro pins s σ H x xs v us Q I rx rs hh
  obtain ⟨d, ds, h, R, S, r1, r2, w, l⟩ := hh
  match d, ds, w with
  | .ref a, [], w =>
    simp only [mtW] at w
    rw [rep_ref] at r1; subst r1
    have r2 := r2.nil_inv
    subst r2
    rw [optW_iff] at w
    obtain ⟨xs, e0, w⟩ := w
    rw [optW_iff] at w
    obtain ⟨y, e1, w⟩ := w
    obtain ⟨vs, h1, rr⟩ := S.wr e0
    obtain ⟨v2, e2, rv⟩ := rr.get _ e1
    rw [rr.length] at e2
    exact mt_pop pins s σ H _ _ v us Q I rx rs ⟨a, vs, v2, rfl, rfl, h1, e2, l.chg S h1 rr.dropLast rv w⟩
theorem mt_reverseR : MtR X "list.reverse" (rm X.K (mtW .reverse)) := by
  intro pins s σ H x xs v us Q I rx rs hh
  obtain ⟨d, ds, h, R, S, r1, r2, w, l⟩ := hh
  match d, ds, w with
  | .ref a, [], w =>
    simp only [mtW] at w
    rw [rep_ref] at r1; subst r1
    have r2 := r2.nil_inv
    subst r2
    rw [optW_iff] at w
    obtain ⟨xs, e0, w⟩ := w
    obtain ⟨vs, h1, rr⟩ := S.wr e0
    exact mt_reverse pins s σ H _ _ v us Q I rx rs ⟨a, vs, rfl, rfl, h1, l.chg S h1 rr.reverse (rep_non.2 rfl) w⟩
theorem mt_clearR : MtR X "list.clear" (rm X.K (mtW .clear)) := by
  intro pins s σ H x xs v us Q I rx rs hh
  obtain ⟨d, ds, h, R, S, r1, r2, w, l⟩ := hh
  match d, ds, w with
  | .ref a, [], w =>
    simp only [mtW] at w
    rw [rep_ref] at r1; subst r1
    have r2 := r2.nil_inv
    subst r2
    rw [optW_iff] at w
    obtain ⟨xs, e0, w⟩ := w
    obtain ⟨vs, h1, rr⟩ := S.wr e0
    exact mt_clear pins s σ H _ _ v us Q I rx rs ⟨a, vs, rfl, rfl, h1, l.chg S h1 .nil (rep_non.2 rfl) w⟩
theorem flat_ix {K : PySem.W.Frag} {H : Hp} {d : D} {x : V} (r : Rep K H d x) (f : flatD d = true) : ∀ {ds : List D} {vs : List V}, Reps K H ds vs → ds.all flatD = true → ∀ {j : Nat}, idxD d ds = some j → ∃ z, vs[j]? = some z ∧ eqV z x = true ∧ ∀ (m : Nat) (z' : V), m < j → vs[m]? = some z' → eqV z' x = false
  | [], _, h, _, j, e => by simp [idxD] at e
  | e :: ds, _, h, g, j, q => by
    obtain ⟨v, w, rfl, h1, h2⟩ := h.cons_inv
    rw [List.all_cons, Bool.and_eq_true] at g
    have fe := flat_eq h1 r g.1 f
    unfold idxD at q
    rw [List.findIdx?_cons] at q
    cases c : eqD e d with
    | true =>
      rw [c] at q
      simp only [if_true, Option.some.injEq] at q; subst q
      exact ⟨v, rfl, by rw [← fe]; exact c, fun m z' l => absurd l (Nat.not_lt_zero _)⟩
    | false =>
      rw [c] at q
      simp only [Bool.false_eq_true, if_false, Option.map_eq_some_iff] at q
      obtain ⟨i, q, rfl⟩ := q
      obtain ⟨z, e1, e2, e3⟩ := flat_ix r f h2 g.2 (j := i) q
      refine ⟨z, by simpa using e1, e2, fun m z' l e4 => ?_⟩
      cases m with
      | zero => simp at e4; subst e4; rw [← fe]; exact c
      | succ m => exact e3 m z' (by omega) (by simpa using e4)
theorem mt_indexR : MtR X "list.index" (rm X.K (mtW .index)) := by
  intro pins s σ H x xs v us Q I rx rs hh
  obtain ⟨d, ds, h, R, S, r1, r2, w, l⟩ := hh
  have w' : ∃ y, ds = [y] ∧ optW (lsD h d) fun xs => flatD y = true ∧ xs.all flatD = true ∧ optW (idxD y xs) fun j => R (.int (j : Nat)) h := by
    match ds, w with
    | [y], w => exact ⟨y, rfl, by cases d <;> exact w⟩
    | [], w => cases d <;> exact w.elim
    | _ :: _ :: _, w => cases d <;> exact w.elim
  clear w
  obtain ⟨y, rfl, w2⟩ := w'
  obtain ⟨v2, rfl, q2⟩ := reps1 r2
  rw [optW_iff] at w2
  obtain ⟨xs, e0, f1, f2, w2⟩ := w2
  rw [optW_iff] at w2
  obtain ⟨j, e1, w⟩ := w2
  obtain ⟨a, vs, rfl, t, rr⟩ := S.ls r1 e0
  obtain ⟨z, e2, e3, e4⟩ := flat_ix q2 f1 rr f2 e1
  exact mt_index pins s σ H _ _ v us Q I rx rs ⟨a, vs, v2, j, z, rfl, rfl, t, flat_rep q2 f1, flat_all rr f2, e2, e3, e4, l.same S (rep_int.2 rfl) w⟩
theorem mt_insertR : MtR X "list.insert" (rm X.K (mtW .insert)) := by
  intro pins s σ H x xs v us Q I rx rs hh
  obtain ⟨d, ds, h, R, S, r1, r2, w, l⟩ := hh
  match d, ds, w with
  | .ref a, [.int i, y], w =>
    simp only [mtW] at w
    rw [rep_ref] at r1; subst r1
    obtain ⟨v1, v2, rfl, q1, q2⟩ := reps2 r2
    rw [rep_int] at q1; subst q1
    rw [optW_iff] at w
    obtain ⟨xs, e0, hz, h1, h2, w⟩ := w
    obtain ⟨vs, h3, rr⟩ := S.wr e0
    exact mt_insert pins s σ H _ _ v us Q I rx rs ⟨a, vs, i, v2, rfl, rfl, h3, by rw [← rr.length]; exact hz, h1, h2, l.chg S h3 (((rr.take _).append (.cons q2 .nil)).append (rr.drop _)) (rep_non.2 rfl) w⟩
/-! ### isinstance -/
def tyN : Ty → String
  | .int => "int" | .bool => "bool" | .str => "str" | .tuple => "tuple" | .list => "list"
theorem isTy_ok {K : PySem.W.Frag} {H : Hp} {h : Hh} {d : D} {x : V} {t : Ty} {b : Bool} (S : Sim K H h) (r : Rep K H d x) (e : isTy h d t = some b) : ∃ u, TyX K H x u ∧ PySem.W.kitOne K u (.type (tyN t)) = some b := by
  cases d with
  | non => rw [rep_non] at r; subst r; cases t <;> cases e <;> exact ⟨_, .base .non, kit_ty (by decide +kernel)⟩
  | bl _ => rw [rep_bl] at r; subst r; cases t <;> cases e <;> exact ⟨_, .base (.bl _), kit_ty (by decide +kernel)⟩
  | int _ => rw [rep_int] at r; subst r; cases t <;> cases e <;> exact ⟨_, .base (.int _), kit_ty (by decide +kernel)⟩
  | str _ => rw [rep_str] at r; subst r; cases t <;> cases e <;> exact ⟨_, .base (.str _), kit_ty (by decide +kernel)⟩
  | dct _ _ => cases e
  | tup _ =>
    rw [rep_tup] at r
    obtain ⟨a, vs, rfl, t1, _⟩ := r
    have ty : TyX K H (.ref a) (.type "tuple") := by
      rcases t1 with t1 | ⟨o, _, _, h1, h2, _⟩
      · exact .base (.tup t1)
      · exact .kTuple h1 h2
    cases t <;> cases e <;> exact ⟨_, ty, kit_ty (by decide +kernel)⟩
  | lst _ =>
    rw [rep_lst] at r
    obtain ⟨a, vs, rfl, t1, _⟩ := r
    have ty : TyX K H (.ref a) (.type "list") := by
      rcases t1 with ⟨ob, t1⟩ | ⟨o, _, _, h1, h2, _⟩
      · exact .base (.frz t1)
      · exact .kList h1 h2
    cases t <;> cases e <;> exact ⟨_, ty, kit_ty (by decide +kernel)⟩
  | ref a =>
    rw [rep_ref] at r; subst r
    have e' := e
    simp only [isTy] at e'
    cases q : rdL h a with
    | none => rw [q] at e'; cases e'
    | some xs =>
      rw [q] at e'
      obtain ⟨vs, h1, _⟩ := S.rd q
      have ty : TyX K H (.ref a) (.type "list") := by
        rcases h1 with h1 | ⟨o, h1⟩
        · exact .base (.lst h1)
        · exact .base (.frz h1)
      cases t <;> cases e' <;> exact ⟨_, ty, kit_ty (by decide +kernel)⟩
end
end Lt

set_option maxHeartbeats 4000000
namespace Lt
open PySem PySem.Spec PyProof.Rows L2
variable [Wd]

def RepE (K : PySem.W.Frag) (H : Hp) (ρ : En) (σ : L2.St) : Prop := ρ.length = σ.length ∧ ∀ i d, getE ρ i = some d → ∃ v, σ[i]? = some (some v) ∧ Rep K H d v
theorem RepE.keep {K : PySem.W.Frag} {H H' : Hp} {ρ : En} {σ : L2.St} (r : RepE K H ρ σ) (k : TKeep H H') : RepE K H' ρ σ :=
  ⟨r.1, fun i d e => let ⟨v, h1, h2⟩ := r.2 i d e; ⟨v, h1, h2.keep k⟩⟩
theorem getE_set : ∀ {ρ : En} {i j : Nat} {x : Option D} {d : D}, getE (setE ρ i x) j = some d → (j = i ∧ x = some d) ∨ (j ≠ i ∧ getE ρ j = some d)
  | [], _, _, _, _, h => by simp [setE, getE] at h
  | _ :: _, 0, 0, _, _, h => by simp [setE, getE] at h; exact .inl ⟨rfl, h⟩
  | _ :: _, 0, j + 1, _, _, h => by simp [setE, getE] at h; exact .inr ⟨by omega, by simpa [getE] using h⟩
  | _ :: _, i + 1, 0, _, _, h => by simp [setE, getE] at h; exact .inr ⟨by omega, by simpa [getE] using h⟩
  | _ :: r, i + 1, j + 1, x, d, h => by
    simp only [setE, getE] at h
    rcases getE_set h with ⟨h1, h2⟩ | ⟨h1, h2⟩
    · exact .inl ⟨by omega, h2⟩
    · exact .inr ⟨by omega, by simpa [getE] using h2⟩
theorem setE_length : ∀ (ρ : En) (i : Nat) (x : Option D), (setE ρ i x).length = ρ.length
  | [], _, _ => rfl
  | _ :: _, 0, _ => rfl
  | _ :: r, i + 1, x => by simp [setE, setE_length r i x]
theorem getE_lt : ∀ {ρ : En} {i : Nat} {d : D}, getE ρ i = some d → i < ρ.length
  | [], _, _, h => by simp [getE] at h
  | _ :: _, 0, _, _ => by simp
  | _ :: r, i + 1, _, h => by
    have := getE_lt (ρ := r) (by simpa [getE] using h)
    simp; omega
theorem RepE.set {K : PySem.W.Frag} {H : Hp} {ρ : En} {σ : L2.St} {i : Nat} {d : D} {v : V} (r : RepE K H ρ σ) (rd : Rep K H d v) : RepE K H (setE ρ i (some d)) (σ.set i (some v)) := by
  refine ⟨by rw [setE_length, List.length_set]; exact r.1, fun j e h => ?_⟩
  have hl : j < ρ.length := by have := getE_lt h; rw [setE_length] at this; exact this
  rcases getE_set h with ⟨h1, h2⟩ | ⟨h1, h2⟩
  · cases h2; subst h1
    exact ⟨v, by rw [List.getElem?_set_self (by rw [← r.1]; exact hl)], rd⟩
  · obtain ⟨w, h3, h4⟩ := r.2 j e h2
    exact ⟨w, by rw [List.getElem?_set_ne (Ne.symm h1)]; exact h3, h4⟩
theorem RepE.unset {K : PySem.W.Frag} {H : Hp} {ρ : En} {σ : L2.St} {i : Nat} (r : RepE K H ρ σ) : RepE K H (setE ρ i none) (σ.set i none) := by
  refine ⟨by rw [setE_length, List.length_set]; exact r.1, fun j e h => ?_⟩
  rcases getE_set h with ⟨h1, h2⟩ | ⟨h1, h2⟩
  · cases h2
  · obtain ⟨w, h3, h4⟩ := r.2 j e h2
    exact ⟨w, by rw [List.getElem?_set_ne (Ne.symm h1)]; exact h3, h4⟩
theorem RepE.wipe {K : PySem.W.Frag} {H : Hp} {ρ : En} {σ : L2.St} (r : RepE K H ρ σ) : ∀ (vs : List Nat), RepE K H (wipeE ρ vs) (wipe σ vs)
  | [] => r
  | v :: vs => by unfold wipeE L2.wipe; exact (RepE.wipe r vs).unset

def LkX (K : PySem.W.Frag) (mg : Str → Option Value) (W : WX) (σ : L2.St) (H : Hp) (Y : XD) : Prop := ∀ c u H' h', TKeep H H' → Sim K H' h' → mg c = some u → Y c h' → W u none σ H'
theorem LkX.keep {K : PySem.W.Frag} {mg : Str → Option Value} {W : WX} {σ : L2.St} {H H1 : Hp} {Y : XD} (l : LkX K mg W σ H Y) (k : TKeep H H1) : LkX K mg W σ H1 Y := fun c u H' h' k1 => l c u H' h' (k.trans k1)
abbrev FE := En → Hh → QD → XD → Prop
def tE (K : PySem.W.Frag) (mg : Str → Option Value) (W : WX) (f : FE) : TE := fun σ H Q => ∃ ρ h R Y, Sim K H h ∧ RepE K H ρ σ ∧ f ρ h R Y ∧ LkV K H R Q ∧ LkX K mg W σ H Y
abbrev FT := En → Hh → (Bool → Hh → Prop) → XD → Prop
def tT (K : PySem.W.Frag) (mg : Str → Option Value) (W : WX) (f : FT) : TT := fun σ H Q => ∃ ρ h R Y, Sim K H h ∧ RepE K H ρ σ ∧ f ρ h R Y ∧
  (∀ b H' h', TKeep H H' → Sim K H' h' → R b h' → Q b H') ∧ LkX K mg W σ H Y
abbrev FA := En → Hh → (List D → Hh → Prop) → XD → Prop
def tA (K : PySem.W.Frag) (mg : Str → Option Value) (W : WX) (f : FA) : TA := fun σ H Q => ∃ ρ h R Y, Sim K H h ∧ RepE K H ρ σ ∧ f ρ h R Y ∧
  (∀ vs H' ds h', TKeep H H' → Sim K H' h' → Reps K H' ds vs → R ds h' → Q vs H') ∧ LkX K mg W σ H Y
theorem ifT {A B : Prop} (h : if true = true then A else B) : A := by rw [if_pos rfl] at h; exact h
theorem ifF {A B : Prop} (h : if false = true then A else B) : B := by rw [if_neg Bool.false_ne_true] at h; exact h
/-- a value as a truth -/
def bT (f : FE) : FT := fun ρ h R Y => f ρ h (fun d h1 => blW d fun b => R b h1) Y
theorem blW_iff {d : D} {f : Bool → Prop} : blW d f ↔ ∃ b, d = .bl b ∧ f b := by
  cases d <;> first
    | exact ⟨fun h => ⟨_, rfl, h⟩, fun ⟨_, e, h⟩ => by cases e; exact h⟩
    | exact ⟨fun h => h.elim, fun ⟨_, e, _⟩ => nomatch e⟩
theorem intW_iff {d : D} {f : Int → Prop} : intW d f ↔ ∃ b, d = .int b ∧ f b := by
  cases d <;> first
    | exact ⟨fun h => ⟨_, rfl, h⟩, fun ⟨_, e, h⟩ => by cases e; exact h⟩
    | exact ⟨fun h => h.elim, fun ⟨_, e, _⟩ => nomatch e⟩
theorem _root_.L2.PE.imp {X : Cx} {e : Expr} {t t' : TE} (h : PE X e t) (k : ∀ σ H Q, t' σ H Q → t σ H Q) : PE X e t' := ⟨fun pins s σ H Q I q => h.run pins s σ H Q I (k _ _ _ q)⟩
theorem _root_.L2.PT.imp {X : Cx} {e : Expr} {t t' : TT} (h : PT X e t) (k : ∀ σ H Q, t' σ H Q → t σ H Q) : PT X e t' := ⟨fun pins s σ H Q I q => h.run pins s σ H Q I (k _ _ _ q)⟩
theorem _root_.L2.PW.imp {X : Cx} {e : Expr} {t t' : TT} (h : PW X e t) (k : ∀ σ H Q, t' σ H Q → t σ H Q) : PW X e t' := ⟨fun wh pins s σ H Q I q => h.run wh pins s σ H Q I (k _ _ _ q)⟩
theorem _root_.L2.PA.imp {X : Cx} {e : List Expr} {t t' : TA} (h : PA X e t) (k : ∀ σ H Q, t' σ H Q → t σ H Q) : PA X e t' := ⟨fun pos pins s σ H Q I q => h.run pos pins s σ H Q I (k _ _ _ q)⟩
theorem _root_.L2.PO.imp {X : Cx} {e : Option Expr} {t t' : TO} (h : PO X e t) (k : ∀ σ H Q, t' σ H Q → t σ H Q) : PO X e t' := ⟨fun pins s σ H Q I q => h.run pins s σ H Q I (k _ _ _ q)⟩
theorem _root_.L2.PI.imp {X : Cx} {tg e : Expr} {t t' : TI} (h : PI X tg e t) (k : ∀ σ H Q, t' σ H Q → t σ H Q) : PI X tg e t' := ⟨fun pins s σ H Q I q => h.run pins s σ H Q I (k _ _ _ q)⟩

section
variable {X : Cx} {W : WX} {a b c : Expr} {fa fb fc : FE} {pos : Pos}
theorem s_const {e : Expr} {v : V} {d : D} (h : PE X e (tC v)) (r : ∀ H, Rep X.K H d v) : PE X e (tE X.K X.mg W fun _ h Q _ => Q d h) :=
  h.imp fun σ H Q ⟨ρ, h, R, Y, S, RE, w, lk, lx⟩ => lk.same S (r H) w
theorem s_var {i : Nat} {x : Str} (hN : X.N[i]? = some x) (hv : Vis X.env.scope x) (hd : (x == ("__debug__" : Str)) = false) (hcd : (x == ("__classdict__" : Str)) = false) :
    PE X (.Name x pos) (tE X.K X.mg W fun ρ h Q _ => optW (getE ρ i) fun d => Q d h) :=
  (pe_var hN hv hd hcd).imp fun σ H Q ⟨ρ, h, R, Y, S, RE, w, lk, lx⟩ => by
    have hz := optW_iff.1 w; clear w; obtain ⟨d, e, w⟩ := hz
    obtain ⟨v, h1, h2⟩ := RE.2 i d e
    exact ⟨v, h1, lk.same S h2 w⟩
theorem s_op (o : Bo) (ha : PE X a (tE X.K X.mg W fa)) (hb : PE X b (tE X.K X.mg W fb)) : PE X (.BinOp a (opOf o) b pos) (tE X.K X.mg W fun ρ h Q Y => fa ρ h (fun x h1 => fb ρ h1 (fun y h2 => binW o x y h2 Q) Y) Y) :=
  (pe_op (opR_bin o) ha hb).imp fun σ H Q ⟨ρ, h, R, Y, S, RE, w, lk, lx⟩ => ⟨ρ, h, _, Y, S, RE, w, fun v H1 d h1 k1 S1 q1 w1 => ⟨ρ, h1, _, Y, S1, RE.keep k1, w1, fun v2 H2 e h2 k2 S2 q2 w2 =>
    ⟨d, e, h2, R, S2, q1.keep k2, q2, w2, lk.keep (k1.trans k2)⟩, lx.keep k1⟩, lx⟩
theorem s_neg (ha : PE X a (tE X.K X.mg W fa)) : PE X (.UnaryOp .USub a pos) (tE X.K X.mg W fun ρ h Q Y => fa ρ h (fun x h1 => negW x h1 Q) Y) :=
  (pe_un un_negR ha).imp fun σ H Q ⟨ρ, h, R, Y, S, RE, w, lk, lx⟩ => ⟨ρ, h, _, Y, S, RE, w, fun v H1 d h1 k1 S1 q1 w1 => ⟨d, h1, R, S1, q1, w1, lk.keep k1⟩, lx⟩
theorem s_cm (hw : X.w = Wd.w) (hu : X.A.units + 65 < cLine) (o : Co) (ha : PE X a (tE X.K X.mg W fa)) (hb : PE X b (tE X.K X.mg W fb)) (hm : behindInMarks (coOf o) b = false) :
    PE X (.Compare a [coOf o] [b] pos) (tE X.K X.mg W fun ρ h Q Y => fa ρ h (fun x h1 => fb ρ h1 (fun y h2 => cmW o x y h2 Q) Y) Y) :=
  (pe_cmpR (opR_cm hw hu o) ha hb hm).imp fun σ H Q ⟨ρ, h, R, Y, S, RE, w, lk, lx⟩ => ⟨ρ, h, _, Y, S, RE, w, fun v H1 d h1 k1 S1 q1 w1 => ⟨ρ, h1, _, Y, S1, RE.keep k1, w1, fun v2 H2 e h2 k2 S2 q2 w2 =>
    ⟨d, e, h2, R, S2, q1.keep k2, q2, w2, lk.keep (k1.trans k2)⟩, lx.keep k1⟩, lx⟩
theorem s_cmT (hw : X.w = Wd.w) (hu : X.A.units + 65 < cLine) (o : Co) (ha : PE X a (tE X.K X.mg W fa)) (hb : PE X b (tE X.K X.mg W fb)) (hm : behindInMarks (coOf o) b = false) :
    PT X (.Compare a [coOf o] [b] pos) (tT X.K X.mg W (bT fun ρ h Q Y => fa ρ h (fun x h1 => fb ρ h1 (fun y h2 => cmW o x y h2 Q) Y) Y)) :=
  (pt_cmpR (opR_cm hw hu o) ha hb hm).imp fun σ H Q ⟨ρ, h, R, Y, S, RE, w, lk, lx⟩ => ⟨ρ, h, _, Y, S, RE, w, fun v H1 d h1 k1 S1 q1 w1 => ⟨ρ, h1, _, Y, S1, RE.keep k1, w1, fun v2 H2 e h2 k2 S2 q2 w2 =>
    ⟨d, e, h2, _, S2, q1.keep k2, q2, w2, fun v3 H3 d3 h3 k3 S3 r3 q3 => by
      have hz := blW_iff.1 q3; clear q3; obtain ⟨b, rfl, q3⟩ := hz
      rw [rep_bl] at r3
      exact ⟨b, r3, lk b H3 h3 ((k1.trans k2).trans k3) S3 q3⟩⟩, lx.keep k1⟩, lx⟩
def cm2W (o p : Co) (fa fb fc : FE) : FE := fun ρ h Q Y => fa ρ h (fun x h1 => fb ρ h1 (fun y h2 => cmW o x y h2 fun d h3 => blW d fun d => if d = true then fc ρ h3 (fun z h4 => cmW p y z h4 Q) Y else Q (.bl false) h3) Y) Y
theorem chain_aux (o p : Co) {σ : L2.St} {H : Hp} {Q : VK} (hh : tE X.K X.mg W (cm2W o p fa fb fc) σ H Q) : tChain (r2 X.K (cmW o)) (r2 X.K (cmW p)) (tE X.K X.mg W fa) (tE X.K X.mg W fb) (tE X.K X.mg W fc) σ H Q := by
  obtain ⟨ρ, h, R, Y, S, RE, w, lk, lx⟩ := hh
  refine ⟨ρ, h, _, Y, S, RE, w, fun v H1 d h1 k1 S1 q1 w1 => ⟨ρ, h1, _, Y, S1, RE.keep k1, w1, fun v2 H2 e h2 k2 S2 q2 w2 => ⟨d, e, h2, _, S2, q1.keep k2, q2, w2, fun v3 H3 d3 h3 k3 S3 r3 q3 => ?_⟩, lx.keep k1⟩, lx⟩
  have hz := blW_iff.1 q3; clear q3; obtain ⟨b, rfl, q3⟩ := hz
  rw [rep_bl] at r3
  refine ⟨b, r3, ?_⟩
  cases b with
  | true =>
    replace q3 := ifT q3
    refine iteT ?_
    exact ⟨ρ, h3, _, Y, S3, (RE.keep k1).keep (k2.trans k3), q3, fun v4 H4 d4 h4 k4 S4 r4 q4 => ⟨e, d4, h4, R, S4, (q2.keep k3).keep k4, r4, q4, lk.keep (k1.trans (k2.trans (k3.trans k4)))⟩, lx.keep (k1.trans (k2.trans k3))⟩
  | false =>
    replace q3 := ifF q3
    refine iteF ?_
    exact (lk.keep (k1.trans (k2.trans k3))).same S3 (rep_bl.2 rfl) q3
theorem s_cm2 (hw : X.w = Wd.w) (hu : X.A.units + 65 < cLine) (o p : Co) (ha : PE X a (tE X.K X.mg W fa)) (hb : PE X b (tE X.K X.mg W fb)) (hc : PE X c (tE X.K X.mg W fc)) (hm : lastMarks [coOf o, coOf p] [b, c] = false) :
    PE X (.Compare a [coOf o, coOf p] [b, c] pos) (tE X.K X.mg W (cm2W o p fa fb fc)) :=
  (pe_chain (opR_cm hw hu o) (opR_cm hw hu p) ha hb hc hm).imp fun σ H Q hh => chain_aux o p hh
theorem tE_of_bT {f : FE} {σ : L2.St} {H : Hp} {Q : Bool → Hp → Prop} (hh : tT X.K X.mg W (bT f) σ H Q) : tE X.K X.mg W f σ H fun x H' => ∃ k, x = .bl k ∧ Q k H' := by
  obtain ⟨ρ, h, R, Y, S, RE, w, lk, lx⟩ := hh
  exact ⟨ρ, h, _, Y, S, RE, w, fun v H1 d h1 k1 S1 q1 w1 => by
    have hz := blW_iff.1 w1; clear w1; obtain ⟨b, rfl, q3⟩ := hz
    rw [rep_bl] at q1
    exact ⟨b, q1, lk b H1 h1 k1 S1 q3⟩, lx⟩
theorem s_cm2T (hw : X.w = Wd.w) (hu : X.A.units + 65 < cLine) (o p : Co) (ha : PE X a (tE X.K X.mg W fa)) (hb : PE X b (tE X.K X.mg W fb)) (hc : PE X c (tE X.K X.mg W fc)) (hm : lastMarks [coOf o, coOf p] [b, c] = false) :
    PT X (.Compare a [coOf o, coOf p] [b, c] pos) (tT X.K X.mg W (bT (cm2W o p fa fb fc))) :=
  (pt_chain (opR_cm hw hu o) (opR_cm hw hu p) ha hb hc hm).imp fun σ H Q hh => chain_aux o p (tE_of_bT hh)
theorem isNon_rep {K : PySem.W.Frag} {H : Hp} {d : D} {v : V} (r : Rep K H d v) : decide (v = V.non) = isNon d := by
  cases d with
  | non => rw [rep_non] at r; subst r; rfl
  | bl _ => rw [rep_bl] at r; subst r; rfl
  | int _ => rw [rep_int] at r; subst r; rfl
  | str _ => rw [rep_str] at r; subst r; rfl
  | ref _ => rw [rep_ref] at r; subst r; rfl
  | tup _ => rw [rep_tup] at r; obtain ⟨_, _, rfl, _⟩ := r; rfl
  | lst _ => rw [rep_lst] at r; obtain ⟨_, _, rfl, _⟩ := r; rfl
  | dct _ _ => unfold Rep at r; obtain ⟨_, _, rfl, _⟩ := r; rfl
theorem s_isN {j : Nat} {p' : Pos} (ha : PE X a (tE X.K X.mg W fa)) : PE X (.Compare a [.Is] [.Constant .none j p'] pos) (tE X.K X.mg W fun ρ h Q Y => fa ρ h (fun x h1 => Q (.bl (isNon x)) h1) Y) :=
  (pe_cmp (pc_isN ha) (nomark _)).imp fun σ H Q ⟨ρ, h, R, Y, S, RE, w, lk, lx⟩ => ⟨ρ, h, _, Y, S, RE, w, fun v H1 d h1 k1 S1 q1 w1 => by
    show Q (.bl _) H1; rw [isNon_rep q1]; exact (lk.keep k1).same S1 (rep_bl.2 rfl) w1, lx⟩
theorem s_notN {j : Nat} {p' : Pos} (ha : PE X a (tE X.K X.mg W fa)) : PE X (.Compare a [.IsNot] [.Constant .none j p'] pos) (tE X.K X.mg W fun ρ h Q Y => fa ρ h (fun x h1 => Q (.bl (!isNon x)) h1) Y) :=
  (pe_cmp (pc_notN ha) (nomark _)).imp fun σ H Q ⟨ρ, h, R, Y, S, RE, w, lk, lx⟩ => ⟨ρ, h, _, Y, S, RE, w, fun v H1 d h1 k1 S1 q1 w1 => by
    show Q (.bl _) H1; rw [isNon_rep q1]; exact (lk.keep k1).same S1 (rep_bl.2 rfl) w1, lx⟩
theorem tB_tT {f : FE} {t : TE} (h : ∀ σ H Q, tE X.K X.mg W f σ H Q → t σ H Q) : ∀ σ H Q, tT X.K X.mg W (bT f) σ H Q → tB t σ H Q := fun σ H Q hh => h _ _ _ (tE_of_bT hh)
theorem s_isNT {j : Nat} {p' : Pos} (ha : PE X a (tE X.K X.mg W fa)) : PT X (.Compare a [.Is] [.Constant .none j p'] pos) (tT X.K X.mg W (bT fun ρ h Q Y => fa ρ h (fun x h1 => Q (.bl (isNon x)) h1) Y)) :=
  (pt_cmp (pc_isN ha) (nomark _)).imp (tB_tT fun σ H Q ⟨ρ, h, R, Y, S, RE, w, lk, lx⟩ => ⟨ρ, h, _, Y, S, RE, w, fun v H1 d h1 k1 S1 q1 w1 => by
    show Q (.bl _) H1; rw [isNon_rep q1]; exact (lk.keep k1).same S1 (rep_bl.2 rfl) w1, lx⟩)
theorem s_notNT {j : Nat} {p' : Pos} (ha : PE X a (tE X.K X.mg W fa)) : PT X (.Compare a [.IsNot] [.Constant .none j p'] pos) (tT X.K X.mg W (bT fun ρ h Q Y => fa ρ h (fun x h1 => Q (.bl (!isNon x)) h1) Y)) :=
  (pt_cmp (pc_notN ha) (nomark _)).imp (tB_tT fun σ H Q ⟨ρ, h, R, Y, S, RE, w, lk, lx⟩ => ⟨ρ, h, _, Y, S, RE, w, fun v H1 d h1 k1 S1 q1 w1 => by
    show Q (.bl _) H1; rw [isNon_rep q1]; exact (lk.keep k1).same S1 (rep_bl.2 rfl) w1, lx⟩)
theorem s_not (ha : PE X a (tE X.K X.mg W fa)) : PE X (.UnaryOp .Not a pos) (tE X.K X.mg W fun ρ h Q Y => fa ρ h (fun x h1 => blW x fun d => Q (.bl (!d)) h1) Y) :=
  (pe_not ha).imp fun σ H Q ⟨ρ, h, R, Y, S, RE, w, lk, lx⟩ => ⟨ρ, h, _, Y, S, RE, w, fun v H1 d h1 k1 S1 q1 w1 => by
    have hz := blW_iff.1 w1; clear w1; obtain ⟨b, rfl, q3⟩ := hz
    rw [rep_bl] at q1
    exact ⟨b, q1, (lk.keep k1).same S1 (rep_bl.2 rfl) q3⟩, lx⟩
theorem s_notT {f : FE} (ha : PT X a (tT X.K X.mg W (bT f))) : PT X (.UnaryOp .Not a pos) (tT X.K X.mg W (bT fun ρ h Q Y => f ρ h (fun x h1 => blW x fun d => Q (.bl (!d)) h1) Y)) :=
  (pt_not ha).imp fun σ H Q ⟨ρ, h, R, Y, S, RE, w, lk, lx⟩ => ⟨ρ, h, fun b h1 => R (!b) h1, Y, S, RE, w, fun b H1 h1 k1 S1 w1 => lk (!b) H1 h1 k1 S1 w1, lx⟩
/-- a value that is no and, or, not, comparison, as a test -/
theorem s_val {f : FE} (h : PE X a (tE X.K X.mg W f)) (he : ∀ whole, isTrue a X.env whole = (do let v ← whole; standAt a.pos; holding [v] (truthy v))) : PT X a (tT X.K X.mg W (bT f)) :=
  (pt_val h he).imp (tB_tT fun _ _ _ q => q)
theorem s_ite {f : FE} (hc : PT X c (tT X.K X.mg W (bT f))) (ha : PE X a (tE X.K X.mg W fa)) (hb : PE X b (tE X.K X.mg W fb)) :
    PE X (.IfExp c a b pos) (tE X.K X.mg W fun ρ h Q Y => f ρ h (fun x h1 => blW x fun d => if d = true then fa ρ h1 Q Y else fb ρ h1 Q Y) Y) :=
  (pe_ifExp hc ha hb).imp fun σ H Q ⟨ρ, h, R, Y, S, RE, w, lk, lx⟩ => ⟨ρ, h, fun b h1 => if b = true then fa ρ h1 R Y else fb ρ h1 R Y, Y, S, RE, w, fun b H1 h1 k1 S1 w1 => by
    cases b with
    | true => replace w1 := ifT w1; refine iteT ?_; exact ⟨ρ, h1, R, Y, S1, RE.keep k1, w1, lk.keep k1, lx.keep k1⟩
    | false => replace w1 := ifF w1; refine iteF ?_; exact ⟨ρ, h1, R, Y, S1, RE.keep k1, w1, lk.keep k1, lx.keep k1⟩, lx⟩

/-! ### a list is made a value -/
theorem frzW_iff {d : D} {h : Hh} {Q : QD} (w : frzW d h Q) : Q d h ∨ (∃ a xs, d = .ref a ∧ wrL h a = some xs ∧ Q (.lst xs) (era h a)) ∨ ∃ a kvs, d = .ref a ∧ wrN h a = some kvs ∧ Q (.dct (kvs.map (·.1)) (kvs.map (·.2))) (era h a) := by
  cases d with
  | ref a =>
    have w : selW (wrL h a) (fun xs => Q (.lst xs) (era h a)) (optW (wrN h a) fun kvs => Q (.dct (kvs.map (·.1)) (kvs.map (·.2))) (era h a)) := w
    cases wz : wrL h a with
    | some xs => rw [wz] at w; exact .inr (.inl ⟨a, xs, rfl, wz, w⟩)
    | none =>
      rw [wz] at w
      obtain ⟨kvs, e, q⟩ := optW_iff.1 w
      exact .inr (.inr ⟨a, kvs, rfl, e, q⟩)
  | _ => exact .inl w
theorem frz_ok {pins : List (Addr × Obj)} {s : Shared} {σ : L2.St} {H : Hp} {h : Hh} {d : D} {v : V} {R : QD} (I : Inv X pins σ H s) (S : Sim X.K H h) (r : Rep X.K H d v) (w : frzW d h R) :
    ∃ H' d' h', Inv X pins σ H' s ∧ TKeep H H' ∧ Sim X.K H' h' ∧ Rep X.K H' d' v ∧ R d' h' := by
  rcases frzW_iff w with w | ⟨a, xs, rfl, e, w⟩ | ⟨a, kvs, rfl, e, w⟩
  · exact ⟨H, d, h, I, TKeep.refl H, S, r, w⟩
  · obtain ⟨vs, h1, q⟩ := S.wr e
    rw [rep_ref] at r; subst r
    obtain ⟨ob, I2⟩ := I.lock h1 trivial
    have k : TKeep H (upd H a (.frz ob (.lst vs))) := TKeep.lst h1
    exact ⟨_, .lst xs, _, I2, k, S.frz (xs := xs) h1, rep_lst.2 ⟨a, vs, rfl, .inl ⟨ob, upd_same⟩, q.keep k⟩, w⟩
  · obtain ⟨es, h1, h2, h3, h4⟩ := S.wrN e
    rw [rep_ref] at r; subst r
    obtain ⟨ob, I2⟩ := I.lock h1 trivial
    have k : TKeep H (upd H a (.frz ob (LtK.dnO Wd.w a es))) := TKeep.upd (fun vs => by rw [h1]; exact LtK.dnO_notup) (fun ob u => by rw [h1]; exact LtK.dnO_nofrz)
    refine ⟨_, .dct (kvs.map (·.1)) (kvs.map (·.2)), era h a, I2, k, fun b o q => ?_, ?_, w⟩
    · by_cases z : b = a
      · subst z; rw [era_same] at q; cases q
      · rw [era_ne z] at q
        exact (S b o q).move k (upd_ne z)
    · unfold Rep
      exact ⟨a, es, rfl, ⟨ob, upd_same⟩, h2, h3.keep k, h4.keep k⟩
theorem dfzs_ok {f : D → Hh → D × Hh} (F : ∀ {pins : List (Addr × Obj)} {s : Shared} {σ : L2.St} {H : Hp} {h : Hh} {d : D} {v : V}, Inv X pins σ H s → Sim X.K H h → Rep X.K H d v → ∃ H', Inv X pins σ H' s ∧ TKeep H H' ∧ Sim X.K H' (f d h).2 ∧ Rep X.K H' (f d h).1 v) :
    ∀ {xs : List D} {vs : List V} {pins : List (Addr × Obj)} {s : Shared} {σ : L2.St} {H : Hp} {h : Hh}, Inv X pins σ H s → Sim X.K H h → Reps X.K H xs vs → ∃ H', Inv X pins σ H' s ∧ TKeep H H' ∧ Sim X.K H' (dfzs f xs h).2 ∧ Reps X.K H' (dfzs f xs h).1 vs
  | [], vs, _, _, _, H, _, I, S, r => ⟨H, I, TKeep.refl H, S, r⟩
  | x :: xs, vs, _, _, _, H, h, I, S, r => by
    obtain ⟨v, w, rfl, r1, r2⟩ := r.cons_inv
    obtain ⟨H1, I1, k1, S1, q1⟩ := F I S r1
    obtain ⟨H2, I2, k2, S2, q2⟩ := dfzs_ok F I1 S1 (r2.keep k1)
    exact ⟨H2, I2, k1.trans k2, S2, .cons (q1.keep k2) q2⟩
theorem dfz_ok : ∀ (n : Nat) {pins : List (Addr × Obj)} {s : Shared} {σ : L2.St} {H : Hp} {h : Hh} {d : D} {v : V}, Inv X pins σ H s → Sim X.K H h → Rep X.K H d v →
    ∃ H', Inv X pins σ H' s ∧ TKeep H H' ∧ Sim X.K H' (dfzD n d h).2 ∧ Rep X.K H' (dfzD n d h).1 v
  | 0, _, _, _, H, _, _, _, I, S, r => ⟨H, I, TKeep.refl H, S, r⟩
  | n + 1, _, _, _, H, h, d, v, I, S, r => by
    have F := fun {pins : List (Addr × Obj)} {s : Shared} {σ : L2.St} {H : Hp} {h : Hh} {d : D} {v : V} (I : Inv X pins σ H s) (S : Sim X.K H h) (r : Rep X.K H d v) => dfz_ok n I S r
    cases d with
    | ref a =>
      rw [rep_ref] at r; subst r
      cases e : h a with
      | none => rw [dfzD, e]; exact ⟨H, I, TKeep.refl H, S, rep_ref.2 rfl⟩
      | some o =>
        cases o with
        | rol xs => rw [dfzD, e]; exact ⟨H, I, TKeep.refl H, S, rep_ref.2 rfl⟩
        | lst xs =>
          rw [dfzD, e]
          obtain ⟨vs, h1, q⟩ := S a _ e
          obtain ⟨ob, I2⟩ := I.lock h1 trivial
          have k : TKeep H (upd H a (.frz ob (.lst vs))) := TKeep.lst h1
          obtain ⟨H3, I3, k3, S3, q3⟩ := dfzs_ok F I2 (S.frz (xs := xs) h1) (q.keep k)
          exact ⟨H3, I3, k.trans k3, S3, rep_lst.2 ⟨a, vs, rfl, .inl ⟨ob, k3.f _ _ _ upd_same⟩, q3⟩⟩
        | dN kvs =>
          rw [dfzD, e]
          obtain ⟨es, h1, h2, h3, h4⟩ := S a _ e
          obtain ⟨ob, I2⟩ := I.lock h1 trivial
          have k : TKeep H (upd H a (.frz ob (LtK.dnO Wd.w a es))) := TKeep.upd (fun vs => by rw [h1]; exact LtK.dnO_notup) (fun ob u => by rw [h1]; exact LtK.dnO_nofrz)
          have S2 : Sim X.K (upd H a (.frz ob (LtK.dnO Wd.w a es))) (era h a) := fun b o q => by
            by_cases z : b = a
            · subst z; rw [era_same] at q; cases q
            · rw [era_ne z] at q
              exact (S b o q).move k (upd_ne z)
          obtain ⟨H3, I3, k3, S3, q3⟩ := dfzs_ok F I2 S2 (h4.keep k)
          refine ⟨H3, I3, k.trans k3, S3, ?_⟩
          unfold Rep
          exact ⟨a, es, rfl, ⟨ob, k3.f _ _ _ upd_same⟩, h2, (h3.keep k).keep k3, q3⟩
    | tup xs =>
      rw [dfzD]
      obtain ⟨a, vs, rfl, t, q⟩ := rep_tup.1 r
      obtain ⟨H3, I3, k3, S3, q3⟩ := dfzs_ok F I S q
      exact ⟨H3, I3, k3, S3, rep_tup.2 ⟨a, vs, rfl, t.keep k3, q3⟩⟩
    | lst xs =>
      rw [dfzD]
      obtain ⟨a, vs, rfl, t, q⟩ := rep_lst.1 r
      obtain ⟨H3, I3, k3, S3, q3⟩ := dfzs_ok F I S q
      exact ⟨H3, I3, k3, S3, rep_lst.2 ⟨a, vs, rfl, t.keep k3, q3⟩⟩
    | dct ks xs =>
      rw [dfzD]
      unfold Rep at r
      obtain ⟨a, es, rfl, ⟨ob, t⟩, e, o, q⟩ := r
      obtain ⟨H3, I3, k3, S3, q3⟩ := dfzs_ok F I S q
      refine ⟨H3, I3, k3, S3, ?_⟩
      unfold Rep
      exact ⟨a, es, rfl, ⟨ob, k3.f _ _ _ t⟩, e, o.keep k3, q3⟩
    | non => exact ⟨H, I, TKeep.refl H, S, r⟩
    | bl _ => exact ⟨H, I, TKeep.refl H, S, r⟩
    | int _ => exact ⟨H, I, TKeep.refl H, S, r⟩
    | str _ => exact ⟨H, I, TKeep.refl H, S, r⟩
theorem s_fz (ha : PE X a (tE X.K X.mg W fa)) : PE X a (tE X.K X.mg W fun ρ h Q Y => fa ρ h (fun d h1 => frzW d h1 Q) Y) := by
  refine ⟨fun pins s σ H Q I ⟨ρ, h, R, Y, S, RE, w, lk, lx⟩ => ?_⟩
  refine thn (ha.run pins s σ H (fun v H1 => ∃ d h1, TKeep H H1 ∧ Sim X.K H1 h1 ∧ Rep X.K H1 d v ∧ frzW d h1 R) I ⟨ρ, h, _, Y, S, RE, w, fun v H1 d h1 k1 S1 q1 w1 => ⟨d, h1, k1, S1, q1, w1⟩, lx⟩) fun u s1 ⟨v, H1, I1, r1, d, h1, k1, S1, q1, w1⟩ => ?_
  obtain ⟨H2, d2, h2, I2, k2, S2, q2, w2⟩ := frz_ok I1 S1 q1 w1
  exact ⟨v, H2, I2, r1, lk v H2 d2 h2 (k1.trans k2) S2 q2 w2⟩

/-! ### and, or -/
def anW (fa : FE) (fr : FT) : FT := fun ρ h Q Y => fa ρ h (fun x h1 => blW x fun d => if d = true then fr ρ h1 Q Y else Q false h1) Y
def orW (fa : FE) (fr : FT) : FT := fun ρ h Q Y => fa ρ h (fun x h1 => blW x fun d => if d = true then Q true h1 else fr ρ h1 Q Y) Y
def fYes : FT := fun _ h Q _ => Q true h
def fNo : FT := fun _ h Q _ => Q false h
/-- a truth as a value -/
def vT (f : FT) : FE := fun ρ h Q Y => f ρ h (fun b h1 => Q (.bl b) h1) Y
variable {fr : FT} {rest : List Expr}
theorem an1T (ha : PT X a (tT X.K X.mg W (bT fa))) : PW X (.BoolOp .And [a] pos) (tT X.K X.mg W (anW fa fYes)) :=
  (pw_and1 ha).imp fun σ H Q ⟨ρ, h, R, Y, S, RE, w, lk, lx⟩ => ⟨ρ, h, fun b h1 => if b = true then R true h1 else R false h1, Y, S, RE, w, fun b H1 h1 k1 S1 w1 => by
    cases b with
    | true => replace w1 := ifT w1; exact lk _ _ _ k1 S1 w1
    | false => replace w1 := ifF w1; exact lk _ _ _ k1 S1 w1, lx⟩
theorem or1T (ha : PT X a (tT X.K X.mg W (bT fa))) : PW X (.BoolOp .Or [a] pos) (tT X.K X.mg W (orW fa fNo)) :=
  (pw_or1 ha).imp fun σ H Q ⟨ρ, h, R, Y, S, RE, w, lk, lx⟩ => ⟨ρ, h, fun b h1 => if b = true then R true h1 else R false h1, Y, S, RE, w, fun b H1 h1 k1 S1 w1 => by
    cases b with
    | true => replace w1 := ifT w1; exact lk _ _ _ k1 S1 w1
    | false => replace w1 := ifF w1; exact lk _ _ _ k1 S1 w1, lx⟩
theorem anT (ha : PT X a (tT X.K X.mg W (bT fa))) (hb : PW X (.BoolOp .And (b :: rest) pos) (tT X.K X.mg W fr)) : PW X (.BoolOp .And (a :: b :: rest) pos) (tT X.K X.mg W (anW fa fr)) :=
  (pw_and ha hb).imp fun σ H Q ⟨ρ, h, R, Y, S, RE, w, lk, lx⟩ => ⟨ρ, h, fun b h1 => if b = true then fr ρ h1 R Y else R false h1, Y, S, RE, w, fun b H1 h1 k1 S1 w1 => by
    cases b with
    | true => replace w1 := ifT w1; refine iteT ?_; exact ⟨ρ, h1, R, Y, S1, RE.keep k1, w1, fun b H2 h2 k2 => lk b H2 h2 (k1.trans k2), lx.keep k1⟩
    | false => replace w1 := ifF w1; refine iteF ?_; exact lk _ _ _ k1 S1 w1, lx⟩
theorem orT (ha : PT X a (tT X.K X.mg W (bT fa))) (hb : PW X (.BoolOp .Or (b :: rest) pos) (tT X.K X.mg W fr)) : PW X (.BoolOp .Or (a :: b :: rest) pos) (tT X.K X.mg W (orW fa fr)) :=
  (pw_or ha hb).imp fun σ H Q ⟨ρ, h, R, Y, S, RE, w, lk, lx⟩ => ⟨ρ, h, fun b h1 => if b = true then R true h1 else fr ρ h1 R Y, Y, S, RE, w, fun b H1 h1 k1 S1 w1 => by
    cases b with
    | true => replace w1 := ifT w1; refine iteT ?_; exact lk _ _ _ k1 S1 w1
    | false => replace w1 := ifF w1; refine iteF ?_; exact ⟨ρ, h1, R, Y, S1, RE.keep k1, w1, fun b H2 h2 k2 => lk b H2 h2 (k1.trans k2), lx.keep k1⟩, lx⟩
theorem an1E (ha : PE X a (tE X.K X.mg W fa)) : PE X (.BoolOp .And [a] pos) (tE X.K X.mg W (vT (anW fa fYes))) :=
  (pe_one ha).imp fun σ H Q ⟨ρ, h, R, Y, S, RE, w, lk, lx⟩ => ⟨ρ, h, _, Y, S, RE, w, fun v H1 d h1 k1 S1 q1 w1 => by
    have hz := blW_iff.1 w1; clear w1; obtain ⟨b, rfl, w1⟩ := hz
    have w2 : R (.bl b) h1 := by cases b <;> exact w1
    exact lk _ _ _ _ k1 S1 q1 w2, lx⟩
theorem or1E (ha : PE X a (tE X.K X.mg W fa)) : PE X (.BoolOp .Or [a] pos) (tE X.K X.mg W (vT (orW fa fNo))) :=
  (pe_one ha).imp fun σ H Q ⟨ρ, h, R, Y, S, RE, w, lk, lx⟩ => ⟨ρ, h, _, Y, S, RE, w, fun v H1 d h1 k1 S1 q1 w1 => by
    have hz := blW_iff.1 w1; clear w1; obtain ⟨b, rfl, w1⟩ := hz
    have w2 : R (.bl b) h1 := by cases b <;> exact w1
    exact lk _ _ _ _ k1 S1 q1 w2, lx⟩
theorem anE (ha : PE X a (tE X.K X.mg W fa)) (hb : PE X (.BoolOp .And (b :: rest) pos) (tE X.K X.mg W (vT fr))) : PE X (.BoolOp .And (a :: b :: rest) pos) (tE X.K X.mg W (vT (anW fa fr))) :=
  (pe_and ha hb).imp fun σ H Q ⟨ρ, h, R, Y, S, RE, w, lk, lx⟩ => ⟨ρ, h, _, Y, S, RE, w, fun v H1 d h1 k1 S1 q1 w1 => by
    have hz := blW_iff.1 w1; clear w1; obtain ⟨b, rfl, w1⟩ := hz
    rw [rep_bl] at q1
    refine ⟨b, q1, ?_⟩
    cases b with
    | true => replace w1 := ifT w1; refine iteT ?_; exact ⟨ρ, h1, R, Y, S1, RE.keep k1, w1, lk.keep k1, lx.keep k1⟩
    | false => replace w1 := ifF w1; refine iteF ?_; exact (lk.keep k1).same S1 (rep_bl.2 rfl) w1, lx⟩
theorem orE (ha : PE X a (tE X.K X.mg W fa)) (hb : PE X (.BoolOp .Or (b :: rest) pos) (tE X.K X.mg W (vT fr))) : PE X (.BoolOp .Or (a :: b :: rest) pos) (tE X.K X.mg W (vT (orW fa fr))) :=
  (pe_or ha hb).imp fun σ H Q ⟨ρ, h, R, Y, S, RE, w, lk, lx⟩ => ⟨ρ, h, _, Y, S, RE, w, fun v H1 d h1 k1 S1 q1 w1 => by
    have hz := blW_iff.1 w1; clear w1; obtain ⟨b, rfl, w1⟩ := hz
    rw [rep_bl] at q1
    refine ⟨b, q1, ?_⟩
    cases b with
    | true => replace w1 := ifT w1; refine iteT ?_; exact (lk.keep k1).same S1 (rep_bl.2 rfl) w1
    | false => replace w1 := ifF w1; refine iteF ?_; exact ⟨ρ, h1, R, Y, S1, RE.keep k1, w1, lk.keep k1, lx.keep k1⟩, lx⟩

/-! ### arguments -/
variable {es : List Expr} {f : FA}
theorem s_nil : PA X [] (tA X.K X.mg W fun _ h Q _ => Q [] h) := pa_nil.imp fun σ H Q ⟨ρ, h, R, Y, S, RE, w, lk, lx⟩ => lk [] H [] h (TKeep.refl H) S .nil w
theorem s_cons (ha : PE X a (tE X.K X.mg W fa)) (hr : PA X es (tA X.K X.mg W f)) (hs : starEach (a :: es) X.env = (false, eval a X.env) :: starEach es X.env) :
    PA X (a :: es) (tA X.K X.mg W fun ρ h Q Y => fa ρ h (fun x h1 => f ρ h1 (fun xs h2 => Q (x :: xs) h2) Y) Y) :=
  (pa_cons ha hr hs).imp fun σ H Q ⟨ρ, h, R, Y, S, RE, w, lk, lx⟩ => ⟨ρ, h, _, Y, S, RE, w, fun v H1 d h1 k1 S1 q1 w1 => ⟨ρ, h1, _, Y, S1, RE.keep k1, w1, fun vs H2 ds h2 k2 S2 q2 w2 =>
    lk _ _ _ _ (k1.trans k2) S2 (.cons (q1.keep k2) q2) w2, lx.keep k1⟩, lx⟩
theorem s_tup {x1 : Nat} (h : PA X es (tA X.K X.mg W f)) : PE X (.Tuple es x1 pos) (tE X.K X.mg W fun ρ h Q Y => f ρ h (fun xs h1 => xs.length ≤ sizeLine ∧ Q (.tup xs) h1) Y) :=
  (pe_tup h).imp fun σ H Q ⟨ρ, h, R, Y, S, RE, w, lk, lx⟩ => ⟨ρ, h, _, Y, S, RE, w, fun vs H1 ds h1 k1 S1 q1 w1 => ⟨by rw [← q1.length]; exact w1.1, (lk.keep k1).tup S1 q1 w1.2⟩, lx⟩
theorem s_lst (h : PA X es (tA X.K X.mg W f)) : PE X (.List es pos) (tE X.K X.mg W fun ρ h Q Y => f ρ h (fun xs h1 => xs.length ≤ sizeLine ∧ ∀ p, h1 p = none → Q (.ref p) (up h1 p (.lst xs))) Y) :=
  (pe_lst h).imp fun σ H Q ⟨ρ, h, R, Y, S, RE, w, lk, lx⟩ => ⟨ρ, h, _, Y, S, RE, w, fun vs H1 ds h1 k1 S1 q1 w1 => ⟨by rw [← q1.length]; exact w1.1, (lk.keep k1).new S1 q1 w1.2⟩, lx⟩
theorem s_ix (hw : X.w = Wd.w) (hu : X.A.units + 65 < cLine) (ha : PE X a (tE X.K X.mg W fa)) (hb : PE X b (tE X.K X.mg W fb)) (hs : PlainIx b) : PE X (.Subscript a b pos) (tE X.K X.mg W fun ρ h Q Y => fa ρ h (fun x h1 => fb ρ h1 (fun y h2 => ixW x y h2 Q) Y) Y) :=
  (pe_ix (ixR_ hw hu) ha hb hs).imp fun σ H Q ⟨ρ, h, R, Y, S, RE, w, lk, lx⟩ => ⟨ρ, h, _, Y, S, RE, w, fun v H1 d h1 k1 S1 q1 w1 => ⟨ρ, h1, _, Y, S1, RE.keep k1, w1, fun v2 H2 e h2 k2 S2 q2 w2 =>
    ⟨d, e, h2, R, S2, q1.keep k2, q2, w2, lk.keep (k1.trans k2)⟩, lx.keep k1⟩, lx⟩
abbrev FO := En → Hh → (Option Int → Hh → Prop) → XD → Prop
def tO (K : PySem.W.Frag) (mg : Str → Option Value) (W : WX) (f : FO) : TO := fun σ H Q => ∃ ρ h R Y, Sim K H h ∧ RepE K H ρ σ ∧ f ρ h R Y ∧ (∀ b H' h', TKeep H H' → Sim K H' h' → R b h' → Q b H') ∧ LkX K mg W σ H Y
theorem s_noPart : PO X none (tO X.K X.mg W fun _ h Q _ => Q none h) := po_none.imp fun σ H Q ⟨ρ, h, R, Y, S, RE, w, lk, lx⟩ => lk _ _ _ (TKeep.refl H) S w
theorem s_part (ha : PE X a (tE X.K X.mg W fa)) : PO X (some a) (tO X.K X.mg W fun ρ h Q Y => fa ρ h (fun y h2 => intW y fun i => Q (some i) h2) Y) :=
  (po_some ha).imp fun σ H Q ⟨ρ, h, R, Y, S, RE, w, lk, lx⟩ => ⟨ρ, h, _, Y, S, RE, w, fun v H1 d h1 k1 S1 q1 w1 => by
    have hz := intW_iff.1 w1; clear w1; obtain ⟨i, rfl, w1⟩ := hz
    rw [rep_int] at q1
    exact ⟨i, q1, lk _ _ _ k1 S1 w1⟩, lx⟩
theorem s_sl {lo hi : Option Expr} {fl fh : FO} {p2 : Pos} (ha : PE X a (tE X.K X.mg W fa)) (hl : PO X lo (tO X.K X.mg W fl)) (hh : PO X hi (tO X.K X.mg W fh)) :
    PE X (.Subscript a (.Slice lo hi none p2) pos) (tE X.K X.mg W fun ρ h Q Y => fa ρ h (fun x h1 => fl ρ h1 (fun l h2 => fh ρ h2 (fun u h3 => slW x l u h3 Q) Y) Y) Y) :=
  (pe_slice slR_ ha hl hh).imp fun σ H Q ⟨ρ, h, R, Y, S, RE, w, lk, lx⟩ => ⟨ρ, h, _, Y, S, RE, w, fun v H1 d h1 k1 S1 q1 w1 => ⟨ρ, h1, _, Y, S1, RE.keep k1, w1, fun l H2 h2 k2 S2 w2 =>
    ⟨ρ, h2, _, Y, S2, RE.keep (k1.trans k2), w2, fun u H3 h3 k3 S3 w3 => ⟨d, h3, R, S3, q1.keep (k2.trans k3), w3, lk.keep (k1.trans (k2.trans k3))⟩, lx.keep (k1.trans k2)⟩, lx.keep k1⟩, lx⟩

/-! ### calls -/
def spL (K : PySem.W.Frag) (mg : Str → Option Value) (n : Nat) (w : List D → Hh → QD → XD → Prop) : Sp := fun vs H Q E => ∃ ds h R Y, ds.length = n ∧ Sim K H h ∧ Reps K H ds vs ∧ w ds h R Y ∧ LkV K H R Q ∧
  (∀ c u H' h', TKeep H H' → Sim K H' h' → mg c = some u → Y c h' → E u none H')
theorem noStar_each (h : ∀ e p, a ≠ .Starred e p) (env : Env) : starEach (a :: es) env = (false, eval a env) :: starEach es env := by
  cases a <;> first | rfl | exact absurd rfl (h _ _)
def noStar : List Expr → Bool
  | [] => true
  | .Starred .. :: _ => false
  | _ :: r => noStar r
theorem noStar_cons (h : noStar (a :: es) = true) : (∀ e p, a ≠ .Starred e p) ∧ noStar es = true := by
  cases a <;> first
    | exact absurd h Bool.false_ne_true
    | exact ⟨fun _ _ => Expr.noConfusion, h⟩
theorem noStar_any (env : Env) (pos : Pos) : ∀ {es : List Expr}, noStar es = true → (backTo pos (starEach es env)).any (·.1) = false
  | [], _ => rfl
  | a :: es, h => by
    obtain ⟨h1, h2⟩ := noStar_cons h
    rw [noStar_each h1]
    have ih := noStar_any env pos h2
    unfold backTo at ih ⊢
    rw [List.map_cons, List.any_cons, ih]
    rfl
theorem noStar_all (env : Env) (pos : Pos) : ∀ {es : List Expr}, noStar es = true → (backTo pos (starEach es env)).all (fun x => !x.1) = true
  | [], _ => rfl
  | a :: es, h => by
    obtain ⟨h1, h2⟩ := noStar_cons h
    rw [noStar_each h1]
    have ih := noStar_all env pos h2
    unfold backTo at ih ⊢
    rw [List.map_cons, List.all_cons, ih]
    rfl
theorem s_call {k n : Nat} {g : Addr} {fd : FuncData} {ps : List Str} {x : Str} {p : Pos} {w : List D → Hh → QD → XD → Prop} (tk : Takes X W) (gd : X.A.guards = some []) (F : LtG.FnG X.prog X.w X.K X.mg X.base (L2.CX X.prog X.w) k g fd ps (spL X.K X.mg n w)) (hr : Room k X.A) (hg : Gl X x) (hm : X.mg x = some (.ref g))
    (hk : PySem.W.keepIn X.K (.ref g) = true) (hb : Binds X.K fd ps []) (ha : PA X (a :: es) (tA X.K X.mg W f)) (hdb : (x == ("__debug__" : Str)) = false) (ns : noStar (a :: es) = true) :
    PE X (.Call (.Name x p) (a :: es) [] pos) (tE X.K X.mg W fun ρ h Q Y => f ρ h (fun xs h1 => xs.length = n ∧ w xs h1 Q Y) Y) :=
  (LtG.pe_callG F gd hr hg hm hk hb (passAt tk) ha hdb (noStar_each (noStar_cons ns).1 _) (noStar_any _ _ (noStar_cons ns).2)).imp fun σ H Q ⟨ρ, h, R, Y, S, RE, w, lk, lx⟩ =>
    ⟨ρ, h, _, Y, S, RE, w, fun vs H1 ds h1 k1 S1 q1 w1 => ⟨ds, h1, R, Y, w1.1, S1, q1, w1.2, lk.keep k1, lx.keep k1⟩, lx⟩
theorem s_callB {x : Str} {p : Pos} {id : String} {w : List D → Hh → QD → Prop} (hc : CallR X (.builtin id) (rs X.K w)) (hg : Gl X x) (hm : X.mg x = none) (hv : bootBuiltins x = some (.builtin id)) (ha : PA X (a :: es) (tA X.K X.mg W f)) (ns : noStar (a :: es) = true)
    (hn : x ≠ "__name__") (hdb : (x == ("__debug__" : Str)) = false) : PE X (.Call (.Name x p) (a :: es) [] pos) (tE X.K X.mg W fun ρ h Q Y => f ρ h (fun xs h1 => w xs h1 Q) Y) :=
  (pe_callB hc hg hm hv ha hn hdb (noStar_each (noStar_cons ns).1 _) (noStar_any _ _ (noStar_cons ns).2)).imp fun σ H Q ⟨ρ, h, R, Y, S, RE, w, lk, lx⟩ =>
    ⟨ρ, h, _, Y, S, RE, w, fun vs H1 ds h1 k1 S1 q1 w1 => ⟨ds, h1, R, S1, q1, w1, lk.keep k1⟩, lx⟩
theorem s_callTy {x : Str} {p : Pos} {id : String} {w : List D → Hh → QD → Prop} (hc : CallR X (.type id) (rs X.K w)) (hg : Gl X x) (hm : X.mg x = none) (hv : bootBuiltins x = some (.type id)) (ha : PA X (a :: es) (tA X.K X.mg W f)) (ns : noStar (a :: es) = true)
    (hn : x ≠ "__name__") (hdb : (x == ("__debug__" : Str)) = false) : PE X (.Call (.Name x p) (a :: es) [] pos) (tE X.K X.mg W fun ρ h Q Y => f ρ h (fun xs h1 => w xs h1 Q) Y) :=
  (pe_callTy hc hg hm hv ha hn hdb (noStar_each (noStar_cons ns).1 _) (noStar_any _ _ (noStar_cons ns).2)).imp fun σ H Q ⟨ρ, h, R, Y, S, RE, w, lk, lx⟩ =>
    ⟨ρ, h, _, Y, S, RE, w, fun vs H1 ds h1 k1 S1 q1 w1 => ⟨ds, h1, R, S1, q1, w1, lk.keep k1⟩, lx⟩
def noCall0 : Expr → Bool
  | .Call (.Name _ _) [] [] _ => false
  | _ => true
theorem noCall0_base {o : Expr} (h : noCall0 o = true) (n : Str) (env : Env) (w : Sem Value) : attributeBase o n env w = w := by
  unfold attributeBase
  split
  · exact absurd h Bool.false_ne_true
  · rfl
theorem s_mt {m : Str} {Ty id : String} {apos cpos : Pos} {w : D → List D → Hh → QD → Prop} {ty : D → Hh → Prop} (pa : PlainAttrs Ty) (slot : Slot Ty m id) (hty : typeOf (.builtin id) = pure (.type "method_descriptor")) (hm : MtR X id (rm X.K w))
    (htv : ∀ d v H h, Sim X.K H h → Rep X.K H d v → ty d h → tyV X.K Ty v H) (ho : PE X b (tE X.K X.mg W fb)) (ha : PA X (a :: es) (tA X.K X.mg W f)) (hb : noCall0 b = true) (hl : (a :: es).length < 30) (hline : (apos.endLine == cpos.line) = true) (ns : noStar (a :: es) = true) :
    PE X (.Call (.Attribute b m apos) (a :: es) [] cpos) (tE X.K X.mg W fun ρ h Q Y => fb ρ h (fun x h1 => ty x h1 ∧ f ρ h1 (fun xs h2 => w x xs h2 Q) Y) Y) :=
  (pe_bm pa slot hty hm ho ha (noCall0_base hb _ _ _) (by
    rw [noStar_all _ _ ns]
    show (true && true && decide ((a :: es).length + 0 + 0 < 30)) = true
    simpa using hl) hline (noStar_each (noStar_cons ns).1 _) (noStar_any _ _ (noStar_cons ns).2)).imp fun σ H Q ⟨ρ, h, R, Y, S, RE, w, lk, lx⟩ =>
    ⟨ρ, h, _, Y, S, RE, w, fun v H1 d h1 k1 S1 q1 w1 => ⟨htv d v H1 h1 S1 q1 w1.1, ρ, h1, _, Y, S1, RE.keep k1, w1.2, fun vs H2 ds h2 k2 S2 q2 w2 => ⟨d, ds, h2, R, S2, q1.keep k2, q2, w2, lk.keep (k1.trans k2)⟩, lx.keep k1⟩, lx⟩
theorem s_mt0 {m : Str} {Ty id : String} {apos cpos : Pos} {w : D → List D → Hh → QD → Prop} {ty : D → Hh → Prop} (pa : PlainAttrs Ty) (slot : Slot Ty m id) (hty : typeOf (.builtin id) = pure (.type "method_descriptor")) (hm : MtR X id (rm X.K w))
    (htv : ∀ d v H h, Sim X.K H h → Rep X.K H d v → ty d h → tyV X.K Ty v H) (ho : PE X b (tE X.K X.mg W fb)) (hb : noCall0 b = true) (hline : (apos.endLine == cpos.line) = true) :
    PE X (.Call (.Attribute b m apos) [] [] cpos) (tE X.K X.mg W fun ρ h Q Y => fb ρ h (fun x h1 => ty x h1 ∧ w x [] h1 Q) Y) :=
  (pe_bm0 pa slot hty hm ho (noCall0_base hb _ _ _) hline).imp fun σ H Q ⟨ρ, h, R, Y, S, RE, w, lk, lx⟩ =>
    ⟨ρ, h, _, Y, S, RE, w, fun v H1 d h1 k1 S1 q1 w1 => ⟨htv d v H1 h1 S1 q1 w1.1, d, [], h1, R, S1, q1, .nil, w1.2, lk.keep k1⟩, lx⟩
theorem s_isT {p p2 : Pos} (t : Ty) (hg : Gl X "isinstance") (hm : X.mg "isinstance" = none) (hg2 : Gl X (Str.ofString (tyN t))) (hm2 : X.mg (Str.ofString (tyN t)) = none) (ha : PE X a (tE X.K X.mg W fa)) (ns : ∀ e p, a ≠ .Starred e p) :
    PE X (.Call (.Name "isinstance" p) [a, .Name (Str.ofString (tyN t)) p2] [] pos) (tE X.K X.mg W fun ρ h Q Y => fa ρ h (fun x h1 => optW (isTy h1 x t) fun b => Q (.bl b) h1) Y) := by
  have hb : PE X (.Name (Str.ofString (tyN t)) p2) (tC (.ty (tyN t))) := pe_bltn hg2 hm2 (by cases t <;> decide +kernel) rfl (by cases t <;> decide) (by cases t <;> decide)
  refine (pe_callB call_isi hg hm (by decide +kernel) (pa_cons ha (pa_cons hb pa_nil rfl) (noStar_each ns _)) (by decide) (by decide) (noStar_each ns _) (noStar_any _ _ (es := [.Name (Str.ofString (tyN t)) p2]) rfl)).imp fun σ H Q ⟨ρ, h, R, Y, S, RE, w, lk, lx⟩ =>
    ⟨ρ, h, _, Y, S, RE, w, fun v H1 d h1 k1 S1 q1 w1 => ?_, lx⟩
  have hz := optW_iff.1 w1; clear w1; obtain ⟨b, e, w1⟩ := hz
  obtain ⟨u, ty, ko⟩ := isTy_ok S1 q1 e
  exact ⟨v, .ty (tyN t), u, .type (tyN t), b, rfl, .ty _, ty, ko, (lk.keep k1).same S1 (rep_bl.2 rfl) w1⟩
end
end Lt

set_option maxHeartbeats 4000000
namespace Lt
open PySem PySem.Spec PyProof.Rows L2
variable [Wd]
section
variable {X : Cx}
theorem mt_getR (hw : X.w = Wd.w) (hu : X.A.units + 65 < cLine) : MtR X "dict.get" (rm X.K (mtW .get)) := by
  intro pins s σ H x xs v us Q I rx rs hh
  obtain ⟨d, ds, h, R, S, r1, r2, w, l⟩ := hh
  match ds, w with
  | [y], w =>
    obtain ⟨kvs, e1, w⟩ := optW_iff.1 (show optW (rdN h d) fun kvs => optW (keyT y) fun k => R ((lkp kvs k).getD .non) h by cases d <;> exact w)
    obtain ⟨k, e2, w⟩ := optW_iff.1 w
    obtain ⟨yv, rfl, q1⟩ := reps1 r2
    obtain ⟨u, rfl, ru⟩ := vals1 rs
    exact dn_get2 hw hu I S r1 rx q1 ru e1 e2 fun z rz => l.same S rz w
  | [y, z], w =>
    obtain ⟨kvs, e1, w⟩ := optW_iff.1 (show optW (rdN h d) fun kvs => optW (keyT y) fun k => R ((lkp kvs k).getD z) h by cases d <;> exact w)
    obtain ⟨k, e2, w⟩ := optW_iff.1 w
    obtain ⟨yv, zv, rfl, q1, q2⟩ := reps2 r2
    obtain ⟨u, f2, rfl, ru, rf⟩ := Vals.two rs
    exact dn_get3 hw hu I S r1 rx q1 ru q2 rf e1 e2 fun z rz => l.same S rz w
  | [], w => cases d <;> exact w.elim
  | _ :: _ :: _ :: _, w => cases d <;> exact w.elim
theorem pe_dget (hw : X.w = Wd.w) (hu : X.A.units + 65 < cLine) {o e : Expr} {es : List Expr} {to : TE} {t : TA} {apos cpos : Pos} (ho : PE X o to) (ha : PA X (e :: es) t)
    (hbase : attributeBase o "get" X.env (eval o X.env) = eval o X.env)
    (hfew : ((backTo cpos (starEach (e :: es) X.env)).all (fun x => !x.1) && (backToKw cpos (keywordEach [] X.env)).all (fun x => x.1.isSome) && decide ((e :: es).length + ([] : List Keyword).length + (if ([] : List Keyword).isEmpty then 0 else 1) < 30)) = true)
    (hline : (apos.endLine == cpos.line) = true) (hs : starEach (e :: es) X.env = (false, eval e X.env) :: starEach es X.env) (hplain : (backTo cpos (starEach es X.env)).any (·.1) = false) :
    PE X (.Call (.Attribute o "get" apos) (e :: es) [] cpos) (fun σ H Q => to σ H fun x H1 => (∃ kvs, DR X x H1 kvs) ∧ t σ H1 fun xs H2 => rm X.K (mtW .get) x xs H2 Q) := by
  refine ⟨fun pins s σ H Q I h => ?_⟩
  refine wpAny_Call_method_late hbase hfew hline rfl (thn (ho.run pins s σ H _ I h) fun v s1 ⟨x, H1, I1, r1, ⟨kvs, d, h1, S, r, e1⟩, q1⟩ => ?_)
  obtain ⟨a, _, _, _, e2, A⟩ := dn_at hw I1 S r e1 r1
  subst e2
  refine ⟨"dict", "dict.get", F.plainAttrs_dict, F.slot_dict_get, F.type_dict_get, A.raw.ty, Raw_nodict A.raw, ?_⟩
  have hA := ha.run cpos pins s1 σ H1 _ I1 q1
  rw [hs] at hA ⊢
  refine PySem.Calls.callWith_builtin (by show (false || (backTo cpos (starEach es X.env)).any (·.1)) = false; rw [hplain] <;> rfl) (PySem.Calls.evalArgs_plain ?_)
  exact thn hA fun us s2 ⟨vs, H2, I2, r2, q2⟩ => mt_getR hw hu pins s2 σ H2 x vs (.ref a) us Q I2 r1 r2 q2
theorem cr_sorted_any (hw : X.w = Wd.w) (cal : X.calm = true) (hu : X.A.units + 65 < cLine) : CallR X (.builtin "sorted") (rs X.K (pxW .srt)) := by
  intro pins s σ H xs us Q I r hh
  obtain ⟨ds, h, R, S, rd, w, l⟩ := hh
  match ds, w with
  | [x], w =>
    obtain ⟨v, rfl, r1⟩ := reps1 rd
    obtain ⟨u, rfl, ru⟩ := vals1 r
    cases e : rdN h x with
    | some kvs =>
      simp only [pxW, e] at w
      obtain ⟨ok, w⟩ := w
      exact dn_sorted hw cal hu I S r1 ru e ok fun p vs hp rr => l _ _ _ _ (TKeep.new hp) (S.lst (TKeep.new hp) rr) (by rw [rep_ref]) (w p (S.fresh hp))
    | none =>
      simp only [pxW, e] at w
      obtain ⟨xs, e1, ds, ip, ok, w⟩ := optW_iff.1 w
      obtain ⟨a, vs, rfl, sq, rr⟩ := S.ls r1 e1
      cases (show u = .ref a from ru)
      exact srt_list hu I sq (ip.dp S ds rr) ok (l.new S (srt_reps rr) w)
  | [], w => exact w.elim
  | _ :: _ :: _, w => exact w.elim
/-- {k: v}, the key's reading changes nothing, the value a constant -/
theorem pe_done (hw : X.w = Wd.w) (hu : X.A.units + 65 < cLine) {ke ve : Expr} {tk : TE} {v : V} {pos : Pos} (hk : PE X ke tk) (hv : PE X ve (tC v)) :
    PE X (.Dict [some ke] [ve] pos) (fun σ H Q => ∃ x, (∀ H1 (Q : VK), Q x H1 → tk σ H1 Q) ∧ ∃ d k, Rep X.K H d x ∧ keyT d = some k ∧ ∀ p, H p = none → Q (.ref p) (upd H p (LtK.dnO X.w p [(k, x, v)]))) := by
  refine ⟨fun pins s σ H Q I ⟨x, htk, d, k, rd, kt, q⟩ => ?_⟩
  have hn : H s.heap.objs.size = none := I.hok.fresh (Nat.le_refl _)
  have lo : (s.heap.objs.size == sysModules) = false := beq_eq_false_iff_ne.mpr (Ne.symm (Nat.ne_of_lt I.big))
  have I1 := I.laid (a := s.heap.objs.size) (o := LtK.dnO X.w s.heap.objs.size []) (h' := s.heap.push { cls := .type "dict", data := .dict #[] }) (t' := s.toks) (fun _ _ q => Heap.get?_push_of_some _ q) (Nat.le_refl _) (LtK.dnO_ok (Nat.zero_le _) lo .nil (LtK.Raw.new _ _))
  let H0 := upd H s.heap.objs.size (LtK.dnO X.w s.heap.objs.size [])
  have go : wpAny (model X.prog X.w) X.A (eval ke X.env) (fun ku s1 => wpAny (model X.prog X.w) X.A (eval ve X.env) (fun vu s2 => RelV x ku ∧ RelV v vu ∧ Inv X pins σ H0 s2) X.xe s1) X.xe { s with heap := s.heap.push { cls := .type "dict", data := .dict #[] }, toks := s.toks } :=
    wpAny_mono (hk.run pins _ σ _ (fun y H1 => y = x ∧ H1 = H0) I1 (htk _ _ ⟨rfl, rfl⟩)) (fun ku s1 ⟨y, H1, I2, r1, ey, eH⟩ => by
      subst ey
      rw [eH] at I2
      exact wpAny_mono (hv.run pins s1 σ _ (fun z H2 => z = v ∧ H2 = H0) I2 ⟨rfl, rfl⟩) (fun vu s2 ⟨z, H2, I3, r2, ez, eH2⟩ => by
        subst ez; rw [eH2] at I3; exact ⟨r1, r2, I3⟩) fun _ _ e => e) fun _ _ e => e
  rw [arm_eval_Dict, show ((evalEachOpt [some ke] X.env).zip ((evalEach [ve] X.env).map fun v => do let x ← v; standAt pos; pure x)) = ([(eval ke X.env, do let x ← eval ve X.env; standAt pos; pure x)] : List (Sem Value × Sem Value)).map (fun p => (some p.1, p.2)) from rfl, dictDisplay_pairs _ (by simp) (by simp)]
  refine wpAny_bind (wpAny_standAt (wpAny_bind ?_))
  unfold subDict
  refine wpAny_bind (wpAny_alloc ?_)
  refine wpAny_bind (wpAny_holding ?_)
  rw [if_pos (by simp)]
  have ev := pairTrees_cons_walk (k := ke) (v := ve) (ks := []) (vs := []) (env := X.env) (pos := pos) (prog := X.prog) (w := X.w) (A := X.A) (E := X.xe) (s := { s with heap := s.heap.push { cls := .type "dict", data := .dict #[] } })
    (Q := fun ps s2 => ∃ ku vu, ps = [(ku, vu)] ∧ RelV x ku ∧ RelV v vu ∧ Inv X pins σ H0 s2)
    (wpAny_mono go (fun ku s1 h1 => wpAny_mono h1 (fun vu s2 ⟨a, b, c⟩ => pairTrees_nil_walk ⟨ku, vu, rfl, a, b, c⟩) fun _ _ e => e) fun _ _ e => e)
  refine wpAny_bind (wpAny_mono ev (fun ps s2 ⟨ku, vu, e, ra, rb, I3⟩ => ?_) fun _ _ e => e)
  subst e
  refine wpAny_holding ?_
  refine wpAny_bind ?_
  rw [List.forIn_cons]
  obtain ⟨_, _, xs, re, raw⟩ := LtK.dnO_inv (I3.hok s.heap.objs.size _ upd_same)
  cases re
  obtain ⟨k2, k3, k4⟩ := key_at I3 kt (rd.keep (TKeep.new hn)) ra
  refine wpAny_bind (wpAny_bind (LtK.dset_ok (v := vu) (by omega) k2 raw (fun e he => by cases he) (Nat.zero_le _) fun h' R' sb => wpAny_pure ?_))
  dsimp only
  rw [List.forIn_nil]
  refine wpAny_pure (wpAny_pure (wpAny_pure ?_))
  obtain ⟨o, _, _, g1, _⟩ := id R'
  have re' : PySem.Paired LtK.RE [(k, x, v)] (LtK.sto [] k ku vu) := .cons ⟨rfl, ra, rb⟩ .nil
  have I4 := d_write (t' := s2.toks + k.draws) (ob := LtK.dnO X.w s.heap.objs.size [(k, x, v)]) I3 (by show Mut (upd H s.heap.objs.size (LtK.dnO X.w s.heap.objs.size []) s.heap.objs.size); rw [upd_same]; exact LtK.dnO_mut) sb ⟨o, g1⟩ (LtK.dnO_ok (by show 1 ≤ sizeLine; decide) lo re' R')
  rw [show upd H0 s.heap.objs.size (LtK.dnO X.w s.heap.objs.size [(k, x, v)]) = upd H s.heap.objs.size (LtK.dnO X.w s.heap.objs.size [(k, x, v)]) from upd_upd] at I4
  exact wpAny_pure ⟨.ref s.heap.objs.size, _, I4, rfl, q _ hn⟩
end
end Lt

set_option maxHeartbeats 4000000
namespace Lt
open PySem PySem.Spec PyProof.Rows L2
variable [Wd]

structure ItOk (K : PySem.W.Frag) (H0 : Hp) (it : IT) (J : It) : Prop where
  go : ∀ i H h d, TKeep H0 H → Sim K H h → it.nx i h = .go d → J.go i H ∧ ∀ x H', J.yld i H x H' → TKeep H H' ∧ Sim K H' h ∧ Rep K H' d x
  stop : ∀ i H h, TKeep H0 H → Sim K H h → it.nx i h = .stop → J.stop i H
theorem ItOk.keep {K : PySem.W.Frag} {H0 H1 : Hp} {it : IT} {J : It} (o : ItOk K H0 it J) (k : TKeep H0 H1) : ItOk K H1 it J :=
  ⟨fun i H h d k1 => o.go i H h d (k.trans k1), fun i H h k1 => o.stop i H h (k.trans k1)⟩
theorem nxL_go {o : Option (List D)} {i : Nat} {d : D} (h : nxL o i = .go d) : ∃ xs, o = some xs ∧ xs[i]? = some d := by
  unfold nxL at h
  split at h
  · rename_i xs
    split at h
    · rename_i d' e; cases h; exact ⟨xs, rfl, e⟩
    · cases h
  · cases h
theorem nxL_stop {o : Option (List D)} {i : Nat} (h : nxL o i = .stop) : ∃ xs, o = some xs ∧ xs[i]? = none := by
  unfold nxL at h
  split at h
  · rename_i xs
    split at h
    · cases h
    · rename_i e; exact ⟨xs, rfl, e⟩
  · cases h
section
variable {K : PySem.W.Frag} {H0 : Hp}
theorem len_of {H : Hp} {xs : List D} {vs : List V} {i : Nat} (r : Reps K H xs vs) (e : xs[i]? = none) : vs.length ≤ i := by
  rw [← r.length]; exact List.getElem?_eq_none_iff.mp e
theorem itl_ok (a : Addr) : ItOk K H0 (.lst a) (Itl K a) where
  go := fun i H h d _ S e => by
    obtain ⟨xs, e1, e2⟩ := nxL_go e
    obtain ⟨vs, h1, r⟩ := S.rd e1
    obtain ⟨v, e3, rv⟩ := r.get d e2
    refine ⟨⟨vs, v, .inl h1, e3⟩, fun x H' ⟨q1, q2⟩ => ?_⟩
    subst q1
    have := q2 vs (.inl h1)
    rw [e3] at this; cases this
    exact ⟨TKeep.refl _, S, rv⟩
  stop := fun i H h _ S e => by
    obtain ⟨xs, e1, e2⟩ := nxL_stop e
    obtain ⟨vs, h1, r⟩ := S.rd e1
    exact ⟨vs, .inl h1, len_of r e2⟩
theorem itt_ok {a : Addr} {xs : List D} {vs : List V} (t : TupAt K H0 a vs) (r : Reps K H0 xs vs) : ItOk K H0 (.seq xs) (Itt K a) where
  go := fun i H h d k S e => by
    obtain ⟨xs', e1, e2⟩ := nxL_go (show nxL (some xs) i = .go d from e)
    cases e1
    obtain ⟨v, e3, rv⟩ := (r.keep k).get d e2
    refine ⟨⟨vs, v, (t.keep k).sq, e3⟩, fun x H' ⟨q1, q2⟩ => ?_⟩
    subst q1
    have := q2 vs (t.keep k).sq
    rw [e3] at this; cases this
    exact ⟨TKeep.refl _, S, rv⟩
  stop := fun i H h k S e => by
    obtain ⟨xs', e1, e2⟩ := nxL_stop (show nxL (some xs) i = .stop from e)
    cases e1
    exact ⟨vs, (t.keep k).sq, len_of r e2⟩
theorem itf_ok {a : Addr} {xs : List D} {vs : List V} (t : FrzL K H0 a vs) (r : Reps K H0 xs vs) : ItOk K H0 (.seq xs) (Itl K a) where
  go := fun i H h d k S e => by
    obtain ⟨xs', e1, e2⟩ := nxL_go (show nxL (some xs) i = .go d from e)
    cases e1
    obtain ⟨v, e3, rv⟩ := (r.keep k).get d e2
    refine ⟨⟨vs, v, (t.keep k).sq, e3⟩, fun x H' ⟨q1, q2⟩ => ?_⟩
    subst q1
    have := q2 vs (t.keep k).sq
    rw [e3] at this; cases this
    exact ⟨TKeep.refl _, S, rv⟩
  stop := fun i H h k S e => by
    obtain ⟨xs', e1, e2⟩ := nxL_stop (show nxL (some xs) i = .stop from e)
    cases e1
    exact ⟨vs, (t.keep k).sq, len_of r e2⟩
theorem rngD_get : ∀ (n : Nat) (lo : Int) (i : Nat), (rngD lo n)[i]? = if i < n then some (.int (lo + i)) else none
  | 0, lo, i => by simp [rngD]
  | n + 1, lo, 0 => by simp [rngD]
  | n + 1, lo, i + 1 => by
    rw [rngD, List.getElem?_cons_succ, rngD_get n (lo + 1) i]
    by_cases c : i < n
    · rw [if_pos c, if_pos (by omega)]; congr 2; omega
    · rw [if_neg c, if_neg (by omega)]
theorem itr_ok (lo : Int) (n : Nat) : ItOk K H0 (.seq (rngD lo n)) (Itr lo n) where
  go := fun i H h d _ S e => by
    obtain ⟨xs', e1, e2⟩ := nxL_go (show nxL (some (rngD lo n)) i = .go d from e)
    cases e1
    rw [rngD_get] at e2
    by_cases c : i < n
    · rw [if_pos c] at e2; cases e2
      refine ⟨c, fun x H' ⟨q1, q2⟩ => ?_⟩
      subst q1 q2
      exact ⟨TKeep.refl _, S, rep_int.2 rfl⟩
    · rw [if_neg c] at e2; cases e2
  stop := fun i H h _ S e => by
    obtain ⟨xs', e1, e2⟩ := nxL_stop (show nxL (some (rngD lo n)) i = .stop from e)
    cases e1
    rw [rngD_get] at e2
    by_cases c : i < n
    · rw [if_pos c] at e2; cases e2
    · exact Nat.le_of_not_lt c
theorem nxE_go {o : Option (List D)} {i : Nat} {d : D} (h : nxE o i = .go d) : ∃ d' xs, d = .tup [.int i, d'] ∧ o = some xs ∧ xs[i]? = some d' := by
  unfold nxE at h
  split at h
  · rename_i xs
    split at h
    · rename_i d' e; cases h; exact ⟨d', xs, rfl, rfl, e⟩
    · cases h
  · cases h
theorem nxE_stop {o : Option (List D)} {i : Nat} (h : nxE o i = .stop) : ∃ xs, o = some xs ∧ xs[i]? = none := by
  unfold nxE at h
  split at h
  · rename_i xs
    split at h
    · cases h
    · rename_i e; exact ⟨xs, rfl, e⟩
  · cases h
theorem ite_ok (a : Addr) : ItOk K H0 (.enu a) (Ite K a) where
  go := fun i H h d _ S e => by
    obtain ⟨d', xs, rfl, e1, e2⟩ := nxE_go e
    obtain ⟨vs, h1, r⟩ := S.rd e1
    obtain ⟨v, e3, rv⟩ := r.get d' e2
    refine ⟨⟨vs, v, .inl h1, e3⟩, fun x H' ⟨T, y, q1, q2, q3, q4⟩ => ?_⟩
    subst q1 q3
    have := q4 vs (.inl h1)
    rw [e3] at this; cases this
    refine ⟨TKeep.new q2, S.tup q2, rep_tup.2 ⟨T, _, rfl, .inl upd_same, .cons (rep_int.2 rfl) (.cons (rv.keep (TKeep.new q2)) .nil)⟩⟩
  stop := fun i H h _ S e => by
    obtain ⟨xs, e1, e2⟩ := nxE_stop e
    obtain ⟨vs, h1, r⟩ := S.rd e1
    exact ⟨vs, .inl h1, len_of r e2⟩
theorem enuD_get : ∀ (xs : List D) (k i : Nat), (enuD k xs)[i]? = xs[i]?.map fun d => .tup [.int ((k + i : Nat) : Int), d]
  | [], k, i => by simp [enuD]
  | x :: r, k, 0 => by simp [enuD]
  | x :: r, k, i + 1 => by
    rw [enuD, List.getElem?_cons_succ, enuD_get r (k + 1) i, List.getElem?_cons_succ]
    have e : k + 1 + i = k + (i + 1) := by omega
    rw [e]
theorem itef_ok {a : Addr} {xs : List D} {vs : List V} (t : FrzL K H0 a vs) (r : Reps K H0 xs vs) : ItOk K H0 (.seq (enuD 0 xs)) (Ite K a) where
  go := fun i H h d k S e => by
    obtain ⟨xs', e1, e2⟩ := nxL_go (show nxL (some (enuD 0 xs)) i = .go d from e)
    cases e1
    rw [enuD_get] at e2
    cases q : xs[i]? with
    | none => rw [q] at e2; cases e2
    | some d' =>
      rw [q] at e2; cases e2
      obtain ⟨v, e3, rv⟩ := (r.keep k).get d' q
      refine ⟨⟨vs, v, (t.keep k).sq, e3⟩, fun x H' ⟨T, y, q1, q2, q3, q4⟩ => ?_⟩
      subst q1 q3
      have := q4 vs (t.keep k).sq
      rw [e3] at this; cases this
      refine ⟨TKeep.new q2, S.tup q2, rep_tup.2 ⟨T, _, rfl, .inl upd_same, .cons (rep_int.2 ?_) (.cons (rv.keep (TKeep.new q2)) .nil)⟩⟩
      rw [Nat.zero_add]
  stop := fun i H h k S e => by
    obtain ⟨xs', e1, e2⟩ := nxL_stop (show nxL (some (enuD 0 xs)) i = .stop from e)
    cases e1
    rw [enuD_get] at e2
    cases q : xs[i]? with
    | none => exact ⟨vs, (t.keep k).sq, len_of r q⟩
    | some d' => rw [q] at e2; cases e2
theorem nxZ_go {o p : Option (List D)} {i : Nat} {d : D} (h : nxZ o p i = .go d) : ∃ x y xs ys, d = .tup [x, y] ∧ o = some xs ∧ p = some ys ∧ xs[i]? = some x ∧ ys[i]? = some y := by
  unfold nxZ at h
  split at h
  · rename_i xs
    split at h
    · rename_i ys
      split at h
      · rename_i x e
        split at h
        · rename_i y e2; cases h; exact ⟨x, y, xs, ys, rfl, rfl, rfl, e, e2⟩
        · cases h
      · cases h
    · cases h
  · cases h
theorem nxZ_stop {o p : Option (List D)} {i : Nat} (h : nxZ o p i = .stop) : ∃ xs ys, o = some xs ∧ p = some ys ∧ (xs[i]? = none ∨ ys[i]? = none) := by
  unfold nxZ at h
  split at h
  · rename_i xs
    split at h
    · rename_i ys
      split at h
      · rename_i x e
        split at h
        · cases h
        · rename_i e2; exact ⟨xs, ys, rfl, rfl, .inr e2⟩
      · rename_i e; exact ⟨xs, ys, rfl, rfl, .inl e⟩
    · cases h
  · cases h
theorem itz_ok (a b : Addr) : ItOk K H0 (.zip a b) (Itz K a b) where
  go := fun i H h d _ S e => by
    obtain ⟨x, y, xs, ys, rfl, e1, e2, e3, e4⟩ := nxZ_go e
    obtain ⟨vs, h1, r⟩ := S.rd e1
    obtain ⟨ws, h2, r2⟩ := S.rd e2
    obtain ⟨v, e5, rv⟩ := r.get x e3
    obtain ⟨w, e6, rw'⟩ := r2.get y e4
    refine ⟨⟨vs, ws, v, w, .inl h1, .inl h2, e5, e6⟩, fun z H' ⟨T, x1, y1, q1, q2, q3, q4, q5⟩ => ?_⟩
    subst q1 q3
    have z1 := q4 vs (.inl h1)
    rw [e5] at z1; cases z1
    have z2 := q5 ws (.inl h2)
    rw [e6] at z2; cases z2
    refine ⟨TKeep.new q2, S.tup q2, rep_tup.2 ⟨T, _, rfl, .inl upd_same, .cons (rv.keep (TKeep.new q2)) (.cons (rw'.keep (TKeep.new q2)) .nil)⟩⟩
  stop := fun i H h _ S e => by
    obtain ⟨xs, ys, e1, e2, e3⟩ := nxZ_stop e
    obtain ⟨vs, h1, r⟩ := S.rd e1
    obtain ⟨ws, h2, r2⟩ := S.rd e2
    exact ⟨vs, ws, .inl h1, .inl h2, e3.imp (len_of r) (len_of r2)⟩

theorem zipD_get : ∀ (xs ys : List D) (i : Nat), (zipD xs ys)[i]? = match xs[i]?, ys[i]? with
    | some x, some y => some (.tup [x, y])
    | _, _ => none
  | [], ys, i => by simp [zipD]
  | x :: r, [], i => by cases h : (x :: r)[i]? <;> simp [zipD]
  | x :: r, y :: q, 0 => by simp [zipD]
  | x :: r, y :: q, i + 1 => by
    rw [zipD, List.getElem?_cons_succ, zipD_get r q i, List.getElem?_cons_succ, List.getElem?_cons_succ]
theorem itzf_ok {a b : Addr} {xs ys : List D} {vs ws : List V} (t : FrzL K H0 a vs) (r : Reps K H0 xs vs) (t2 : FrzL K H0 b ws) (r2 : Reps K H0 ys ws) : ItOk K H0 (.seq (zipD xs ys)) (Itz K a b) where
  go := fun i H h d k S e => by
    obtain ⟨xs', e1, e2⟩ := nxL_go (show nxL (some (zipD xs ys)) i = .go d from e)
    cases e1
    rw [zipD_get] at e2
    cases q : xs[i]? with
    | none => rw [q] at e2; cases e2
    | some x =>
      cases q' : ys[i]? with
      | none => rw [q, q'] at e2; cases e2
      | some y =>
        rw [q, q'] at e2; cases e2
        obtain ⟨v, e5, rv⟩ := (r.keep k).get x q
        obtain ⟨w, e6, rw'⟩ := (r2.keep k).get y q'
        refine ⟨⟨vs, ws, v, w, (t.keep k).sq, (t2.keep k).sq, e5, e6⟩, fun z H' ⟨T, x1, y1, q1, q2, q3, q4, q5⟩ => ?_⟩
        subst q1 q3
        have z1 := q4 vs (t.keep k).sq
        rw [e5] at z1; cases z1
        have z2 := q5 ws (t2.keep k).sq
        rw [e6] at z2; cases z2
        refine ⟨TKeep.new q2, S.tup q2, rep_tup.2 ⟨T, _, rfl, .inl upd_same, .cons (rv.keep (TKeep.new q2)) (.cons (rw'.keep (TKeep.new q2)) .nil)⟩⟩
  stop := fun i H h k S e => by
    obtain ⟨xs', e1, e2⟩ := nxL_stop (show nxL (some (zipD xs ys)) i = .stop from e)
    cases e1
    rw [zipD_get] at e2
    refine ⟨vs, ws, (t.keep k).sq, (t2.keep k).sq, ?_⟩
    cases q : xs[i]? with
    | none => exact .inl (len_of r q)
    | some x =>
      cases q' : ys[i]? with
      | none => exact .inr (len_of r2 q')
      | some y => rw [q, q'] at e2; cases e2

theorem itzr_ok {a b : Addr} {ys : List D} {ws : List V} (t2 : FrzL K H0 b ws) (r2 : Reps K H0 ys ws) : ItOk K H0 (.zpf a ys) (Itz K a b) where
  go := fun i H h d k S e => by
    obtain ⟨x, y, xs, ys', rfl, e1, e2, e3, e4⟩ := nxZ_go (show nxZ (rdL h a) (some ys) i = .go d from e)
    cases e2
    obtain ⟨vs, h1, r⟩ := S.rd e1
    obtain ⟨v, e5, rv⟩ := r.get x e3
    obtain ⟨w, e6, rw'⟩ := (r2.keep k).get y e4
    refine ⟨⟨vs, ws, v, w, .inl h1, (t2.keep k).sq, e5, e6⟩, fun z H' ⟨T, x1, y1, q1, q2, q3, q4, q5⟩ => ?_⟩
    subst q1 q3
    have z1 := q4 vs (.inl h1)
    rw [e5] at z1; cases z1
    have z2 := q5 ws (t2.keep k).sq
    rw [e6] at z2; cases z2
    refine ⟨TKeep.new q2, S.tup q2, rep_tup.2 ⟨T, _, rfl, .inl upd_same, .cons (rv.keep (TKeep.new q2)) (.cons (rw'.keep (TKeep.new q2)) .nil)⟩⟩
  stop := fun i H h k S e => by
    obtain ⟨xs, ys', e1, e2, e3⟩ := nxZ_stop (show nxZ (rdL h a) (some ys) i = .stop from e)
    cases e2
    obtain ⟨vs, h1, r⟩ := S.rd e1
    exact ⟨vs, ws, .inl h1, (t2.keep k).sq, e3.imp (len_of r) (len_of r2)⟩

/-! ### what walks -/
abbrev FI := En → Hh → (IT → Hh → Prop) → XD → Prop
def tI (K : PySem.W.Frag) (mg : Str → Option Value) (W : WX) (f : FI) : TI := fun σ H Q => ∃ ρ h R Y, Sim K H h ∧ RepE K H ρ σ ∧ f ρ h R Y ∧
  (∀ J H' it h', TKeep H H' → Sim K H' h' → ItOk K H' it J → R it h' → Q J H') ∧ LkX K mg W σ H Y
end
section
variable {X : Cx} {W : WX} {a b c tg : Expr} {fa : FE} {f : FA} {es : List Expr} {pos p : Pos}
theorem pi_both {t : TE} (ha : PE X a t) : PI X tg a (fun σ H R => t σ H fun x H1 => (∃ l, x = .ref l ∧ (∃ xs, SqL X.K H1 l xs) ∧ R (Itl X.K l) H1) ∨ ∃ l, x = .ref l ∧ (∃ xs, SqT X.K H1 l xs) ∧ R (Itt X.K l) H1) := by
  refine ⟨fun pins s σ H R I h => ?_⟩
  refine thn (ha.run pins s σ H _ I h) fun v s1 ⟨x, H1, I1, r1, q1⟩ => ?_
  rcases q1 with ⟨l, e, ⟨xs, hq⟩, q⟩ | ⟨l, e, ⟨xs, hq⟩, q⟩
  · subst e
    cases r1
    obtain ⟨its, rv, p, hz⟩ := I1.list hq
    refine wpAny_pyIter_list p.isList ?_
    refine ⟨s1.heap.objs.size, [s1.heap.objs.size], _, _, H1, rfl, I1.kept (t' := s1.toks) fun b o e => Heap.get?_push_of_some _ e, turn_list l _, ⟨_, Heap.get?_push_size _ rfl, rfl, rfl⟩, fun b hb => ?_, q⟩
    have e : b = s1.heap.objs.size := by simpa using hb
    subst e
    exact I1.fpOk (Nat.le_refl _) (I1.hok.fresh (Nat.le_refl _))
  · subst e
    cases r1
    obtain ⟨its, rv, p, hz⟩ := I1.tuple hq
    refine wpAny_pyIter_tuple (show s1.heap.IsTuple l its.toArray from p) ?_
    refine ⟨s1.heap.objs.size, [s1.heap.objs.size], _, _, H1, rfl, I1.kept (t' := s1.toks) fun b o e => Heap.get?_push_of_some _ e, turn_tuple l _, ⟨_, Heap.get?_push_size _ rfl, rfl, rfl⟩, fun b hb => ?_, q⟩
    have e : b = s1.heap.objs.size := by simpa using hb
    subst e
    exact I1.fpOk (Nat.le_refl _) (I1.hok.fresh (Nat.le_refl _))
theorem s_iVal (ha : PE X a (tE X.K X.mg W fa)) : PI X tg a (tI X.K X.mg W fun ρ h R Y => fa ρ h (fun x h1 => itW .val [x] h1 R) Y) :=
  (pi_both ha).imp fun σ H Q ⟨ρ, h, R, Y, S, RE, w, lk, lx⟩ => ⟨ρ, h, _, Y, S, RE, w, fun v H1 d h1 k1 S1 q1 w1 => by
    cases d with
    | ref l =>
      rw [rep_ref] at q1
      obtain ⟨xs, e, w1⟩ := optW_iff.1 (show optW (rdL h1 l) _ from w1)
      obtain ⟨vs, e2, _⟩ := S1.rd e
      exact .inl ⟨l, q1, ⟨vs, .inl e2⟩, lk _ _ _ _ k1 S1 (itl_ok l) w1⟩
    | tup xs =>
      rw [rep_tup] at q1
      obtain ⟨l, vs, e, t, r⟩ := q1
      exact .inr ⟨l, e, ⟨vs, t.sq⟩, lk _ _ _ _ k1 S1 (itt_ok t r) w1⟩
    | lst xs =>
      rw [rep_lst] at q1
      obtain ⟨l, vs, e, t, r⟩ := q1
      exact .inl ⟨l, e, ⟨vs, t.sq⟩, lk _ _ _ _ k1 S1 (itf_ok t r) w1⟩
    | non => exact w1.elim
    | bl _ => exact w1.elim
    | int _ => exact w1.elim
    | str _ => exact w1.elim
    | dct _ _ => exact w1.elim, lx⟩
theorem s_iRange1 (hg : Gl X "range") (hm : X.mg "range" = none) (ha : PA X [a] (tA X.K X.mg W f)) (ns : noStar [a] = true) :
    PI X tg (.Call (.Name "range" p) [a] [] pos) (tI X.K X.mg W fun ρ h R Y => f ρ h (fun xs h1 => itW .range1 xs h1 R) Y) :=
  (pi_range1 hg hm ha (by rw [noStar_each (noStar_cons ns).1]; rfl)).imp fun σ H Q ⟨ρ, h, R, Y, S, RE, w, lk, lx⟩ => ⟨ρ, h, _, Y, S, RE, w, fun vs H1 ds h1 k1 S1 q1 w1 => by
    match ds, w1 with
    | [.int j], w1 =>
      obtain ⟨v, rfl, r1⟩ := reps1 q1
      rw [rep_int] at r1; subst r1
      obtain ⟨b1, b2, w1⟩ := w1
      exact ⟨j, rfl, b1, b2, lk _ _ _ _ k1 S1 (itr_ok 0 j.toNat) w1⟩, lx⟩
theorem s_iRange2 (hg : Gl X "range") (hm : X.mg "range" = none) (ha : PA X [a, b] (tA X.K X.mg W f)) (ns : noStar [a, b] = true) :
    PI X tg (.Call (.Name "range" p) [a, b] [] pos) (tI X.K X.mg W fun ρ h R Y => f ρ h (fun xs h1 => itW .range2 xs h1 R) Y) :=
  (pi_range2 hg hm ha (by rw [noStar_each (noStar_cons ns).1, noStar_each (noStar_cons (noStar_cons ns).2).1]; rfl) (by rw [noStar_each (noStar_cons (noStar_cons ns).2).1]; rfl)).imp fun σ H Q ⟨ρ, h, R, Y, S, RE, w, lk, lx⟩ => ⟨ρ, h, _, Y, S, RE, w, fun vs H1 ds h1 k1 S1 q1 w1 => by
    match ds, w1 with
    | [.int i, .int j], w1 =>
      obtain ⟨v, v2, rfl, r1, r2⟩ := reps2 q1
      rw [rep_int] at r1 r2; subst r1 r2
      obtain ⟨⟨b1, b2, b3, b4⟩, w1⟩ := w1
      exact ⟨i, j, rfl, ⟨b1, b2, b3, b4⟩, lk _ _ _ _ k1 S1 (itr_ok i (j - i).toNat) w1⟩, lx⟩
theorem rng3_get : ∀ (n : Nat) (lo c : Int) (i : Nat), (rng3 lo c n)[i]? = if i < n then some (.int (lo + (i : Nat) * c)) else none
  | 0, lo, c, i => by simp [rng3]
  | n + 1, lo, c, 0 => by simp [rng3]
  | n + 1, lo, c, i + 1 => by
    rw [rng3, List.getElem?_cons_succ, rng3_get n (lo + c) c i]
    by_cases z : i < n
    · rw [if_pos z, if_pos (by omega)]; congr 2
      rw [Int.natCast_add, Int.add_mul]; simp; omega
    · rw [if_neg z, if_neg (by omega)]
theorem itc_ok {K : PySem.W.Frag} {H0 : Hp} (lo c : Int) (n : Nat) : ItOk K H0 (.seq (rng3 lo c n)) (Itc lo c n) where
  go := fun i H h d _ S e => by
    obtain ⟨xs', e1, e2⟩ := nxL_go (show nxL (some (rng3 lo c n)) i = .go d from e)
    cases e1
    rw [rng3_get] at e2
    by_cases z : i < n
    · rw [if_pos z] at e2; cases e2
      refine ⟨z, fun x H' ⟨q1, q2⟩ => ?_⟩
      subst q1 q2
      exact ⟨TKeep.refl _, S, rep_int.2 rfl⟩
    · rw [if_neg z] at e2; cases e2
  stop := fun i H h _ S e => by
    obtain ⟨xs', e1, e2⟩ := nxL_stop (show nxL (some (rng3 lo c n)) i = .stop from e)
    cases e1
    rw [rng3_get] at e2
    by_cases z : i < n
    · rw [if_pos z] at e2; cases e2
    · exact Nat.le_of_not_lt z
theorem s_iRange3 (hg : Gl X "range") (hm : X.mg "range" = none) (ha : PA X [a, b, c] (tA X.K X.mg W f)) (ns : noStar [a, b, c] = true) :
    PI X tg (.Call (.Name "range" p) [a, b, c] [] pos) (tI X.K X.mg W fun ρ h R Y => f ρ h (fun xs h1 => itW .range3 xs h1 R) Y) :=
  (pi_range3 hg hm ha (by rw [noStar_each (noStar_cons ns).1]) (noStar_any _ _ (noStar_cons ns).2)).imp fun σ H Q ⟨ρ, h, R, Y, S, RE, w, lk, lx⟩ => ⟨ρ, h, _, Y, S, RE, w, fun vs H1 ds h1 k1 S1 q1 w1 => by
    match ds, w1 with
    | [.int i, .int j, .int c], w1 =>
      obtain ⟨v, v2, rfl, r1, r2⟩ := q1.cons_inv
      obtain ⟨v3, v4, rfl, r3, r4⟩ := reps2 r2
      rw [rep_int] at r1 r3 r4; subst r1 r3 r4
      obtain ⟨⟨b1, b2, b3, b4⟩, w1⟩ := w1
      exact ⟨i, j, c, _, rfl, ⟨b1, b2, b3, (Int.toNat_of_nonneg b4).symm⟩, lk _ _ _ _ k1 S1 (itc_ok i c _) w1⟩, lx⟩
theorem rev_get {α : Type} {xs : List α} {i : Nat} {d : α} (h : xs.reverse[i]? = some d) : i < xs.length ∧ xs[xs.length - 1 - i]? = some d := by
  have hi : i < xs.length := by
    by_cases z : i < xs.length
    · exact z
    · rw [List.getElem?_eq_none (by rw [List.length_reverse]; omega)] at h; cases h
  rw [List.getElem?_reverse hi] at h
  exact ⟨hi, h⟩
theorem rev_none {α : Type} {xs : List α} {i : Nat} (h : xs.reverse[i]? = none) : xs.length ≤ i := by
  have := List.getElem?_eq_none_iff.mp h
  rwa [List.length_reverse] at this
theorem itvf_ok {K : PySem.W.Frag} {H0 : Hp} {a : Addr} {xs : List D} {vs : List V} (t : FrzL K H0 a vs) (r : Reps K H0 xs vs) : ItOk K H0 (.seq xs.reverse) (Itv K a vs.length) where
  go := fun i H h d k S e => by
    obtain ⟨xs', e1, e2⟩ := nxL_go (show nxL (some xs.reverse) i = .go d from e)
    cases e1
    obtain ⟨hi, e2⟩ := rev_get e2
    obtain ⟨v, e3, rv⟩ := (r.keep k).get d e2
    rw [r.length] at e3 hi
    refine ⟨⟨hi, vs, v, (t.keep k).sq, e3⟩, fun x H' ⟨q1, q2⟩ => ?_⟩
    subst q1
    have := q2 vs (t.keep k).sq
    rw [e3] at this; cases this
    exact ⟨TKeep.refl _, S, rv⟩
  stop := fun i H h k S e => by
    obtain ⟨xs', e1, e2⟩ := nxL_stop (show nxL (some xs.reverse) i = .stop from e)
    cases e1
    have := rev_none e2
    rw [r.length] at this
    exact this
theorem itvt_ok {K : PySem.W.Frag} {H0 : Hp} {a : Addr} {xs : List D} {vs : List V} (t : TupAt K H0 a vs) (r : Reps K H0 xs vs) : ItOk K H0 (.seq xs.reverse) (RT.ItvT K a vs.length) where
  go := fun i H h d k S e => by
    obtain ⟨xs', e1, e2⟩ := nxL_go (show nxL (some xs.reverse) i = .go d from e)
    cases e1
    obtain ⟨hi, e2⟩ := rev_get e2
    obtain ⟨v, e3, rv⟩ := (r.keep k).get d e2
    rw [r.length] at e3 hi
    refine ⟨⟨hi, vs, v, (t.keep k).sq, e3⟩, fun x H' ⟨q1, q2⟩ => ?_⟩
    subst q1
    have := q2 vs (t.keep k).sq
    rw [e3] at this; cases this
    exact ⟨TKeep.refl _, S, rv⟩
  stop := fun i H h k S e => by
    obtain ⟨xs', e1, e2⟩ := nxL_stop (show nxL (some xs.reverse) i = .stop from e)
    cases e1
    have := rev_none e2
    rw [r.length] at this
    exact this
theorem pi_revPA {e : Expr} {ta : TA} (hg : Gl X "reversed") (hm : X.mg "reversed" = none) (ha : PA X [e] ta) (hs : starEach [e] X.env = (false, eval e X.env) :: starEach [] X.env) :
    PI X tg (.Call (.Name "reversed" p) [e] [] pos) (fun σ H R => ta σ H fun vs H1 => ∃ (a : Addr) (xs : List V), vs = [.ref a] ∧ ((SqL X.K H1 a xs ∧ R (Itv X.K a xs.length) H1) ∨ (SqT X.K H1 a xs ∧ R (RT.ItvT X.K a xs.length) H1))) := by
  refine ⟨fun pins s σ H R I h => ?_⟩
  refine Call_ (ld_blt I hg hm PyProof.Rows.boot_reversed (PyProof.Rows.callWith_type1 (thn (ha.run pos pins s σ H _ I h) fun us s1 ⟨vs, H1, I1, r1, q1⟩ => ?_) hs rfl))
  obtain ⟨a, xs, ev, q⟩ := q1
  subst ev
  cases r1 with
  | cons r rr =>
    cases rr
    cases r
    rcases q with ⟨hq, q⟩ | ⟨hq, q⟩
    · obtain ⟨its, rv, p', hz⟩ := I1.list hq
      have hl := rv.length
      have e1 : ((its.toArray.size : Nat) : Int) - 1 = (xs.length : Int) - 1 - ((0 : Nat) : Int) := by simp only [List.size_toArray]; omega
      refine call_reversed_list p'.isList (wpAny_pyIter_revIter (l := a) (i := ((its.toArray.size : Nat) : Int) - 1) ⟨_, Heap.get?_push_size _ rfl, rfl, rfl⟩ ?_)
      refine pi_one (tk := s1.toks) I1 _ (turn_rev a _ xs.length) ⟨Nat.zero_le _, ?_⟩ q
      rw [← e1]
      exact ⟨_, Heap.get?_push_size _ rfl, rfl, rfl⟩
    · obtain ⟨its, rv, p', hz⟩ := I1.tuple hq
      have hl := rv.length
      have hn := line63
      have e1 : ((its.toArray.size : Nat) : Int) - 1 = (xs.length : Int) - 1 - ((0 : Nat) : Int) := by simp only [List.size_toArray]; omega
      refine RT.call_reversed_tup p' (fun A E Q k => len_tuple p' (by simp only [List.size_toArray] <;> omega) k) (RT.iter_rt (t := a) (i := ((its.toArray.size : Nat) : Int) - 1) ⟨_, Heap.get?_push_size _ rfl, rfl, rfl⟩ ?_)
      refine pi_one (tk := s1.toks + 1 + 1) I1 _ (RT.turn_rt a _ xs.length) ⟨Nat.zero_le _, ?_⟩ q
      rw [← e1]
      exact ⟨_, Heap.get?_push_size _ rfl, rfl, rfl⟩
theorem s_iRev (hg : Gl X "reversed") (hm : X.mg "reversed" = none) (ha : PA X [a] (tA X.K X.mg W f)) (ns : noStar [a] = true) :
    PI X tg (.Call (.Name "reversed" p) [a] [] pos) (tI X.K X.mg W fun ρ h R Y => f ρ h (fun xs h1 => itW .rev xs h1 R) Y) :=
  (pi_revPA hg hm ha (noStar_each (noStar_cons ns).1 _)).imp fun σ H Q ⟨ρ, h, R, Y, S, RE, w, lk, lx⟩ => ⟨ρ, h, _, Y, S, RE, w, fun vs H1 ds h1 k1 S1 q1 w1 => by
    match ds, w1 with
    | [.lst xs], w1 =>
      obtain ⟨v, rfl, r1⟩ := reps1 q1
      rw [rep_lst] at r1
      obtain ⟨l, vs, rfl, t, r⟩ := r1
      exact ⟨l, vs, rfl, .inl ⟨t.sq, lk _ _ _ _ k1 S1 (itvf_ok t r) w1⟩⟩
    | [.tup xs], w1 =>
      obtain ⟨v, rfl, r1⟩ := reps1 q1
      rw [rep_tup] at r1
      obtain ⟨l, vs, rfl, t, r⟩ := r1
      exact ⟨l, vs, rfl, .inr ⟨t.sq, lk _ _ _ _ k1 S1 (itvt_ok t r) w1⟩⟩, lx⟩
theorem ittup_ok {K : PySem.W.Frag} {H0 : Hp} {a : Addr} {xs : List D} {vs : List V} (t : TupAt K H0 a vs) (r : Reps K H0 xs vs) : ItOk K H0 (.seq (enuD 0 xs)) (IteT K a) where
  go := fun i H h d k S e => by
    obtain ⟨xs', e1, e2⟩ := nxL_go (show nxL (some (enuD 0 xs)) i = .go d from e)
    cases e1
    rw [enuD_get] at e2
    cases q : xs[i]? with
    | none => rw [q] at e2; cases e2
    | some d' =>
      rw [q] at e2; cases e2
      obtain ⟨v, e3, rv⟩ := (r.keep k).get d' q
      refine ⟨⟨vs, v, (t.keep k).sq, e3⟩, fun x H' ⟨T, y, q1, q2, q3, q4⟩ => ?_⟩
      subst q1 q3
      have := q4 vs (t.keep k).sq
      rw [e3] at this; cases this
      refine ⟨TKeep.new q2, S.tup q2, rep_tup.2 ⟨T, _, rfl, .inl upd_same, .cons (rep_int.2 ?_) (.cons (rv.keep (TKeep.new q2)) .nil)⟩⟩
      rw [Nat.zero_add]
  stop := fun i H h k S e => by
    obtain ⟨xs', e1, e2⟩ := nxL_stop (show nxL (some (enuD 0 xs)) i = .stop from e)
    cases e1
    rw [enuD_get] at e2
    cases q : xs[i]? with
    | none => exact ⟨vs, (t.keep k).sq, len_of r q⟩
    | some d' => rw [q] at e2; cases e2
theorem itztup_ok {K : PySem.W.Frag} {H0 : Hp} {a b : Addr} {xs ys : List D} {vs ws : List V} (t : TupAt K H0 a vs) (r : Reps K H0 xs vs) (t2 : TupAt K H0 b ws) (r2 : Reps K H0 ys ws) : ItOk K H0 (.seq (zipD xs ys)) (RZ.ItzT K a b) where
  go := fun i H h d k S e => by
    obtain ⟨xs', e1, e2⟩ := nxL_go (show nxL (some (zipD xs ys)) i = .go d from e)
    cases e1
    rw [zipD_get] at e2
    cases q : xs[i]? with
    | none => rw [q] at e2; cases e2
    | some x =>
      cases q' : ys[i]? with
      | none => rw [q, q'] at e2; cases e2
      | some y =>
        rw [q, q'] at e2; cases e2
        obtain ⟨v, e5, rv⟩ := (r.keep k).get x q
        obtain ⟨w, e6, rw'⟩ := (r2.keep k).get y q'
        refine ⟨⟨vs, ws, v, w, (t.keep k).sq, (t2.keep k).sq, e5, e6⟩, fun z H' ⟨T, x1, y1, q1, q2, q3, q4, q5⟩ => ?_⟩
        subst q1 q3
        have z1 := q4 vs (t.keep k).sq
        rw [e5] at z1; cases z1
        have z2 := q5 ws (t2.keep k).sq
        rw [e6] at z2; cases z2
        refine ⟨TKeep.new q2, S.tup q2, rep_tup.2 ⟨T, _, rfl, .inl upd_same, .cons (rv.keep (TKeep.new q2)) (.cons (rw'.keep (TKeep.new q2)) .nil)⟩⟩
  stop := fun i H h k S e => by
    obtain ⟨xs', e1, e2⟩ := nxL_stop (show nxL (some (zipD xs ys)) i = .stop from e)
    cases e1
    rw [zipD_get] at e2
    refine ⟨vs, ws, (t.keep k).sq, (t2.keep k).sq, ?_⟩
    cases q : xs[i]? with
    | none => exact .inl (len_of r q)
    | some x =>
      cases q' : ys[i]? with
      | none => exact .inr (len_of r2 q')
      | some y => rw [q, q'] at e2; cases e2
theorem s_iEnum {elts : List Expr} {kk : Nat} {tpos : Pos} (hg : Gl X "enumerate") (hm : X.mg "enumerate" = none) (ha : PA X [a] (tA X.K X.mg W f)) (ns : noStar [a] = true) :
    PI X (.Tuple elts kk tpos) (.Call (.Name "enumerate" p) [a] [] pos) (tI X.K X.mg W fun ρ h R Y => f ρ h (fun xs h1 => itW .enum xs h1 R) Y) :=
  (pi_enumA hg hm ha (by rw [noStar_each (noStar_cons ns).1]; rfl)).imp fun σ H Q ⟨ρ, h, R, Y, S, RE, w, lk, lx⟩ => ⟨ρ, h, _, Y, S, RE, w, fun vs H1 ds h1 k1 S1 q1 w1 => by
    match ds, w1 with
    | [.ref l], w1 =>
      obtain ⟨v, rfl, r1⟩ := reps1 q1
      rw [rep_ref] at r1; subst r1
      obtain ⟨xs, e, w1⟩ := optW_iff.1 (show optW (rdL h1 l) _ from w1)
      obtain ⟨vs, e2, _⟩ := S1.rd e
      exact ⟨l, vs, rfl, .inl ⟨.inl e2, lk _ _ _ _ k1 S1 (ite_ok l) w1⟩⟩
    | [.lst xs], w1 =>
      obtain ⟨v, rfl, r1⟩ := reps1 q1
      rw [rep_lst] at r1
      obtain ⟨l, vs, rfl, t, r⟩ := r1
      exact ⟨l, vs, rfl, .inl ⟨t.sq, lk _ _ _ _ k1 S1 (itef_ok t r) w1⟩⟩
    | [.tup xs], w1 =>
      obtain ⟨v, rfl, r1⟩ := reps1 q1
      rw [rep_tup] at r1
      obtain ⟨l, vs, rfl, t, r⟩ := r1
      exact ⟨l, vs, rfl, .inr ⟨t.sq, lk _ _ _ _ k1 S1 (ittup_ok t r) w1⟩⟩, lx⟩
theorem s_iZip {elts : List Expr} {kk : Nat} {tpos : Pos} (hg : Gl X "zip") (hm : X.mg "zip" = none) (ha : PA X [a, b] (tA X.K X.mg W f)) (ns : noStar [a, b] = true) :
    PI X (.Tuple elts kk tpos) (.Call (.Name "zip" p) [a, b] [] pos) (tI X.K X.mg W fun ρ h R Y => f ρ h (fun xs h1 => itW .zip xs h1 R) Y) :=
  (RZ.pi_zipA hg hm ha (by rw [noStar_each (noStar_cons ns).1]) (noStar_any _ _ (noStar_cons ns).2)).imp fun σ H Q ⟨ρ, h, R, Y, S, RE, w, lk, lx⟩ => ⟨ρ, h, _, Y, S, RE, w, fun vs H1 ds h1 k1 S1 q1 w1 => by
    match ds, w1 with
    | [.ref l, .ref m], w1 =>
      obtain ⟨v, v2, rfl, r1, r2⟩ := reps2 q1
      rw [rep_ref] at r1 r2; subst r1 r2
      obtain ⟨xs, e, w1⟩ := optW_iff.1 (show optW (rdL h1 l) _ from w1)
      obtain ⟨ys, e3, w1⟩ := optW_iff.1 w1
      obtain ⟨vs, e2, _⟩ := S1.rd e
      obtain ⟨ws, e4, _⟩ := S1.rd e3
      exact ⟨l, m, vs, ws, rfl, .inl ⟨.inl e2, .inl e4, lk _ _ _ _ k1 S1 (itz_ok l m) w1⟩⟩
    | [.ref l, .lst ys], w1 =>
      obtain ⟨v, v2, rfl, r1, r2⟩ := reps2 q1
      rw [rep_ref] at r1; subst r1
      rw [rep_lst] at r2
      obtain ⟨xs, e, w1⟩ := optW_iff.1 (show optW (rdL h1 l) _ from w1)
      obtain ⟨vs, e2, _⟩ := S1.rd e
      obtain ⟨m, ws, rfl, t', r'⟩ := r2
      exact ⟨l, m, vs, ws, rfl, .inl ⟨.inl e2, t'.sq, lk _ _ _ _ k1 S1 (itzr_ok t' r') w1⟩⟩
    | [.lst xs, .lst ys], w1 =>
      obtain ⟨v, v2, rfl, r1, r2⟩ := reps2 q1
      rw [rep_lst] at r1 r2
      obtain ⟨l, vs, rfl, t, r⟩ := r1
      obtain ⟨m, ws, rfl, t', r'⟩ := r2
      exact ⟨l, m, vs, ws, rfl, .inl ⟨t.sq, t'.sq, lk _ _ _ _ k1 S1 (itzf_ok t r t' r') w1⟩⟩
    | [.tup xs, .tup ys], w1 =>
      obtain ⟨v, v2, rfl, r1, r2⟩ := reps2 q1
      rw [rep_tup] at r1 r2
      obtain ⟨l, vs, rfl, t, r⟩ := r1
      obtain ⟨m, ws, rfl, t', r'⟩ := r2
      exact ⟨l, m, vs, ws, rfl, .inr ⟨t.sq, t'.sq, lk _ _ _ _ k1 S1 (itztup_ok t r t' r') w1⟩⟩, lx⟩

/-! ### targets -/
def gTs : List Nat → TGs
  | [] => gNil
  | i :: is => gCons (gName i) (gTs is)
def gT (K : PySem.W.Frag) : Tg → TG
  | .nm i => gName i
  | .tp is => gTup K is.length (gTs is)
def slots : Tg → List Nat
  | .nm i => [i]
  | .tp is => is
theorem wipe_set {σ : L2.St} {i : Nat} {x : Option V} : ∀ {vs : List Nat}, i ∈ vs → wipe (σ.set i x) vs = wipe σ vs
  | [], h => by simp at h
  | v :: vs, h => by
    unfold L2.wipe
    by_cases hv : i ∈ vs
    · rw [wipe_set hv]
    · have e : v = i := by
        rcases List.mem_cons.mp h with e | e
        · exact e.symm
        · exact absurd e hv
      subst e
      have aux : ∀ (vs : List Nat) (σ : L2.St), v ∉ vs → wipe (σ.set v x) vs = (wipe σ vs).set v x := by
        intro vs
        induction vs with
        | nil => intro σ _; rfl
        | cons u us ih =>
          intro σ hn
          unfold L2.wipe
          have h1 : v ≠ u := fun e => hn (by simp [e])
          have h2 : v ∉ us := fun e => hn (by simp [e])
          rw [ih σ h2, List.set_comm _ _ h1]
      rw [aux vs σ hv, List.set_set]
theorem wipe_wipe (σ : L2.St) (vs ws : List Nat) (h : ∀ v ∈ vs, v ∈ ws) : wipe (wipe σ vs) ws = wipe σ ws := by
  induction vs with
  | nil => rfl
  | cons v vs ih =>
    show wipe ((wipe σ vs).set v none) ws = _
    rw [wipe_set (h v (by simp))]
    exact ih fun u hu => h u (by simp [hu])
theorem gTs_ok {K : PySem.W.Frag} {H : Hp} {R : En → Prop} {Q : L2.St → Hp → Prop} : ∀ {is : List Nat} {ds : List D} {vs : List V} {ρ : En} {σ : L2.St}, optW (setsE ρ is ds) R → RepE K H ρ σ → Reps K H ds vs →
    (∀ ρ1 σ1, RepE K H ρ1 σ1 → R ρ1 → (∀ ws : List Nat, (∀ i ∈ is, i ∈ ws) → wipe σ1 ws = wipe σ ws) → Q σ1 H) → gTs is vs σ H Q
  | [], [], vs, ρ, σ, w, RE, r, k => ⟨r.nil_inv, k ρ σ RE w fun _ _ => rfl⟩
  | [], _ :: _, _, _, _, w, _, _, _ => w.elim
  | _ :: _, [], _, _, _, w, _, _, _ => w.elim
  | i :: is, d :: ds, vs, ρ, σ, w, RE, r, k => by
    obtain ⟨v, us, rfl, r1, r2⟩ := r.cons_inv
    exact ⟨v, us, rfl, gTs_ok (is := is) (ds := ds) w (RE.set r1) r2 fun ρ1 σ1 h1 h2 h3 => k ρ1 σ1 h1 h2 fun ws hw => by
      rw [h3 ws fun j hj => hw j (by simp [hj]), wipe_set (hw i (by simp))]⟩
theorem setsE_len : ∀ {is : List Nat} {ds : List D} {ρ ρ1 : En}, setsE ρ is ds = some ρ1 → ds.length = is.length
  | [], [], _, _, _ => rfl
  | [], _ :: _, _, _, h => by cases h
  | _ :: _, [], _, _, h => by cases h
  | _ :: is, _ :: ds, _, _, h => by
    have := setsE_len (is := is) (ds := ds) h
    simp [this]
theorem gT_ok {K : PySem.W.Frag} {H : Hp} {t : Tg} {d : D} {x : V} {ρ : En} {σ : L2.St} {R : En → Prop} {Q : L2.St → Hp → Prop} (w : tgW t d ρ R) (RE : RepE K H ρ σ) (r : Rep K H d x)
    (k : ∀ ρ1 σ1, RepE K H ρ1 σ1 → R ρ1 → (∀ ws : List Nat, (∀ i ∈ slots t, i ∈ ws) → wipe σ1 ws = wipe σ ws) → Q σ1 H) : gT K t x σ H Q := by
  cases t with
  | nm i => exact k _ _ (RE.set r) w fun ws hw => wipe_set (hw i (by simp [slots]))
  | tp is =>
    cases d with
    | tup ds =>
      rw [rep_tup] at r
      obtain ⟨a, vs, rfl, t, r⟩ := r
      obtain ⟨ρ1, e, _⟩ := optW_iff.1 (show optW (setsE ρ is ds) R from w)
      exact ⟨a, vs, rfl, t.sq, by rw [← r.length]; exact setsE_len e, gTs_ok (show optW (setsE ρ is ds) R from w) RE r k⟩
    | non => exact w.elim
    | bl _ => exact w.elim
    | int _ => exact w.elim
    | str _ => exact w.elim
    | lst _ => exact w.elim
    | ref _ => exact w.elim
    | dct _ _ => exact w.elim

end
/-! ### comprehensions -/
section
variable {t : Tg} {c e : En → Hh → QD → Prop} {p : Addr} {ρ : En} {K : Hh → Prop}
def lcP (it : IT) (t : Tg) (c e : En → Hh → QD → Prop) (p : Addr) (ρ : En) (K : Hh → Prop) (m i : Nat) (h : Hh) : Prop := match it with
  | .seq xs => (m = xs.length - i + 1 ∧ i ≤ xs.length) ∧ lcL t c e p ρ K (xs.drop i) h
  | it => lcW it t c e p ρ K m i h
theorem lcP_of {it : IT} {h : Hh} (w : lcI it t c e p ρ K h) : ∃ m, lcP it t c e p ρ K m 0 h := by
  cases it with
  | seq xs => exact ⟨_, ⟨rfl, Nat.zero_le _⟩, w⟩
  | lst a => exact w
  | enu a => exact w
  | zip a b => exact w
  | zpf a ys => exact w
theorem lcP_step {it : IT} {m i : Nat} {h : Hh} (w : lcP it t c e p ρ K m i h) : ∃ m', m = m' + 1 ∧ (match it.nx i h with
    | .stuck => False
    | .stop => K h
    | .go d => tgW t d ρ fun ρ1 => c ρ1 h fun b h1 => blW b fun b => if b = true then e ρ1 h1 fun y h2 => optW (wrL h2 p) fun acc => acc.length < sizeLine ∧ lcP it t c e p ρ K m' (i + 1) (up h2 p (.lst (acc ++ [y])))
        else lcP it t c e p ρ K m' (i + 1) h1) := by
  cases it with
  | seq xs =>
    obtain ⟨⟨h1, h2⟩, w⟩ := w
    refine ⟨xs.length - i, h1, ?_⟩
    show match nxL (some xs) i with
      | .stuck => False
      | .stop => K h
      | .go d => _
    by_cases hi : i < xs.length
    · have e1 : xs.drop i = xs[i] :: xs.drop (i + 1) := List.drop_eq_getElem_cons hi
      rw [e1] at w
      have e2 : nxL (some xs) i = .go xs[i] := by unfold nxL; simp [hi]
      rw [e2]
      have e3 : (lcP (.seq xs) t c e p ρ K (xs.length - i) (i + 1)) = lcL t c e p ρ K (xs.drop (i + 1)) := by
        funext h'
        exact propext ⟨fun z => z.2, fun z => ⟨⟨by omega, by omega⟩, z⟩⟩
      rw [e3]
      exact w
    · have e1 : xs.drop i = [] := List.drop_eq_nil_of_le (by omega)
      rw [e1] at w
      have e2 : nxL (some xs) i = .stop := by unfold nxL; simp [hi]
      rw [e2]
      exact w
  | lst a => cases m with
    | zero => exact w.elim
    | succ m => exact ⟨m, rfl, w⟩
  | enu a => cases m with
    | zero => exact w.elim
    | succ m => exact ⟨m, rfl, w⟩
  | zip a b => cases m with
    | zero => exact w.elim
    | succ m => exact ⟨m, rfl, w⟩
  | zpf a ys => cases m with
    | zero => exact w.elim
    | succ m => exact ⟨m, rfl, w⟩
end
section
variable {t : Tg} {b : En → Hh → Ed → Prop} {K : Ed}
def frP (it : IT) (t : Tg) (b : En → Hh → Ed → Prop) (K : Ed) (m i : Nat) (ρ : En) (h : Hh) : Prop := match it with
  | .seq xs => (m = xs.length - i + 1 ∧ i ≤ xs.length) ∧ frL t b K (xs.drop i) ρ h
  | it => frW it t b K m i ρ h
theorem frP_of {it : IT} {ρ : En} {h : Hh} (w : frI it t b K ρ h) : ∃ m, frP it t b K m 0 ρ h := by
  cases it with
  | seq xs => exact ⟨_, ⟨rfl, Nat.zero_le _⟩, w⟩
  | lst a => exact w
  | enu a => exact w
  | zip a b => exact w
  | zpf a ys => exact w
theorem frP_step {it : IT} {m i : Nat} {ρ : En} {h : Hh} (w : frP it t b K m i ρ h) : ∃ m', m = m' + 1 ∧ (match it.nx i h with
    | .stuck => False
    | .stop => K.nx ρ h
    | .go d => tgW t d ρ fun ρ1 => b ρ1 h { K with nx := frP it t b K m' (i + 1) }) := by
  cases it with
  | seq xs =>
    obtain ⟨⟨h1, h2⟩, w⟩ := w
    refine ⟨xs.length - i, h1, ?_⟩
    show match nxL (some xs) i with
      | .stuck => False
      | .stop => K.nx ρ h
      | .go d => _
    by_cases hi : i < xs.length
    · have e1 : xs.drop i = xs[i] :: xs.drop (i + 1) := List.drop_eq_getElem_cons hi
      rw [e1] at w
      have e2 : nxL (some xs) i = .go xs[i] := by unfold nxL; simp [hi]
      rw [e2]
      have e3 : (frP (.seq xs) t b K (xs.length - i) (i + 1)) = frL t b K (xs.drop (i + 1)) := by
        funext ρ' h'
        exact propext ⟨fun z => z.2, fun z => ⟨⟨by omega, by omega⟩, z⟩⟩
      rw [e3]
      exact w
    · have e1 : xs.drop i = [] := List.drop_eq_nil_of_le (by omega)
      rw [e1] at w
      have e2 : nxL (some xs) i = .stop := by unfold nxL; simp [hi]
      rw [e2]
      exact w
  | lst a => cases m with
    | zero => exact w.elim
    | succ m => exact ⟨m, rfl, w⟩
  | enu a => cases m with
    | zero => exact w.elim
    | succ m => exact ⟨m, rfl, w⟩
  | zip a b => cases m with
    | zero => exact w.elim
    | succ m => exact ⟨m, rfl, w⟩
  | zpf a ys => cases m with
    | zero => exact w.elim
    | succ m => exact ⟨m, rfl, w⟩
end
section
variable {X : Cx} {W : WX} {pos p : Pos}
theorem s_lc {c : Option Expr} {fi : FI} {ft fe : FE} {t : Tg} {own : List (Str × Nat)} {scope : Scope} {ifs : List Expr} {e iter : Expr} (hc : X.calm = true) (hN : X.N.Nodup) (hi : PI X tg iter (tI X.K X.mg W fi)) (ok : BlkOk X.N X.env.scope scope own)
    (hsl : ∀ i ∈ slots t, i ∈ own.map (·.2))
    (hg : ∀ (s : Shared) (H : Hp) (C : Addr) (cl : List (Str × Addr)) (fp : List Addr), PG (X.blk s H scope (compEnvC scope cl C X.env) fp) tg (gT X.K t))
    (ht : ∀ (s : Shared) (H : Hp) (C : Addr) (cl : List (Str × Addr)) (fp : List Addr), PTs (X.blk s H scope (compEnvC scope cl C X.env) fp) ifs (tT X.K X.mg (fun _ _ _ _ => False) (bT ft)))
    (he : ∀ (s : Shared) (H : Hp) (C : Addr) (cl : List (Str × Addr)) (fp : List Addr), PE (X.blk s H scope (compEnvC scope cl C X.env) fp) e (tE X.K X.mg (fun _ _ _ _ => False) fe)) (hs : ∀ x, foldedSetIterable iter X.env x = pure x) :
    (∀ σ H Q, tE X.K X.mg W (fun ρ h Q Y => fi ρ h (fun it h2 => ∀ p, h2 p = none → lcI it t (fun ρ h Q => ft ρ h Q fun _ _ => False) (fun ρ h Q => fe ρ h Q fun _ _ => False) p (wipeE ρ (own.map (·.2))) (Q (.ref p)) (up h2 p (.lst []))) Y) σ H Q →
      tLc (tI X.K X.mg W fi) (gT X.K t) (tT X.K X.mg (fun _ _ _ _ => False) (bT ft)) (tE X.K X.mg (fun _ _ _ _ => False) fe) (own.map (·.2)) σ H Q) := by
  intro σ H Q ⟨ρ, h, R, Y, S, RE, w, lk, lx⟩
  refine ⟨ρ, h, _, Y, S, RE, w, fun J H1 it h1 k1 S1 io w1 D hD => ?_, lx⟩
  obtain ⟨n, w1⟩ := lcP_of (w1 D (S1.fresh hD))
  refine ⟨fun i m H2 => ∃ h2, TKeep H1 H2 ∧ Sim X.K H2 h2 ∧ lcP it t (fun ρ h Q => ft ρ h Q fun _ _ => False) (fun ρ h Q => fe ρ h Q fun _ _ => False) D (wipeE ρ (own.map (·.2))) (R (.ref D)) m i h2, ⟨n, _, TKeep.new hD, S1.lst (TKeep.new hD) .nil, w1⟩, ?_⟩
  rintro i m H2 ⟨h2, k2, S2, w2⟩
  obtain ⟨m, rfl, w2'⟩ := lcP_step w2
  clear w2
  split at w2'
  · exact w2'.elim
  · rename_i e
    exact .inl ⟨io.stop i H2 h2 k2 S2 e, (lk.keep (k1.trans k2)).same S2 (rep_ref.2 rfl) w2'⟩
  · rename_i d e
    obtain ⟨g1, g2⟩ := io.go i H2 h2 d k2 S2 e
    refine .inr ⟨g1, fun H' => ∃ h', TKeep H1 H' ∧ Sim X.K H' h' ∧ lcP it t (fun ρ h Q => ft ρ h Q fun _ _ => False) (fun ρ h Q => fe ρ h Q fun _ _ => False) D (wipeE ρ (own.map (·.2))) (R (.ref D)) m (i + 1) h', fun H' q => ⟨m, Nat.lt_succ_self _, q⟩, fun x H3 y => ?_⟩
    obtain ⟨k3, S3, r3⟩ := g2 x H3 y
    refine gT_ok w2' (((RE.keep (k1.trans k2)).wipe _).keep k3) r3 fun ρ1 σ1 RE1 w3 hw => ⟨by rw [hw _ hsl, wipe_wipe _ _ _ fun _ z => z], ?_⟩
    refine ⟨ρ1, h2, fun b h1 => if b = true then fe ρ1 h1 _ (fun _ _ => False) else _, _, S3, RE1, w3, fun b H4 h4 k4 S4 w4 => ?_, fun _ _ _ _ _ _ _ z => z⟩
    cases b with
    | true =>
      replace w4 := ifT w4
      refine iteT ?_
      refine ⟨ρ1, h4, _, _, S4, RE1.keep k4, w4, fun v H5 d5 h5 k5 S5 r5 w5 => ?_, fun _ _ _ _ _ _ _ z => z⟩
      obtain ⟨acc, e5, hz, w5⟩ := optW_iff.1 w5
      obtain ⟨vs, e6, rs⟩ := S5.wr e5
      have kk : TKeep H5 (upd H5 D (.lst (vs ++ [v]))) := TKeep.lst e6
      exact ⟨vs, e6, by rw [← rs.length]; exact hz, _, (k2.trans k3).trans (k4.trans (k5.trans kk)), S5.lst kk (rs.append (.cons r5 .nil)), w5⟩
    | false =>
      replace w4 := ifF w4
      refine iteF ?_
      exact ⟨h4, k2.trans (k3.trans k4), S4, w4⟩
end
end Lt

set_option maxHeartbeats 8000000
namespace Lt
open PySem PySem.Spec PyProof.Rows L2
variable [Wd]

/-! ### the checker -/
structure Tab where
  fns : List (Str × Nat)
  excs : List Str
  hcls : List Str := []
structure Sc where
  N : List Str
  sc : Scope
  fn : Option Scope
def visB (S : Sc) (x : Str) : Bool := match S.sc.names.lookup x with
  | some .local => true
  | some .cell => true
  | some .free => true
  | _ => false
def glB (S : Sc) (x : Str) : Bool := match S.sc.names.lookup x with
  | some .globalImplicit => true
  | _ => false
def plainB (x : Str) : Bool := !(x == ("__debug__" : Str)) && !(x == ("__classdict__" : Str))
def nmB (S : Sc) (i : Nat) (x : Str) : Bool := decide (S.N[i]? = some x) && visB S x && plainB x
def locB (S : Sc) (x : Str) : Bool := match S.sc.names.lookup x with
  | some .local => true
  | some .cell => (match S.fn with
    | none => true
    | some s => (match s.names.lookup x with
      | some .cell => true
      | _ => false))
  | _ => false
def okTs (S : Sc) : List Nat → List Expr → Bool
  | [] => fun es => es.isEmpty
  | i :: is => fun es => match es with
    | .Name x _ :: es => decide (S.N[i]? = some x) && locB S x && okTs S is es
    | _ => false
def okT (S : Sc) (t : Tg) (e : Expr) : Bool := match t with
  | .nm i => (match e with
    | .Name x _ => decide (S.N[i]? = some x) && locB S x
    | _ => false)
  | .tp is => (match e with
    | .Tuple es _ _ => okTs S is es
    | _ => false)
def opB (o : Bo) (p : Operator) : Bool := match o, p with
  | .add, .Add => true
  | .sub, .Sub => true
  | .mul, .Mult => true
  | .div, .FloorDiv => true
  | .mod, .Mod => true
  | .pow, .Pow => true
  | _, _ => false
def coB (o : Co) (p : CmpOp) : Bool := match o, p with
  | .eq, .Eq => true
  | .ne, .NotEq => true
  | .lt, .Lt => true
  | .le, .LtE => true
  | .gt, .Gt => true
  | .ge, .GtE => true
  | .isin, .In => true
  | .notin, .NotIn => true
  | _, _ => false
def biN : Bi → Str
  | .len => "len" | .abs => "abs" | .min2 => "min" | .max2 => "max" | .sum => "sum" | .any => "any" | .all => "all" | .list => "list" | .tuple => "tuple" | .int1 => "int" | .str1 => "str"
def biIn : Bi → Bool
  | .str1 => false
  | _ => true
def mtN : Mt → Str
  | .index => "index" | .insert => "insert" | .append => "append" | .extend => "extend" | .pop => "pop" | .reverse => "reverse" | .clear => "clear" | .get => "get"
def mt0 : Mt → Bool
  | .pop => true | .reverse => true | .clear => true | _ => false
def noSlice : Expr → Bool
  | .Slice .. => false
  | _ => true
/-- neither and, or, not, a comparison nor a conditional -/
def valB : Expr → Bool
  | .Name .. => true
  | .Call .. => true
  | .BinOp .. => true
  | .List .. => true
  | .ListComp .. => true
  | .Subscript .. => true
  | .Dict .. => true
  | _ => false
def noSet : Expr → Bool
  | .Set .. => false
  | _ => true
def isTup : Expr → Bool
  | .Tuple .. => true
  | _ => false
def ikN : Ik → Str
  | .val => "" | .range1 => "range" | .range2 => "range" | .range3 => "range" | .enum => "enumerate" | .zip => "zip" | .rev => "reversed"
def ikL : Ik → Nat
  | .val => 1 | .range1 => 1 | .range2 => 2 | .range3 => 3 | .enum => 1 | .zip => 2 | .rev => 1
def tgNeed (k : Ik) (tg : Expr) : Bool := match k with
  | .enum => isTup tg
  | .zip => isTup tg
  | _ => true
/-- the argument expressions of a walk -/
def itArgs (S : Sc) (k : Ik) (tg iter : Expr) : Option (List Expr) := match k with
  | .val => some [iter]
  | k => (match iter with
    | .Call (.Name x _) es [] _ => if (decide (x = ikN k) && glB S x && decide (es.length = ikL k) && noStar es && tgNeed k tg) = true then some es else none
    | _ => none)
def partB (b : Expr → Bool) (lo : E) (l : Option Expr) : Bool := match lo with
  | .kN => l.isNone
  | _ => (match l with
    | some l => b l
    | none => false)
/-- what the arguments of a pattern may be -/
def pxAs : Px → Es → Bool
  | .done, .cons (.v _) (.cons .kN .nil) => true
  | .done, .cons (.v _) (.cons (.kB _) .nil) => true
  | .done, .cons (.v _) (.cons (.kI _) .nil) => true
  | .done, .cons (.kI _) (.cons (.kB _) .nil) => true
  | .done, _ => false
  | .dnew, .nil => true
  | .dnew, _ => false
  | _, _ => true
/-- the argument expressions of a pattern -/
def pxArgs (S : Sc) (k : Px) (e : Expr) : Option (List Expr) := match k with
  | .lrev => (match e with
    | .Call (.Name x _) [.Call (.Name y _) [a] [] _] [] _ => if (decide (x = "list") && decide (y = "reversed") && glB S x && glB S y && noStar [a]) = true then some [a] else none
    | _ => none)
  | .dnew => (match e with
    | .Dict [] [] _ => some []
    | _ => none)
  | .srt => (match e with
    | .Call (.Name x _) [a] [] _ => if (decide (x = "sorted") && glB S x && noStar [a]) = true then some [a] else none
    | _ => none)
  | .srtK => (match e with
    | .Call (.Name x _) [.Call (.Attribute o y ap) [] [] cp] [] _ => if (decide (x = "sorted") && decide (y = "keys") && glB S x && noCall0 o && (ap.endLine == cp.line)) = true then some [o] else none
    | _ => none)
  | .sumV => (match e with
    | .Call (.Name x _) [.Call (.Attribute o y ap) [] [] cp] [] _ => if (decide (x = "sum") && decide (y = "values") && glB S x && noCall0 o && (ap.endLine == cp.line)) = true then some [o] else none
    | _ => none)
  | .done => (match e with
    | .Dict [some k] [v] _ => some [k, v]
    | _ => none)
  | .srtL => (match e with
    | .Call (.Name x _) [.Call (.Attribute o y ap) [] [] cp] [⟨some z, .Name l _, _⟩] _ => if (decide (x = "sorted") && decide (y = "keys") && decide (z = "key") && decide (l = "len") && glB S x && glB S l && noCall0 o && (ap.endLine == cp.line)) = true then some [o] else none
    | _ => none)
  | .dcp => (match e with
    | .Call (.Name x _) [a] [] _ => if (decide (x = "dict") && glB S x && noStar [a]) = true then some [a] else none
    | _ => none)
  | .rpr => (match e with
    | .Call (.Name x _) [a] [] _ => if (decide (x = "repr") && glB S x && noStar [a]) = true then some [a] else none
    | _ => none)
mutual
def okE (T : Tab) : E → Sc → Expr → Bool
  | .kN => fun _ e => match e with
    | .Constant .none _ _ => true
    | _ => false
  | .kB b => fun _ e => match e with
    | .Constant (.bool c) _ _ => b == c
    | _ => false
  | .kI i => fun _ e => match e with
    | .Constant (.int c) _ _ => decide (i = c)
    | _ => false
  | .kS i => fun _ e => match e with
    | .Constant (.str c) _ _ => decide (i = c)
    | _ => false
  | .v i => fun S e => match e with
    | .Name x _ => nmB S i x
    | _ => false
  | .g x => fun S e => match e with
    | .Name y _ => decide (x = y) && glB S x && plainB x
    | _ => false
  | .op o a b => fun S e => match e with
    | .BinOp x p y _ => opB o p && okE T a S x && okE T b S y
    | _ => false
  | .neg a => fun S e => match e with
    | .UnaryOp .USub x _ => okE T a S x
    | _ => false
  | .cm o a b => fun S e => match e with
    | .Compare x [p] [y] _ => coB o p && !behindInMarks p y && okE T a S x && okE T b S y
    | _ => false
  | .cm2 o q a b c => fun S e => match e with
    | .Compare x [p1, p2] [y, z] _ => coB o p1 && coB q p2 && !lastMarks [p1, p2] [y, z] && okE T a S x && okE T b S y && okE T c S z
    | _ => false
  | .isN a => fun S e => match e with
    | .Compare x [.Is] [.Constant .none _ _] _ => okE T a S x
    | _ => false
  | .notN a => fun S e => match e with
    | .Compare x [.IsNot] [.Constant .none _ _] _ => okE T a S x
    | _ => false
  | .and as => fun S e => match e with
    | .BoolOp .And es _ => !es.isEmpty && okA T as S es
    | _ => false
  | .or as => fun S e => match e with
    | .BoolOp .Or es _ => !es.isEmpty && okA T as S es
    | _ => false
  | .not a => fun S e => match e with
    | .UnaryOp .Not x _ => okE T a S x
    | _ => false
  | .ite c a b => fun S e => match e with
    | .IfExp x y z _ => okE T c S x && okE T a S y && okE T b S z
    | _ => false
  | .tp as => fun S e => match e with
    | .Tuple es _ _ => noStar es && okA T as S es
    | _ => false
  | .ls as => fun S e => match e with
    | .List es _ => noStar es && okA T as S es
    | _ => false
  | .ix a i => fun S e => match e with
    | .Subscript x y _ => noSlice y && okE T a S x && okE T i S y
    | _ => false
  | .sl a lo hi => fun S e => match e with
    | .Subscript x (.Slice l u none _) _ => okE T a S x && partB (okE T lo S) lo l && partB (okE T hi S) hi u
    | _ => false
  | .call f as => fun S e => match e with
    | .Call (.Name x _) es [] _ => decide (f = x) && T.fns.any (fun p => decide (p.1 = f)) && glB S x && plainB x && noStar es && !es.isEmpty && okA T as S es
    | _ => false
  | .bi f as => fun S e => match e with
    | .Call (.Name x _) es [] _ => decide (x = biN f) && biIn f && glB S x && noStar es && !es.isEmpty && okA T as S es
    | _ => false
  | .mt m a as => fun S e => match e with
    | .Call (.Attribute o x ap) es [] cp => decide (x = mtN m) && noCall0 o && decide (es.length < 30) && (ap.endLine == cp.line) && noStar es && (mt0 m == es.isEmpty) && okE T a S o && okA T as S es
    | _ => false
  | .isT a t => fun S e => match e with
    | .Call (.Name x _) [y, .Name z _] [] _ => decide (x = "isinstance") && decide (z = Str.ofString (tyN t)) && glB S x && glB S z && noStar [y] && okE T a S y
    | _ => false
  | .lc k as t own c e => fun S pe => match pe with
    | .ListComp el [⟨tg, iter, ifs, 0⟩] scope _ => noSet iter && blkC S.N S.sc scope own && (slots t).all (fun i => (own.map (·.2)).contains i) && okT ⟨S.N, relS scope S.sc, some scope⟩ t tg && (match itArgs S k tg iter with
        | some es => okA T as S es
        | none => false) && (match ifs with
        | [] => (match c with
          | .kB true => true
          | _ => false)
        | [x] => okE T c ⟨S.N, relS scope S.sc, some scope⟩ x
        | _ => false) && okE T e ⟨S.N, relS scope S.sc, some scope⟩ el
    | _ => false
  | .fz e => fun S pe => valB pe && okE T e S pe
  | .px k as => fun S pe => (valB pe && pxAs k as) && (match pxArgs S k pe with
    | some es => okA T as S es
    | none => false)
def okA (T : Tab) : Es → Sc → List Expr → Bool
  | .nil => fun _ es => es.isEmpty
  | .cons a r => fun S es => match es with
    | x :: es => noStar [x] && okE T a S x && okA T r S es
    | [] => false
end

/-! ### what a context knows -/
def bltN : List Str := ["len", "abs", "min", "max", "sum", "any", "all", "list", "tuple", "int", "bool", "str", "isinstance", "range", "enumerate", "zip", "reversed", "repr", "sorted", "dict"]
def ExcOk (K : PySem.W.Frag) (mg : Str → Option Value) (c : Str) : Prop := ∃ C : Addr, mg c = some (.ref C) ∧ PySem.W.excIn K C [.type "ValueError", .type "Exception", .type "BaseException", .type "object"] "ValueError.__new__" = true ∧ PySem.W.keepIn K (.ref C) = true ∧
  PySem.W.subIn K (.ref C) (.type "BaseException") = some true ∧ PySem.W.typeIn K (.ref C) = some (.type "type")
structure Ok (C : Cn) (T : Tab) (X : Cx) (W : WX) (S : Sc) : Prop where
  wd : X.w = Wd.w
  N : X.N = S.N
  nd : X.N.Nodup
  sc : X.env.scope = S.sc
  fn : ∀ x, (match S.fn with | none => true | some s => (match s.names.lookup x with | some .cell => true | _ => false)) = true → X.fn x = true
  calm : X.calm = true
  un : X.A.units + 65 < cLine
  gd : X.A.guards = some []
  tk : Takes X W
  calls : ∀ p ∈ T.fns, ∃ g fd ps k, X.mg p.1 = some (.ref g) ∧ PySem.W.keepIn X.K (.ref g) = true ∧ Binds X.K fd ps [] ∧ LtG.FnG X.prog X.w X.K X.mg X.base (L2.CX X.prog X.w) k g fd ps (spL X.K X.mg p.2 (C.call p.1)) ∧ Room k X.A ∧
    ∀ ds h R Y, C.call p.1 ds h R Y → ds.length = p.2
  blts : ∀ x ∈ bltN, X.mg x = none
  globs : ∀ x d, C.glob x = some d → ∃ u v, X.mg x = some u ∧ RelV v u ∧ ∀ H, Rep X.K H d v
  excs : ∀ c ∈ T.excs, ExcOk X.K X.mg c
theorem Ok.blk {C : Cn} {T : Tab} {X : Cx} {W : WX} {S : Sc} (O : Ok C T X W S) (scope : Scope) (s : Shared) (H : Hp) (a : Addr) (cl : List (Str × Addr)) (fp : List Addr) :
    Ok C T (X.blk s H scope (compEnvC scope cl a X.env) fp) (fun _ _ _ _ => False) ⟨S.N, relS scope S.sc, some scope⟩ where
  wd := O.wd
  N := O.N
  nd := O.nd
  sc := by rw [← O.sc]; rfl
  fn := fun x h => by
    show (scope.names.lookup x == some .cell) = true
    have h' : (match scope.names.lookup x with | some .cell => true | _ => false) = true := h
    split at h'
    · rename_i e; rw [e]; rfl
    · exact absurd h' Bool.false_ne_true
  calm := O.calm
  un := O.un
  tk := takes0
  gd := O.gd
  calls := O.calls
  blts := O.blts
  globs := O.globs
  excs := O.excs
section
variable {C : Cn} {T : Tab} {X : Cx} {W : WX} {S : Sc}
theorem Ok.gl (O : Ok C T X W S) {x : Str} (h : glB S x = true) : Gl X x := by
  show X.env.scope.names.lookup x = _
  rw [O.sc]
  unfold glB at h
  split at h
  · assumption
  · exact absurd h Bool.false_ne_true
theorem Ok.vis (O : Ok C T X W S) {x : Str} (h : visB S x = true) : Vis X.env.scope x := by
  unfold Vis
  rw [O.sc]
  unfold visB at h
  split at h
  · exact .inl (by assumption)
  · exact .inr (.inl (by assumption))
  · exact .inr (.inr (by assumption))
  · exact absurd h Bool.false_ne_true
theorem plain1 {x : Str} (h : plainB x = true) : (x == ("__debug__" : Str)) = false := by
  unfold plainB at h
  rw [Bool.and_eq_true] at h
  simpa using h.1
theorem plain2 {x : Str} (h : plainB x = true) : (x == ("__classdict__" : Str)) = false := by
  unfold plainB at h
  rw [Bool.and_eq_true] at h
  simpa using h.2
theorem Ok.loc (O : Ok C T X W S) {x : Str} (h : locB S x = true) : L2.Loc X.env.scope x ∧ (X.fn x = true ∨ X.env.scope.names.lookup x = some .local) := by
  unfold L2.Loc
  rw [O.sc]
  unfold locB at h
  split at h
  · rename_i e; exact ⟨.inl e, .inr e⟩
  · rename_i e
    refine ⟨.inr e, .inl (O.fn x ?_)⟩
    split at h
    · rfl
    · exact h
  · exact absurd h Bool.false_ne_true
theorem Ok.pg (O : Ok C T X W S) {i : Nat} {x : Str} {pos : Pos} (h1 : S.N[i]? = some x) (h2 : locB S x = true) : PG X (.Name x pos) (gName i) :=
  pg_name O.nd (by rw [O.N]; exact h1) (O.loc h2).1 (O.loc h2).2
theorem okTs_ok (O : Ok C T X W S) : ∀ {is : List Nat} {es : List Expr}, okTs S is es = true → PGs X es (gTs is) ∧ (assignEach es X.env).length = is.length ∧ (assignEach es X.env).findIdx? (·.1) = none
  | [], es, h => by
    have e : es = [] := by simpa [okTs] using h
    subst e
    exact ⟨pgs_nil, rfl, rfl⟩
  | i :: is, es, h => by
    unfold okTs at h
    split at h
    · rename_i x p es'
      simp only [Bool.and_eq_true, decide_eq_true_eq] at h
      obtain ⟨⟨h1, h2⟩, h3⟩ := h
      obtain ⟨g, l, f⟩ := okTs_ok O h3
      refine ⟨pgs_cons (O.pg h1 h2) g, ?_, ?_⟩
      · show (assignEach es' X.env).length + 1 = is.length + 1
        rw [l]
      · show List.findIdx? (·.1) ((false, assign (.Name x p) X.env) :: assignEach es' X.env) = none
        rw [List.findIdx?_cons, f]; rfl
    · exact absurd h Bool.false_ne_true
theorem okT_ok (O : Ok C T X W S) {t : Tg} {e : Expr} (h : okT S t e = true) : PG X e (gT X.K t) := by
  cases t with
  | nm i =>
    simp only [okT] at h
    split at h
    · simp only [Bool.and_eq_true, decide_eq_true_eq] at h
      exact O.pg h.1 h.2
    · exact absurd h Bool.false_ne_true
  | tp is =>
    simp only [okT] at h
    split at h
    · obtain ⟨g, l, f⟩ := okTs_ok O h
      exact pg_tup O.calm g l f
    · exact absurd h Bool.false_ne_true
theorem noSlice_plain {b : Expr} (h : noSlice b = true) : PlainIx b := by
  intro o i
  cases b <;> first
    | rfl
    | exact absurd h Bool.false_ne_true
theorem noSet_fold {e : Expr} (h : noSet e = true) (env : Env) (x : Value) : foldedSetIterable e env x = pure x := by
  cases e <;> first
    | rfl
    | exact absurd h Bool.false_ne_true
theorem opB_ok {o : Bo} {p : Operator} (h : opB o p = true) : p = opOf o := by
  cases o <;> cases p <;> first
    | rfl
    | exact absurd h Bool.false_ne_true
theorem coB_ok {o : Co} {p : CmpOp} (h : coB o p = true) : p = coOf o := by
  cases o <;> cases p <;> first
    | rfl
    | exact absurd h Bool.false_ne_true
theorem Ok.blt (O : Ok C T X W S) {x : Str} (h : bltN.contains x = true) : X.mg x = none := O.blts x (by simpa using h)
theorem tyv_list (m : Mt) (hm : m ≠ .get) : ∀ d v H h, Sim X.K H h → Rep X.K H d v → mtT m d h → tyV X.K "list" v H := by
  intro d v H h Sm r ty
  cases d with
  | ref a =>
    have ty' : ∃ xs, rdL h a = some xs := by cases m <;> first | exact ty | exact absurd rfl hm
    obtain ⟨xs, e⟩ := ty'
    obtain ⟨vs, h1, _⟩ := Sm.rd e
    rw [rep_ref] at r; subst r
    exact .inl ⟨rfl, vs, .inl h1⟩
  | lst xs =>
    obtain ⟨a, vs, rfl, t, _⟩ := lsL r
    exact .inl ⟨rfl, vs, t⟩
  | non => cases m <;> first | exact False.elim ty | exact absurd rfl hm
  | bl _ => cases m <;> first | exact False.elim ty | exact absurd rfl hm
  | int _ => cases m <;> first | exact False.elim ty | exact absurd rfl hm
  | str _ => cases m <;> first | exact False.elim ty | exact absurd rfl hm
  | tup _ => cases m <;> first | exact False.elim ty | exact absurd rfl hm
  | dct _ _ => cases m <;> first | exact False.elim ty | exact absurd rfl hm
theorem tE_eq {X : Cx} {W : WX} {e : Expr} {f g : FE} (h : PE X e (tE X.K X.mg W f)) (q : g = f) : PE X e (tE X.K X.mg W g) := by rw [q]; exact h
theorem tT_eq {X : Cx} {W : WX} {e : Expr} {f g : FE} (h : PT X e (tT X.K X.mg W (bT f))) (q : g = f) : PT X e (tT X.K X.mg W (bT g)) := by rw [q]; exact h
theorem s_bi (O : Ok C T X W S) {f : Bi} {fa : FA} {a : Expr} {es : List Expr} {p pos : Pos} (hi : biIn f = true) (hg : Gl X (biN f)) (ha : PA X (a :: es) (tA X.K X.mg W fa)) (ns : noStar (a :: es) = true) :
    PE X (.Call (.Name (biN f) p) (a :: es) [] pos) (tE X.K X.mg W fun ρ h Q Y => fa ρ h (fun xs h1 => biW f xs h1 Q) Y) := by
  cases f <;> first
    | exact absurd hi Bool.false_ne_true
    | exact s_callB (cr_len O.wd) hg (O.blt (by decide +kernel)) (by decide +kernel) ha ns (by decide) (by decide)
    | exact s_callB cr_abs hg (O.blt (by decide +kernel)) (by decide +kernel) ha ns (by decide) (by decide)
    | exact s_callB (cr_min2 O.calm) hg (O.blt (by decide +kernel)) (by decide +kernel) ha ns (by decide) (by decide)
    | exact s_callB (cr_max2 O.calm) hg (O.blt (by decide +kernel)) (by decide +kernel) ha ns (by decide) (by decide)
    | exact s_callB (cr_sumR O.calm) hg (O.blt (by decide +kernel)) (by decide +kernel) ha ns (by decide) (by decide)
    | exact s_callB (cr_anyR O.calm) hg (O.blt (by decide +kernel)) (by decide +kernel) ha ns (by decide) (by decide)
    | exact s_callB (cr_allR O.calm) hg (O.blt (by decide +kernel)) (by decide +kernel) ha ns (by decide) (by decide)
    | exact s_callTy cr_int1 hg (O.blt (by decide +kernel)) (by decide +kernel) ha ns (by decide) (by decide)
    | exact s_callTy cr_list hg (O.blt (by decide +kernel)) (by decide +kernel) ha ns (by decide) (by decide)
    | exact s_callTy cr_tuple hg (O.blt (by decide +kernel)) (by decide +kernel) ha ns (by decide) (by decide)
theorem s_get (O : Ok C T X W S) {fb : FE} {fa : FA} {b a : Expr} {es : List Expr} {ap cp : Pos} (ho : PE X b (tE X.K X.mg W fb)) (ha : PA X (a :: es) (tA X.K X.mg W fa)) (hb : noCall0 b = true) (hl : (a :: es).length < 30) (hline : (ap.endLine == cp.line) = true) (ns : noStar (a :: es) = true) :
    PE X (.Call (.Attribute b "get" ap) (a :: es) [] cp) (tE X.K X.mg W fun ρ h Q Y => fb ρ h (fun x h1 => mtT .get x h1 ∧ fa ρ h1 (fun xs h2 => mtW .get x xs h2 Q) Y) Y) :=
  (pe_dget O.wd O.un ho ha (noCall0_base hb _ _ _) (by
    rw [noStar_all _ _ ns]
    show (true && true && decide ((a :: es).length + 0 + 0 < 30)) = true
    simpa using hl) hline (noStar_each (noStar_cons ns).1 _) (noStar_any _ _ (noStar_cons ns).2)).imp fun σ H Q ⟨ρ, h, R, Y, S, RE, w, lk, lx⟩ =>
    ⟨ρ, h, _, Y, S, RE, w, fun v H1 d h1 k1 S1 q1 w1 => ⟨(by
      have ty : ∃ kvs, rdN h1 d = some kvs := by cases d <;> exact w1.1
      obtain ⟨kvs, e⟩ := ty
      exact ⟨kvs, d, h1, S1, q1, e⟩), ρ, h1, _, Y, S1, RE.keep k1, w1.2, fun vs H2 ds h2 k2 S2 q2 w2 => ⟨d, ds, h2, R, S2, q1.keep k2, q2, w2, lk.keep (k1.trans k2)⟩, lx.keep k1⟩, lx⟩
theorem s_mtA (O : Ok C T X W S) {m : Mt} {fb : FE} {fa : FA} {b a : Expr} {es : List Expr} {ap cp : Pos} (h0 : mt0 m = false) (ho : PE X b (tE X.K X.mg W fb)) (ha : PA X (a :: es) (tA X.K X.mg W fa)) (hb : noCall0 b = true) (hl : (a :: es).length < 30) (hline : (ap.endLine == cp.line) = true) (ns : noStar (a :: es) = true) :
    PE X (.Call (.Attribute b (mtN m) ap) (a :: es) [] cp) (tE X.K X.mg W fun ρ h Q Y => fb ρ h (fun x h1 => mtT m x h1 ∧ fa ρ h1 (fun xs h2 => mtW m x xs h2 Q) Y) Y) := by
  cases m <;> first
    | exact absurd h0 (by decide)
    | exact s_mt PySem.F.plainAttrs_list PySem.F.slot_list_append PySem.F.type_list_append mt_appendR (tyv_list .append (fun z => nomatch z)) ho ha hb hl hline ns
    | exact s_mt PySem.F.plainAttrs_list PySem.F.slot_list_extend PySem.F.type_list_extend mt_extendR (tyv_list .extend (fun z => nomatch z)) ho ha hb hl hline ns
    | exact s_mt PySem.F.plainAttrs_list PySem.F.slot_list_index PySem.F.type_list_index mt_indexR (tyv_list .index (fun z => nomatch z)) ho ha hb hl hline ns
    | exact s_mt PySem.F.plainAttrs_list PySem.F.slot_list_insert PySem.F.type_list_insert mt_insertR (tyv_list .insert (fun z => nomatch z)) ho ha hb hl hline ns
    | exact s_get (O := O) ho ha hb hl hline ns
theorem s_mtZ (O : Ok C T X W S) {m : Mt} {fb : FE} {b : Expr} {ap cp : Pos} (h0 : mt0 m = true) (ho : PE X b (tE X.K X.mg W fb)) (hb : noCall0 b = true) (hline : (ap.endLine == cp.line) = true) :
    PE X (.Call (.Attribute b (mtN m) ap) [] [] cp) (tE X.K X.mg W fun ρ h Q Y => fb ρ h (fun x h1 => mtT m x h1 ∧ mtW m x [] h1 Q) Y) := by
  cases m <;> first
    | exact absurd h0 (by decide)
    | exact s_mt0 PySem.F.plainAttrs_list PySem.F.slot_list_pop PySem.F.type_list_pop mt_popR (tyv_list .pop (fun z => nomatch z)) ho hb hline
    | exact s_mt0 PySem.F.plainAttrs_list PySem.F.slot_list_reverse PySem.F.type_list_reverse mt_reverseR (tyv_list .reverse (fun z => nomatch z)) ho hb hline
    | exact s_mt0 PySem.F.plainAttrs_list PySem.F.slot_list_clear PySem.F.type_list_clear mt_clearR (tyv_list .clear (fun z => nomatch z)) ho hb hline
/-- a walk, its arguments' reading known -/
theorem s_it (O : Ok C T X W S) {k : Ik} {as : Es} {tg iter : Expr} {es : List Expr} (h : itArgs S k tg iter = some es) (ha : PA X es (tA X.K X.mg W (wA C as))) (h1 : k = .val → ∀ a, as = .cons a .nil → PE X iter (tE X.K X.mg W (wE C a))) (h2 : k = .val → ∃ a, as = .cons a .nil) :
    PI X tg iter (tI X.K X.mg W fun ρ h R Y => wA C as ρ h (fun xs h1 => itW k xs h1 R) Y) := by
  have gen : k ≠ .val → ∃ p pos, iter = .Call (.Name (ikN k) p) es [] pos ∧ glB S (ikN k) = true ∧ es.length = ikL k ∧ noStar es = true ∧ (k = .enum ∨ k = .zip → ∃ el kk tp, tg = .Tuple el kk tp) := fun n1 => by
    unfold itArgs at h
    split at h
    · exact absurd rfl n1
    · split at h
      · rename_i x p es' pos
        split at h
        · rename_i q
          cases h
          simp only [Bool.and_eq_true, decide_eq_true_eq] at q
          obtain ⟨⟨⟨⟨q1, q2⟩, q3⟩, q4⟩, q5⟩ := q
          subst q1
          refine ⟨p, pos, rfl, q2, q3, q4, fun q => ?_⟩
          have q6 : isTup tg = true := by rcases q with rfl | rfl <;> exact q5
          unfold isTup at q6
          split at q6
          · exact ⟨_, _, _, rfl⟩
          · exact absurd q6 Bool.false_ne_true
        · cases h
      · cases h
  have one : ∀ {l : List Expr}, l.length = 1 → ∃ a, l = [a] := fun {l} q => match l, q with
    | [a], _ => ⟨a, rfl⟩
  have two : ∀ {l : List Expr}, l.length = 2 → ∃ a b, l = [a, b] := fun {l} q => match l, q with
    | [a, b], _ => ⟨a, b, rfl⟩
  have three : ∀ {l : List Expr}, l.length = 3 → ∃ a b c, l = [a, b, c] := fun {l} q => match l, q with
    | [a, b, c], _ => ⟨a, b, c, rfl⟩
  cases k with
  | val =>
    obtain ⟨a, e⟩ := h2 rfl
    subst e
    have q := s_iVal (tg := tg) (h1 rfl a rfl)
    have e2 : (fun ρ h R Y => wA C (.cons a .nil) ρ h (fun xs h1 => itW .val xs h1 R) Y : FI) = fun ρ h R Y => wE C a ρ h (fun x h1 => itW .val [x] h1 R) Y := by
      funext ρ h R Y
      simp only [wA]
    rw [e2]; exact q
  | rev =>
    obtain ⟨p, pos, rfl, q1, q2, q3, _⟩ := gen (by decide)
    obtain ⟨a, rfl⟩ := one q2
    exact s_iRev (O.gl q1) (O.blt (by decide +kernel)) ha q3
  | range3 =>
    obtain ⟨p, pos, rfl, q1, q2, q3, _⟩ := gen (by decide)
    obtain ⟨a, b, c, rfl⟩ := three q2
    exact s_iRange3 (O.gl q1) (O.blt (by decide +kernel)) ha q3
  | range1 =>
    obtain ⟨p, pos, rfl, q1, q2, q3, _⟩ := gen (by decide)
    obtain ⟨a, rfl⟩ := one q2
    exact s_iRange1 (O.gl q1) (O.blt (by decide +kernel)) ha q3
  | range2 =>
    obtain ⟨p, pos, rfl, q1, q2, q3, _⟩ := gen (by decide)
    obtain ⟨a, b, rfl⟩ := two q2
    exact s_iRange2 (O.gl q1) (O.blt (by decide +kernel)) ha q3
  | enum =>
    obtain ⟨p, pos, rfl, q1, q2, q3, q4⟩ := gen (by decide)
    obtain ⟨a, rfl⟩ := one q2
    obtain ⟨el, kk, tp, rfl⟩ := q4 (.inl rfl)
    exact s_iEnum (O.gl q1) (O.blt (by decide +kernel)) ha q3
  | zip =>
    obtain ⟨p, pos, rfl, q1, q2, q3, q4⟩ := gen (by decide)
    obtain ⟨a, b, rfl⟩ := two q2
    obtain ⟨el, kk, tp, rfl⟩ := q4 (.inr rfl)
    exact s_iZip (O.gl q1) (O.blt (by decide +kernel)) ha q3
end
end Lt

set_option maxHeartbeats 4000000
/-! list(reversed(a list or a tuple)) -/
namespace LtR
open PySem PySem.Spec PyProof.Rows L2
section
variable {P : Program} {W0 : World} {A : Around} {E : Value → Shared → Prop} {s : Shared}
/-- a new list is filled by an iterator whose steps are known, when the length hint is there to be had -/
theorem fill_by {I S c0 n : Nat} {fp wr : List Addr} {p : Nat → Value → Prop} {St : Nat → Heap → Prop} {res : Value} {R : Result → Shared → Prop} (W : Walks P W0 A.in1 I fp wr n p St) (hn : n ≤ sizeLine)
    (ty : s.TypeIs (.ref I) "list_reverseiterator") (hI : I ∈ fp) (st : St 0 s.heap) (fr : S ∉ fp) (hS : s.heap.get? S = some { cls := .type "list", data := .seq #[] c0 })
    (hint : ∀ Q : Bool → Shared → Prop, Q false s → wpAny (model P W0) A.in1 (Builtin.List.listLengthHint (.ref I)) Q (fun e s' => R (.error e) s') s)
    (k : ∀ h' tk acc c', (∀ b o, b ≠ S → b ∉ wr → s.heap.get? b = some o → h'.get? b = some o) → h'.get? S = some { cls := .type "list", dict := none, data := .seq acc c', slots := #[] } → ItemsOf p acc n → R (.ok (.ret res)) { s with heap := h', toks := tk }) :
    wpAny (model P W0) A.in1 (Builtin.List.listExtendWith (.ref S) (.ref I) res) (fun fin s' => match fin with | .done f => R (.ok f) s' | .again c' => c'.quiet = true ∧ codeAny (model P W0) A c' R s') (fun e s' => R (.error e) s') s := by
  have ne : S ≠ I := fun e => fr (by rw [e]; exact hI)
  have a1 : Builtin.List.listSameRef (.ref S) (.ref I) = false := by simp [Builtin.List.listSameRef, ne]
  unfold Builtin.List.listExtendWith
  refine wpAny_bind (wpAny_typeOf ty ?_)
  rw [if_neg (by rw [a1]; decide)]
  refine wpAny_bind (W.self 0 s _ _ st ?_)
  refine wpAny_bind (wpAny_holding (hint _ ?_))
  rw [if_neg (by decide)]
  refine wpAny_pure ⟨plainId_quiet F.plain_extend_loop _, codeAny_extend_loopS W.toS hn S fr res n 0 _ #[] c0 rfl (Nat.zero_le _) st hS (ItemsOf.nil _) fun s' acc c' mv g it => ?_⟩
  rw [Moved.eq_with mv]
  exact k s'.heap s'.toks acc c' (fun b o n1 n2 e => mv.heap b o (fun z => (List.mem_cons.1 z).elim n1 n2) e) g it
/-- list(iterator) -/
theorem list_by {I n : Nat} {fp wr : List Addr} {p : Nat → Value → Prop} {St : Nat → Heap → Prop} {Q : Value → Shared → Prop} (W : Walks P W0 A.in1.in1 I fp wr n p St) (hn : n ≤ sizeLine)
    (ty : s.TypeIs (.ref I) "list_reverseiterator") (hI : I ∈ fp) (st : St 0 s.heap) (lt : ∀ b ∈ fp, b < s.heap.objs.size)
    (hint : ∀ (s' : Shared) (Q : Bool → Shared → Prop) (E : Value → Shared → Prop), s'.TypeIs (.ref I) "list_reverseiterator" → St 0 s'.heap → Q false s' → wpAny (model P W0) A.in1.in1 (Builtin.List.listLengthHint (.ref I)) Q E s')
    (k : ∀ h' tk acc c', (∀ b o, b ∉ wr → s.heap.get? b = some o → h'.get? b = some o) → h'.get? s.heap.objs.size = some { cls := .type "list", dict := none, data := .seq acc c', slots := #[] } → ItemsOf p acc n → Q (.ref s.heap.objs.size) { s with heap := h', toks := tk }) :
    wpAny (model P W0) A (call (.type "list") [.ref I]) Q E s := by
  have fr : s.heap.objs.size ∉ fp := fun m => absurd (lt _ m) (Nat.lt_irrefl _)
  refine callType_codes (Q₁ := fun v t => v = .ref s.heap.objs.size ∧ t = { s with heap := s.heap.push { cls := .type "list", data := .seq #[] } }) F.called_list (F.typeCall_list_1 _) F.entry_list_init (code_list_new _ ⟨rfl, rfl⟩) fun v t q => ?_
  obtain ⟨rfl, rfl⟩ := q
  have g0 : (s.heap.push { cls := .type "list", data := .seq #[] }).get? s.heap.objs.size = some { cls := .type "list", data := .seq #[] } := Heap.get?_push_size _ rfl
  refine ⟨⟨_, g0, rfl⟩, F.args_list_init_2 _ _, ?_⟩
  show wpAny _ A.in1.in1 (do let old ← Builtin.List.listItems (.ref s.heap.objs.size); Builtin.List.listUpdate (.ref s.heap.objs.size) (fun _ => #[]); letGo old.toList.reverse; Builtin.List.listExtendWith (.ref s.heap.objs.size) (.ref I) .none) _ _ _
  refine wpAny_bind ?_
  unfold Builtin.List.listItems
  refine wpAny_bind (wpAny_seqItems g0 rfl (wpAny_pure ?_)); refine wpAny_bind (wpAny_updateSeq g0 rfl ?_); refine wpAny_bind (wpAny_letGo ?_)
  have kp : ∀ b o, b ≠ s.heap.objs.size → s.heap.get? b = some o → ((s.heap.push { cls := .type "list", data := .seq #[] }).update s.heap.objs.size (Obj.mapSeq (fun _ => (#[] : Array Value)))).get? b = some o :=
    fun b o z e => (Heap.get?_update_other _ _ (Ne.symm z)).trans (Heap.get?_push_of_some _ e)
  have kf : ∀ b ∈ fp, ∀ o, s.heap.get? b = some o → ((s.heap.push { cls := .type "list", data := .seq #[] }).update s.heap.objs.size (Obj.mapSeq (fun _ => (#[] : Array Value)))).get? b = some o :=
    fun b hb o e => kp b o (fun z => fr (z ▸ hb)) e
  obtain ⟨oT, eT, cT⟩ := id ty
  have st2 := W.frame 0 _ _ st kf
  refine fill_by (A := A.in1) W hn ⟨oT, kf I hI oT eT, cT⟩ hI st2 fr (Heap.get?_update_self (Obj.mapSeq (fun _ => (#[] : Array Value))) g0 rfl) (fun Q z => hint _ Q _ ⟨oT, kf I hI oT eT, cT⟩ st2 z) fun h' tk acc c' keep g it => ?_
  exact ⟨rfl, k h' tk acc c' (fun b o nw e => keep b o (Nat.ne_of_lt (Heap.lt_size e)) nw (kp b o (Nat.ne_of_lt (Heap.lt_size e)) e)) g it⟩
/-- the length hint of reversed(list): none is made use of -/
theorem hint_rl {I : Addr} {s : Shared} {Q : Bool → Shared → Prop} (ty : s.TypeIs (.ref I) "list_reverseiterator") (q : Q false s) : wpAny (model P W0) A (Builtin.List.listLengthHint (.ref I)) Q E s := by
  unfold Builtin.List.listLengthHint
  refine wpAny_bind (wpAny_specialOf ty RT.nolen_lri ?_)
  show wpAny _ _ (specialOf (Value.ref I) (Str.ofString "__length_hint__") >>= _) _ _ _
  refine wpAny_bind (wpAny_specialOf ty RT.hint_lri ?_)
  generalize hd : ("list_reverseiterator.__length_hint__" : String) = nm
  wp_delta
  rw [show splitId nm = some ("list_reverseiterator", "__length_hint__") from by rw [← hd]; decide +kernel]
  subst hd
  exact wpAny_bind (wpAny_isInstance (b := true) ty (by rw [isSubtype_type]; kernel_rfl) (wpAny_pure q))
end
end LtR

set_option maxHeartbeats 4000000
namespace LtR
open PySem PySem.Spec PyProof.Rows L2
section
variable {X : Cx}
/-- list(reversed(x)), x a list: a new list -/
def tLrev (K : PySem.W.Frag) (ta : TA) : TE := fun σ H Q => ta σ H fun vs H1 => ∃ (a : Addr) (xs : List V), vs = [.ref a] ∧ SqL K H1 a xs ∧ ∀ q, H1 q = none → Q (.ref q) (upd H1 q (.lst xs.reverse))
theorem pe_lrev {e : Expr} {ta : TA} {p p2 pos pos2 : Pos} (cal : X.calm = true) (g1 : Gl X "list") (m1 : X.mg "list" = none) (g2 : Gl X "reversed") (m2 : X.mg "reversed" = none) (ha : PA X [e] ta)
    (hs : starEach [e] X.env = (false, eval e X.env) :: starEach [] X.env) :
    PE X (.Call (.Name "list" p) [.Call (.Name "reversed" p2) [e] [] pos2] [] pos) (tLrev X.K ta) := by
  refine ⟨fun pins s σ H Q I h => ?_⟩
  refine Call_ (ld_blt I g1 m1 boot_list (PyProof.Rows.callWith_type1 (args_cons (Call_ (ld_blt I g2 m2 PyProof.Rows.boot_reversed (PyProof.Rows.callWith_type1 (thn (ha.run pos2 pins s σ H _ I h) fun us s1 ⟨vs, H1, I1, r1, q1⟩ => ?_) hs rfl))) rfl) rfl rfl))
  obtain ⟨a, xs, rfl, hq, q⟩ := q1
  cases r1 with
  | cons r rr =>
    cases rr
    cases r
    obtain ⟨its, rv, p', hz⟩ := I1.list hq
    refine call_reversed_list p'.isList (args_nil ?_)
    have kp : ∀ b o, s1.heap.get? b = some o → (s1.heap.push (revObj a ((its.toArray.size : Int) - 1))).get? b = some o := fun b o e => Heap.get?_push_of_some _ e
    have I2 : Inv X pins σ H1 { s1 with heap := s1.heap.push (revObj a ((its.toArray.size : Int) - 1)) } := I1.kept (t' := s1.toks) kp
    obtain ⟨f0, f1, f2, f3, f4, f5⟩ := I1.fpOk (H' := H1) (b := s1.heap.objs.size) (Nat.le_refl _) (I1.hok.fresh (Nat.le_refl _))
    have isl := p'.isList
    obtain ⟨ol, el, _⟩ := id isl
    have ne : a ≠ s1.heap.objs.size := Nat.ne_of_lt (Heap.lt_size el)
    have sz : its.toArray.size ≤ sizeLine := by rw [List.size_toArray, ← rv.length]; exact hz
    have e0 : ((its.toArray.size : Nat) : Int) - 1 - ((0 : Nat) : Int) = (its.toArray.size : Int) - 1 := by omega
    refine list_by (Walks.listRev (A := X.A.in1.in1) (show X.A.in1.in1.handled = none from I1.ok.hd cal) s1.heap.objs.size a ne its.toArray) sz (Heap.IsRevIter.typeIs (i := (its.toArray.size : Int) - 1) ⟨_, Heap.get?_push_size _ rfl, rfl, rfl⟩) (List.Mem.head _) ⟨Nat.zero_le _, by rw [e0]; exact ⟨_, Heap.get?_push_size _ rfl, rfl, rfl⟩, isl.push _⟩ (fun b hb => ?_) (fun s' Q E ty _ q => hint_rl ty q) fun h' tk acc c' keep g it => ?_
    · rcases List.mem_cons.1 hb with z | z
      · subst z; exact Heap.lt_size (Heap.get?_push_size s1.heap (o := revObj a ((its.toArray.size : Int) - 1)) rfl)
      · rw [List.mem_singleton] at z; subst z; exact Heap.lt_size (kp _ _ el)
    · refine ⟨.ref (s1.heap.push (revObj a ((its.toArray.size : Int) - 1))).objs.size, _, I2.turnedNew (t' := tk) (ch := [s1.heap.objs.size]) (T := (s1.heap.push (revObj a ((its.toArray.size : Int) - 1))).objs.size) (ob := .lst xs.reverse) (fun b o hb e => keep b o hb e) (fun b hb => ?_) (Nat.le_refl _) (show ObjOk X.prog X.w _ _ _ (.lst xs.reverse) from ⟨by rw [List.length_reverse]; exact hz, acc.toList, c', RT.vals_rev rv it, ?_⟩), rfl, q _ (I2.hok.fresh (Nat.le_refl _))⟩
      · rw [List.mem_singleton] at hb; subst hb; exact ⟨f0, f1, f2, f3, f4, f5⟩
      · rw [Array.toArray_toList]; exact g
end
section
variable {X : Cx}
/-- repr of data that hang together by lists and tuples -/
theorem call_repr (gd : X.A.guards = some []) (hu : X.A.units + 65 < cLine) : CallR X (.builtin "repr") (fun xs H Q => ∃ (a : Addr) (d : PyData), xs = [.ref a] ∧ Dp X.K H (.ref a) d ∧ (d.showable = true ∧ d.hasDict = false ∧ d.depth ≤ 60 ∧ d.shown.length ≤ sizeLine) ∧ Q (.str d.shown) H) := by
  intro pins s σ H xs us Q I r h
  obtain ⟨a, d, rfl, hd, ⟨g1, g2, g3, g4⟩, q⟩ := h
  cases r with
  | cons r1 rr =>
    cases rr
    obtain ⟨as, rd⟩ := Dp.reads I d _ _ hd r1
    cases r1
    exact repr_of_reads' rd g1 (PySem.PyData.noDict_hsm g2) gd (by omega) (fun b o e => e) (fun h' u tk keep => ⟨.str _, H, I.kept (t' := tk) keep, ⟨_, rfl⟩, q⟩) g4
end
end LtR

set_option maxHeartbeats 4000000
namespace Lt
open PySem PySem.Spec PyProof.Rows L2
variable [Wd]
section
variable {X : Cx} {pins : List (Addr × Obj)} {σ : L2.St} {H : Hp} {s : Shared}
theorem KeyRs.length {K : PySem.W.Frag} {H : Hp} : ∀ {ks : List NestedKey} {vs : List V}, KeyRs K H ks vs → vs.length = ks.length
  | [], vs, r => by unfold KeyRs at r; subst r; rfl
  | k :: ks, vs, r => by
    rw [KeyRs] at r
    obtain ⟨v, w, rfl, _, r2⟩ := r
    rw [List.length_cons, List.length_cons, KeyRs.length r2]
def lenP (k : NestedKey) : PyData := .int (lenK k : Int)
open PySem.W in
theorem alike_lens : ∀ (es : List LtK.VEnt), AllAlike (es.map fun e => lenP e.1) := fun es => by
  have := AllAlike.of (enc := fun e : LtK.VEnt => lenP e.1) (bs := es) (fun a b => rfl)
  exact this
open PySem.W in
theorem sortable_lens : ∀ (es : List LtK.VEnt), Sortable (es.map fun e => lenP e.1) := fun es => Sortable.others (enc := fun e : LtK.VEnt => lenP e.1) (bs := es) fun b => ⟨(fun e => by cases e), fun xs e => by cases e⟩
/-- sorted of what yields the keys of a dict, by their lengths -/
theorem srt_srcL {T : String} {r d : Addr} {n : Nat} {P : Nat → Value → Prop} {OK : Heap → Prop} (Ks : PySem.W.KdlSrc X.prog X.w T r d n P OK) (cal : X.calm = true) (hu : X.A.units + 65 < cLine) (I : Inv X pins σ H s) (ok0 : OK s.heap)
    {es : List LtK.VEnt} {Q : VK} (hn : es.length = n) (ln : n ≤ sizeLine) (rel : ∀ i v, P i v → ∃ e, es[i]? = some e ∧ RelV e.2.1 v) (ko : KeysOk X.K H es) (tk : ∀ e ∈ es, tupK e.1 = true)
    (q : ∀ p, H p = none → Q (.ref p) (upd H p (.lst (srtV (es.map (·.2.1)) (es.map fun e => lenP e.1))))) : wpAny (model X.prog X.w) X.A (call (.builtin "sorted") [.ref r] [(Str.ofString "key", .builtin "len")]) (EP X pins σ Q) X.xe s := by
  refine PyProof.Rows.call_function_entry_kw kind_sorted plain_sorted entry_sorted (ksk_s1 _ _) ?_
  unfold Builtin.«sorted»
  refine wpAny_bind (m := checkCount "sorted" 1 1 _) (wpAny_pure ?_)
  refine wpAny_bind (PySem.W.kdu_collect (A := X.A.in1) Ks (show X.A.in1.handled = none from I.ok.hd cal) ok0 ln fun h' tk' acc hk hacc => ?_)
  have hl : acc.toList.length = n := by rw [Array.length_toList]; exact hacc.1
  have I1 : Inv X pins σ H { s with heap := h', toks := tk' } := I.kept (t' := tk') hk
  refine wpAny_bind (wpAny_newList ?_ (by rw [hl]; exact ln))
  have fr : H h'.objs.size = none := I1.hok.fresh (Nat.le_refl _)
  have item : ∀ (i : Nat) (u : Value), acc.toList[i]? = some u → ∃ e : LtK.VEnt, es[i]? = some e ∧ RelV e.2.1 u := fun i u e => rel i u (hacc.2 i u (by rw [← Array.getElem?_toList]; exact e))
  have rv : ∀ {us : List Value} {fs : List LtK.VEnt}, us.length = fs.length → (∀ (i : Nat) (u : Value), us[i]? = some u → ∃ e : LtK.VEnt, fs[i]? = some e ∧ RelV e.2.1 u) → Vals (fs.map (·.2.1)) us := by
    intro us
    induction us with
    | nil => intro fs e _; cases fs with
      | nil => exact .nil
      | cons _ _ => cases e
    | cons u us ih =>
      intro fs e f
      cases fs with
      | nil => cases e
      | cons g gs =>
        obtain ⟨e1, e2, e3⟩ := f 0 u rfl
        cases e2
        exact .cons e3 (ih (by simpa using e) fun i u h => f (i + 1) u (by simpa using h))
  have rv0 : Vals (es.map (·.2.1)) acc.toList := rv (hl.trans hn.symm) item
  have ll : (es.map (·.2.1)).length = (es.map fun e => lenP e.1).length := by rw [List.length_map, List.length_map]
  have m2 : ((es.map (·.2.1)).zip (es.map fun e => lenP e.1)).map (fun p : V × PyData => p.2) = es.map fun e => lenP e.1 := zip_map2 ll
  have at0 : (h'.push (seqObj "list" acc.toList.toArray 0)).get? h'.objs.size = some (seqObj "list" acc.toList.toArray 0) := Heap.get?_push_size _ rfl
  refine wpAny_bind (wpAny_holding (wpAny_mono (PySem.W.list_sort_key_data (A := X.A.in1) (s := { s with heap := h'.push (seqObj "list" acc.toList.toArray 0), toks := tk' }) (f := .builtin "len") (b := false) (kw := [(Str.ofString "key", .builtin "len")]) (fun p : V × PyData => p.2) (Q := fun _ s' => EP X pins σ Q (.ref h'.objs.size) s') at0 (each_of rv0 ll) (by rw [m2]; exact alike_lens es) (by rw [m2]; exact sortable_lens es) (by rw [List.length_zip]; rw [List.length_map]; omega) (fun x hx => ?_) (ksk_l1 _ _) (ksk_t4 _ _) (fun v x hR hx h tk2 kp => ?_) fun out c h2 tk2 kp ho hlen eo => ?_) (fun _ s' x => wpAny_pure ⟨_, rfl, x⟩) fun _ _ e => e))
  · have hx' : x.2 ∈ es.map fun e => lenP e.1 := by rw [← m2]; exact List.mem_map_of_mem hx
    obtain ⟨e, _, he⟩ := List.mem_map.1 hx'
    rw [← he]
    show X.A.units + 1 + 1 + (lenP e.1).depth < cLine
    have : (lenP e.1).depth = 0 := rfl
    omega
  · -- a turn: the length of a key
    have hz : ∃ e ∈ es, x = (e.2.1, lenP e.1) := by
      obtain ⟨i, hi, rfl⟩ := List.getElem_of_mem hx
      rw [List.length_zip, List.length_map, List.length_map] at hi
      refine ⟨es[i]'(by omega), List.getElem_mem _, ?_⟩
      rw [List.getElem_zip, List.getElem_map, List.getElem_map]
    obtain ⟨e, em, rfl⟩ := hz
    have kr := (ko e em).1
    have kt := tk e em
    obtain ⟨k, kv, vv⟩ := e
    cases k with
    | tup ks =>
      simp only at kr hR
      unfold KeyR at kr
      obtain ⟨t, vs, rfl, ft, rs⟩ := kr
      cases (show v = .ref t from hR)
      obtain ⟨its, rvv, ⟨o, ho, hc, nn, hd⟩, hz2⟩ := I1.tuple ft.sq
      have tl : t < h'.objs.size := Heap.lt_size ho
      have ho2 : h.get? t = some o := kp t o (Nat.ne_of_lt tl) (Heap.get?_push_of_some _ ho)
      have il : its.length = ks.length := by rw [← rvv.length, KeyRs.length rs]
      have sz : its.toArray.size = ks.length := by rw [List.size_toArray, il]
      have hzz : its.length ≤ sizeLine := by rw [← rvv.length]; exact hz2
      refine len_tuple (s := { s with heap := h, toks := tk2 }) ⟨o, ho2, hc, nn, hd⟩ (by rw [List.size_toArray]; have := hzz; rw [sizeLine_eq] at this; omega) ⟨h, _, rfl, fun _ _ e => e, ?_⟩
      show Reads h (.int ((its.toArray.size : Nat) : Int) _) (lenP (.tup ks)) []
      rw [sz]
      exact .int _ _
    | none => cases kt
    | num _ => cases kt
    | text _ => cases kt
  · have rv2 := vals_each eo
    have hlen' : (srtV (es.map (·.2.1)) (es.map fun e => lenP e.1)).length ≤ sizeLine := by
      unfold srtV
      rw [List.length_map, List.length_mergeSort, List.length_zip, List.length_map]; omega
    have old : ∀ b u, h'.get? b = some u → h2.get? b = some u := fun b u e => kp b u (Nat.ne_of_lt (Heap.lt_size e)) (Heap.get?_push_of_some _ e)
    refine ⟨.ref _, upd H h'.objs.size (.lst (srtV (es.map fun e : LtK.VEnt => e.2.1) (es.map fun e : LtK.VEnt => lenP e.1))), I1.laid (t' := tk2) old (Nat.le_refl _) ⟨hlen', out, c, rv2, ho⟩, rfl, q _ fr⟩
/-- sorted(d.keys(), key=len) -/
def rSrtL (X : Cx) : List V → Hp → VK → Prop := fun vs H Q => ∃ p a kvs, vs = [.ref p] ∧ H p = some (kvO p a) ∧ DR X (.ref a) H kvs ∧ (kvs.all fun p => tupK p.1) = true ∧
  ∀ q vs, H q = none → Reps X.K H (srtD (kvs.map fun p => ofK p.1) (kvs.map fun p => lenP p.1)) vs → Q (.ref q) (upd H q (.lst vs))
theorem cr_srtL (hw : X.w = Wd.w) (cal : X.calm = true) (hu : X.A.units + 65 < cLine) {p : Addr} {Q : VK} (I : Inv X pins σ H s) (h : rSrtL X [.ref p] H Q) :
    wpAny (model X.prog X.w) X.A (call (.builtin "sorted") [.ref p] [(Str.ofString "key", .builtin "len")]) (EP X pins σ Q) X.xe s := by
  obtain ⟨p, a, kvs, e, hp, ⟨d, h, S, r1, e1⟩, tk, q⟩ := h
  cases e
  obtain ⟨a', es, xs, ea, _, A⟩ := dn_at hw I S r1 e1 (u := .ref a) rfl
  cases ea
  obtain ⟨ds, ep, hr, he⟩ := A.raw.dict
  have sz := ds_size he A.re
  have kv : PySem.W.KdlKeysView s.heap p a := (I.hok p _ hp).1
  have tk' : ∀ e ∈ es, tupK e.1 = true := fun e he => by
    have m := map_eq_of tupK A.ek
    have : tupK e.1 ∈ kvs.map fun p => tupK p.1 := by rw [← m]; exact List.mem_map_of_mem (f := fun x : LtK.VEnt => tupK x.1) he
    obtain ⟨p, hp, e2⟩ := List.mem_map.1 this
    rw [← e2]
    exact List.all_eq_true.1 tk p hp
  refine srt_srcL (KdlSrc.rawKeys (es := ds) (ep := ep)) cal hu I ⟨kv, hr⟩ sz (by rw [← sz]; exact A.ln) (fun i v ⟨hi, e⟩ => by obtain ⟨e', g1, g2, _⟩ := ent_key he A.re hi; rw [e]; exact ⟨e', g1, g2⟩) A.ko tk' fun p hp => q p _ hp ?_
  rw [map_eq_of lenP A.ek]
  exact srt_reps (reps_keys A.ek A.ko)
theorem pe_srtL (hw : X.w = Wd.w) (cal : X.calm = true) (hu : X.A.units + 65 < cLine) {o : Expr} {to : TE} {p ap cp kp lp pos : Pos} (g1 : Gl X "sorted") (m1 : X.mg "sorted" = none) (g2 : Gl X "len") (m2 : X.mg "len" = none)
    (ho : PE X o to) (hbase : attributeBase o "keys" X.env (eval o X.env) = eval o X.env) (hline : (ap.endLine == cp.line) = true) :
    PE X (.Call (.Name "sorted" p) [.Call (.Attribute o "keys" ap) [] [] cp] [⟨some "key", .Name "len" lp, kp⟩] pos) (fun σ H Q => to σ H fun x H1 => (∃ kvs, DR X x H1 kvs) ∧ ∀ p a, x = .ref a → H1 p = none → rSrtL X [.ref p] (upd H1 p (kvO p a)) Q) := by
  refine ⟨fun pins s σ H Q I h => ?_⟩
  refine wpAny_Call_Name_kw (ld_blt I g1 m1 boot_sorted ?_)
  refine PyProof.Rows.callWith_kw (thn ((pa_cons (pe_keys hw ho hbase hline) pa_nil rfl).run pos pins s σ H (fun vs H1 => rSrtL X vs H1 Q) I ?_) fun us s1 ⟨vs, H1, I1, r1, q1⟩ => ?_) rfl rfl rfl rfl
  · exact h
  · show wpAny _ _ (evalAll ((do let v ← eval (.Name "len" lp) X.env; standAt pos; pure v) :: [])) _ _ _
    refine wpAny_evalAll_cons (wpAny_bind (ld_blt I1 g2 m2 boot_len (wpAny_bind (wpAny_standAt (wpAny_pure ?_)))))
    refine wpAny_evalAll_nil ?_
    obtain ⟨p0, a, kvs, e, rest⟩ := q1
    have q1' : rSrtL X vs H1 Q := ⟨p0, a, kvs, e, rest⟩
    subst e
    rw [Vals.ref1 r1]
    exact cr_srtL hw cal hu I1 q1'
end
section
variable {X : Cx} {pins : List (Addr × Obj)} {σ : L2.St} {H : Hp} {s : Shared}
/-! ### dict(d), keys that are whole numbers -/
def iK : NestedKey → Int
  | .num i => i
  | _ => 0
def NumE (x : LtK.Ent) : Prop := ∃ i t, x.1 = .num i ∧ x.2.1 = Value.int i t
theorem raw_dictOf {prog : Program} {w : World} {h : Heap} {o : Addr} {xs : List LtK.Ent} (r : LtK.Raw w h o xs) (n : ∀ x ∈ xs, NumE x) : h.DictOf (intKind prog w) o (xs.map fun x => (iK x.1, x.2.2)) := by
  obtain ⟨oo, es, ep, h1, h2, h3, h4, h5⟩ := r
  refine ⟨oo, es, ep, h1, h2, h3, fun e he => ?_, ?_, ?_⟩
  · have he' : e ∈ es.toList := Array.mem_toList_iff.mpr he
    rw [h4] at he'
    obtain ⟨x, hx, rfl⟩ := List.mem_map.1 he'
    obtain ⟨i, t, e1, e2⟩ := n x hx
    exact ⟨i, by show Value.isInt i x.2.1 = true; rw [e2]; simp [Value.isInt], by show x.1.hash w = hashInt i; rw [e1]; rfl⟩
  · rw [h4]
    clear h4 h5 h1 h3
    induction xs with
    | nil => exact .nil
    | cons x xs ih =>
      obtain ⟨i, t, e1, e2⟩ := n x (by simp)
      rw [List.map_cons, List.map_cons]
      exact .cons (by show Value.isInt (iK x.1) x.2.1 = true; rw [e1, e2]; simp [iK, Value.isInt]) rfl (ih fun y hy => n y (List.mem_cons_of_mem _ hy))
  · rw [List.map_map]
    have e : xs.map ((fun p : Int × Value => p.1) ∘ fun x => (iK x.1, x.2.2)) = (xs.map (·.1)).map iK := by rw [List.map_map]; rfl
    rw [e, List.nodup_iff_pairwise_ne, List.pairwise_map]
    refine List.Pairwise.imp_of_mem (fun {a b} ha hb ne e => ?_) (List.nodup_iff_pairwise_ne.1 h5)
    obtain ⟨x, hx, rfl⟩ := List.mem_map.1 ha
    obtain ⟨y, hy, rfl⟩ := List.mem_map.1 hb
    obtain ⟨i, t, e1, _⟩ := n x hx
    obtain ⟨i', t', e2, _⟩ := n y hy
    rw [e1, e2] at e ne
    exact ne (by simp only [iK] at e; rw [e])
theorem dictOf_raw {prog : Program} {w : World} {h : Heap} {p : Addr} {xs : List LtK.Ent} (n : ∀ x ∈ xs, NumE x) (hn : (xs.map (·.1)).Nodup) (r : h.DictOf (intKind prog w) p (xs.map fun x => (iK x.1, x.2.2))) :
    ∃ ys : List LtK.Ent, LtK.Raw w h p ys ∧ ys.length = xs.length ∧ ∀ (i : Nat) x y, xs[i]? = some x → ys[i]? = some y → y.1 = x.1 ∧ y.2.2 = x.2.2 ∧ ∃ t, y.2.1 = Value.int (iK x.1) t := by
  obtain ⟨o, es, ep, h1, h2, h3, h4, h5, h6⟩ := r
  have key : ∀ {xs : List LtK.Ent} {es : List DictEntry}, (∀ x ∈ xs, NumE x) → (∀ e ∈ es, ∃ k, Value.isInt k e.key = true ∧ e.hash = hashInt k) → Pairs (intKind prog w) es (xs.map fun x => (iK x.1, x.2.2)) →
      ∃ ys : List LtK.Ent, es = ys.map (LtK.ent w) ∧ ys.map (·.1) = xs.map (·.1) ∧ ys.length = xs.length ∧ ∀ (i : Nat) x y, xs[i]? = some x → ys[i]? = some y → y.1 = x.1 ∧ y.2.2 = x.2.2 ∧ ∃ t, y.2.1 = Value.int (iK x.1) t := by
    intro xs
    induction xs with
    | nil => intro es _ _ p; cases p; exact ⟨[], rfl, rfl, rfl, fun i x y e => by simp at e⟩
    | cons x xs ih =>
      intro es n kk p
      cases p with
      | @cons e _ es' _ a b c =>
        obtain ⟨ys, y1, y2, y3, y4⟩ := ih (fun y hy => n y (List.mem_cons_of_mem _ hy)) (fun e he => kk e (List.mem_cons_of_mem _ he)) c
        obtain ⟨i, t, e1, e2⟩ := n x (by simp)
        have a' : Value.isInt (iK x.1) e.key = true := a
        obtain ⟨t', e3⟩ := Value.isInt_shape a'
        obtain ⟨k, k1, k2⟩ := kk e (by simp)
        obtain ⟨t2, e4⟩ := Value.isInt_shape k1
        have ki : k = iK x.1 := by rw [e3] at e4; injection e4 with e5; exact e5.symm
        have xk : x.1 = .num (iK x.1) := by rw [e1]; rfl
        refine ⟨(x.1, e.key, e.val) :: ys, ?_, by rw [List.map_cons, List.map_cons, y2], by rw [List.length_cons, List.length_cons, y3], fun j x' y' q1 q2 => ?_⟩
        · rw [List.map_cons, ← y1]
          congr 1
          unfold LtK.ent
          have hh : x.1.hash w = e.hash := by rw [k2, ki, xk]; rfl
          rw [hh]
        · cases j with
          | zero => cases q1; cases q2; exact ⟨rfl, b, t', e3⟩
          | succ j => exact y4 j x' y' (by simpa using q1) (by simpa using q2)
  obtain ⟨ys, y1, y2, y3, y4⟩ := key n (fun e he => by obtain ⟨k, a, b⟩ := h4 e (Array.mem_toList_iff.mp he); exact ⟨k, a, b⟩) h5
  exact ⟨ys, ⟨o, es, ep, h1, h2, h3, y1, by rw [y2]; exact hn⟩, y3, y4⟩
theorem paired_of {α β : Type} {R : α → β → Prop} : ∀ {xs : List α} {ys : List β}, xs.length = ys.length → (∀ (i : Nat) x y, xs[i]? = some x → ys[i]? = some y → R x y) → PySem.Paired R xs ys
  | [], [], _, _ => .nil
  | [], _ :: _, e, _ => by cases e
  | _ :: _, [], e, _ => by cases e
  | x :: xs, y :: ys, e, h => .cons (h 0 x y rfl rfl) (paired_of (by simpa using e) fun i a b h1 h2 => h (i + 1) a b (by simpa using h1) (by simpa using h2))
theorem paired_at {α β : Type} {R : α → β → Prop} : ∀ {xs : List α} {ys : List β}, PySem.Paired R xs ys → ∀ (i : Nat) y, ys[i]? = some y → ∃ x, xs[i]? = some x ∧ R x y
  | _, _, .nil, i, y, e => by simp at e
  | _, _, .cons r t, 0, y, e => by cases e; exact ⟨_, rfl, r⟩
  | _, _, .cons r t, i + 1, y, e => by obtain ⟨x, a, b⟩ := paired_at t i y (by simpa using e); exact ⟨x, by simpa using a, b⟩
theorem dn_copy (hw : X.w = Wd.w) (I : Inv X pins σ H s) {h : Hh} (S : Sim X.K H h) {d : D} {x : V} {v : Value} {kvs : List (NestedKey × D)} {Q : VK}
    (r1 : Rep X.K H d x) (rx : RelV x v) (e1 : rdN h d = some kvs) (nk : (kvs.all fun p => numK p.1) = true) (q : ∀ p H', H p = none → TKeep H H' → Sim X.K H' (up h p (.dN kvs)) → Q (.ref p) H') :
    wpAny (model X.prog X.w) X.A (call (.type "dict") [v]) (EP X pins σ Q) X.xe s := by
  obtain ⟨a, es, xs, rfl, rfl, A⟩ := dn_at hw I S r1 e1 rx
  have nE : ∀ x ∈ xs, NumE x := fun x hx => by
    obtain ⟨i, hi⟩ := List.mem_iff_getElem?.1 hx
    obtain ⟨e, e2, r⟩ := paired_at A.re i x hi
    have em := List.mem_of_getElem? e2
    have kr := (A.ko e em).1
    have nm : numK e.1 = true := by
      have m := map_eq_of numK A.ek
      have : numK e.1 ∈ kvs.map fun p => numK p.1 := by rw [← m]; exact List.mem_map_of_mem (f := fun x : LtK.VEnt => numK x.1) em
      obtain ⟨p, hp, e3⟩ := List.mem_map.1 this
      rw [← e3]
      exact List.all_eq_true.1 nk p hp
    obtain ⟨g1, g2, g3⟩ := r
    unfold NumE
    rw [← g1]
    cases ek : e.1 with
    | num n =>
      rw [ek] at kr
      unfold KeyR at kr
      rw [kr] at g2
      obtain ⟨t, g2⟩ := g2
      exact ⟨n, t, rfl, g2⟩
    | none => rw [ek] at nm; cases nm
    | text _ => rw [ek] at nm; cases nm
    | tup _ => rw [ek] at nm; cases nm
  have nd : (xs.map (·.1)).Nodup := by obtain ⟨_, _, _, _, _, _, _, h⟩ := id A.raw; exact h
  have ln : xs.length ≤ sizeLine := by rw [← LtK.RE.len A.re]; exact A.ln
  have hn : H s.heap.objs.size = none := I.hok.fresh (Nat.le_refl _)
  have lo : (s.heap.objs.size == sysModules) = false := beq_eq_false_iff_ne.mpr (Ne.symm (Nat.ne_of_lt I.big))
  refine kt_call_dict A.lo (raw_dictOf (prog := X.prog) A.raw nE) (by rw [List.length_map]; exact ln) fun h' hd hs => ?_
  obtain ⟨ys, R', yl, ya⟩ := dictOf_raw nE nd hd
  have re' : PySem.Paired LtK.RE es ys := paired_of (by rw [yl]; exact LtK.RE.len A.re) fun i e y e2 e3 => by
    have hi : i < xs.length := by
      have := (List.getElem?_eq_some_iff.1 e3).1; omega
    have e4 : xs[i]? = some xs[i] := List.getElem?_eq_getElem hi
    obtain ⟨e', g0, g1, g2, g3⟩ := paired_at A.re i _ e4
    rw [e2] at g0; cases g0
    obtain ⟨k1, k2, t, k3⟩ := ya i _ y e4 e3
    obtain ⟨n, t', m1, m2⟩ := nE _ (List.getElem_mem hi)
    refine ⟨g1.trans k1.symm, ?_, by rw [k2]; exact g3⟩
    rw [m2] at g2
    have : e.2.1 = .int n := by
      cases ev : e.2.1 with
      | int z => rw [ev] at g2; obtain ⟨_, g2⟩ := g2; injection g2 with g2; rw [g2]
      | non => rw [ev] at g2; cases g2
      | bl _ => rw [ev] at g2; cases g2
      | str _ => rw [ev] at g2; obtain ⟨_, g2⟩ := g2; cases g2
      | byt _ => rw [ev] at g2; obtain ⟨_, g2⟩ := g2; cases g2
      | flt _ => rw [ev] at g2; obtain ⟨_, g2⟩ := g2; cases g2
      | ref _ => rw [ev] at g2; cases g2
      | ty _ => rw [ev] at g2; cases g2
    rw [this, k3, m1]
    exact ⟨t, rfl⟩
  have I2 := I.laid (a := s.heap.objs.size) (o := LtK.dnO X.w s.heap.objs.size es) (h' := h') (t' := s.toks) (fun b o e => (hs.2 b (Nat.ne_of_lt (Heap.lt_size e))).trans (Heap.get?_push_of_some _ e)) (Nat.le_refl _) (LtK.dnO_ok A.ln lo re' R')
  refine ⟨.ref s.heap.objs.size, _, I2, rfl, q _ _ hn (TKeep.new hn) (S.upd (TKeep.new hn) ⟨es, by rw [← hw]; exact L2.upd_same, A.ek, fun e he => ⟨(A.ko e he).1.keep (TKeep.new hn), (A.ko e he).2⟩, A.rv.keep (TKeep.new hn)⟩)⟩
theorem pe_dcp (hw : X.w = Wd.w) {e : Expr} {te : TE} {p pos : Pos} (g1 : Gl X "dict") (m1 : X.mg "dict" = none) (he : PE X e te) (hs : starEach [e] X.env = (false, eval e X.env) :: starEach [] X.env) :
    PE X (.Call (.Name "dict" p) [e] [] pos) (fun σ H Q => te σ H fun x H1 => ∃ d h kvs, Sim X.K H1 h ∧ Rep X.K H1 d x ∧ rdN h d = some kvs ∧ (kvs.all fun p => numK p.1) = true ∧ ∀ p H', H1 p = none → TKeep H1 H' → Sim X.K H' (up h p (.dN kvs)) → Q (.ref p) H') := by
  refine ⟨fun pins s σ H Q I h => ?_⟩
  refine Call_ (ld_blt I g1 m1 PyProof.Rows.boot_dict (PyProof.Rows.callWith_type1 (thn ((pa_cons he pa_nil hs).run pos pins s σ H (fun vs H1 => match vs with
    | [x] => ∃ d h kvs, Sim X.K H1 h ∧ Rep X.K H1 d x ∧ rdN h d = some kvs ∧ (kvs.all fun p => numK p.1) = true ∧ ∀ p H', H1 p = none → TKeep H1 H' → Sim X.K H' (up h p (.dN kvs)) → Q (.ref p) H'
    | _ => False) I h) fun us s1 ⟨vs, H1, I1, r1, q1⟩ => ?_) hs rfl))
  match vs, q1 with
  | [x], q1 =>
    obtain ⟨d, h2, kvs, S, r, e1, nk, q⟩ := q1
    obtain ⟨u, rfl, ru⟩ := vals1 r1
    exact dn_copy hw I1 S r ru e1 nk q
end
end Lt

set_option maxHeartbeats 8000000
namespace Lt
open PySem PySem.Spec PyProof.Rows L2
variable [Wd]
section
variable {C : Cn} {T : Tab} {X : Cx} {W : WX} {S : Sc}
theorem ifB {α : Type} {b : Bool} {x y : α} (h : (if b = true then some x else none) = some y) : b = true ∧ x = y := by
  split at h
  · rename_i q; exact ⟨q, by cases h; rfl⟩
  · cases h
theorem s_lrev (O : Ok C T X W S) {e : Expr} {es : List Expr} {fa : FA} (h : pxArgs S .lrev e = some es) (ha : PA X es (tA X.K X.mg W fa)) : PE X e (tE X.K X.mg W fun ρ h Q Y => fa ρ h (fun xs h1 => pxW .lrev xs h1 Q) Y) := by
  simp only [pxArgs] at h
  split at h
  · have h := ifB h
    simp only [Bool.and_eq_true, decide_eq_true_eq] at h
    obtain ⟨⟨⟨⟨⟨rfl, rfl⟩, g1⟩, g2⟩, ns⟩, rfl⟩ := h
    exact (LtR.pe_lrev O.calm (O.gl g1) (O.blt (by decide +kernel)) (O.gl g2) (O.blt (by decide +kernel)) ha (noStar_each (noStar_cons ns).1 _)).imp fun σ H Q ⟨ρ, h, R, Y, Sm, RE, w, lk, lx⟩ => ⟨ρ, h, _, Y, Sm, RE, w, fun vs H1 ds h1 k1 S1 q1 w1 => by
      match ds, w1 with
      | [d], w1 =>
        obtain ⟨v, rfl, r1⟩ := reps1 q1
        obtain ⟨xs, e1, w2⟩ := optW_iff.1 w1
        obtain ⟨a, us, rfl, sq, rs⟩ := S1.ls r1 e1
        exact ⟨a, us, rfl, sq, (lk.keep k1).new S1 rs.reverse w2⟩, lx⟩
  · cases h
theorem rs_rpr (gd : X.A.guards = some []) (hu : X.A.units + 65 < cLine) : CallR X (.builtin "repr") (rs X.K (pxW .rpr)) := by
  intro pins s σ H vs us Q I r ⟨ds, h, R, Sm, rr, w, lk⟩
  match ds, w with
  | [x], w =>
    obtain ⟨d, sx, ip, g, w⟩ : ∃ d, seqD x = true ∧ IsP h x d ∧ (d.showable = true ∧ d.hasDict = false ∧ d.depth ≤ 60 ∧ d.shown.length ≤ sizeLine) ∧ R (.str d.shown) h := w
    obtain ⟨v, rfl, r1⟩ := reps1 rr
    have dp := ip.dp Sm d r1
    have ref : ∃ a, v = .ref a := by
      cases x <;> first
        | exact absurd sx Bool.false_ne_true
        | (rw [rep_ref] at r1; exact ⟨_, r1⟩)
        | (unfold Rep at r1; obtain ⟨a, _, e, _⟩ := r1; exact ⟨a, e⟩)
    obtain ⟨a, rfl⟩ := ref
    exact LtR.call_repr gd hu pins s σ H _ us Q I r ⟨a, d, rfl, dp, g, lk.same Sm (rep_str.2 rfl) w⟩
theorem s_rpr (O : Ok C T X W S) {e : Expr} {es : List Expr} {fa : FA} (h : pxArgs S .rpr e = some es) (ha : PA X es (tA X.K X.mg W fa)) : PE X e (tE X.K X.mg W fun ρ h Q Y => fa ρ h (fun xs h1 => pxW .rpr xs h1 Q) Y) := by
  simp only [pxArgs] at h
  split at h
  · have h := ifB h
    simp only [Bool.and_eq_true, decide_eq_true_eq] at h
    obtain ⟨⟨⟨rfl, g1⟩, ns⟩, rfl⟩ := h
    exact s_callB (rs_rpr O.gd O.un) (O.gl g1) (O.blt (by decide +kernel)) (by decide +kernel) ha ns (by decide +kernel) (by decide +kernel)
  · cases h
theorem s_srt (O : Ok C T X W S) {e : Expr} {es : List Expr} {fa : FA} (h : pxArgs S .srt e = some es) (ha : PA X es (tA X.K X.mg W fa)) : PE X e (tE X.K X.mg W fun ρ h Q Y => fa ρ h (fun xs h1 => pxW .srt xs h1 Q) Y) := by
  simp only [pxArgs] at h
  split at h
  · have h := ifB h
    simp only [Bool.and_eq_true, decide_eq_true_eq] at h
    obtain ⟨⟨⟨rfl, g1⟩, ns⟩, rfl⟩ := h
    exact s_callB (cr_sorted_any O.wd O.calm O.un) (O.gl g1) (O.blt (by decide +kernel)) (by decide +kernel) ha ns (by decide +kernel) (by decide +kernel)
  · cases h
theorem s_dnew (O : Ok C T X W S) {e : Expr} {es : List Expr} (h : pxArgs S .dnew e = some es) : PE X e (tE X.K X.mg W fun ρ h Q Y => pxW .dnew [] h Q) := by
  simp only [pxArgs] at h
  split at h
  · exact ⟨fun pins s σ H Q I ⟨ρ, h, R, Y, Sm, RE, w, lk, lx⟩ => dn_new O.wd I Sm fun p H' hp k S' => lk _ _ _ _ k S' (by rw [rep_ref]) (w p (Sm.fresh hp))⟩
  · cases h
theorem Rep.dct1 {K : PySem.W.Frag} {H : Hp} {d : D} {k : NestedKey} {x : V} (r : Rep K H d x) (e : keyT d = some k) : KeyR K H k x ∧ keyOk k = true := let ⟨a, b⟩ := keyT_some e; ⟨KeyR.of a r, b⟩
theorem s_done (O : Ok C T X W S) {ke ve : Expr} {tk : TE} {v : V} {dv : D} {pos : Pos} {fk : En → Option D} (hk : PE X ke tk) (hv : PE X ve (tC v)) (rv : ∀ H, Rep X.K H dv v)
    (ht : ∀ σ H ρ d, RepE X.K H ρ σ → fk ρ = some d → ∃ x, Rep X.K H d x ∧ ∀ H1 (Q : VK), Q x H1 → tk σ H1 Q) :
    PE X (.Dict [some ke] [ve] pos) (tE X.K X.mg W fun ρ h Q Y => optW (fk ρ) fun d => pxW .done [d, dv] h Q) :=
  (pe_done O.wd O.un hk hv).imp fun σ H Q ⟨ρ, h, R, Y, S, RE, w, lk, lx⟩ => by
    obtain ⟨d, e1, w⟩ := optW_iff.1 w
    obtain ⟨k, e2, w⟩ := optW_iff.1 (show optW (keyT d) fun k => ∀ p, h p = none → R (.ref p) (up h p (.dN [(k, dv)])) from w)
    obtain ⟨x, rx, tx⟩ := ht σ H ρ d RE e1
    refine ⟨x, tx, d, k, rx, e2, fun p hp => ?_⟩
    obtain ⟨k3, k4⟩ := rx.dct1 e2
    exact lk _ _ _ _ (TKeep.new hp) (S.upd (o := .dN [(k, dv)]) (TKeep.new hp) ⟨[(k, x, v)], by rw [← O.wd]; exact L2.upd_same, rfl, (fun e he => by rw [List.mem_singleton] at he; subst he; exact ⟨k3.keep (TKeep.new hp), k4⟩), .cons (rv _) .nil⟩) (by rw [rep_ref]) (w p (S.fresh hp))
theorem s_srtK (O : Ok C T X W S) {e o : Expr} {fo : FE} (h : pxArgs S .srtK e = some [o]) (ho : PE X o (tE X.K X.mg W fo)) : PE X e (tE X.K X.mg W fun ρ h Q Y => fo ρ h (fun x h1 => pxW .srtK [x] h1 Q) Y) := by
  simp only [pxArgs] at h
  split at h
  · have h := ifB h
    simp only [Bool.and_eq_true, decide_eq_true_eq] at h
    obtain ⟨⟨⟨⟨⟨rfl, rfl⟩, g1⟩, nc⟩, li⟩, e9⟩ := h
    cases e9
    refine (pe_callB (cr_srtK O.wd O.calm O.un) (O.gl g1) (O.blt (by decide +kernel)) (by decide +kernel) (pa_cons (pe_keys O.wd ho (noCall0_base nc _ _ _) li) pa_nil rfl) (by decide +kernel) (by decide +kernel) rfl rfl).imp fun σ H Q ⟨ρ, h, R, Y, S, RE, w, lk, lx⟩ => ?_
    refine ⟨ρ, h, _, Y, S, RE, w, fun v H1 d h1 k1 S1 q1 w1 => ?_, lx⟩
    obtain ⟨kvs, e, ok, w2⟩ := optW_iff.1 (show optW (rdN h1 d) fun kvs => SrtOk (kvs.map fun p => p.1.data) ∧ ∀ p, h1 p = none → R (.ref p) (up h1 p (.lst (srtD (kvs.map fun p => ofK p.1) (kvs.map fun p => p.1.data)))) from w1)
    refine ⟨⟨kvs, d, h1, S1, q1, e⟩, fun p a ea hp => ?_⟩
    subst ea
    refine ⟨p, a, kvs, rfl, upd_same, DR.new ⟨d, h1, S1, q1, e⟩ hp, ok, fun q vs hq rr => ?_⟩
    have S2 := S1.tup (u := kvO p a) hp
    exact lk _ _ _ _ (k1.trans ((TKeep.new hp).trans (TKeep.new hq))) (S2.lst (TKeep.new hq) rr) (by rw [rep_ref]) (w2 q (S2.fresh hq))
  · cases h
theorem s_sumV (O : Ok C T X W S) {e o : Expr} {fo : FE} (h : pxArgs S .sumV e = some [o]) (ho : PE X o (tE X.K X.mg W fo)) : PE X e (tE X.K X.mg W fun ρ h Q Y => fo ρ h (fun x h1 => pxW .sumV [x] h1 Q) Y) := by
  simp only [pxArgs] at h
  split at h
  · have h := ifB h
    simp only [Bool.and_eq_true, decide_eq_true_eq] at h
    obtain ⟨⟨⟨⟨⟨rfl, rfl⟩, g1⟩, nc⟩, li⟩, e9⟩ := h
    cases e9
    refine (pe_callB (cr_sumV O.wd O.calm) (O.gl g1) (O.blt (by decide +kernel)) (by decide +kernel) (pa_cons (pe_values O.wd ho (noCall0_base nc _ _ _) li) pa_nil rfl) (by decide +kernel) (by decide +kernel) rfl rfl).imp fun σ H Q ⟨ρ, h, R, Y, S, RE, w, lk, lx⟩ => ?_
    refine ⟨ρ, h, _, Y, S, RE, w, fun v H1 d h1 k1 S1 q1 w1 => ?_, lx⟩
    obtain ⟨kvs, e, w2⟩ := optW_iff.1 (show optW (rdN h1 d) fun kvs => optW (intsD (kvs.map (·.2))) fun ns => R (.int ns.sum) h1 from w1)
    obtain ⟨ns, e2, w2⟩ := optW_iff.1 w2
    refine ⟨⟨kvs, d, h1, S1, q1, e⟩, fun p a ea hp => ?_⟩
    subst ea
    exact ⟨p, a, kvs, ns, rfl, upd_same, DR.new ⟨d, h1, S1, q1, e⟩ hp, e2, (lk.keep (k1.trans (TKeep.new hp))).same (S1.tup hp) (rep_int.2 rfl) w2⟩
  · cases h
theorem s_srtL (O : Ok C T X W S) {e o : Expr} {fo : FE} (h : pxArgs S .srtL e = some [o]) (ho : PE X o (tE X.K X.mg W fo)) : PE X e (tE X.K X.mg W fun ρ h Q Y => fo ρ h (fun x h1 => pxW .srtL [x] h1 Q) Y) := by
  simp only [pxArgs] at h
  split at h
  · have h := ifB h
    simp only [Bool.and_eq_true, decide_eq_true_eq] at h
    obtain ⟨⟨⟨⟨⟨⟨⟨⟨rfl, rfl⟩, rfl⟩, rfl⟩, g1⟩, g2⟩, nc⟩, li⟩, e9⟩ := h
    cases e9
    refine (pe_srtL O.wd O.calm O.un (O.gl g1) (O.blt (by decide +kernel)) (O.gl g2) (O.blt (by decide +kernel)) ho (noCall0_base nc _ _ _) li).imp fun σ H Q ⟨ρ, h, R, Y, S, RE, w, lk, lx⟩ => ?_
    refine ⟨ρ, h, _, Y, S, RE, w, fun v H1 d h1 k1 S1 q1 w1 => ?_, lx⟩
    obtain ⟨kvs, e, ok, w2⟩ := optW_iff.1 (show optW (rdN h1 d) fun kvs => (kvs.all fun p => tupK p.1) = true ∧ ∀ p, h1 p = none → R (.ref p) (up h1 p (.lst (srtD (kvs.map fun p => ofK p.1) (kvs.map fun p => .int (lenK p.1 : Int))))) from w1)
    refine ⟨⟨kvs, d, h1, S1, q1, e⟩, fun p a ea hp => ?_⟩
    subst ea
    refine ⟨p, a, kvs, rfl, upd_same, DR.new ⟨d, h1, S1, q1, e⟩ hp, ok, fun q vs hq rr => ?_⟩
    have S2 := S1.tup (u := kvO p a) hp
    exact lk _ _ _ _ (k1.trans ((TKeep.new hp).trans (TKeep.new hq))) (S2.lst (TKeep.new hq) rr) (by rw [rep_ref]) (w2 q (S2.fresh hq))
  · cases h
theorem s_dcp (O : Ok C T X W S) {e o : Expr} {fo : FE} (h : pxArgs S .dcp e = some [o]) (ho : PE X o (tE X.K X.mg W fo)) : PE X e (tE X.K X.mg W fun ρ h Q Y => fo ρ h (fun x h1 => pxW .dcp [x] h1 Q) Y) := by
  simp only [pxArgs] at h
  split at h
  · have h := ifB h
    simp only [Bool.and_eq_true, decide_eq_true_eq] at h
    obtain ⟨⟨⟨rfl, g1⟩, ns⟩, e9⟩ := h
    cases e9
    refine (pe_dcp O.wd (O.gl g1) (O.blt (by decide +kernel)) ho (noStar_each (noStar_cons ns).1 _)).imp fun σ H Q ⟨ρ, h, R, Y, S, RE, w, lk, lx⟩ => ?_
    refine ⟨ρ, h, _, Y, S, RE, w, fun v H1 d h1 k1 S1 q1 w1 => ?_, lx⟩
    obtain ⟨kvs, e, nk, w2⟩ := optW_iff.1 (show optW (rdN h1 d) fun kvs => (kvs.all fun p => numK p.1) = true ∧ ∀ p, h1 p = none → R (.ref p) (up h1 p (.dN kvs)) from w1)
    exact ⟨d, h1, kvs, S1, q1, e, nk, fun p H' hp k S' => lk _ _ _ _ (k1.trans k) S' (by rw [rep_ref]) (w2 p (S1.fresh hp))⟩
  · cases h
theorem px_srtL {e : Expr} {es : List Expr} (h : pxArgs S .srtL e = some es) : ∃ o, es = [o] := by
  simp only [pxArgs] at h
  split at h
  · exact ⟨_, (ifB h).2.symm⟩
  · cases h
theorem px_dcp {e : Expr} {es : List Expr} (h : pxArgs S .dcp e = some es) : ∃ o, es = [o] := by
  simp only [pxArgs] at h
  split at h
  · exact ⟨_, (ifB h).2.symm⟩
  · cases h
theorem px_srtK {e : Expr} {es : List Expr} (h : pxArgs S .srtK e = some es) : ∃ o, es = [o] := by
  simp only [pxArgs] at h
  split at h
  · exact ⟨_, (ifB h).2.symm⟩
  · cases h
theorem px_sumV {e : Expr} {es : List Expr} (h : pxArgs S .sumV e = some es) : ∃ o, es = [o] := by
  simp only [pxArgs] at h
  split at h
  · exact ⟨_, (ifB h).2.symm⟩
  · cases h
theorem pxAs_done : ∀ {as : Es}, pxAs .done as = true → (∃ i, as = .cons (.v i) (.cons .kN .nil)) ∨ (∃ i b, as = .cons (.v i) (.cons (.kB b) .nil)) ∨ (∃ i b, as = .cons (.v i) (.cons (.kI b) .nil)) ∨ ∃ i b, as = .cons (.kI i) (.cons (.kB b) .nil) := by
  intro as h
  unfold pxAs at h
  split at h <;> first
    | cases h; done
    | (rename_i e; cases e; done)
    | exact .inl ⟨_, rfl⟩
    | exact .inr (.inl ⟨_, _, rfl⟩)
    | exact .inr (.inr (.inl ⟨_, _, rfl⟩))
    | exact .inr (.inr (.inr ⟨_, _, rfl⟩))
    | skip
  all_goals (rename_i e1 e2; exact absurd rfl (by assumption))
theorem s_px (O : Ok C T X W S) {k : Px} {e : Expr} {es : List Expr} {fa : FA} (k1 : k = .lrev ∨ k = .rpr ∨ k = .srt) (h : pxArgs S k e = some es) (ha : PA X es (tA X.K X.mg W fa)) : PE X e (tE X.K X.mg W fun ρ h Q Y => fa ρ h (fun xs h1 => pxW k xs h1 Q) Y) := by
  rcases k1 with rfl | rfl | rfl
  · exact s_lrev O h ha
  · exact s_rpr O h ha
  · exact s_srt O h ha
end
end Lt

set_option maxHeartbeats 8000000
namespace Lt
open PySem PySem.Spec PyProof.Rows L2
variable [Wd]
section
variable {T : Tab} (C : Cn)
/-- .. and its test, where the expression is no and, or, not, comparison -/
theorem both {X : Cx} {W : WX} {e : Expr} {f : FE} (h : PE X e (tE X.K X.mg W f)) (he : ∀ whole, isTrue e X.env whole = (do let v ← whole; standAt e.pos; holding [v] (truthy v))) :
    PE X e (tE X.K X.mg W f) ∧ PT X e (tT X.K X.mg W (bT f)) := ⟨h, s_val h he⟩
theorem an_eq (a : E) (r : Es) : wAn C (.cons a r) = anW (wE C a) (wAn C r) := by simp only [wAn]; rfl
theorem or_eq (a : E) (r : Es) : wOr C (.cons a r) = orW (wE C a) (wOr C r) := by simp only [wOr]; rfl
theorem s_partE {X : Cx} {W : WX} {S : Sc} (lo : E) (l : Option Expr) (ih : ∀ pe, okE T lo S pe = true → PE X pe (tE X.K X.mg W (wE C lo))) (h : partB (okE T lo S) lo l = true) :
    PO X l (tO X.K X.mg W (partW lo (wE C lo))) := by
  cases lo <;> first
    | (have e : l = none := by simpa [partB] using h
       subst e
       exact s_noPart)
    | (cases l with
       | none => exact absurd h Bool.false_ne_true
       | some l => exact s_part (ih l h))
theorem s_iteT {X : Cx} {W : WX} {c a b : Expr} {fa fb f : FE} {pos : Pos} (hc : PT X c (tT X.K X.mg W (bT f))) (ha : PT X a (tT X.K X.mg W (bT fa))) (hb : PT X b (tT X.K X.mg W (bT fb))) :
    PT X (.IfExp c a b pos) (tT X.K X.mg W (bT fun ρ h Q Y => f ρ h (fun x h1 => blW x fun d => if d = true then fa ρ h1 Q Y else fb ρ h1 Q Y) Y)) := by
  refine ⟨fun pins s σ H Q I hh => ?_⟩
  obtain ⟨ρ, h, R, Y, S, RE, w, lk, lx⟩ := hh
  refine PyProof.Rows.isTrue_IfExp (thn (hc.run pins s σ H (fun b H1 => ∃ h1, TKeep H H1 ∧ Sim X.K H1 h1 ∧ if b = true then bT fa ρ h1 R Y else bT fb ρ h1 R Y) I ⟨ρ, h, fun b h1 => if b = true then bT fa ρ h1 R Y else bT fb ρ h1 R Y, Y, S, RE, w, fun b H1 h1 k1 S1 w1 => ⟨h1, k1, S1, w1⟩, lx⟩) fun d s1 ⟨H1, I1, h1, k1, S1, q1⟩ => ?_)
  cases d with
  | true => exact ha.run pins s1 σ H1 Q I1 ⟨ρ, h1, R, Y, S1, RE.keep k1, ifT q1, fun b H2 h2 k2 => lk b H2 h2 (k1.trans k2), lx.keep k1⟩
  | false => exact hb.run pins s1 σ H1 Q I1 ⟨ρ, h1, R, Y, S1, RE.keep k1, ifF q1, fun b H2 h2 k2 => lk b H2 h2 (k1.trans k2), lx.keep k1⟩
mutual
theorem sE : ∀ (e : E) {X : Cx} {W : WX} {S : Sc} (O : Ok C T X W S) (pe : Expr), okE T e S pe = true → PE X pe (tE X.K X.mg W (wE C e)) ∧ PT X pe (tT X.K X.mg W (bT (wE C e)))
  | .kN, X, W, S, O, pe, h => by
    simp only [okE] at h
    split at h
    · simp only [wE]; exact both (s_const pe_non fun _ => rep_non.2 rfl) fun _ => rfl
    · exact absurd h Bool.false_ne_true
  | .kB b, X, W, S, O, pe, h => by
    simp only [okE] at h
    split at h
    · have e := eq_of_beq h; subst e
      simp only [wE]; exact both (s_const pe_bl fun _ => rep_bl.2 rfl) fun _ => rfl
    · exact absurd h Bool.false_ne_true
  | .kI b, X, W, S, O, pe, h => by
    simp only [okE] at h
    split at h
    · have e := of_decide_eq_true h; subst e
      simp only [wE]; exact both (s_const pe_int fun _ => rep_int.2 rfl) fun _ => rfl
    · exact absurd h Bool.false_ne_true
  | .kS b, X, W, S, O, pe, h => by
    simp only [okE] at h
    split at h
    · have e := of_decide_eq_true h; subst e
      simp only [wE]; exact both (s_const pe_str fun _ => rep_str.2 rfl) fun _ => rfl
    · exact absurd h Bool.false_ne_true
  | .v i, X, W, S, O, pe, h => by
    simp only [okE] at h
    split at h
    · rename_i x p
      unfold nmB at h
      simp only [Bool.and_eq_true, decide_eq_true_eq] at h
      obtain ⟨⟨h1, h2⟩, h3⟩ := h
      simp only [wE]; exact both (s_var (by rw [O.N]; exact h1) (O.vis h2) (plain1 h3) (plain2 h3)) fun _ => rfl
    · exact absurd h Bool.false_ne_true
  | .g x, X, W, S, O, pe, h => by
    simp only [okE] at h
    split at h
    · rename_i y p
      simp only [Bool.and_eq_true, decide_eq_true_eq] at h
      obtain ⟨⟨h1, h2⟩, h3⟩ := h
      subst h1
      simp only [wE]
      cases q : C.glob x with
      | none =>
        refine ⟨⟨fun pins s σ H Q I hh => ?_⟩, ⟨fun pins s σ H Q I hh => ?_⟩⟩
        · obtain ⟨ρ, h, R, Y, _, _, w, _⟩ := hh
          exact w.elim
        · obtain ⟨ρ, h, R, Y, _, _, w, _⟩ := hh
          exact w.elim
      | some d =>
        obtain ⟨u, v, e1, e2, e3⟩ := O.globs x d q
        exact both (s_const (pe_glob (O.gl h2) e1 e2 (plain1 h3)) e3) fun _ => rfl
    · exact absurd h Bool.false_ne_true
  | .op o a b, X, W, S, O, pe, h => by
    simp only [okE] at h
    split at h
    · simp only [Bool.and_eq_true] at h
      obtain ⟨⟨h1, h2⟩, h3⟩ := h
      rw [opB_ok h1]
      simp only [wE]; exact both (s_op o (sE a O _ h2).1 (sE b O _ h3).1) fun _ => rfl
    · exact absurd h Bool.false_ne_true
  | .neg a, X, W, S, O, pe, h => by
    simp only [okE] at h
    split at h
    · simp only [wE]; exact both (s_neg (sE a O _ h).1) fun _ => rfl
    · exact absurd h Bool.false_ne_true
  | .cm o a b, X, W, S, O, pe, h => by
    simp only [okE] at h
    split at h
    · simp only [Bool.and_eq_true, Bool.not_eq_true'] at h
      obtain ⟨⟨⟨h1, h2⟩, h3⟩, h4⟩ := h
      rw [coB_ok h1] at h2 ⊢
      simp only [wE]; exact ⟨s_cm O.wd O.un o (sE a O _ h3).1 (sE b O _ h4).1 h2, s_cmT O.wd O.un o (sE a O _ h3).1 (sE b O _ h4).1 h2⟩
    · exact absurd h Bool.false_ne_true
  | .cm2 o q a b c, X, W, S, O, pe, h => by
    simp only [okE] at h
    split at h
    · simp only [Bool.and_eq_true, Bool.not_eq_true'] at h
      obtain ⟨⟨⟨⟨⟨h1, h2⟩, h3⟩, h4⟩, h5⟩, h6⟩ := h
      rw [coB_ok h1, coB_ok h2] at h3 ⊢
      simp only [wE]; exact ⟨s_cm2 O.wd O.un o q (sE a O _ h4).1 (sE b O _ h5).1 (sE c O _ h6).1 h3, s_cm2T O.wd O.un o q (sE a O _ h4).1 (sE b O _ h5).1 (sE c O _ h6).1 h3⟩
    · exact absurd h Bool.false_ne_true
  | .isN a, X, W, S, O, pe, h => by
    simp only [okE] at h
    split at h
    · simp only [wE]; exact ⟨s_isN (sE a O _ h).1, s_isNT (sE a O _ h).1⟩
    · exact absurd h Bool.false_ne_true
  | .notN a, X, W, S, O, pe, h => by
    simp only [okE] at h
    split at h
    · simp only [wE]; exact ⟨s_notN (sE a O _ h).1, s_notNT (sE a O _ h).1⟩
    · exact absurd h Bool.false_ne_true
  | .and as, X, W, S, O, pe, h => by
    simp only [okE] at h
    split at h
    · simp only [Bool.and_eq_true, Bool.not_eq_true'] at h
      obtain ⟨h1, h2⟩ := h
      obtain ⟨q1, q2⟩ := sAn as O _ h2 h1
      simp only [wE]
      refine ⟨q2 _, (q1 _).pt.imp fun σ H Q ⟨ρ, h, R, Y, S, RE, w, lk, lx⟩ => ⟨ρ, h, R, Y, S, RE, w, lk, lx⟩⟩
    · exact absurd h Bool.false_ne_true
  | .or as, X, W, S, O, pe, h => by
    simp only [okE] at h
    split at h
    · simp only [Bool.and_eq_true, Bool.not_eq_true'] at h
      obtain ⟨h1, h2⟩ := h
      obtain ⟨q1, q2⟩ := sOr as O _ h2 h1
      simp only [wE]
      refine ⟨q2 _, (q1 _).pt.imp fun σ H Q ⟨ρ, h, R, Y, S, RE, w, lk, lx⟩ => ⟨ρ, h, R, Y, S, RE, w, lk, lx⟩⟩
    · exact absurd h Bool.false_ne_true
  | .not a, X, W, S, O, pe, h => by
    simp only [okE] at h
    split at h
    · simp only [wE]; exact ⟨s_not (sE a O _ h).1, s_notT (sE a O _ h).2⟩
    · exact absurd h Bool.false_ne_true
  | .ite c a b, X, W, S, O, pe, h => by
    simp only [okE] at h
    split at h
    · simp only [Bool.and_eq_true] at h
      obtain ⟨⟨h1, h2⟩, h3⟩ := h
      simp only [wE]; exact ⟨s_ite (sE c O _ h1).2 (sE a O _ h2).1 (sE b O _ h3).1, s_iteT (sE c O _ h1).2 (sE a O _ h2).2 (sE b O _ h3).2⟩
    · exact absurd h Bool.false_ne_true
  | .tp as, X, W, S, O, pe, h => by
    simp only [okE] at h
    split at h
    · simp only [Bool.and_eq_true] at h
      simp only [wE]; exact both (s_tup (sA as O _ h.2)) fun _ => rfl
    · exact absurd h Bool.false_ne_true
  | .ls as, X, W, S, O, pe, h => by
    simp only [okE] at h
    split at h
    · simp only [Bool.and_eq_true] at h
      simp only [wE]; exact both (s_lst (sA as O _ h.2)) fun _ => rfl
    · exact absurd h Bool.false_ne_true
  | .ix a i, X, W, S, O, pe, h => by
    simp only [okE] at h
    split at h
    · simp only [Bool.and_eq_true] at h
      obtain ⟨⟨h1, h2⟩, h3⟩ := h
      simp only [wE]; exact both (s_ix O.wd O.un (sE a O _ h2).1 (sE i O _ h3).1 (noSlice_plain h1)) fun _ => rfl
    · exact absurd h Bool.false_ne_true
  | .sl a lo hi, X, W, S, O, pe, h => by
    simp only [okE] at h
    split at h
    · rename_i x l u p2 p1
      rw [Bool.and_eq_true, Bool.and_eq_true] at h
      obtain ⟨⟨h1, h2⟩, h3⟩ := h
      have hl := s_partE C (X := X) (W := W) lo l (fun pe h => (sE lo O pe h).1) h2
      have hh := s_partE C (X := X) (W := W) hi u (fun pe h => (sE hi O pe h).1) h3
      have q := s_sl (pos := p1) (p2 := p2) (sE a O _ h1).1 hl hh
      refine both (tE_eq q ?_) fun _ => rfl
      simp only [wE]
    · exact absurd h Bool.false_ne_true
  | .call f as, X, W, S, O, pe, h => by
    simp only [okE] at h
    split at h
    · rename_i x p es pos
      simp only [Bool.and_eq_true, Bool.not_eq_true', decide_eq_true_eq, List.any_eq_true] at h
      obtain ⟨⟨⟨⟨⟨⟨h1, q, hq, e⟩, h3⟩, h4⟩, h5⟩, h6⟩, h7⟩ := h
      subst h1
      obtain ⟨qf, qn⟩ := q
      simp only at e
      subst e
      obtain ⟨g, fd, ps, k, m1, m2, m3, m4, m5, m6⟩ := O.calls _ hq
      cases es with
      | nil => exact absurd h6 (by simp)
      | cons b es =>
        simp only [wE]
        refine both ((s_call O.tk O.gd m4 m5 (O.gl h3) m1 m2 m3 (sA as O _ h7) (plain1 h4) h5).imp fun σ H Q ⟨ρ, h, R, Y, Sm, RE, w, lk, lx⟩ => ⟨ρ, h, R, Y, Sm, RE, ?_, lk, lx⟩) fun _ => rfl
        have e : (fun xs h1 => C.call qf xs h1 R Y : List D → Hh → Prop) = fun xs h1 => xs.length = qn ∧ C.call qf xs h1 R Y := by
          funext xs h1
          exact propext ⟨fun z => ⟨m6 _ _ _ _ z, z⟩, fun z => z.2⟩
        show wA C as ρ h (fun xs h1 => xs.length = qn ∧ C.call qf xs h1 R Y) Y
        rw [← e]
        exact w
    · exact absurd h Bool.false_ne_true
  | .bi f as, X, W, S, O, pe, h => by
    simp only [okE] at h
    split at h
    · rename_i x p es pos
      simp only [Bool.and_eq_true, Bool.not_eq_true', decide_eq_true_eq] at h
      obtain ⟨⟨⟨⟨⟨h1, h2⟩, h3⟩, h4⟩, h5⟩, h6⟩ := h
      subst h1
      cases es with
      | nil => exact absurd h5 (by simp)
      | cons b es =>
        simp only [wE]
        exact both (s_bi O h2 (O.gl h3) (sA as O _ h6) h4) fun _ => rfl
    · exact absurd h Bool.false_ne_true
  | .mt m a as, X, W, S, O, pe, h => by
    simp only [okE] at h
    split at h
    · rename_i o x ap es cp
      simp only [Bool.and_eq_true, decide_eq_true_eq] at h
      obtain ⟨⟨⟨⟨⟨⟨⟨h1, h2⟩, h3⟩, h4⟩, h5⟩, h6⟩, h7⟩, h8⟩ := h
      subst h1
      have h6 := eq_of_beq h6
      simp only [wE]
      cases es with
      | nil =>
        have q := s_mtZ O (m := m) (ap := ap) (cp := cp) (by rw [h6]; rfl) (sE a O _ h7).1 h2 h4
        cases as with
        | nil =>
          simp only [wA]
          exact both q fun _ => rfl
        | cons b r => simp only [okA] at h8; exact absurd h8 Bool.false_ne_true
      | cons b es =>
        exact both (s_mtA O (by rw [h6]; rfl) (sE a O _ h7).1 (sA as O _ h8) h2 h3 h4 h5) fun _ => rfl
    · exact absurd h Bool.false_ne_true
  | .isT a t, X, W, S, O, pe, h => by
    simp only [okE] at h
    split at h
    · rename_i x p y z p2 pos
      simp only [Bool.and_eq_true, decide_eq_true_eq] at h
      obtain ⟨⟨⟨⟨⟨h1, h2⟩, h3⟩, h4⟩, h5⟩, h6⟩ := h
      subst h1 h2
      simp only [wE]
      exact both (s_isT t (O.gl h3) (O.blt (by decide +kernel)) (O.gl h4) (O.blt (by cases t <;> decide +kernel)) (sE a O _ h6).1 (noStar_cons h5).1) fun _ => rfl
    · exact absurd h Bool.false_ne_true
  | .lc k as t own c e, X, W, S, O, pe, h => by
    simp only [okE] at h
    split at h
    · rename_i el tg iter ifs scope pos
      simp only [Bool.and_eq_true] at h
      obtain ⟨⟨⟨⟨⟨⟨h1, h2⟩, h3⟩, h4⟩, h5⟩, h6⟩, h7⟩ := h
      split at h5
      · rename_i es q
        have hi : PI X tg iter (tI X.K X.mg W fun ρ h R Y => wA C as ρ h (fun xs h1 => itW k xs h1 R) Y) := by
          refine s_it O q (sA as O _ h5) (fun hk a ea => ?_) (fun hk => ?_)
          · subst hk ea
            cases q
            simp only [okA, Bool.and_eq_true] at h5
            have h5' := h5.1.2
            exact (sE a O _ h5').1
          · subst hk
            cases q
            cases as with
            | nil => simp only [okA] at h5; exact absurd h5 Bool.false_ne_true
            | cons a r =>
              cases r with
              | nil => exact ⟨a, rfl⟩
              | cons b r => simp only [okA, Bool.and_eq_true] at h5; exact absurd h5.2 Bool.false_ne_true
        have ok : BlkOk X.N X.env.scope scope own := by
          rw [O.N, O.sc]; exact blkOk_by h2
        have hsl : ∀ i ∈ slots t, i ∈ own.map (·.2) := fun i hi => by
          have := List.all_eq_true.mp h3 i hi
          simpa using this
        have hg := fun s H a cl fp => okT_ok (O.blk scope s H a cl fp) h4
        have ht : ∀ (s : Shared) (H : Hp) (a : Addr) (cl : List (Str × Addr)) (fp : List Addr), PTs (X.blk s H scope (compEnvC scope cl a X.env) fp) ifs (tT X.K X.mg (fun _ _ _ _ => False) (bT (wE C c))) := fun s H a cl fp => by
          split at h6
          · split at h6
            · simp only [wE]
              exact ⟨fun pins s σ H Q I ⟨ρ, h, R, Y, Sm, RE, w, lk, lx⟩ => pts_nil.run pins s σ H Q I (lk true H h (TKeep.refl H) Sm w)⟩
            · exact absurd h6 Bool.false_ne_true
          · exact pts_one (sE c (O.blk scope s H a cl fp) _ h6).2
          · exact absurd h6 Bool.false_ne_true
        have he := fun s H a cl fp => (sE e (O.blk scope s H a cl fp) _ h7).1
        refine both ((pe_lc O.calm O.nd hi ok hg ht he (noSet_fold h1 _)).imp fun σ H Q hh => s_lc (W := W) (c := none) O.calm O.nd hi ok hsl hg ht he (noSet_fold h1 _) σ H Q ?_) fun _ => rfl
        simp only [wE] at hh
        exact hh
      · exact absurd h5 Bool.false_ne_true
    · exact absurd h Bool.false_ne_true
  | .fz e, X, W, S, O, pe, h => by
    simp only [okE, Bool.and_eq_true] at h
    simp only [wE]
    exact both (s_fz (sE e O _ h.2).1) (by
      have h1 := h.1
      cases pe <;> first
        | exact absurd h1 Bool.false_ne_true
        | exact fun _ => rfl)
  | .px k as, X, W, S, O, pe, h => by
    simp only [okE, Bool.and_eq_true] at h
    simp only [wE]
    obtain ⟨⟨h1, h3⟩, h2⟩ := h
    split at h2
    · rename_i es q
      refine both ?_ (by
        cases pe <;> first
          | exact absurd h1 Bool.false_ne_true
          | exact fun _ => rfl)
      cases k with
      | lrev => exact s_px O (.inl rfl) q (sA as O _ h2)
      | rpr => exact s_px O (.inr (.inl rfl)) q (sA as O _ h2)
      | srt => exact s_px O (.inr (.inr rfl)) q (sA as O _ h2)
      | dnew =>
        cases as with
        | nil => simp only [wA]; exact s_dnew O q
        | cons _ _ => exact absurd h3 Bool.false_ne_true
      | srtK =>
        obtain ⟨o, e0⟩ := px_srtK q
        subst e0
        cases as with
        | nil => exact absurd h2 Bool.false_ne_true
        | cons a r =>
          simp only [okA, Bool.and_eq_true] at h2
          cases r with
          | nil => simp only [wA]; exact s_srtK O q (sE a O _ h2.1.2).1
          | cons _ _ => exact absurd h2.2 Bool.false_ne_true
      | sumV =>
        obtain ⟨o, e0⟩ := px_sumV q
        subst e0
        cases as with
        | nil => exact absurd h2 Bool.false_ne_true
        | cons a r =>
          simp only [okA, Bool.and_eq_true] at h2
          cases r with
          | nil => simp only [wA]; exact s_sumV O q (sE a O _ h2.1.2).1
          | cons _ _ => exact absurd h2.2 Bool.false_ne_true
      | srtL =>
        obtain ⟨o, e0⟩ := px_srtL q
        subst e0
        cases as with
        | nil => exact absurd h2 Bool.false_ne_true
        | cons a r =>
          simp only [okA, Bool.and_eq_true] at h2
          cases r with
          | nil => simp only [wA]; exact s_srtL O q (sE a O _ h2.1.2).1
          | cons _ _ => exact absurd h2.2 Bool.false_ne_true
      | dcp =>
        obtain ⟨o, e0⟩ := px_dcp q
        subst e0
        cases as with
        | nil => exact absurd h2 Bool.false_ne_true
        | cons a r =>
          simp only [okA, Bool.and_eq_true] at h2
          cases r with
          | nil => simp only [wA]; exact s_dcp O q (sE a O _ h2.1.2).1
          | cons _ _ => exact absurd h2.2 Bool.false_ne_true
      | done =>
        simp only [pxArgs] at q
        split at q
        · rename_i ke ve pos
          cases q
          have main : ∀ {a c : E} {v : V} {dv : D} {fk : En → Option D} {tk : TE}, as = .cons a (.cons c .nil) → PE X ke tk → PE X ve (tC v) → (∀ H, Rep X.K H dv v) → (∀ ρ h Q Y, wE C c ρ h Q Y = Q dv h) → (∀ ρ h Q Y, wE C a ρ h Q Y = optW (fk ρ) fun d => Q d h) →
              (∀ σ H ρ d, RepE X.K H ρ σ → fk ρ = some d → ∃ x, Rep X.K H d x ∧ ∀ H1 (Q : VK), Q x H1 → tk σ H1 Q) → PE X (.Dict [some ke] [ve] pos) (tE X.K X.mg W fun ρ h Q Y => wA C as ρ h (fun xs h1 => pxW .done xs h1 Q) Y) := by
            intro a c v dv fk tk e hk hv rv wc wa ht
            subst e
            refine tE_eq (s_done O hk hv rv ht) ?_
            funext ρ h Q Y
            simp only [wA, wc, wa]
          have varK : ∀ {i : Nat}, okE T (.v i) S ke = true → PE X ke (tVar i) := by
            intro i hk
            simp only [okE] at hk
            split at hk
            · rename_i x p
              unfold nmB at hk
              simp only [Bool.and_eq_true, decide_eq_true_eq] at hk
              obtain ⟨⟨h1, h2⟩, h3⟩ := hk
              exact pe_var (by rw [O.N]; exact h1) (O.vis h2) (plain1 h3) (plain2 h3)
            · exact absurd hk Bool.false_ne_true
          have htv : ∀ {i : Nat} σ H ρ d, RepE X.K H ρ σ → getE ρ i = some d → ∃ x, Rep X.K H d x ∧ ∀ H1 (Q : VK), Q x H1 → tVar i σ H1 Q := fun σ H ρ d RE e => by
            obtain ⟨v, h1, h2⟩ := RE.2 _ d e
            exact ⟨v, h2, fun H1 Q q => ⟨v, h1, q⟩⟩
          have cN : okE T .kN S ve = true → PE X ve (tC .non) := fun h => by
            simp only [okE] at h
            split at h
            · exact pe_non
            · exact absurd h Bool.false_ne_true
          have cB : ∀ {b}, okE T (.kB b) S ve = true → PE X ve (tC (.bl b)) := fun h => by
            simp only [okE] at h
            split at h
            · have e := eq_of_beq h; subst e; exact pe_bl
            · exact absurd h Bool.false_ne_true
          have cI : ∀ {b ve}, okE T (.kI b) S ve = true → PE X ve (tC (.int b)) := fun h => by
            simp only [okE] at h
            split at h
            · have e := of_decide_eq_true h; subst e; exact pe_int
            · exact absurd h Bool.false_ne_true
          have two : ∀ {a c : E}, as = .cons a (.cons c .nil) → okE T a S ke = true ∧ okE T c S ve = true := fun e => by
            subst e
            simp only [okA, Bool.and_eq_true] at h2
            exact ⟨h2.1.2, h2.2.1.2⟩
          rcases pxAs_done h3 with ⟨i, e⟩ | ⟨i, b, e⟩ | ⟨i, b, e⟩ | ⟨i, b, e⟩ <;> obtain ⟨o1, o2⟩ := two e
          · exact main (fk := fun ρ => getE ρ i) e (varK o1) (cN o2) (fun _ => rep_non.2 rfl) (fun _ _ _ _ => by simp only [wE]) (fun _ _ _ _ => by simp only [wE]) htv
          · exact main (fk := fun ρ => getE ρ i) e (varK o1) (cB o2) (fun _ => rep_bl.2 rfl) (fun _ _ _ _ => by simp only [wE]) (fun _ _ _ _ => by simp only [wE]) htv
          · exact main (fk := fun ρ => getE ρ i) e (varK o1) (cI o2) (fun _ => rep_int.2 rfl) (fun _ _ _ _ => by simp only [wE]) (fun _ _ _ _ => by simp only [wE]) htv
          · exact main (fk := fun _ => some (.int i)) e (cI o1) (cB o2) (fun _ => rep_bl.2 rfl) (fun _ _ _ _ => by simp only [wE]) (fun _ _ _ _ => by simp only [wE, optW_some]) fun σ H ρ d _ e => by
              cases e; exact ⟨.int i, rep_int.2 rfl, fun _ _ q => q⟩
        · cases q
    · exact absurd h2 Bool.false_ne_true
theorem sA : ∀ (as : Es) {X : Cx} {W : WX} {S : Sc} (O : Ok C T X W S) (es : List Expr), okA T as S es = true → PA X es (tA X.K X.mg W (wA C as))
  | .nil, X, W, S, O, es, h => by
    simp only [okA] at h
    have e : es = [] := by simpa using h
    subst e
    simp only [wA]; exact s_nil
  | .cons a r, X, W, S, O, es, h => by
    simp only [okA] at h
    split at h
    · simp only [Bool.and_eq_true] at h
      obtain ⟨⟨h1, h2⟩, h3⟩ := h
      simp only [wA]; exact s_cons (sE a O _ h2).1 (sA r O _ h3) (noStar_each (noStar_cons h1).1 _)
    · exact absurd h Bool.false_ne_true
theorem sAn : ∀ (as : Es) {X : Cx} {W : WX} {S : Sc} (O : Ok C T X W S) (es : List Expr), okA T as S es = true → es.isEmpty = false →
    (∀ pos, PW X (.BoolOp .And es pos) (tT X.K X.mg W (wAn C as))) ∧ ∀ pos, PE X (.BoolOp .And es pos) (tE X.K X.mg W (vT (wAn C as)))
  | .nil, X, W, S, O, es, h, ne => by
    simp only [okA] at h
    rw [h] at ne; cases ne
  | .cons a r, X, W, S, O, es, h, ne => by
    simp only [okA] at h
    split at h
    · rename_i x es
      simp only [Bool.and_eq_true] at h
      obtain ⟨⟨h1, h2⟩, h3⟩ := h
      rw [an_eq]
      obtain ⟨i1, i2⟩ := sE a O _ h2
      cases es with
      | nil =>
        cases r with
        | nil =>
          simp only [wAn]
          exact ⟨fun _ => an1T i2, fun _ => an1E i1⟩
        | cons b r => simp only [okA] at h3; exact absurd h3 Bool.false_ne_true
      | cons y es =>
        obtain ⟨j1, j2⟩ := sAn r O _ h3 rfl
        exact ⟨fun _ => anT i2 (j1 _), fun _ => anE i1 (j2 _)⟩
    · exact absurd h Bool.false_ne_true
theorem sOr : ∀ (as : Es) {X : Cx} {W : WX} {S : Sc} (O : Ok C T X W S) (es : List Expr), okA T as S es = true → es.isEmpty = false →
    (∀ pos, PW X (.BoolOp .Or es pos) (tT X.K X.mg W (wOr C as))) ∧ ∀ pos, PE X (.BoolOp .Or es pos) (tE X.K X.mg W (vT (wOr C as)))
  | .nil, X, W, S, O, es, h, ne => by
    simp only [okA] at h
    rw [h] at ne; cases ne
  | .cons a r, X, W, S, O, es, h, ne => by
    simp only [okA] at h
    split at h
    · rename_i x es
      simp only [Bool.and_eq_true] at h
      obtain ⟨⟨h1, h2⟩, h3⟩ := h
      rw [or_eq]
      obtain ⟨i1, i2⟩ := sE a O _ h2
      cases es with
      | nil =>
        cases r with
        | nil =>
          simp only [wOr]
          exact ⟨fun _ => or1T i2, fun _ => or1E i1⟩
        | cons b r => simp only [okA] at h3; exact absurd h3 Bool.false_ne_true
      | cons y es =>
        obtain ⟨j1, j2⟩ := sOr r O _ h3 rfl
        exact ⟨fun _ => orT i2 (j1 _), fun _ => orE i1 (j2 _)⟩
    · exact absurd h Bool.false_ne_true
end
end
end Lt

set_option maxHeartbeats 8000000
namespace Lt
open PySem PySem.Spec PyProof.Rows L2
variable [Wd]
def notComp : Expr → Bool
  | .ListComp .. => false
  | .SetComp .. => false
  | .DictComp .. => false
  | _ => true
theorem notComp_sw {e : Expr} (h : notComp e = true) (t : Option Expr) (l : Nat) (env : Env) : swapsWith e t l env = pure false := by
  cases e <;> first
    | rfl
    | exact absurd h Bool.false_ne_true
def lclB (S : Sc) (x : Str) : Bool := match S.sc.names.lookup x with
  | some .local => true
  | _ => false
theorem _root_.L2.PS.imp {X : Cx} {e : Stmt} {t t' : TS} (h : PS X e t) (k : ∀ D σ H, t' D σ H → t D σ H) : PS X e t' := ⟨fun pins s σ H D I q => h.run pins s σ H D I (k _ _ _ q)⟩
theorem _root_.L2.PSs.imp {X : Cx} {e : List Stmt} {t t' : TS} (h : PSs X e t) (k : ∀ D σ H, t' D σ H → t D σ H) : PSs X e t' := ⟨fun pins s σ H D I q => h.run pins s σ H D I (k _ _ _ q)⟩
/-- a class by its name: an own one or a built-in one -/
inductive ClsAt (mg : Str → Option Value) (c : Str) : V → Value → Prop where
  | own {C : Addr} (h : mg c = some (.ref C)) : ClsAt mg c (.ref C) (.ref C)
  | blt {n : String} (h : mg c = none) (b : bootBuiltins c = some (.type n)) (nn : c ≠ "__name__") : ClsAt mg c (.ty n) (.type n)
theorem ClsAt.v {mg : Str → Option Value} {c : Str} {v : V} {u : Value} (k : ClsAt mg c v u) : ClsV v u := by
  cases k with
  | own h => exact .own _
  | blt h b n => exact .ty _
/-- what is known of the classes of errors -/
structure ExFacts (K : PySem.W.Frag) (mg : Str → Option Value) (E : Ex) (cls : List Str) : Prop where
  at' : ∀ c ∈ cls, ∃ v u, ClsAt mg c v u
  rs : ∀ x ∈ E.excs, ∃ D, mg x = some (.ref D) ∧ ExcC K D ∧ ∀ c ∈ cls, ∀ v u, ClsAt mg c v u → PySem.W.kitOne K (.ref D) u = some (E.sub x c) ∧ PySem.W.exmOne K (.ref D) u = some (E.sub x c)
mutual
def okH (S : Sc) (en : Str) (cls : List Str) : HE → Expr → Bool
  | .kB b => fun e => match e with
    | .Constant (.bool c) _ _ => b == c
    | _ => false
  | .isE c => fun e => match e with
    | .Call (.Name x _) [.Name y _, .Name z _] [] _ => decide (x = "isinstance") && decide (y = en) && decide (z = c) && glB S x && visB S en && plainB en && glB S z && plainB z && cls.contains c
    | _ => false
  | .isT cs => fun e => match e with
    | .Call (.Name x _) [.Name y _, .Tuple es _ _] [] _ => decide (x = "isinstance") && decide (y = en) && glB S x && visB S en && plainB en && (cs.length == es.length) && (cs.zip es).all (fun p => match p.2 with
        | .Name z _ => decide (z = p.1) && glB S z && plainB z && cls.contains p.1
        | _ => false)
    | _ => false
  | .not a => fun e => match e with
    | .UnaryOp .Not x _ => okH S en cls a x
    | _ => false
  | .and as => fun e => match e with
    | .BoolOp .And es _ => !es.isEmpty && okHs S en cls as es
    | _ => false
  | .v i => fun e => match e with
    | .Name x _ => nmB S i x
    | _ => false
  | .tp as => fun e => match e with
    | .Tuple es _ _ => noStar es && okHs S en cls as es
    | _ => false
  | .ls as => fun e => match e with
    | .List es _ => noStar es && okHs S en cls as es
    | _ => false
def okHs (S : Sc) (en : Str) (cls : List Str) : HEs → List Expr → Bool
  | .nil => fun es => es.isEmpty
  | .cons a r => fun es => match es with
    | x :: es => noStar [x] && okH S en cls a x && okHs S en cls r es
    | [] => false
end
def okHS (S : Sc) (en : Str) (cls : List Str) : List HS → List Stmt → Bool
  | [], ss => ss.isEmpty
  | .set j e :: r, ss => match ss with
    | .Assign [.Name x _] pe _ :: ss => decide (S.N[j]? = some x) && lclB S x && decide (x ≠ en) && notComp pe && okH S en cls e pe && okHS S en cls r ss
    | _ => false
  | .app j e :: r, ss => match ss with
    | .Expr (.Call (.Attribute (.Name x _) m ap) [pe] [] cp) _ :: ss => nmB S j x && decide (m = "append") && (ap.endLine == cp.line) && decide (x ≠ en) && noStar [pe] && okH S en cls e pe && okHS S en cls r ss
    | _ => false

section
variable {X : Cx} {a : Addr} {oe : Obj} {pn : List (Addr × Obj)} {i : Nat} {cD : Addr} {E : Ex} {cls : List Str} {S : Sc} {en x : Str}
/-- the reading of what an except suite reckons: slot i holds the error -/
def tH (K : PySem.W.Frag) (i : Nat) (a : Addr) (f : En → Hh → QD → Prop) : TE := fun σ H Q => σ[i]? = some (some (.ref a)) ∧ ∃ ρ h R, Sim K H h ∧ RepE K H ρ σ ∧ f ρ h R ∧ LkV K H R Q
def tHA (K : PySem.W.Frag) (i : Nat) (a : Addr) (f : En → Hh → (List D → Hh → Prop) → Prop) : TA := fun σ H Q => σ[i]? = some (some (.ref a)) ∧ ∃ ρ h R, Sim K H h ∧ RepE K H ρ σ ∧ f ρ h R ∧
  ∀ vs H' ds h', TKeep H H' → Sim K H' h' → Reps K H' ds vs → R ds h' → Q vs H'
/-- what the suite's context knows -/
structure OkH (X : Cx) (S : Sc) (i : Nat) (en : Str) (E : Ex) (cls : List Str) (x : Str) (cD : Addr) (oe : Obj) : Prop where
  N : X.N = S.N
  nd : X.N.Nodup
  sc : X.env.scope = S.sc
  hi : X.N[i]? = some en
  hz : Zc (.ref cD) none oe
  hf : ∃ vs, oe.data = .fields vs
  ec : ExcC X.K cD
  isi : X.mg "isinstance" = none
  at' : ∀ c ∈ cls, ∃ v u, ClsAt X.mg c v u
  ki : ∀ c ∈ cls, ∀ v u, ClsAt X.mg c v u → PySem.W.kitOne X.K (.ref cD) u = some (E.sub x c)
theorem kitAny_of {K : PySem.W.Frag} {t : Value} {f : Str → Bool} : ∀ {cs : List Str} {us : List Value}, Paired (fun c u => PySem.W.kitOne K t u = some (f c)) cs us → PySem.W.kitAny K t us = some (cs.any f)
  | [], _, .nil => rfl
  | c :: cs, u :: us, .cons h r => by
    refine kitAny_cons h (fun e => ?_) (fun e => ?_)
    · rw [List.any_cons, e, Bool.false_or]; exact kitAny_of r
    · rw [List.any_cons, e, Bool.true_or]
theorem Ok.glS (sc : X.env.scope = S.sc) {x : Str} (h : glB S x = true) : Gl X x := by
  show X.env.scope.names.lookup x = _
  rw [sc]
  unfold glB at h
  split at h
  · assumption
  · exact absurd h Bool.false_ne_true
theorem visS (sc : X.env.scope = S.sc) {x : Str} (h : visB S x = true) : Vis X.env.scope x := by
  unfold Vis
  rw [sc]
  unfold visB at h
  split at h
  · exact .inl (by assumption)
  · exact .inr (.inl (by assumption))
  · exact .inr (.inr (by assumption))
  · exact absurd h Bool.false_ne_true
theorem pe_cls {X : Cx} {c : Str} {v : V} {u : Value} {p : Pos} (k : ClsAt X.mg c v u) (hg : Gl X c) (hp : plainB c = true) : PE X (.Name c p) (tC v) := by
  cases k with
  | own h => exact pe_glob hg h rfl (plain1 hp)
  | blt h b nn => exact pe_bltn hg h b rfl nn (plain1 hp)
/-- isinstance(e, (c1, c2, ..)) of the error that the suite holds -/
def rIsET (K : PySem.W.Frag) (D a : Addr) : List V → Hp → VK → Prop := fun xs H Q => ∃ (tp : Addr) (cs : List V) (us : List Value) (b : Bool), xs = [.ref a, .ref tp] ∧ H tp = some (.tup cs) ∧ Paired ClsV cs us ∧ PySem.W.kitAny K (.ref D) us = some b ∧ Q (.bl b) H
theorem call_isET {X : Cx} {a D : Addr} {oe : Obj} {pn : List (Addr × Obj)} (C : ExcC X.K D) (hz : Zc (.ref D) none oe) (hf : ∃ vs, oe.data = .fields vs) : CallR (X.suite a ((a, oe) :: pn)) (.builtin "isinstance") (rIsET X.K D a) := by
  intro pins s σ H xs us Q I r h
  obtain ⟨tp, cs, ws, b, rfl, hT, k, e, q⟩ := h
  obtain ⟨u1, u2, rfl, r1, r2⟩ := vals2 r
  cases (show u2 = Value.ref tp from r2)
  cases (show u1 = Value.ref a from r1)
  obtain ⟨_, its, rv, o, h1, h2, n, h3⟩ := (show ObjOk X.prog X.w H s.heap tp (.tup cs) from I.hok tp _ hT)
  have e3 := ClsV.all k rv
  subst e3
  obtain ⟨hget, _⟩ := I.pin (a, oe) (List.mem_append.mpr (.inl List.mem_cons_self))
  obtain ⟨vs, hv⟩ := hf
  have J : PySem.W.InstAt s.heap a oe D none := by
    obtain ⟨oc, od, oda, osl⟩ := oe
    obtain ⟨z1, z2⟩ := hz
    dsimp only at z1 z2 hv
    subst z1 z2 hv
    exact ⟨hget, rfl, rfl, trivial⟩
  obtain ⟨oc, od, dt, sl⟩ := o
  simp only at h2 h3
  subst h2 h3
  exact PySem.W.kia_tup (PySem.W.handS_kitx_exc C.hg C.hk C.hs C.hd C.ha C.hn C.ht C.hm) I.kIn J h1 e (fun z => nomatch z) fun tk => ⟨.bl b, H, I.kept (t' := tk) fun _ _ z => z, rfl, q⟩
theorem pa_clss {X : Cx} {cls : List Str} (sc : X.env.scope = S.sc) (at' : ∀ c ∈ cls, ∃ v u, ClsAt X.mg c v u) : ∀ {cs : List Str} {es : List Expr}, cs.length = es.length → ((cs.zip es).all (fun p => match p.2 with
        | .Name z _ => decide (z = p.1) && glB S z && plainB z && cls.contains p.1
        | _ => false)) = true → ∃ vs us, Paired (fun c (p : V × Value) => ClsAt X.mg c p.1 p.2 ∧ c ∈ cls) cs (vs.zip us) ∧ vs.length = us.length ∧ PA X es (fun σ H Q => Q vs H)
  | [], [], _, _ => ⟨[], [], .nil, rfl, pa_nil⟩
  | [], _ :: _, l, _ => nomatch l
  | _ :: _, [], l, _ => nomatch l
  | c :: cs, e :: es, l, h => by
    rw [List.zip_cons_cons, List.all_cons, Bool.and_eq_true] at h
    obtain ⟨h1, h2⟩ := h
    split at h1
    · rename_i z p q
      simp only at q
      subst q
      simp only [Bool.and_eq_true, decide_eq_true_eq] at h1
      obtain ⟨⟨⟨q1, q2⟩, q3⟩, q4⟩ := h1
      subst q1
      have q4 : z ∈ cls := by simpa using q4
      obtain ⟨v, u, k⟩ := at' z q4
      obtain ⟨vs, us, r, rl, pa⟩ := pa_clss sc at' (cs := cs) (es := es) (by simpa using l) h2
      refine ⟨v :: vs, u :: us, .cons ⟨k, q4⟩ r, by simp [rl], ?_⟩
      exact (pa_cons (pe_cls k (Ok.glS sc q2) q3) pa rfl).imp fun σ H Q q => q
    · exact absurd h1 Bool.false_ne_true
theorem cv_of (O : OkH X S i en E cls x cD oe) : ∀ {cs : List Str} {vs : List V} {us : List Value}, Paired (fun c (p : V × Value) => ClsAt X.mg c p.1 p.2 ∧ c ∈ cls) cs (vs.zip us) → vs.length = us.length →
    Paired ClsV vs us ∧ Paired (fun c u => PySem.W.kitOne X.K (.ref cD) u = some (E.sub x c)) cs us ∧ cs.length = vs.length
  | [], [], [], _, _ => ⟨.nil, .nil, rfl⟩
  | [], _ :: _, _ :: _, r, _ => nomatch r
  | _ :: _, [], [], r, _ => nomatch r
  | _, [], _ :: _, _, l => nomatch l
  | _, _ :: _, [], _, l => nomatch l
  | c :: cs, v :: vs, u :: us, r, l => by
    cases r with
    | cons q r =>
      obtain ⟨i1, i2, i3⟩ := cv_of O r (by simpa using l)
      exact ⟨.cons q.1.v i1, .cons (O.ki _ q.2 _ _ q.1) i2, by simp [i3]⟩
mutual
theorem sH (O : OkH X S i en E cls x cD oe) : ∀ (e : HE) (pe : Expr), okH S en cls e pe = true → PE (X.suite a ((a, oe) :: pn)) pe (tH X.K i a (hE (E.sub x) e))
  | .kB b, pe, h => by
    simp only [okH] at h
    split at h
    · have e := eq_of_beq h; subst e
      simp only [hE]
      exact pe_bl.imp fun σ H Q ⟨_, ρ, h, R, Sm, RE, w, lk⟩ => lk.same Sm (rep_bl.2 rfl) w
    · exact absurd h Bool.false_ne_true
  | .isE c, pe, h => by
    simp only [okH] at h
    split at h
    · rename_i x' p y p2 z p3 pos
      simp only [Bool.and_eq_true, decide_eq_true_eq] at h
      obtain ⟨⟨⟨⟨⟨⟨⟨⟨h1, h2⟩, h3⟩, h4⟩, h5⟩, h6⟩, h7⟩, h8⟩, h9⟩ := h
      subst h1 h2 h3
      have hc : z ∈ cls := by simpa using h9
      obtain ⟨v, u, k⟩ := O.at' z hc
      have kk := O.ki z hc v u k
      simp only [hE]
      have pv : PE (X.suite a ((a, oe) :: pn)) (.Name y p2) (tVar i) := pe_var O.hi (visS O.sc h5) (plain1 h6) (plain2 h6)
      have pc : PE (X.suite a ((a, oe) :: pn)) (.Name z p3) (tC v) := pe_cls k (Ok.glS O.sc h7) h8
      refine (pe_callB (call_isE O.ec O.hz O.hf) (Ok.glS O.sc h4) O.isi (by decide +kernel) (pa_cons pv (pa_cons pc pa_nil rfl) rfl) (by decide) (by decide) rfl rfl).imp fun σ H Q ⟨hs, ρ, h, R, Sm, RE, w, lk⟩ => ?_
      exact ⟨.ref a, hs, v, u, _, rfl, fun _ r => k.v.eq r, kk, lk.same Sm (rep_bl.2 rfl) w⟩
    · exact absurd h Bool.false_ne_true
  | .isT cs, pe, h => by
    simp only [okH] at h
    split at h
    · rename_i x' p y p2 es p3 p4 pos
      simp only [Bool.and_eq_true, decide_eq_true_eq] at h
      obtain ⟨⟨⟨⟨⟨⟨h1, h2⟩, h4⟩, h5⟩, h6⟩, h7⟩, h8⟩ := h
      subst h1 h2
      have h7 := eq_of_beq h7
      obtain ⟨vs, us, r, rl, pa⟩ := pa_clss (X := X.suite a ((a, oe) :: pn)) (cls := cls) O.sc O.at' h7 h8
      simp only [hE]
      have pv : PE (X.suite a ((a, oe) :: pn)) (.Name y p2) (tVar i) := pe_var O.hi (visS O.sc h5) (plain1 h6) (plain2 h6)
      have cv := cv_of O r rl
      refine (pe_callB (call_isET O.ec O.hz O.hf) (Ok.glS O.sc h4) O.isi (by decide +kernel) (pa_cons pv (pa_cons (pe_tup pa) pa_nil rfl) rfl) (by decide) (by decide) rfl rfl).imp fun σ H Q ⟨hs, ρ, h, R, Sm, RE, w, lk⟩ => ?_
      refine ⟨.ref a, hs, by rw [← cv.2.2]; exact w.1, fun tp htp => ⟨tp, vs, us, _, rfl, upd_same, cv.1, kitAny_of cv.2.1, ?_⟩⟩
      exact lk _ _ _ _ (TKeep.new htp) (Sm.tup htp) (rep_bl.2 rfl) w.2
    · exact absurd h Bool.false_ne_true
  | .not e, pe, h => by
    simp only [okH] at h
    split at h
    · simp only [hE]
      exact (pe_not (sH O e _ h)).imp fun σ H Q ⟨hs, ρ, h, R, Sm, RE, w, lk⟩ => ⟨hs, ρ, h, _, Sm, RE, w, fun v H1 d h1 k1 S1 q1 w1 => by
        have hz := blW_iff.1 w1; clear w1; obtain ⟨b, rfl, q3⟩ := hz
        rw [rep_bl] at q1
        exact ⟨b, q1, (lk.keep k1).same S1 (rep_bl.2 rfl) q3⟩⟩
    · exact absurd h Bool.false_ne_true
  | .and as, pe, h => by
    simp only [okH] at h
    split at h
    · simp only [Bool.and_eq_true, Bool.not_eq_true'] at h
      simp only [hE]
      exact sHN O as _ h.2 h.1 _
    · exact absurd h Bool.false_ne_true
  | .v j, pe, h => by
    simp only [okH] at h
    split at h
    · rename_i y p
      unfold nmB at h
      simp only [Bool.and_eq_true, decide_eq_true_eq] at h
      obtain ⟨⟨h1, h2⟩, h3⟩ := h
      simp only [hE]
      have pv : PE (X.suite a ((a, oe) :: pn)) (.Name y p) (tVar j) := pe_var (by show X.N[j]? = _; rw [O.N]; exact h1) (visS O.sc h2) (plain1 h3) (plain2 h3)
      exact pv.imp fun σ H Q ⟨hs, ρ, h, R, Sm, RE, w, lk⟩ => by
        have hz := optW_iff.1 w; clear w; obtain ⟨d, e, w⟩ := hz
        obtain ⟨v, e1, e2⟩ := RE.2 j d e
        exact ⟨v, e1, lk.same Sm e2 w⟩
    · exact absurd h Bool.false_ne_true
  | .tp as, pe, h => by
    simp only [okH] at h
    split at h
    · simp only [Bool.and_eq_true] at h
      simp only [hE]
      exact (pe_tup (sHA O as _ h.2)).imp fun σ H Q ⟨hs, ρ, h, R, Sm, RE, w, lk⟩ => ⟨hs, ρ, h, _, Sm, RE, w, fun vs H1 ds h1 k1 S1 q1 w1 => ⟨by rw [← q1.length]; exact w1.1, (lk.keep k1).tup S1 q1 w1.2⟩⟩
    · exact absurd h Bool.false_ne_true
  | .ls as, pe, h => by
    simp only [okH] at h
    split at h
    · simp only [Bool.and_eq_true] at h
      simp only [hE]
      exact (pe_lst (sHA O as _ h.2)).imp fun σ H Q ⟨hs, ρ, h, R, Sm, RE, w, lk⟩ => ⟨hs, ρ, h, _, Sm, RE, w, fun vs H1 ds h1 k1 S1 q1 w1 => ⟨by rw [← q1.length]; exact w1.1, (lk.keep k1).new S1 q1 w1.2⟩⟩
    · exact absurd h Bool.false_ne_true
theorem sHA (O : OkH X S i en E cls x cD oe) : ∀ (as : HEs) (es : List Expr), okHs S en cls as es = true → PA (X.suite a ((a, oe) :: pn)) es (tHA X.K i a (hA (E.sub x) as))
  | .nil, es, h => by
    simp only [okHs] at h
    have e : es = [] := by simpa using h
    subst e
    simp only [hA]
    exact pa_nil.imp fun σ H Q ⟨hs, ρ, h, R, Sm, RE, w, lk⟩ => lk [] H [] h (TKeep.refl H) Sm .nil w
  | .cons e r, es, h => by
    simp only [okHs] at h
    split at h
    · simp only [Bool.and_eq_true] at h
      obtain ⟨⟨h1, h2⟩, h3⟩ := h
      simp only [hA]
      exact (pa_cons (sH O e _ h2) (sHA O r _ h3) (noStar_each (noStar_cons h1).1 _)).imp fun σ H Q ⟨hs, ρ, h, R, Sm, RE, w, lk⟩ => ⟨hs, ρ, h, _, Sm, RE, w, fun v H1 d h1 k1 S1 q1 w1 => ⟨hs, ρ, h1, _, S1, RE.keep k1, w1, fun vs H2 ds h2 k2 S2 q2 w2 =>
        lk _ _ _ _ (k1.trans k2) S2 (.cons (q1.keep k2) q2) w2⟩⟩
    · exact absurd h Bool.false_ne_true
theorem sHN (O : OkH X S i en E cls x cD oe) : ∀ (as : HEs) (es : List Expr), okHs S en cls as es = true → es.isEmpty = false → ∀ pos, PE (X.suite a ((a, oe) :: pn)) (.BoolOp .And es pos) (tH X.K i a fun ρ h Q => hN (E.sub x) as ρ h fun b h1 => Q (.bl b) h1)
  | .nil, es, h, ne => by
    simp only [okHs] at h
    rw [h] at ne; cases ne
  | .cons e r, es, h, ne => by
    simp only [okHs] at h
    split at h
    · rename_i y es
      simp only [Bool.and_eq_true] at h
      obtain ⟨⟨h1, h2⟩, h3⟩ := h
      intro pos
      have i1 := sH O e _ h2
      cases es with
      | nil =>
        cases r with
        | nil =>
          simp only [hN]
          exact (pe_one i1).imp fun σ H Q ⟨hs, ρ, h, R, Sm, RE, w, lk⟩ => ⟨hs, ρ, h, _, Sm, RE, w, fun v H1 d h1 k1 S1 q1 w1 => by
            have hz := blW_iff.1 w1; clear w1; obtain ⟨b, rfl, w1⟩ := hz
            have w2 : R (.bl b) h1 := by cases b <;> exact w1
            exact lk _ _ _ _ k1 S1 q1 w2⟩
        | cons b r => simp only [okHs] at h3; exact absurd h3 Bool.false_ne_true
      | cons z es =>
        have j2 := sHN O r _ h3 rfl pos
        simp only [hN]
        exact (pe_and i1 j2).imp fun σ H Q ⟨hs, ρ, h, R, Sm, RE, w, lk⟩ => ⟨hs, ρ, h, _, Sm, RE, w, fun v H1 d h1 k1 S1 q1 w1 => by
          have hz := blW_iff.1 w1; clear w1; obtain ⟨b, rfl, w1⟩ := hz
          rw [rep_bl] at q1
          refine ⟨b, q1, ?_⟩
          cases b with
          | true => replace w1 := ifT w1; refine iteT ?_; exact ⟨hs, ρ, h1, _, S1, RE.keep k1, w1, lk.keep k1⟩
          | false => replace w1 := ifF w1; refine iteF ?_; exact (lk.keep k1).same S1 (rep_bl.2 rfl) w1⟩
    · exact absurd h Bool.false_ne_true
end
/-- the suite: slot i holds the error all along -/
def tHS (K : PySem.W.Frag) (i : Nat) (a : Addr) (f : En → Hh → (En → Hh → Prop) → Prop) : TS := fun Dn σ H => σ[i]? = some (some (.ref a)) ∧ ∃ ρ h R, Sim K H h ∧ RepE K H ρ σ ∧ f ρ h R ∧ ∀ σ' H' ρ' h', TKeep H H' → Sim K H' h' → RepE K H' ρ' σ' → R ρ' h' → Dn.nx σ' H'
theorem sHS (O : OkH X S i en E cls x cD oe) : ∀ (hs : List HS) (ss : List Stmt), okHS S en cls hs ss = true → PSs (X.suite a ((a, oe) :: pn)) ss (tHS X.K i a (hS (E.sub x) hs))
  | [], ss, h => by
    have e : ss = [] := by simpa [okHS] using h
    subst e
    exact pss_nil.imp fun Dn σ H ⟨_, ρ, h, R, Sm, RE, w, lk⟩ => lk _ _ _ _ (TKeep.refl H) Sm RE w
  | .set j e :: r, ss, h => by
    simp only [okHS] at h
    split at h
    · rename_i y p pe pos ss
      simp only [Bool.and_eq_true, decide_eq_true_eq] at h
      obtain ⟨⟨⟨⟨⟨h1, h2⟩, h3⟩, h4⟩, h5⟩, h6⟩ := h
      have hj : (X.suite a ((a, oe) :: pn)).N[j]? = some y := by show X.N[j]? = _; rw [O.N]; exact h1
      have hl : X.env.scope.names.lookup y = some .local := by
        rw [O.sc]
        unfold lclB at h2
        split at h2
        · assumption
        · exact absurd h2 Bool.false_ne_true
      have nji : j ≠ i := fun z => by
        subst z
        have := hj.symm.trans O.hi
        cases this; exact h3 rfl
      refine (pss_cons (ps_set (X := X.suite a ((a, oe) :: pn)) O.nd hj (.inl hl) (sH O e _ h5) (notComp_sw h4 _ _ _) (.inr hl)) (sHS O r _ h6)).imp fun Dn σ H ⟨hs, ρ, h, R, Sm, RE, w, lk⟩ => ?_
      exact ⟨hs, ρ, h, _, Sm, RE, w, fun v H1 d h1 k1 S1 q1 w1 => ⟨by rw [List.getElem?_set_ne nji]; exact hs, _, h1, _, S1, (RE.keep k1).set q1, w1, fun σ' H' ρ' h' k2 => lk σ' H' ρ' h' (k1.trans k2)⟩⟩
    · exact absurd h Bool.false_ne_true
  | .app j e :: r, ss, h => by
    simp only [okHS] at h
    split at h
    · rename_i y p m ap pe cp pos ss
      simp only [Bool.and_eq_true, decide_eq_true_eq] at h
      obtain ⟨⟨⟨⟨⟨⟨h1, h2⟩, h3⟩, h4⟩, h5⟩, h6⟩, h7⟩ := h
      subst h2
      unfold nmB at h1
      simp only [Bool.and_eq_true, decide_eq_true_eq] at h1
      obtain ⟨⟨a1, a2⟩, a3⟩ := h1
      have pv : PE (X.suite a ((a, oe) :: pn)) (.Name y p) (tVar j) := pe_var (by show X.N[j]? = _; rw [O.N]; exact a1) (visS O.sc a2) (plain1 a3) (plain2 a3)
      have pb := pe_bm (X := X.suite a ((a, oe) :: pn)) (cpos := cp) (apos := ap) PySem.F.plainAttrs_list PySem.F.slot_list_append PySem.F.type_list_append mt_appendR pv (pa_cons (sH O e _ h6) pa_nil (noStar_each (noStar_cons h5).1 _)) (noCall0_base rfl _ _ _) (by
        rw [noStar_all _ _ h5]; rfl) h3 (noStar_each (noStar_cons h5).1 _) (noStar_any _ _ (noStar_cons h5).2)
      refine (pss_cons (ps_expr pb rfl) (sHS O r _ h7)).imp fun Dn σ H ⟨hs, ρ, h, R, Sm, RE, w, lk⟩ => ?_
      obtain ⟨d, e1, w1, w2⟩ := optW_iff.1 (show optW (getE ρ j) fun x' => mtT .append x' h ∧ hE (E.sub x) e ρ h fun d h1 => mtW .append x' [d] h1 fun _ h2 => hS (E.sub x) r ρ h2 R from w)
      obtain ⟨v, e2, rv⟩ := RE.2 j d e1
      refine ⟨v, e2, tyv_list .append (fun z => nomatch z) d v H h Sm rv w1, hs, ρ, h, _, Sm, RE, w2, fun v2 H2 d2 h2 k2 S2 q2 w3 => ⟨d, [d2], h2, _, S2, rv.keep k2, .cons q2 .nil, w3, fun v3 H3 d3 h3 k3 S3 q3 w4 => ⟨hs, ρ, h3, R, S3, RE.keep (k2.trans k3), w4, fun σ' H' ρ' h' k4 => lk σ' H' ρ' h' (k2.trans (k3.trans k4))⟩⟩⟩
    · exact absurd h Bool.false_ne_true
end
end Lt

set_option maxHeartbeats 8000000
namespace Lt
open PySem PySem.Spec PyProof.Rows L2
variable [Wd]

/-- a comprehension stored at a local name of the same line -/
def swB (S : Sc) (x : Str) (py : Pos) : Expr → Bool
  | .ListComp _ _ scope pos => lclB S x && (py.line == pos.line) && !(scope.names.any fun (n, k) => n == x && (k == .local || k == .cell))
  | _ => false
def cellB (S : Sc) (x : Str) : Bool := match S.sc.names.lookup x with
  | some .cell => true
  | _ => false
mutual
def okS (T : Tab) : S → Sc → Stmt → Bool
  | .pass => fun _ s => match s with
    | .Pass _ => true
    | _ => false
  | .ex e => fun S s => match s with
    | .Expr pe _ => notComp pe && okE T e S pe
    | _ => false
  | .as i e => fun S s => match s with
    | .Assign [.Name x py] pe _ => decide (S.N[i]? = some x) && locB S x && okE T e S pe && (notComp pe || cellB S x || (swB S x py pe && (match e with | .lc .. => true | _ => false)))
    | _ => false
  | .asT is e => fun S s => match s with
    | .Assign [tg] pe _ => isTup tg && !isTup pe && notComp pe && okT S (.tp is) tg && okE T e S pe
    | _ => false
  | .par i j a b => fun S s => match s with
    | .Assign [.Tuple [.Name x px, .Name y py] _ _] (.Tuple [p, q] _ _) _ => decide (S.N[i]? = some x) && decide (S.N[j]? = some y) && decide (i ≠ j) && decide (x ≠ y) && lclB S x && lclB S y && (px.line == py.line) && noStar [p, q] &&
        !([p, q].all (foldedForSure 8)) && !([p, q].all (constantsAlone 8)) && S.fn.isNone && okE T a S p && okE T b S q
    | _ => false
  | .asI a i e => fun S s => match s with
    | .Assign [.Subscript o ix _] pe _ => noSlice ix && okE T a S o && okE T i S ix && okE T e S pe
    | _ => false
  | .ret e => fun S s => match s with
    | .Return (some pe) _ => okE T e S pe
    | _ => false
  | .retN => fun _ s => match s with
    | .Return none _ => true
    | _ => false
  | .ite c a b => fun S s => match s with
    | .If pc pa pb _ => okE T c S pc && okB T a S pa && okB T b S pb
    | _ => false
  | .iteL c a b => fun S s => match s with
    | .If (.Name x p) pa pb _ => okE T c S (.Name x p) && okB T a S pa && okB T b S pb
    | _ => false
  | .wh c b => fun S s => match s with
    | .While pc pb [] _ => okE T c S pc && okB T b S pb
    | _ => false
  | .fr k as t b => fun S s => match s with
    | .For tg iter pb [] _ => noSet iter && okT S t tg && (match itArgs S k tg iter with
      | some es => okA T as S es
      | none => false) && okB T b S pb
    | _ => false
  | .rs c => fun S s => match s with
    | .Raise (some (.Call (.Name x _) [.Constant (.str _) _ _] [] _)) none _ => decide (x = c) && glB S x && plainB x && T.excs.contains x
    | _ => false
  | .skip => fun _ _ => false
  | .seq _ _ => fun _ _ => false
  | .fz _ => fun _ _ => false
  | .dfz _ => fun _ _ => false
  | .fg _ => fun _ _ => false
  | .tr b c i hs => fun S s => match s with
    | .Try body [.ExceptHandler (some (.Name x _)) (some n) (s0 :: suite) _] [] [] _ => decide (x = c) && glB S x && plainB x && T.hcls.contains x && decide (S.N[i]? = some n) && lclB S n && okB T b S body && okHS S n T.hcls hs (s0 :: suite)
    | _ => false
def okB (T : Tab) : S → Sc → List Stmt → Bool
  | .skip => fun _ ss => ss.isEmpty
  | .seq (.fz i) r => fun S ss => okB T r S ss
  | .seq (.dfz i) r => fun S ss => okB T r S ss
  | .seq (.fg is) r => fun S ss => okB T r S ss
  | .seq a r => fun S ss => match ss with
    | s :: ss => okS T a S s && okB T r S ss
    | [] => false
  | _ => fun _ _ => false
end

structure LkS (K : PySem.W.Frag) (mg : Str → Option Value) (W : WX) (H : Hp) (E : Ed) (D : Ends) : Prop where
  nx : ∀ σ' H' ρ' h', TKeep H H' → Sim K H' h' → RepE K H' ρ' σ' → E.nx ρ' h' → D.nx σ' H'
  rt : LkV K H E.rt D.rt
  ex : ∀ c u σ' H' ρ' h', TKeep H H' → Sim K H' h' → RepE K H' ρ' σ' → mg c = some u → E.ex c ρ' h' → W u none σ' H'
theorem LkS.keep {K : PySem.W.Frag} {mg : Str → Option Value} {W : WX} {H H1 : Hp} {E : Ed} {D : Ends} (l : LkS K mg W H E D) (k : TKeep H H1) : LkS K mg W H1 E D :=
  ⟨fun σ' H' ρ' h' k1 => l.nx σ' H' ρ' h' (k.trans k1), l.rt.keep k, fun c u σ' H' ρ' h' k1 => l.ex c u σ' H' ρ' h' (k.trans k1)⟩
theorem LkS.lx {K : PySem.W.Frag} {mg : Str → Option Value} {W : WX} {H : Hp} {E : Ed} {D : Ends} {ρ : En} {σ : L2.St} (l : LkS K mg W H E D) (r : RepE K H ρ σ) : LkX K mg W σ H fun c h => E.ex c ρ h :=
  fun c u H' h' k S m q => l.ex c u σ H' ρ h' k S (r.keep k) m q
abbrev FS := En → Hh → Ed → Prop
def tS (K : PySem.W.Frag) (mg : Str → Option Value) (W : WX) (f : FS) : TS := fun D σ H => ∃ ρ h E, Sim K H h ∧ RepE K H ρ σ ∧ f ρ h E ∧ LkS K mg W H E D
section
variable {X : Cx} {W : WX} {a b e tg : Expr} {fa fb fe : FE} {pos : Pos} {st : Stmt} {ss : List Stmt} {f g : FS}
theorem st_skip : PSs X [] (tS X.K X.mg W fun ρ h K => K.nx ρ h) := pss_nil.imp fun D σ H ⟨ρ, h, E, S, RE, w, L⟩ => L.nx _ _ _ _ (TKeep.refl H) S RE w
theorem st_seq (h1 : PS X st (tS X.K X.mg W f)) (h2 : PSs X ss (tS X.K X.mg W g)) : PSs X (st :: ss) (tS X.K X.mg W fun ρ h K => f ρ h { K with nx := fun ρ1 h1 => g ρ1 h1 K }) :=
  (pss_cons h1 h2).imp fun D σ H ⟨ρ, h, E, S, RE, w, L⟩ => ⟨ρ, h, _, S, RE, w, ⟨fun σ' H' ρ' h' k1 S1 R1 q => ⟨ρ', h', E, S1, R1, q, L.keep k1⟩, L.rt, L.ex⟩⟩
theorem st_pass : PS X (.Pass pos) (tS X.K X.mg W fun ρ h K => K.nx ρ h) := ps_pass.imp fun D σ H ⟨ρ, h, E, S, RE, w, L⟩ => L.nx _ _ _ _ (TKeep.refl H) S RE w
theorem st_ex (he : PE X e (tE X.K X.mg W fe)) (hc : notComp e = true) : PS X (.Expr e pos) (tS X.K X.mg W fun ρ h K => fe ρ h (fun _ h1 => K.nx ρ h1) fun c h1 => K.ex c ρ h1) :=
  (ps_expr he (notComp_sw hc _ _ _)).imp fun D σ H ⟨ρ, h, E, S, RE, w, L⟩ => ⟨ρ, h, _, _, S, RE, w, fun v H1 d h1 k1 S1 r1 q1 => L.nx _ _ _ _ k1 S1 (RE.keep k1) q1, L.lx RE⟩
theorem as_aux {i : Nat} {t : TE} {D : Ends} {σ : L2.St} {H : Hp} (ht : ∀ σ H Q, tE X.K X.mg W fe σ H Q → t σ H Q) (hh : tS X.K X.mg W (fun ρ h K => fe ρ h (fun d h1 => K.nx (setE ρ i (some d)) h1) fun c h1 => K.ex c ρ h1) D σ H) : tAsg t (gName i) D σ H := by
  obtain ⟨ρ, h, E, S, RE, w, L⟩ := hh
  exact ht _ _ _ ⟨ρ, h, _, _, S, RE, w, fun v H1 d h1 k1 S1 r1 q1 => L.nx _ _ _ _ k1 S1 ((RE.keep k1).set r1) q1, L.lx RE⟩
theorem st_as {i : Nat} {x : Str} {p : Pos} (hN : X.N.Nodup) (hi : X.N[i]? = some x) (hx : L2.Loc X.env.scope x) (hf : X.fn x = true ∨ X.env.scope.names.lookup x = some .local) (he : PE X e (tE X.K X.mg W fe)) (hs : swapsWith e (some (.Name x p)) pos.line X.env = pure false) :
    PS X (.Assign [.Name x p] e pos) (tS X.K X.mg W fun ρ h K => fe ρ h (fun d h1 => K.nx (setE ρ i (some d)) h1) fun c h1 => K.ex c ρ h1) :=
  (ps_set hN hi hx he hs hf).imp fun D σ H hh => as_aux (fun _ _ _ z => z) hh
theorem st_asT {is : List Nat} (ht : isTup tg = true) (he : PE X e (tE X.K X.mg W fe)) (hg : PG X tg (gT X.K (.tp is))) (hc : notComp e = true) (hn : isTup e = false) :
    PS X (.Assign [tg] e pos) (tS X.K X.mg W fun ρ h K => fe ρ h (fun d h1 => tgW (.tp is) d ρ fun ρ1 => K.nx ρ1 h1) fun c h1 => K.ex c ρ h1) := by
  refine (ps_asg he hg ?_ ?_ ?_).imp fun D σ H ⟨ρ, h, E, S, RE, w, L⟩ => ⟨ρ, h, _, _, S, RE, w, fun v H1 d h1 k1 S1 r1 q1 => gT_ok q1 (RE.keep k1) r1 fun ρ1 σ1 R1 q2 _ => L.nx _ _ _ _ k1 S1 R1 q2, L.lx RE⟩
  · exact notComp_sw hc _ _ _
  · unfold isTup at ht
    split at ht
    · cases e <;> first
        | rfl
        | exact absurd hn (by simp [isTup])
    · exact absurd ht Bool.false_ne_true
  · unfold isTup at ht
    split at ht
    · rfl
    · exact absurd ht Bool.false_ne_true
theorem notStar_m {c : Expr} (hc : ∀ e p, c ≠ .Starred e p) : (match c with | .Starred .. => true | _ => false) = false := by
  cases c <;> first
    | rfl
    | exact absurd rfl (hc _ _)
theorem st_par {i j : Nat} {x y : Str} {px py pt pt2 : Pos} {kt k2 : Nat} (hc : X.calm = true) (hN : X.N.Nodup) (hi : X.N[i]? = some x) (hj : X.N[j]? = some y) (hij : i ≠ j) (hxy : x ≠ y)
    (hx : X.env.scope.names.lookup x = some .local) (hy : X.env.scope.names.lookup y = some .local) (hl : (px.line == py.line) = true) (ha : PE X a (tE X.K X.mg W fa)) (hb : PE X b (tE X.K X.mg W fb)) (ns : noStar [a, b] = true)
    (h1 : [a, b].all (foldedForSure 8) = false) (h2 : [a, b].all (constantsAlone 8) = false) (hk : X.env.blockKind = .function) :
    PS X (.Assign [.Tuple [.Name x px, .Name y py] kt pt] (.Tuple [a, b] k2 pt2) pos) (tS X.K X.mg W fun ρ h K => fa ρ h (fun x h1 => fb ρ h1 (fun y h2 => K.nx (setE (setE ρ i (some x)) j (some y)) h2) fun c h2 => K.ex c ρ h2) fun c h1 => K.ex c ρ h1) := by
  have hA : PA X [a, b] (tCons (tE X.K X.mg W fa) (tCons (tE X.K X.mg W fb) tNil)) := pa_cons ha (pa_cons hb pa_nil (noStar_each (noStar_cons (noStar_cons ns).2).1 _)) (noStar_each (noStar_cons ns).1 _)
  refine (ps_par hc hN hi hj hij hx hy hA ?_ rfl).imp fun D σ H ⟨ρ, h, E, S, RE, w, L⟩ => ⟨ρ, h, _, _, S, RE, w, fun v H1 d h1 k1 S1 r1 q1 => ⟨ρ, h1, _, _, S1, RE.keep k1, q1, fun v2 H2 d2 h2 k2 S2 r2 q2 => ?_, L.lx RE |>.keep k1⟩, L.lx RE⟩
  · obtain ⟨n1, n2⟩ := noStar_cons ns
    obtain ⟨n3, _⟩ := noStar_cons n2
    have kx : X.env.kindOf x = some .local := hx
    have ky : X.env.kindOf y = some .local := hy
    have e2 : (y == x) = false := beq_false_of_ne (Ne.symm hxy)
    unfold swappedStores
    simp only [hk, kx, ky, h1, h2]
    simp [Expr.pos, eq_of_beq hl, kx, ky, hxy, List.eraseDups, List.eraseDupsBy, List.eraseDupsBy.loop, Ne.symm hxy]
    intro h
    exact absurd (by rw [e2]; rfl) h
  · exact ⟨v, v2, rfl, L.nx _ _ _ _ (k1.trans k2) S2 ((((RE.keep k1).keep k2).set (r1.keep k2)).set r2) q2⟩
theorem RepE.upd_slot {K : PySem.W.Frag} {H : Hp} {ρ : En} {σ : L2.St} {i : Nat} {d : D} {v : V} (r : RepE K H ρ σ) (e : σ[i]? = some (some v)) (rd : Rep K H d v) : RepE K H (setE ρ i (some d)) σ := by
  have q := r.set (i := i) rd
  have e2 : σ.set i (some v) = σ := by
    apply List.ext_getElem?
    intro j
    by_cases h : i = j
    · subst h
      have hl : i < σ.length := by
        by_cases z : i < σ.length
        · exact z
        · rw [List.getElem?_eq_none (by omega)] at e; cases e
      rw [List.getElem?_set_self hl, e]
    · rw [List.getElem?_set_ne h]
  rwa [e2] at q
/-- a slot's list is made a value, no row of the text -/
theorem st_fzi {i : Nat} (h2 : PSs X ss (tS X.K X.mg W g)) : PSs X ss (tS X.K X.mg W fun ρ h K => optW (getE ρ i) fun d => frzW d h fun d1 h1 => g (setE ρ i (some d1)) h1 K) := by
  refine ⟨fun pins s σ H D I ⟨ρ, h, E, S, RE, w, L⟩ => ?_⟩
  obtain ⟨d, e, w⟩ := optW_iff.1 w
  obtain ⟨v, e1, r1⟩ := RE.2 i d e
  obtain ⟨H2, d2, h2', I2, k2, S2, q2, w2⟩ := frz_ok (R := fun d1 h1 => g (setE ρ i (some d1)) h1 E) I S r1 w
  exact h2.run pins s σ H2 D I2 ⟨_, h2', E, S2, (RE.keep k2).upd_slot e1 q2, w2, L.keep k2⟩
theorem st_dfz {i : Nat} (h2 : PSs X ss (tS X.K X.mg W g)) : PSs X ss (tS X.K X.mg W fun ρ h K => optW (getE ρ i) fun d => g (setE ρ i (some (dfzD 8 d h).1)) (dfzD 8 d h).2 K) := by
  refine ⟨fun pins s σ H D I ⟨ρ, h, E, S, RE, w, L⟩ => ?_⟩
  obtain ⟨d, e, w⟩ := optW_iff.1 w
  obtain ⟨v, e1, r1⟩ := RE.2 i d e
  obtain ⟨H2, I2, k2, S2, q2⟩ := dfz_ok 8 I S r1
  exact h2.run pins s σ H2 D I2 ⟨_, _, E, S2, (RE.keep k2).upd_slot e1 q2, w, L.keep k2⟩
theorem RepE.forget {K : PySem.W.Frag} {H : Hp} {ρ : En} {σ : L2.St} (r : RepE K H ρ σ) : ∀ (vs : List Nat), RepE K H (wipeE ρ vs) σ
  | [] => r
  | v :: vs => by
    unfold wipeE
    have q := RepE.forget r vs
    refine ⟨by rw [setE_length]; exact q.1, fun j e h => ?_⟩
    rcases getE_set h with ⟨h1, h2⟩ | ⟨h1, h2⟩
    · cases h2
    · exact q.2 j e h2
/-- slots are forgotten, no row of the text -/
theorem st_fg {is : List Nat} (h2 : PSs X ss (tS X.K X.mg W g)) : PSs X ss (tS X.K X.mg W fun ρ h K => g (wipeE ρ is) h K) :=
  h2.imp fun D σ H ⟨ρ, h, E, S, RE, w, L⟩ => ⟨_, h, E, S, RE.forget is, w, L⟩
def tset (K : PySem.W.Frag) : TSet := fun o i v H Q => ∃ x y z h R, Sim K H h ∧ Rep K H x o ∧ Rep K H y i ∧ Rep K H z v ∧ asW x y z h R ∧ ∀ H' h', TKeep H H' → Sim K H' h' → R h' → Q H'
theorem set_ok (hw : X.w = Wd.w) (hu : X.A.units + 65 < cLine) : PSet X (tset X.K) := by
  intro pins s σ H o i v ov iv u Q I ro ri rv hh
  obtain ⟨x, y, z, h, R, S, r1, r2, r3, w, lk⟩ := hh
  cases x with
  | ref a =>
    rw [rep_ref] at r1; subst r1
    have w : selW (wrL h a) (fun xs => intW y fun i => optW (ixN xs.length i) fun j => R (up h a (.lst (xs.set j z)))) (optW (wrN h a) fun kvs => kvs.length < sizeLine ∧ optW (keyT y) fun k => R (up h a (.dN (stoK kvs k z)))) := w
    cases e : wrL h a with
    | none =>
      rw [e, sel_none] at w
      obtain ⟨kvs, wz, hl, w⟩ := optW_iff.1 w
      obtain ⟨k, e2, w⟩ := optW_iff.1 w
      cases (show ov = .ref a from ro)
      exact dn_set hw hu I S r2 ri r3 rv wz e2 hl fun H' k S' => lk _ _ k S' w
    | some xs =>
      rw [e, sel_some] at w
      obtain ⟨k, rfl, w⟩ := intW_iff.1 w
      rw [rep_int] at r2; subst r2
      obtain ⟨j, e2, w⟩ := optW_iff.1 w
      obtain ⟨vs, h1, r⟩ := S.wr e
      have kk : TKeep H (upd H a (.lst (vs.set j v))) := TKeep.lst h1
      exact set_list pins s σ H _ _ v ov iv u Q I ro ri rv ⟨a, vs, k, j, rfl, rfl, h1, by rw [← r.length]; exact e2, lk _ _ kk (S.lst kk (r.set j r3)) w⟩
  | _ => exact w.elim
theorem st_asI (hw : X.w = Wd.w) (hu : X.A.units + 65 < cLine) {o i : Expr} {fo fi : FE} {p : Pos} (ho : PE X o (tE X.K X.mg W fo)) (hi : PE X i (tE X.K X.mg W fi)) (he : PE X e (tE X.K X.mg W fe)) (hs : noSlice i = true) :
    PS X (.Assign [.Subscript o i p] e pos) (tS X.K X.mg W fun ρ h K => fe ρ h (fun z h1 => fo ρ h1 (fun x h2 => fi ρ h2 (fun y h3 => asW x y z h3 fun h4 => K.nx ρ h4) fun c h1 => K.ex c ρ h1) fun c h1 => K.ex c ρ h1) fun c h1 => K.ex c ρ h1) := by
  have hg := pg_sub (pos := p) ho hi (set_ok (X := X) hw hu) (fun v => by
    cases i <;> first
      | rfl
      | exact absurd hs Bool.false_ne_true)
  refine (ps_asg (pos := pos) he hg (by cases e <;> rfl) rfl rfl).imp fun D σ H ⟨ρ, h, E, S, RE, w, L⟩ => ⟨ρ, h, _, _, S, RE, w, fun v H1 d h1 k1 S1 r1 q1 => ⟨ρ, h1, _, _, S1, RE.keep k1, q1, fun v2 H2 d2 h2 k2 S2 r2 q2 => ⟨ρ, h2, _, _, S2, (RE.keep k1).keep k2, q2, fun v3 H3 d3 h3 k3 S3 r3 q3 => ?_, L.lx RE |>.keep (k1.trans k2)⟩, L.lx RE |>.keep k1⟩, L.lx RE⟩
  exact ⟨d2, d3, d, h3, _, S3, r2.keep k3, r3, r1.keep (k2.trans k3), q3, fun H' h' k4 S4 q4 => L.nx _ _ _ _ (k1.trans (k2.trans (k3.trans k4))) S4 (RE.keep (k1.trans (k2.trans (k3.trans k4)))) q4⟩
theorem st_ret (he : PE X e (tE X.K X.mg W fe)) : PS X (.Return (some e) pos) (tS X.K X.mg W fun ρ h K => fe ρ h K.rt fun c h1 => K.ex c ρ h1) :=
  (ps_ret he).imp fun D σ H ⟨ρ, h, E, S, RE, w, L⟩ => ⟨ρ, h, _, _, S, RE, w, L.rt, L.lx RE⟩
theorem st_retN : PS X (.Return none pos) (tS X.K X.mg W fun ρ h K => K.rt .non h) := ps_retN.imp fun D σ H ⟨ρ, h, E, S, RE, w, L⟩ => L.rt.same S (rep_non.2 rfl) w
theorem st_ite {c : Expr} {fc : FE} {pa pb : List Stmt} (hc : PT X c (tT X.K X.mg W (bT fc))) (ha : PSs X pa (tS X.K X.mg W f)) (hb : PSs X pb (tS X.K X.mg W g)) :
    PS X (.If c pa pb pos) (tS X.K X.mg W fun ρ h K => fc ρ h (fun d h1 => blW d fun d => if d = true then f ρ h1 K else g ρ h1 K) fun c h1 => K.ex c ρ h1) :=
  (ps_if hc ha hb).imp fun D σ H ⟨ρ, h, E, S, RE, w, L⟩ => ⟨ρ, h, fun b h1 => if b = true then f ρ h1 E else g ρ h1 E, _, S, RE, w, fun b H1 h1 k1 S1 w1 => by
    cases b with
    | true => replace w1 := ifT w1; refine iteT ?_; exact ⟨ρ, h1, E, S1, RE.keep k1, w1, L.keep k1⟩
    | false => replace w1 := ifF w1; refine iteF ?_; exact ⟨ρ, h1, E, S1, RE.keep k1, w1, L.keep k1⟩, L.lx RE⟩
theorem st_iteL {x : Str} {p : Pos} {fc : FE} {pa pb : List Stmt} (hc : PE X (.Name x p) (tE X.K X.mg W fc)) (ha : PSs X pa (tS X.K X.mg W f)) (hb : PSs X pb (tS X.K X.mg W g)) :
    PS X (.If (.Name x p) pa pb pos) (tS X.K X.mg W fun ρ h K => fc ρ h (fun d h1 => optW (lsD h1 d) fun xs => if xs.isEmpty = true then g ρ h1 K else f ρ h1 K) fun c h1 => K.ex c ρ h1) :=
  (ps_if (pt_truth hc fun _ => rfl) ha hb).imp fun D σ H ⟨ρ, h, E, S, RE, w, L⟩ => ⟨ρ, h, _, _, S, RE, w, fun v H1 d h1 k1 S1 r1 w1 => by
    have hz := optW_iff.1 w1; clear w1; obtain ⟨xs, e, w1⟩ := hz
    obtain ⟨a, vs, rfl, sq, rs⟩ := S1.ls r1 e
    refine ⟨!vs.isEmpty, .inl ⟨vs, sq, rfl⟩, ?_⟩
    cases xs with
    | nil =>
      cases vs with
      | nil =>
        replace w1 := ifT w1
        refine iteF ?_
        exact ⟨ρ, h1, E, S1, RE.keep k1, w1, L.keep k1⟩
      | cons _ _ => have := rs.length; simp at this
    | cons _ _ =>
      cases vs with
      | nil => have := rs.length; simp at this
      | cons _ _ =>
        replace w1 := ifF w1
        refine iteT ?_
        exact ⟨ρ, h1, E, S1, RE.keep k1, w1, L.keep k1⟩, L.lx RE⟩
theorem st_wh {c : Expr} {fc : FE} {pb : List Stmt} (hp : PassesOwn (model X.prog X.w) X.A X.env X.xe) (hc : PT X c (tT X.K X.mg W (bT fc))) (hb : PSs X pb (tS X.K X.mg W f)) :
    PS X (.While c pb [] pos) (tS X.K X.mg W fun ρ h K => whI fc f K ρ h) := by
  refine (ps_while hp hc hb).imp fun D σ H ⟨ρ, h, E, S, RE, ⟨n, w⟩, L⟩ => ?_
  refine ⟨fun m σ' H' => ∃ ρ' h', TKeep H H' ∧ Sim X.K H' h' ∧ RepE X.K H' ρ' σ' ∧ whW (fun ρ h Q => fc ρ h Q fun c h1 => E.ex c ρ h1) f E m ρ' h', ⟨n, ρ, h, TKeep.refl H, S, RE, w⟩, ?_⟩
  rintro m σ1 H1 ⟨ρ1, h1, k1, S1, R1, w1⟩
  cases m with
  | zero => exact w1.elim
  | succ m =>
    refine ⟨ρ1, h1, fun d h2 => if d = true then f ρ1 h2 { E with nx := whW (fun ρ h Q => fc ρ h Q fun c h1 => E.ex c ρ h1) f E m } else E.nx ρ1 h2, _, S1, R1, w1, fun b H2 h2 k2 S2 w2 => ?_, (L.keep k1).lx R1⟩
    cases b with
    | true =>
      replace w2 := ifT w2
      refine iteT ?_
      refine ⟨fun σ' H' => ∃ ρ' h', TKeep H H' ∧ Sim X.K H' h' ∧ RepE X.K H' ρ' σ' ∧ whW (fun ρ h Q => fc ρ h Q fun c h1 => E.ex c ρ h1) f E m ρ' h', fun σ' H' q => ⟨m, Nat.lt_succ_self _, q⟩, ρ1, h2, _, S2, R1.keep k2, w2, ⟨fun σ' H' ρ' h' k3 S3 R3 q => ⟨ρ', h', k1.trans (k2.trans k3), S3, R3, q⟩, L.rt.keep (k1.trans k2), (L.keep (k1.trans k2)).ex⟩⟩
    | false =>
      replace w2 := ifF w2
      refine iteF ?_
      exact L.nx _ _ _ _ (k1.trans k2) S2 (R1.keep k2) w2
theorem st_fr {iter : Expr} {fi : FI} {t : Tg} {pb : List Stmt} (hp : PassesOwn (model X.prog X.w) X.A X.env X.xe) (hc : X.calm = true) (hi : PI X tg iter (tI X.K X.mg W fi)) (hg : PG X tg (gT X.K t)) (hb : PSs X pb (tS X.K X.mg W f)) (hs : ∀ x, foldedSetIterable iter X.env x = pure x) :
    PS X (.For tg iter pb [] pos) (tS X.K X.mg W fun ρ h K => fi ρ h (fun it h2 => frI it t f K ρ h2) fun c h1 => K.ex c ρ h1) := by
  refine (ps_for hp hc hi hg hb hs).imp fun D σ H ⟨ρ, h, E, S, RE, w, L⟩ => ⟨ρ, h, _, _, S, RE, w, fun J H1 it h1 k1 S1 io w1 => ?_, L.lx RE⟩
  obtain ⟨n, w1⟩ := frP_of w1
  refine ⟨fun i m σ' H' => ∃ ρ' h', TKeep H1 H' ∧ Sim X.K H' h' ∧ RepE X.K H' ρ' σ' ∧ frP it t f E m i ρ' h', ⟨n, ρ, h1, TKeep.refl H1, S1, RE.keep k1, w1⟩, ?_⟩
  rintro i m σ2 H2 ⟨ρ2, h2, k2, S2, R2, w2⟩
  obtain ⟨m, rfl, w2'⟩ := frP_step w2
  clear w2
  split at w2'
  · exact w2'.elim
  · rename_i e
    exact .inl ⟨io.stop i H2 h2 k2 S2 e, L.nx _ _ _ _ (k1.trans k2) S2 R2 w2'⟩
  · rename_i d e
    obtain ⟨g1, g2⟩ := io.go i H2 h2 d k2 S2 e
    refine .inr ⟨g1, fun σ' H' => ∃ ρ' h', TKeep H1 H' ∧ Sim X.K H' h' ∧ RepE X.K H' ρ' σ' ∧ frP it t f E m (i + 1) ρ' h', fun σ' H' q => ⟨m, Nat.lt_succ_self _, q⟩, fun x H3 y => ?_⟩
    obtain ⟨k3, S3, r3⟩ := g2 x H3 y
    refine gT_ok w2' (R2.keep k3) r3 fun ρ1 σ1 RE1 w3 _ => ⟨ρ1, h2, _, S3, RE1, w3, ⟨fun σ' H' ρ' h' k4 S4 R4 q => ⟨ρ', h', k2.trans (k3.trans k4), S4, R4, q⟩, L.rt.keep (k1.trans (k2.trans k3)), (L.keep (k1.trans (k2.trans k3))).ex⟩⟩
end
end Lt

set_option maxHeartbeats 8000000
namespace Lt
open PySem PySem.Spec PyProof.Rows L2
variable [Wd]
section
variable {T : Tab} (C : Cn)
theorem lc_parts {X : Cx} {W : WX} {S : Sc} (O : Ok C T X W S) {k : Ik} {as : Es} {t : Tg} {own : List (Str × Nat)} {c e : E} {el : Expr} {gs : List Comprehension} {scope : Scope} {pos : Pos} (h : okE T (.lc k as t own c e) S (.ListComp el gs scope pos) = true) :
    ∃ tg iter ifs, gs = [⟨tg, iter, ifs, 0⟩] ∧ PI X tg iter (tI X.K X.mg W fun ρ h R Y => wA C as ρ h (fun xs h1 => itW k xs h1 R) Y) ∧ BlkOk X.N X.env.scope scope own ∧ (∀ i ∈ slots t, i ∈ own.map (·.2)) ∧
      (∀ (s : Shared) (H : Hp) (a : Addr) (cl : List (Str × Addr)) (fp : List Addr), PG (X.blk s H scope (compEnvC scope cl a X.env) fp) tg (gT X.K t)) ∧
      (∀ (s : Shared) (H : Hp) (a : Addr) (cl : List (Str × Addr)) (fp : List Addr), PTs (X.blk s H scope (compEnvC scope cl a X.env) fp) ifs (tT X.K X.mg (fun _ _ _ _ => False) (bT (wE C c)))) ∧
      (∀ (s : Shared) (H : Hp) (a : Addr) (cl : List (Str × Addr)) (fp : List Addr), PE (X.blk s H scope (compEnvC scope cl a X.env) fp) el (tE X.K X.mg (fun _ _ _ _ => False) (wE C e))) ∧ ∀ x, foldedSetIterable iter X.env x = pure x := by
  simp only [okE] at h
  split at h
  · rename_i el' tg iter ifs scope' pos' q
    cases q
    simp only [Bool.and_eq_true] at h
    obtain ⟨⟨⟨⟨⟨⟨h1, h2⟩, h3⟩, h4⟩, h5⟩, h6⟩, h7⟩ := h
    split at h5
    · rename_i es q
      refine ⟨tg, iter, ifs, rfl, ?_, ?_, ?_, fun s H a cl fp => okT_ok (O.blk _ s H a cl fp) h4, ?_, fun s H a cl fp => (sE C e (O.blk _ s H a cl fp) _ h7).1, noSet_fold h1 _⟩
      · refine s_it O q (sA C as O _ h5) (fun hk a ea => ?_) (fun hk => ?_)
        · subst hk ea
          cases q
          simp only [okA, Bool.and_eq_true] at h5
          have h5' := h5.1.2
          exact (sE C a O _ h5').1
        · subst hk
          cases q
          cases as with
          | nil => simp only [okA] at h5; exact absurd h5 Bool.false_ne_true
          | cons a r =>
            cases r with
            | nil => exact ⟨a, rfl⟩
            | cons b r => simp only [okA, Bool.and_eq_true] at h5; exact absurd h5.2 Bool.false_ne_true
      · rw [O.N, O.sc]; exact blkOk_by h2
      · exact fun i hi => by
          have := List.all_eq_true.mp h3 i hi
          simpa using this
      · intro s H a cl fp
        split at h6
        · split at h6
          · simp only [wE]
            exact ⟨fun pins s σ H Q I ⟨ρ, h, R, Y, Sm, RE, w, lk, lx⟩ => pts_nil.run pins s σ H Q I (lk true H h (TKeep.refl H) Sm w)⟩
          · exact absurd h6 Bool.false_ne_true
        · exact pts_one (sE C c (O.blk _ s H a cl fp) _ h6).2
        · exact absurd h6 Bool.false_ne_true
    · exact absurd h5 Bool.false_ne_true
  · exact absurd h Bool.false_ne_true
theorem cell_sw {e : Expr} {x : Str} {p : Pos} {l : Nat} {env : Env} (h : env.kindOf x = some .cell) : swapsWith e (some (.Name x p)) l env = pure false := by
  cases e <;> first
    | rfl
    | (have e : (NameKind.cell == NameKind.local) = false := rfl
       simp [swapsWith, h, e])
theorem swB_inv {S : Sc} {x : Str} {py : Pos} {e : Expr} (h : swB S x py e = true) : ∃ el gs scope pos, e = .ListComp el gs scope pos ∧ lclB S x = true ∧ (py.line == pos.line) = true ∧ (scope.names.any fun (n, k) => n == x && (k == .local || k == .cell)) = false := by
  unfold swB at h
  split at h
  · simp only [Bool.and_eq_true, Bool.not_eq_true'] at h
    obtain ⟨⟨l1, l2⟩, l3⟩ := h
    exact ⟨_, _, _, _, rfl, l1, l2, l3⟩
  · exact absurd h Bool.false_ne_true
structure OkS (C : Cn) (T : Tab) (X : Cx) (W : WX) (S : Sc) : Prop where
  o : Ok C T X W S
  po : PassesOwn (model X.prog X.w) X.A X.env X.xe
  kd : X.env.scope.kind = .function
  stk : X.stack = X.env :: X.outer
  frm : X.env.frame = some X.env.locals
  ef : ExFacts X.K X.mg C.ex T.hcls
mutual
theorem sS {X : Cx} {W : WX} {S : Sc} (O : OkS C T X W S) : ∀ (s : Lt.S) (st : Stmt), okS T s S st = true → PS X st (tS X.K X.mg W (wS C s))
  | .pass, st, h => by
    simp only [okS] at h
    split at h
    · simp only [wS]; exact st_pass
    · exact absurd h Bool.false_ne_true
  | .ex e, st, h => by
    simp only [okS] at h
    split at h
    · simp only [Bool.and_eq_true] at h
      simp only [wS]; exact st_ex (sE C e O.o _ h.2).1 h.1
    · exact absurd h Bool.false_ne_true
  | .as i e, st, h => by
    simp only [okS] at h
    split at h
    · rename_i x py pe spos
      simp only [Bool.and_eq_true, decide_eq_true_eq] at h
      obtain ⟨⟨⟨h1, h2⟩, h3⟩, h4⟩ := h
      have hi : X.N[i]? = some x := by rw [O.o.N]; exact h1
      simp only [wS]
      rcases Bool.or_eq_true _ _ ▸ h4 with h4 | h4
      · rcases Bool.or_eq_true _ _ ▸ h4 with h4 | h4
        · exact st_as O.o.nd hi (O.o.loc h2).1 (O.o.loc h2).2 (sE C e O.o _ h3).1 (notComp_sw h4 _ _ _)
        · refine st_as O.o.nd hi (O.o.loc h2).1 (O.o.loc h2).2 (sE C e O.o _ h3).1 (cell_sw ?_)
          show X.env.scope.names.lookup x = _
          rw [O.o.sc]
          unfold cellB at h4
          split at h4
          · assumption
          · exact absurd h4 Bool.false_ne_true
      · rw [Bool.and_eq_true] at h4
        obtain ⟨h6, h5⟩ := h4
        split at h5
        · rename_i k as t own c e
          · obtain ⟨el, gs, scope, pos, rfl, l1, l2, l3⟩ := swB_inv h6
            obtain ⟨tg, iter, ifs, rfl, hi', ok, hsl, hg, ht, he, hs⟩ := lc_parts C O.o h3
            have hyl : X.env.scope.names.lookup x = some .local := by
              rw [O.o.sc]
              unfold lclB at l1
              split at l1
              · assumption
              · exact absurd l1 Bool.false_ne_true
            refine (ps_setLc O.o.calm O.o.nd hi hyl (sw_true O.kd hyl l2 l3) hi' ok hg ht he hs).imp fun D σ H hh => as_aux (fe := wE C (.lc k as t own c e)) (fun σ H Q q => ?_) hh
            refine s_lc (W := W) (c := none) O.o.calm O.o.nd hi' ok hsl hg ht he hs σ H Q ?_
            simp only [wE] at q
            exact q
        · exact absurd h5 Bool.false_ne_true
    · exact absurd h Bool.false_ne_true
  | .asT is e, st, h => by
    simp only [okS] at h
    split at h
    · simp only [Bool.and_eq_true, Bool.not_eq_true'] at h
      obtain ⟨⟨⟨⟨h1, h2⟩, h3⟩, h4⟩, h5⟩ := h
      simp only [wS]; exact st_asT h1 (sE C e O.o _ h5).1 (okT_ok O.o h4) h3 h2
    · exact absurd h Bool.false_ne_true
  | .par i j a b, st, h => by
    simp only [okS] at h
    split at h
    · simp only [Bool.and_eq_true, Bool.not_eq_true', decide_eq_true_eq] at h
      obtain ⟨⟨⟨⟨⟨⟨⟨⟨⟨⟨⟨⟨h1, h2⟩, h3⟩, h4⟩, h5⟩, h6⟩, h7⟩, h8⟩, h9⟩, h10⟩, h11⟩, h12⟩, h13⟩ := h
      have lcl : ∀ {x : Str}, lclB S x = true → X.env.scope.names.lookup x = some .local := fun {x} l1 => by
        rw [O.o.sc]
        unfold lclB at l1
        split at l1
        · assumption
        · exact absurd l1 Bool.false_ne_true
      simp only [wS]
      exact st_par O.o.calm O.o.nd (by rw [O.o.N]; exact h1) (by rw [O.o.N]; exact h2) h3 h4 (lcl h5) (lcl h6) h7 (sE C a O.o _ h12).1 (sE C b O.o _ h13).1 h8 h9 h10 (by unfold Env.blockKind; rw [O.kd]; rfl)
    · exact absurd h Bool.false_ne_true
  | .asI a i e, st, h => by
    simp only [okS] at h
    split at h
    · simp only [Bool.and_eq_true] at h
      obtain ⟨⟨⟨h2, h3⟩, h4⟩, h5⟩ := h
      simp only [wS]; exact st_asI O.o.wd O.o.un (sE C a O.o _ h3).1 (sE C i O.o _ h4).1 (sE C e O.o _ h5).1 h2
    · exact absurd h Bool.false_ne_true
  | .ret e, st, h => by
    simp only [okS] at h
    split at h
    · simp only [wS]; exact st_ret (sE C e O.o _ h).1
    · exact absurd h Bool.false_ne_true
  | .retN, st, h => by
    simp only [okS] at h
    split at h
    · simp only [wS]; exact st_retN
    · exact absurd h Bool.false_ne_true
  | .ite c a b, st, h => by
    simp only [okS] at h
    split at h
    · simp only [Bool.and_eq_true] at h
      obtain ⟨⟨h1, h2⟩, h3⟩ := h
      simp only [wS]; exact st_ite (sE C c O.o _ h1).2 (sB O a _ h2) (sB O b _ h3)
    · exact absurd h Bool.false_ne_true
  | .iteL c a b, st, h => by
    simp only [okS] at h
    split at h
    · simp only [Bool.and_eq_true] at h
      obtain ⟨⟨h1, h2⟩, h3⟩ := h
      simp only [wS]; exact st_iteL (sE C c O.o _ h1).1 (sB O a _ h2) (sB O b _ h3)
    · exact absurd h Bool.false_ne_true
  | .wh c b, st, h => by
    simp only [okS] at h
    split at h
    · simp only [Bool.and_eq_true] at h
      simp only [wS]; exact st_wh O.po (sE C c O.o _ h.1).2 (sB O b _ h.2)
    · exact absurd h Bool.false_ne_true
  | .fr k as t b, st, h => by
    simp only [okS] at h
    split at h
    · rename_i tg iter pb pos
      simp only [Bool.and_eq_true] at h
      obtain ⟨⟨⟨h1, h2⟩, h3⟩, h4⟩ := h
      split at h3
      · rename_i es q
        have hi : PI X tg iter (tI X.K X.mg W fun ρ h R Y => wA C as ρ h (fun xs h1 => itW k xs h1 R) Y) := by
          refine s_it O.o q (sA C as O.o _ h3) (fun hk a ea => ?_) (fun hk => ?_)
          · subst hk ea
            cases q
            simp only [okA, Bool.and_eq_true] at h3
            have h3' := h3.1.2
            exact (sE C a O.o _ h3').1
          · subst hk
            cases q
            cases as with
            | nil => simp only [okA] at h3; exact absurd h3 Bool.false_ne_true
            | cons a r =>
              cases r with
              | nil => exact ⟨a, rfl⟩
              | cons b r => simp only [okA, Bool.and_eq_true] at h3; exact absurd h3.2 Bool.false_ne_true
        simp only [wS]; exact st_fr O.po O.o.calm hi (okT_ok O.o h2) (sB O b _ h4) (noSet_fold h1 _)
      · exact absurd h3 Bool.false_ne_true
    · exact absurd h Bool.false_ne_true
  | .rs c, st, h => by
    simp only [okS] at h
    split at h
    · rename_i x p m j p2 pos pos'
      simp only [Bool.and_eq_true, decide_eq_true_eq] at h
      obtain ⟨⟨⟨h1, h2⟩, h3⟩, h4⟩ := h
      subst h1
      obtain ⟨a, gC, q1, kC, s1, s2⟩ := O.o.excs x (by simpa using h4)
      simp only [wS]
      exact (ps_raise O.o.calm O.o.tk (pmk_own PySem.F.excBase_ValueError q1 gC kC (raises_own s1 s2) (O.o.gl h2) (plain1 h3))).imp fun D σ H ⟨ρ, h, E, Sm, RE, w, L⟩ => L.ex _ _ _ _ _ _ (TKeep.refl H) Sm RE gC w
    · exact absurd h Bool.false_ne_true
  | .tr b c i hs, st, h => by
    simp only [okS] at h
    split at h
    · rename_i body x np n s0 suite pos' pos
      simp only [Bool.and_eq_true, decide_eq_true_eq] at h
      obtain ⟨⟨⟨⟨⟨⟨⟨h1, h2⟩, h3⟩, h4⟩, h5⟩, h6⟩, h7⟩, h8⟩ := h
      subst h1
      have hcl : x ∈ T.hcls := by simpa using h4
      obtain ⟨vc, uc, kc⟩ := O.ef.at' x hcl
      have hi : X.N[i]? = some n := by rw [O.o.N]; exact h5
      have hln : X.env.kindOf n = some .local := by
        show X.env.scope.names.lookup n = _
        rw [O.o.sc]
        unfold lclB at h6
        split at h6
        · assumption
        · exact absurd h6 Bool.false_ne_true
      have hnm : Names X x uc := by
        refine ⟨O.o.gl h2, plain1 h3, ?_⟩
        cases kc with
        | own e => exact .inl e
        | blt e b nn => exact .inr ⟨e, b, nn⟩
      have hb : ∀ (W' : WX) (pn : List (Addr × Obj)) (xe : Value → Shared → Prop), Takes (X.tr pn xe) W' → PassesOwn (model X.prog X.w) X.A X.env xe → PSs (X.tr pn xe) body (tS X.K X.mg W' (wS C b)) := fun W' pn xe tk po => by
        have O' : OkS C T (X.tr pn xe) W' S := ⟨⟨O.o.wd, O.o.N, O.o.nd, O.o.sc, O.o.fn, O.o.calm, O.o.un, O.o.gd, tk, O.o.calls, O.o.blts, O.o.globs, O.o.excs⟩, po, O.kd, O.stk, O.frm, O.ef⟩
        exact sB O' b _ h7
      have hsu : ∀ (a : Addr) (oe : Obj) (cls : Value) (d : Option Addr) (pn : List (Addr × Obj)), Zc cls d oe → (∃ vs, oe.data = .fields vs) → PSs (X.suite a ((a, oe) :: pn)) (s0 :: suite)
          ((fun a cls d => fun Dn σ H => ∃ y cD, cls = .ref cD ∧ d = none ∧ X.mg y = some (.ref cD) ∧ y ∈ C.ex.excs ∧ tHS X.K i a (hS (C.ex.sub y) hs) Dn σ H : Addr → Value → Option Addr → TS) a cls d) := fun a oe cls d pn hz hf =>
        ⟨fun pins s σ H D I ⟨y, cD, e1, e2, e3, e4, q⟩ => by
          subst e1 e2
          obtain ⟨cD', m1, ec, kk⟩ := O.ef.rs y e4
          have := e3.symm.trans m1
          cases this
          exact (sHS (E := C.ex) (cls := T.hcls) (x := y) ⟨O.o.N, O.o.nd, O.o.sc, hi, hz, hf, ec, O.o.blts _ (by decide), O.ef.at', fun c hc v u k => (kk c hc v u k).1⟩ hs _ h8).run pins s σ H D I q⟩
      refine (ps_try_as (c := uc) O.stk O.frm O.o.nd hi hln hnm O.o.tk hb hsu).imp fun D σ H ⟨ρ, h, E, Sm, RE, w, L⟩ => ?_
      rw [wS] at w
      refine ⟨ρ, h, _, Sm, RE, w, ⟨L.nx, L.rt, fun y u σ' H' ρ' h' k S' R' m q => ?_⟩⟩
      obtain ⟨⟨q1, lt⟩, q2⟩ := q
      have hy : y ∈ C.ex.excs := by simpa using q1
      obtain ⟨cD, m1, ec, kk⟩ := O.ef.rs y hy
      have := m.symm.trans m1
      cases this
      obtain ⟨k1, k2⟩ := kk x hcl vc uc kc
      refine ⟨C.ex.sub y x, k2, fun e a na => ?_, fun e => ?_⟩
      · rw [if_pos e] at q2
        have li : i < σ'.length := by rw [← R'.1]; exact lt
        refine ⟨y, cD, rfl, rfl, m, hy, by rw [List.getElem?_set_self li], setE ρ' i none, h', _, S', ?_, q2, fun σ2 H2 ρ2 h2 k3 S3 R3 q3 => L.nx _ _ _ _ (k.trans k3) S3 R3.unset q3⟩
        refine ⟨by rw [setE_length, List.length_set]; exact R'.1, fun j d e' => ?_⟩
        rcases getE_set e' with ⟨z1, z2⟩ | ⟨z1, z2⟩
        · cases z2
        · obtain ⟨w', h3, h4⟩ := R'.2 j d z2
          exact ⟨w', by rw [List.getElem?_set_ne (Ne.symm z1)]; exact h3, h4⟩
      · rw [if_neg (by rw [e]; exact Bool.false_ne_true)] at q2
        exact L.ex _ _ _ _ _ _ k S' R' m q2
    · exact absurd h Bool.false_ne_true
  | .fg _, st, h => by simp only [okS] at h; exact absurd h Bool.false_ne_true
  | .skip, st, h => by simp only [okS] at h; exact absurd h Bool.false_ne_true
  | .seq _ _, st, h => by simp only [okS] at h; exact absurd h Bool.false_ne_true
  | .fz _, st, h => by simp only [okS] at h; exact absurd h Bool.false_ne_true
  | .dfz _, st, h => by simp only [okS] at h; exact absurd h Bool.false_ne_true
theorem sB {X : Cx} {W : WX} {S : Sc} (O : OkS C T X W S) : ∀ (s : Lt.S) (ss : List Stmt), okB T s S ss = true → PSs X ss (tS X.K X.mg W (wS C s))
  | .skip, ss, h => by
    simp only [okB] at h
    have e : ss = [] := by simpa using h
    subst e
    simp only [wS]; exact st_skip
  | .seq (.fz i) r, ss, h => by
    simp only [okB] at h
    simp only [wS]; exact st_fzi (sB O r _ h)
  | .seq (.dfz i) r, ss, h => by
    simp only [okB] at h
    simp only [wS]; exact st_dfz (sB O r _ h)
  | .seq (.fg is) r, ss, h => by
    simp only [okB] at h
    have q := st_fg (is := is) (sB O r _ h)
    simp only [wS]; exact q
  | .seq (.tr b c i hs) r, ss, h => by
    simp only [okB] at h
    split at h
    · simp only [Bool.and_eq_true] at h
      have q := st_seq (sS O (.tr b c i hs) _ h.1) (sB O r _ h.2)
      rw [wS]; exact q
    · exact absurd h Bool.false_ne_true
  | .seq (.pass) r, ss, h => by
    simp only [okB] at h
    split at h
    · simp only [Bool.and_eq_true] at h
      have q := st_seq (sS O (.pass) _ h.1) (sB O r _ h.2)
      rw [wS]; exact q
    · exact absurd h Bool.false_ne_true
  | .seq (.ex e) r, ss, h => by
    simp only [okB] at h
    split at h
    · simp only [Bool.and_eq_true] at h
      have q := st_seq (sS O (.ex e) _ h.1) (sB O r _ h.2)
      rw [wS]; exact q
    · exact absurd h Bool.false_ne_true
  | .seq (.as i e) r, ss, h => by
    simp only [okB] at h
    split at h
    · simp only [Bool.and_eq_true] at h
      have q := st_seq (sS O (.as i e) _ h.1) (sB O r _ h.2)
      rw [wS]; exact q
    · exact absurd h Bool.false_ne_true
  | .seq (.asT is e) r, ss, h => by
    simp only [okB] at h
    split at h
    · simp only [Bool.and_eq_true] at h
      have q := st_seq (sS O (.asT is e) _ h.1) (sB O r _ h.2)
      rw [wS]; exact q
    · exact absurd h Bool.false_ne_true
  | .seq (.par i j a b) r, ss, h => by
    simp only [okB] at h
    split at h
    · simp only [Bool.and_eq_true] at h
      have q := st_seq (sS O (.par i j a b) _ h.1) (sB O r _ h.2)
      rw [wS]; exact q
    · exact absurd h Bool.false_ne_true
  | .seq (.asI a i e) r, ss, h => by
    simp only [okB] at h
    split at h
    · simp only [Bool.and_eq_true] at h
      have q := st_seq (sS O (.asI a i e) _ h.1) (sB O r _ h.2)
      rw [wS]; exact q
    · exact absurd h Bool.false_ne_true
  | .seq (.ret e) r, ss, h => by
    simp only [okB] at h
    split at h
    · simp only [Bool.and_eq_true] at h
      have q := st_seq (sS O (.ret e) _ h.1) (sB O r _ h.2)
      rw [wS]; exact q
    · exact absurd h Bool.false_ne_true
  | .seq (.retN) r, ss, h => by
    simp only [okB] at h
    split at h
    · simp only [Bool.and_eq_true] at h
      have q := st_seq (sS O (.retN) _ h.1) (sB O r _ h.2)
      rw [wS]; exact q
    · exact absurd h Bool.false_ne_true
  | .seq (.ite c a b) r, ss, h => by
    simp only [okB] at h
    split at h
    · simp only [Bool.and_eq_true] at h
      have q := st_seq (sS O (.ite c a b) _ h.1) (sB O r _ h.2)
      rw [wS]; exact q
    · exact absurd h Bool.false_ne_true
  | .seq (.iteL c a b) r, ss, h => by
    simp only [okB] at h
    split at h
    · simp only [Bool.and_eq_true] at h
      have q := st_seq (sS O (.iteL c a b) _ h.1) (sB O r _ h.2)
      rw [wS]; exact q
    · exact absurd h Bool.false_ne_true
  | .seq (.wh c b) r, ss, h => by
    simp only [okB] at h
    split at h
    · simp only [Bool.and_eq_true] at h
      have q := st_seq (sS O (.wh c b) _ h.1) (sB O r _ h.2)
      rw [wS]; exact q
    · exact absurd h Bool.false_ne_true
  | .seq (.fr k as t b) r, ss, h => by
    simp only [okB] at h
    split at h
    · simp only [Bool.and_eq_true] at h
      have q := st_seq (sS O (.fr k as t b) _ h.1) (sB O r _ h.2)
      rw [wS]; exact q
    · exact absurd h Bool.false_ne_true
  | .seq (.rs c) r, ss, h => by
    simp only [okB] at h
    split at h
    · simp only [Bool.and_eq_true] at h
      have q := st_seq (sS O (.rs c) _ h.1) (sB O r _ h.2)
      rw [wS]; exact q
    · exact absurd h Bool.false_ne_true
  | .seq (.skip) r, ss, h => by
    simp only [okB] at h
    split at h
    · simp only [Bool.and_eq_true] at h
      have q := st_seq (sS O (.skip) _ h.1) (sB O r _ h.2)
      rw [wS]; exact q
    · exact absurd h Bool.false_ne_true
  | .seq (.seq a b) r, ss, h => by
    simp only [okB] at h
    split at h
    · simp only [Bool.and_eq_true] at h
      have q := st_seq (sS O (.seq a b) _ h.1) (sB O r _ h.2)
      rw [wS]; exact q
    · exact absurd h Bool.false_ne_true
  | .pass, ss, h => by simp only [okB] at h; exact absurd h Bool.false_ne_true
  | .ex _, ss, h => by simp only [okB] at h; exact absurd h Bool.false_ne_true
  | .as _ _, ss, h => by simp only [okB] at h; exact absurd h Bool.false_ne_true
  | .asT _ _, ss, h => by simp only [okB] at h; exact absurd h Bool.false_ne_true
  | .par _ _ _ _, ss, h => by simp only [okB] at h; exact absurd h Bool.false_ne_true
  | .asI _ _ _, ss, h => by simp only [okB] at h; exact absurd h Bool.false_ne_true
  | .ret _, ss, h => by simp only [okB] at h; exact absurd h Bool.false_ne_true
  | .retN, ss, h => by simp only [okB] at h; exact absurd h Bool.false_ne_true
  | .iteL _ _ _, ss, h => by simp only [okB] at h; exact absurd h Bool.false_ne_true
  | .ite _ _ _, ss, h => by simp only [okB] at h; exact absurd h Bool.false_ne_true
  | .wh _ _, ss, h => by simp only [okB] at h; exact absurd h Bool.false_ne_true
  | .fr _ _ _ _, ss, h => by simp only [okB] at h; exact absurd h Bool.false_ne_true
  | .fz _, ss, h => by simp only [okB] at h; exact absurd h Bool.false_ne_true
  | .dfz _, ss, h => by simp only [okB] at h; exact absurd h Bool.false_ne_true
  | .fg _, ss, h => by simp only [okB] at h; exact absurd h Bool.false_ne_true
  | .tr _ _ _ _, ss, h => by simp only [okB] at h; exact absurd h Bool.false_ne_true
  | .rs _, ss, h => by simp only [okB] at h; exact absurd h Bool.false_ne_true
end
end

/-! ### functions -/
structure Fd where
  name : Str
  np : Nat
  N : List Str
  body : S
  gc : Bool := true
def startE (n : Nat) (ds : List D) : En := ds.map some ++ List.replicate (n - ds.length) none
/-- a def's ends; what it made is let go where gc -/
def edOf (gc : Bool) (h0 : Hh) (R : QD) (Y : XD) : Ed := match gc with
  | true => ⟨fun _ h => R .non (gcH h0 h), fun d h => R d (gcH h0 h), fun c _ h => Y c (gcH h0 h)⟩
  | false => ⟨fun _ h => R .non h, R, fun c _ h => Y c h⟩
def callL (P : List Fd) (G : Gn) : Nat → Str → List D → Hh → QD → XD → Prop
  | 0, _, _, _, _, _ => False
  | j + 1, f, ds, h, R, Y => match P.find? (fun d => d.name == f) with
    | some d => ds.length = d.np ∧ wS ⟨callL P G j, G.glob, G.ex⟩ d.body (startE d.N.length ds) h (edOf d.gc h R Y)
    | none => False
theorem find_name : ∀ {P : List Fd} {f : Str} {d : Fd}, P.find? (fun d => d.name == f) = some d → d ∈ P ∧ d.name = f
  | P, f, d, h => ⟨List.mem_of_find?_eq_some h, by have := List.find?_some h; simpa using this⟩
theorem getE_start {K : PySem.W.Frag} {H : Hp} : ∀ {ds : List D} {vs : List V} {m i : Nat} {d : D}, Reps K H ds vs → getE (ds.map some ++ List.replicate m none) i = some d → ∃ v, (vs.map some ++ List.replicate m none)[i]? = some (some v) ∧ Rep K H d v
  | [], vs, m, i, d, r, h => by
    exfalso
    rw [List.map_nil, List.nil_append] at h
    clear r
    induction m generalizing i with
    | zero => simp [getE] at h
    | succ m ih =>
      cases i with
      | zero => simp [List.replicate_succ, getE] at h
      | succ i => rw [List.replicate_succ] at h; exact ih (i := i) (by simpa [getE] using h)
  | e :: ds, vs, m, 0, d, r, h => by
    obtain ⟨v, w, rfl, r1, _⟩ := r.cons_inv
    have h' : some e = some d := h
    cases h'
    exact ⟨v, rfl, r1⟩
  | e :: ds, vs, m, i + 1, d, r, h => by
    obtain ⟨v, w, rfl, _, r2⟩ := r.cons_inv
    obtain ⟨u, h1, h2⟩ := getE_start (i := i) r2 (show getE (ds.map some ++ List.replicate m none) i = some d from h)
    exact ⟨u, by simpa using h1, h2⟩
structure Known (K : PySem.W.Frag) (mg : Str → Option Value) (T : Tab) (G : Gn) : Prop where
  blts : ∀ x ∈ bltN, mg x = none
  ef : ExFacts K mg G.ex T.hcls
  globs : ∀ x d, G.glob x = some d → ∃ u v, mg x = some u ∧ RelV v u ∧ ∀ H, Rep K H d v
  excs : ∀ c ∈ T.excs, ExcOk K mg c
structure DefOk (T : Tab) (d : Fd) (st : Stmt) : Prop where
  sc : FnScope d.N (d.N.take d.np) (defScope st)
  np : d.np ≤ d.N.length
  ok : okB T d.body ⟨d.N, defScope st, none⟩ (defBody st) = true
structure DefIn (K : PySem.W.Frag) (mg : Str → Option Value) (d : Fd) (st : Stmt) (f : Addr) (fd : FuncData) : Prop where
  g : mg d.name = some (.ref f)
  F : FunD K d.name d.name (defArgs st) (defBody st) (defScope st) [] [] f fd
  b : Binds K fd (d.N.take d.np) []
section
variable {P : Program} {w : World} {K : PySem.W.Frag} {mg : Str → Option Value} {base : Heap} {T : Tab} {G : Gn} {L : List Fd}
theorem levels (hw : w = Wd.w) (hT : ∀ p ∈ T.fns, ∃ d ∈ L, p = (d.name, d.np) ∧ L.find? (fun e => e.name == d.name) = some d) (Kn : Known K mg T G) (D : ∀ d ∈ L, ∃ st f fd, DefOk T d st ∧ DefIn K mg d st f fd) :
    ∀ (j : Nat) (d : Fd), d ∈ L → L.find? (fun e => e.name == d.name) = some d → ∃ st f fd, DefIn K mg d st f fd ∧ LtG.FnG P w K mg base (L2.CX P w) j f fd (d.N.take d.np) (spL K mg d.np (callL L G j d.name))
  | 0, d, hd, hf => by
    obtain ⟨st, f, fd, O, I⟩ := D d hd
    refine ⟨st, f, fd, I, ⟨fun vs H Q E h => ?_, fun A outer s H args us vs Q E _ _ _ _ _ h => ?_⟩⟩
    · obtain ⟨_, _, _, _, _, _, _, z, _⟩ := h
      exact z.elim
    · obtain ⟨_, _, _, _, _, _, _, z, _⟩ := h
      exact z.elim
  | j + 1, d, hd, hf => by
    have ih := levels hw hT Kn D j
    obtain ⟨st, f, fd, O, I⟩ := D d hd
    refine ⟨st, f, fd, I, LtG.fn_ofG I.F O.sc (fun vs H Q E h => ?_) fun cdv A outer s H vs Q E gd hr hsp => ?_⟩
    · obtain ⟨ds, h, R, Y, e, _, r, _⟩ := h
      rw [← r.length, e, List.length_take]
      exact (Nat.min_eq_left O.np).symm
    · obtain ⟨ds, h, R, Y, e, Sm, r, c, lk, lx⟩ := hsp
      have c' : (match L.find? (fun e => e.name == d.name) with
        | some d => ds.length = d.np ∧ wS ⟨callL L G j, G.glob, G.ex⟩ d.body (startE d.N.length ds) h (edOf d.gc h R Y)
        | none => False) := c
      rw [hf] at c'
      have OO : OkS ⟨callL L G j, G.glob, G.ex⟩ T (cxOf (L2.CX P w) P w K mg base d.N d.name (defScope st) f cdv A outer s H E) (fun cls d _ H => E cls d H) ⟨d.N, defScope st, none⟩ := by
        refine ⟨⟨hw, rfl, O.sc.nd, rfl, fun _ _ => rfl, rfl, ?_, gd, takes_of rfl rfl rfl rfl, fun p hp => ?_, Kn.blts, Kn.globs, Kn.excs⟩, passes_of rfl, O.sc.kind, rfl, rfl, Kn.ef⟩
        · have := hr.un
          show (A.deeper (envOfC d.name (defScope st) s.heap.objs.size f cdv)).units + 65 < cLine
          omega
        · obtain ⟨d2, hd2, rfl, hf2⟩ := hT p hp
          obtain ⟨st2, f2, fd2, I2, F2⟩ := ih d2 hd2 hf2
          refine ⟨f2, fd2, _, j, I2.g, I2.F.kp, I2.b, F2, hr, fun ds h R Y z => ?_⟩
          cases j with
          | zero => exact z.elim
          | succ j =>
            have z' : (match L.find? (fun e => e.name == d2.name) with
              | some d => ds.length = d.np ∧ wS ⟨callL L G j, G.glob, G.ex⟩ d.body (startE d.N.length ds) h (edOf d.gc h R Y)
              | none => False) := z
            rw [hf2] at z'
            exact z'.1
      refine ⟨_, sB _ OO _ _ O.ok, startE d.N.length ds, h, _, Sm, ⟨?_, fun i d' e' => ?_⟩, c'.2, ?_⟩
      · have e2 := r.length
        unfold startE L2.start
        simp [e2]
      · unfold startE at e'
        unfold L2.start
        rw [← r.length]
        exact getE_start r e'
      · unfold edOf
        split
        · exact ⟨fun σ' H' ρ' h' k S' _ q => lk _ _ _ _ k S'.gc (rep_non.2 rfl) q, fun v H' d' h' k S' r q => lk _ _ _ _ k S'.gc r q, fun c u σ' H' ρ' h' k S' _ m q => lx c u H' _ k S'.gc m q⟩
        · exact ⟨fun σ' H' ρ' h' k S' _ q => lk _ _ _ _ k S' (rep_non.2 rfl) q, lk, fun c u σ' H' ρ' h' k S' _ m q => lx c u H' h' k S' m q⟩
/-- from a def that lets nothing out -/
theorem closed {k : Nat} {f : Addr} {fd : FuncData} {ps : List Str} {sp : Sp} (F : LtG.FnG P w K mg base (L2.CX P w) k f fd ps sp) : LtG.FnG P w K mg base CX0 k f fd ps (fun vs H Q _ => sp vs H Q fun _ _ _ => False) := by
  refine ⟨fun vs H Q E h => F.len vs H Q _ h, fun A outer s H args us vs Q E gd hr he hb hv hs => codeAny_mono (F.run A outer s H args us vs Q _ gd hr he hb hv hs) fun r s' hq => ?_⟩
  cases r with
  | error e =>
    obtain ⟨_, _, _, _, _, _, _, _, _, _, _, _, z⟩ := hq
    exact z.elim
  | ok fl => cases fl <;> exact hq
end
end Lt

set_option maxHeartbeats 4000000
namespace Lt
open PySem PySem.Spec PyProof.Rows L2
/-! ### a Hook with one more Bool -/
structure SaysL (fa : List He.Fa) (fn : List He.DefD) (ex : PySem.W.Frag → Bool) (K : PySem.W.Frag) : Prop where
  s : He.SaysD fa fn K
  e : ex K = true
def obsLG (n : Nat) (fa : List He.Fa) (fn : List He.DefD) (ex : PySem.W.Frag → Bool) (g : Addr → Option Obj) : Bool × He.AlD := (ex (He.frG g (He.asD g n)), He.obsDG n fa fn g)
def hookL (n : Nat) (fa : List He.Fa) (fn : List He.DefD) (ex : PySem.W.Frag → Bool) : PySem.W.Hook where
  α := Bool × He.AlD
  obs := fun s => obsLG n fa fn ex s.heap.get?
  val := fun _ => (true, He.valD fn)
  says := fun _ h => ∃ K : PySem.W.Frag, K.In h ∧ SaysL fa fn ex K
  of := fun _ _ e => ⟨_, He.frG_in, ⟨congrArg Prod.snd e, congrArg Prod.fst e⟩⟩
  keeps := fun _ _ _ ⟨K, hK, c⟩ k => ⟨K, PySem.W.Frag.In.keeps hK k, c⟩
theorem obsLG_eq {n : Nat} {fa : List He.Fa} {fn : List He.DefD} {ex : PySem.W.Frag → Bool} {g : Addr → Option Obj} {s : Shared} (h : ∀ a, g a = s.heap.get? a) : obsLG n fa fn ex g = (hookL n fa fn ex).obs s := by
  have e : g = s.heap.get? := funext h
  rw [e] <;> rfl
variable [Wd]
section
variable {K : PySem.W.Frag} {h : Heap} {mg : Str → Option Value}
theorem excOk_of (X : K.In h) (G : h.Ns mainGlobals mg) {x : Str} (c : (He.Fa.exc x).ok K = true) (g : (He.Fa.glo x).ok K = true) : ExcOk K mg x := by
  obtain ⟨a, b, d, e⟩ := He.exc_ok c
  exact ⟨_, He.glo_ok X G g, a, b, d, e⟩
/-- values without objects -/
def flatV0 : D → Option V
  | .non => some .non
  | .bl b => some (.bl b)
  | .int i => some (.int i)
  | .str x => some (.str x)
  | _ => none
theorem flat0_rep {H : Hp} {d : D} {v : V} (e : flatV0 d = some v) : Rep K H d v := by
  cases d <;> cases e
  · exact rep_non.2 rfl
  · exact rep_bl.2 rfl
  · exact rep_int.2 rfl
  · exact rep_str.2 rfl
theorem reps_flat {H : Hp} : ∀ {ds : List D} {vs : List V}, ds.map flatV0 = vs.map some → Reps K H ds vs
  | [], [], _ => Reps.nil
  | [], _ :: _, e => by cases e
  | _ :: _, [], e => by cases e
  | d :: ds, v :: vs, e => by
    simp only [List.map_cons, List.cons.injEq] at e
    exact .cons (flat0_rep e.1) (reps_flat e.2)
theorem glob_tup (X : K.In h) (G : h.Ns mainGlobals mg) {x : Str} {dvs : List He.Dv} {ds : List D} (g : (He.Fa.glo x).ok K = true) (t : He.tupB K x dvs = true) (r : ds.map flatV0 = (dvs.map (He.Dv.v K)).map some) :
    ∃ u v, mg x = some u ∧ RelV v u ∧ ∀ H, Rep K H (.tup ds) v := by
  refine ⟨_, .ref (He.ga K x), He.glo_ok X G g, rfl, fun H => rep_tup.2 ⟨_, dvs.map (He.Dv.v K), rfl, ?_, reps_flat r⟩⟩
  rcases He.tupB_ok t (fun _ => none) with (z | ⟨_, z⟩) | z
  · cases z
  · cases z
  · exact .inr z
theorem glob_int (X : K.In h) (G : h.Ns mainGlobals mg) {x : Str} {i : Int} (c : (He.Fa.int x i).ok K = true) : ∃ u v, mg x = some u ∧ RelV v u ∧ ∀ H, Rep K H (.int i) v := by
  obtain ⟨t, e⟩ := He.int_ok X G c
  exact ⟨_, .int i, e, ⟨t, rfl⟩, fun _ => rep_int.2 rfl⟩
theorem glob_str (X : K.In h) (G : h.Ns mainGlobals mg) {x z : Str} (c : (He.Fa.str x z).ok K = true) : ∃ u v, mg x = some u ∧ RelV v u ∧ ∀ H, Rep K H (.str z) v := by
  obtain ⟨t, e⟩ := He.str_ok X G c
  exact ⟨_, .str z, e, ⟨t, rfl⟩, fun _ => rep_str.2 rfl⟩
theorem DefIn.uniq {d : Fd} {st st' : Stmt} {f f' : Addr} {fd fd' : FuncData} (a : DefIn K mg d st f fd) (b : DefIn K mg d st' f' fd') : f = f' ∧ fd = fd' := by
  have e := a.g.symm.trans b.g
  cases e
  obtain ⟨_, _, _, _, _, _, _, _, _, _, _, q, _⟩ := a.F.ex
  obtain ⟨_, _, _, _, _, _, _, _, _, _, _, q', _⟩ := b.F.ex
  rw [q] at q'
  cases q'
  exact ⟨rfl, rfl⟩
def excCB (K : PySem.W.Frag) (C : Addr) : Bool := (PySem.W.findIn K (.ref C) "__getattribute__" == some (some (.builtin "BaseException.__getattribute__"))) && (PySem.W.findIn K (.ref C) "__getattr__" == some none) && (PySem.W.subIn K (.ref C) (.type "BaseException") == some true) && PySem.W.hasDictIn K C &&
  (PySem.W.findIn K (.ref C) "__class__" == some (some (.builtin "object.__class__"))) && (PySem.W.specialIn K (.builtin "object.__class__") "__get__" == some (some (.builtin "getset_descriptor.__get__"))) && (PySem.W.takesIn K (.builtin "object.__class__") == some true) && (PySem.W.mroIn K C (.type "object") == some true)
theorem exc_of {C : Addr} (h : excCB K C = true) : ExcC K C := by
  unfold excCB at h
  simp only [Bool.and_eq_true] at h
  obtain ⟨⟨⟨⟨⟨⟨⟨h1, h2⟩, h3⟩, h4⟩, h5⟩, h6⟩, h7⟩, h8⟩ := h
  exact ⟨eq_of_beq h1, eq_of_beq h2, eq_of_beq h3, h4, eq_of_beq h5, eq_of_beq h6, eq_of_beq h7, eq_of_beq h8⟩
def clsU (K : PySem.W.Frag) (c : Str) : Value := if c = "ValueError" then .type "ValueError" else .ref (He.ga K c)
def exB (K : PySem.W.Frag) (E : Ex) (cls : List Str) : Bool := E.excs.all fun x => excCB K (He.ga K x) && cls.all fun c => (PySem.W.kitOne K (.ref (He.ga K x)) (clsU K c) == some (E.sub x c)) && (PySem.W.exmOne K (.ref (He.ga K x)) (clsU K c) == some (E.sub x c))
theorem exFacts_of {E : Ex} {cls : List Str} (h : exB K E cls = true) (g : ∀ x ∈ E.excs, mg x = some (.ref (He.ga K x))) (gc : ∀ c ∈ cls, (c ≠ "ValueError" ∧ mg c = some (.ref (He.ga K c))) ∨ (c = "ValueError" ∧ mg c = none)) : ExFacts K mg E cls where
  at' := fun c hc => by
    rcases gc c hc with ⟨_, h⟩ | ⟨rfl, h⟩
    · exact ⟨_, _, .own h⟩
    · exact ⟨_, _, .blt (n := "ValueError") h (by decide +kernel) (by decide)⟩
  rs := fun x hx => by
    have q := List.all_eq_true.1 h x hx
    rw [Bool.and_eq_true] at q
    refine ⟨_, g x hx, exc_of q.1, fun c hc v u k => ?_⟩
    have q2 := List.all_eq_true.1 q.2 c hc
    rw [Bool.and_eq_true] at q2
    have eu : clsU K c = u := by
      unfold clsU
      rcases gc c hc with ⟨h1, h2⟩ | ⟨rfl, h2⟩
      · rw [if_neg h1]
        cases k with
        | own h => rw [h2] at h; cases h; rfl
        | blt h b n => rw [h2] at h; cases h
      · rw [if_pos rfl]
        cases k with
        | own h => rw [h2] at h; cases h
        | blt h b n =>
          have : bootBuiltins "ValueError" = some (.type "ValueError") := by decide +kernel
          rw [this] at b; cases b; rfl
    rw [eu] at q2
    exact ⟨eq_of_beq q2.1, eq_of_beq q2.2⟩
theorem reps_ints {H : Hp} : ∀ ns : List Int, Reps K H (ns.map D.int) (ns.map V.int)
  | [] => Reps.nil
  | n :: ns => .cons (rep_int.2 rfl) (reps_ints ns)
theorem law_end {P : Program} {w : World} {T : Tab} {G : Gn} {L : List Fd} {d : Fd} {J : Nat} {f : Addr} {fd : FuncData} {st : Stmt} {x : Str} (hw : w = Wd.w) (hT : ∀ p ∈ T.fns, ∃ d ∈ L, p = (d.name, d.np) ∧ L.find? (fun e => e.name == d.name) = some d) (Kn : Known K mg T G)
    (DD : ∀ d ∈ L, ∃ st f fd, DefOk T d st ∧ DefIn K mg d st f fd) (hd : d ∈ L) (hf : L.find? (fun e => e.name == d.name) = some d) (hn : d.np = 1) (I : DefIn K mg d st f fd) (hx : d.N.take d.np = [x])
    (LAW : ∀ ns : List Int, ns.length ≤ 63 → callL L G J d.name [.lst (ns.map D.int)] emp (fun d _ => d = .bl true) fun _ _ => False) :
    ∃ sp : Sp, (∀ (H : Hp) (a : Addr) (ns : List Int), ns.length ≤ 63 → Only H → SqL K H a (ns.map V.int) → sp [.ref a] H (fun v _ => v = .bl true) fun _ _ _ => False) ∧
      ∀ base : Heap, K.In base → base.Ns mainGlobals mg → LtG.FnG P w K mg base CX0 J f fd [x] sp := by
  refine ⟨fun vs H Q _ => spL K mg d.np (callL L G J d.name) vs H Q fun _ _ _ => False, fun H a ns hl hO hS => ?_, fun base _ _ => ?_⟩
  · refine ⟨[.lst (ns.map D.int)], emp, fun d _ => d = .bl true, fun _ _ => False, hn.symm, (fun _ _ e => nomatch e), Reps.cons (rep_lst.2 ⟨a, ns.map V.int, rfl, ?_, reps_ints ns⟩) Reps.nil, LAW ns hl, fun v H' d' h' _ _ r q => ?_, fun _ _ _ _ _ _ _ z => z⟩
    · rcases hS with (z | z) | z
      · rcases hO a with q | ⟨o, xs, q⟩
        · rw [q] at z; cases z
        · rw [q] at z; cases z
      · exact .inl z
      · exact .inr z
    · have q' : d' = .bl true := q
      subst q'
      exact rep_bl.1 r
  · obtain ⟨st', f', fd', I', F⟩   := levels (P := P) (w := w) (base := base) hw hT Kn DD J d hd hf
    obtain ⟨rfl, rfl⟩ := I.uniq I'
    have q := closed F
    rw [hx] at q
    exact q
end
end Lt

set_option maxHeartbeats 4000000
namespace Lt
open PySem PySem.Spec PyProof.Rows L2

/-! ### sizes -/
/-- below 2 ^ n -/
def B (n : Nat) (i : Int) : Prop := i.natAbs < 2 ^ n
instance {n : Nat} {i : Int} : Decidable (B n i) := inferInstanceAs (Decidable (i.natAbs < 2 ^ n))
theorem B.mono {m n : Nat} {i : Int} (h : B m i) (l : m ≤ n) : B n i := Nat.lt_of_lt_of_le h (Nat.pow_le_pow_right (by decide) l)
theorem B.neg {n : Nat} {i : Int} (h : B n i) : B n (-i) := by unfold B at *; omega
theorem B.mul {m n : Nat} {i j : Int} (h : B m i) (k : B n j) : B (m + n) (i * j) := L2.wide_lt h k
theorem B.add {m n : Nat} {i j : Int} (h : B m i) (k : B n j) : B (max m n + 1) (i + j) := by
  have h1 := h.mono (Nat.le_max_left m n)
  have h2 := k.mono (Nat.le_max_right m n)
  unfold B at *
  rw [Nat.pow_succ]; omega
theorem B.sub {m n : Nat} {i j : Int} (h : B m i) (k : B n j) : B (max m n + 1) (i - j) := by
  rw [Int.sub_eq_add_neg]; exact h.add k.neg
theorem B.ofle {n : Nat} {i j : Int} (h : B n j) (l : i.natAbs ≤ j.natAbs) : B n i := Nat.lt_of_le_of_lt l h
theorem B.mulOk {m n : Nat} {i j : Int} (h : B m i) (k : B n j) (l : m + n ≤ 900000) : IntMulOk i j :=
  (L2.wide_mul (a := m + 1) (b := n + 1) (Nat.lt_of_lt_of_le h (Nat.pow_le_pow_right (by decide) (by omega))) (Nat.lt_of_lt_of_le k (Nat.pow_le_pow_right (by decide) (by omega))) (by omega) (by omega) (by omega)).ok
theorem mulOk_r {i j : Int} (h : B 64 j) : IntMulOk i j := IntMulOk.of_right (intBits_le h)
theorem mulOk_l {i j : Int} (h : B 64 i) : IntMulOk i j := IntMulOk.of_left (intBits_le h)
theorem B.noPy {i j : Int} (h : B 9000 j) : Builtin.divisionGoesByPylong i j = false := PyProof.noPylong_of_log2 (Nat.lt_of_lt_of_le (PySem.Flt.log2_lt_of (by decide) h) (Nat.le_refl _))
theorem cpow {i : Int} {k : Nat} (h : B 64 i) (l : k ≤ 1000000) : CPow i k := ⟨by omega, by omega, h⟩

/-! ### positions -/
theorem atI_0 {α : Type} {x : α} {r : List α} : atI (x :: r) 0 = some x := by simp [atI, ixN]
theorem atI_1 {α : Type} {x y : α} {r : List α} : atI (x :: y :: r) 1 = some y := by
  have h : (1 : Int) < ((x :: y :: r).length : Nat) := by simp; omega
  simp only [atI, ixN]
  rw [if_pos (by decide), if_pos h]; rfl
theorem atI_2 {α : Type} {x y z : α} {r : List α} : atI (x :: y :: z :: r) 2 = some z := by
  have h : (2 : Int) < ((x :: y :: z :: r).length : Nat) := by simp; omega
  simp only [atI, ixN]
  rw [if_pos (by decide), if_pos h]; rfl
theorem atI_N {α : Type} {xs : List α} {i : Nat} : atI xs (i : Int) = xs[i]? := by
  unfold atI ixN
  rw [if_pos (by omega)]
  by_cases h : i < xs.length
  · rw [if_pos (by omega)]; simp
  · rw [if_neg (by omega)]; simp [List.getElem?_eq_none (by omega : xs.length ≤ i)]
theorem atI_map {α β : Type} {xs : List α} {f : α → β} {i : Int} : atI (xs.map f) i = (atI xs i).map f := by
  unfold atI
  rw [List.length_map]
  cases ixN xs.length i with
  | none => rfl
  | some j => simp
theorem atI_of {α : Type} {xs : List α} {i : Int} (h0 : 0 ≤ i) (h1 : i < xs.length) : atI xs i = xs[i.toNat]? := by
  have e : i = (i.toNat : Int) := (Int.toNat_of_nonneg h0).symm
  have q := atI_N (xs := xs) (i := i.toNat)
  rw [← e] at q; exact q

/-! ### data compared -/
mutual
def toP : D → Option PyData
  | .non => some .none
  | .bl b => some (.bool b)
  | .int i => some (.int i)
  | .str x => some (.str x)
  | .tup xs => (toPs xs).map .tuple
  | .lst xs => (toPs xs).map .list
  | .ref _ => none
  | .dct _ _ => none
def toPs : List D → Option (List PyData)
  | [] => some []
  | x :: r => (toP x).bind fun a => (toPs r).map fun b => a :: b
end
mutual
theorem toP_isP {h : Hh} : ∀ {x : D} {d : PyData}, toP x = some d → IsP h x d
  | .non, d, e => by simp only [toP, Option.some.injEq] at e; subst e; rw [IsP]
  | .bl b, d, e => by simp only [toP, Option.some.injEq] at e; subst e; rw [IsP]
  | .int b, d, e => by simp only [toP, Option.some.injEq] at e; subst e; rw [IsP]
  | .str b, d, e => by simp only [toP, Option.some.injEq] at e; subst e; rw [IsP]
  | .tup xs, d, e => by
    simp only [toP, Option.map_eq_some_iff] at e
    obtain ⟨ds, e1, rfl⟩ := e
    rw [IsP]; exact ⟨xs, rfl, toPs_isPs e1⟩
  | .lst xs, d, e => by
    simp only [toP, Option.map_eq_some_iff] at e
    obtain ⟨ds, e1, rfl⟩ := e
    rw [IsP]; exact ⟨xs, rfl, toPs_isPs e1⟩
  | .ref _, d, e => by simp only [toP] at e; cases e
theorem toPs_isPs {h : Hh} : ∀ {xs : List D} {ds : List PyData}, toPs xs = some ds → IsPs h xs ds
  | [], ds, e => by simp only [toPs, Option.some.injEq] at e; subst e; rw [IsPs]
  | x :: r, ds, e => by
    simp only [toPs, Option.bind_eq_some_iff, Option.map_eq_some_iff] at e
    obtain ⟨a, e1, b, e2, rfl⟩ := e
    rw [IsPs]; exact ⟨x, r, rfl, toP_isP e1, toPs_isPs e2⟩
end
mutual
theorem isP_inj {h : Hh} : ∀ {d e : PyData} {x : D}, IsP h x d → IsP h x e → d = e
  | .none, e, x, p, q => by rw [IsP] at p; subst p; cases e <;> simp [IsP, lsD] at q <;> rfl
  | .bool b, e, x, p, q => by rw [IsP] at p; subst p; cases e <;> simp [IsP, lsD] at q <;> simp [q]
  | .int b, e, x, p, q => by rw [IsP] at p; subst p; cases e <;> simp [IsP, lsD] at q <;> simp [q]
  | .str b, e, x, p, q => by rw [IsP] at p; subst p; cases e <;> simp [IsP, lsD] at q <;> simp [q]
  | .tuple ds, e, x, p, q => by
    rw [IsP] at p; obtain ⟨xs, rfl, p⟩ := p
    cases e with
    | tuple es => rw [IsP] at q; obtain ⟨ys, e, q⟩ := q; cases e; rw [isPs_inj p q]
    | _ => simp [IsP, lsD] at q
  | .list ds, e, x, p, q => by
    rw [IsP] at p; obtain ⟨xs, e1, p⟩ := p
    cases e with
    | list es => rw [IsP] at q; obtain ⟨ys, e, q⟩ := q; rw [e1] at e; cases e; rw [isPs_inj p q]
    | none => rw [IsP] at q; subst q; cases e1
    | bool _ => rw [IsP] at q; subst q; cases e1
    | int _ => rw [IsP] at q; subst q; cases e1
    | str _ => rw [IsP] at q; subst q; cases e1
    | tuple _ => rw [IsP] at q; obtain ⟨ys, rfl, q⟩ := q; cases e1
    | dict _ => rw [IsP] at q; exact q.elim
  | .dict _, e, x, p, q => by rw [IsP] at p; exact p.elim
theorem isPs_inj {h : Hh} : ∀ {ds es : List PyData} {xs : List D}, IsPs h xs ds → IsPs h xs es → ds = es
  | [], es, xs, p, q => by
    rw [IsPs] at p; subst p
    cases es with
    | nil => rfl
    | cons e es => rw [IsPs] at q; obtain ⟨_, _, e, _⟩ := q; cases e
  | d :: ds, es, xs, p, q => by
    rw [IsPs] at p; obtain ⟨x, r, rfl, p1, p2⟩ := p
    cases es with
    | nil => rw [IsPs] at q; cases q
    | cons e es =>
      rw [IsPs] at q; obtain ⟨y, s, z, q1, q2⟩ := q
      cases z
      rw [isP_inj p1 q1, isPs_inj p2 q2]
end
theorem isP_nodct {h : Hh} {x : D} {d : PyData} (p : IsP h x d) : rdN h x = none := by
  cases d with
  | list ds =>
    unfold IsP at p
    obtain ⟨xs, e, _⟩ := p
    cases x with
    | ref a =>
      have e : rdL h a = some xs := e
      show wrN h a = none
      unfold rdL at e; unfold wrN
      cases q : h a with
      | none => rfl
      | some o =>
        rw [q] at e
        cases o with
        | lst _ => rfl
        | rol _ => rfl
        | dN _ => cases e
    | lst _ => rfl
    | _ => cases e
  | tuple ds => unfold IsP at p; obtain ⟨xs, rfl, _⟩ := p; rfl
  | none => unfold IsP at p; subst p; rfl
  | bool _ => unfold IsP at p; subst p; rfl
  | int _ => unfold IsP at p; subst p; rfl
  | str _ => unfold IsP at p; subst p; rfl
  | dict _ => unfold IsP at p; exact p.elim
theorem eqW_P {x y : D} {h : Hh} {K : Bool → Prop} {d e : PyData} (p : IsP h x d) (q : IsP h y e) (s1 : SeqAt.shaped d = true) (s2 : SeqAt.shaped e = true) : eqW x y h K = K (PyData.eqv d e) := by
  apply propext
  constructor
  · rintro (⟨d', e', p', q', _, _, k⟩ | ⟨kx, e1, _⟩)
    · rw [isP_inj p p', isP_inj q q']; exact k
    · rw [isP_nodct p] at e1; cases e1
  · intro k; exact .inl ⟨d, e, p, q, s1, s2, k⟩
theorem eqW_dct {ks : List NestedKey} {vs : List D} {h : Hh} {K : Bool → Prop} : eqW (.dct ks vs) (.dct [] []) h K = K (ks.zip vs).isEmpty := by
  apply propext
  constructor
  · rintro (⟨d', e', p', _⟩ | ⟨kx, e1, _, k⟩)
    · have := isP_nodct p'; cases this
    · cases e1; exact k
  · intro k; exact .inr ⟨_, rfl, rfl, k⟩
theorem eqW_dctR {a : Addr} {kvs : List (NestedKey × D)} {h : Hh} {K : Bool → Prop} (w : wrN h a = some kvs) : eqW (.ref a) (.dct [] []) h K = K kvs.isEmpty := by
  apply propext
  constructor
  · rintro (⟨d', e', p', _⟩ | ⟨kx, e1, _, k⟩)
    · have := isP_nodct p'
      rw [show rdN h (.ref a) = wrN h a from rfl, w] at this; cases this
    · rw [show rdN h (.ref a) = wrN h a from rfl, w] at e1; cases e1; exact k
  · intro k; exact .inr ⟨_, w, rfl, k⟩

/-! ### types whose values are data -/
class Py (α : Type) where
  d : α → D
  p : α → PyData
  ok : ∀ a, toP (d a) = some (p a)
  eq : ∀ a b, PyData.eqv (p a) (p b) = true ↔ a = b
  lay : ∀ a, (p a).canLay0 = true
  n : Nat
  dep : ∀ a, (p a).depth ≤ n
instance : Py Int where
  d := .int
  p := .int
  ok := fun _ => by rw [toP]
  eq := fun a b => by simp [PyData.eqv]
  lay := fun _ => by simp [PyData.canLay0]
  n := 0
  dep := fun _ => by simp [PyData.depth]
instance : Py Bool where
  d := .bl
  p := .bool
  ok := fun _ => by rw [toP]
  eq := fun a b => by simp [PyData.eqv]
  lay := fun _ => by simp [PyData.canLay0]
  n := 0
  dep := fun _ => by simp [PyData.depth]
theorem toPs_py {α : Type} [Py α] : ∀ xs : List α, toPs (xs.map Py.d) = some (xs.map Py.p)
  | [] => by simp [toPs]
  | x :: r => by simp [toPs, Py.ok, toPs_py r]
theorem eqv_py {α : Type} [Py α] : ∀ xs ys : List α, PyData.eqvAll (xs.map Py.p) (ys.map Py.p) = true ↔ xs = ys
  | [], [] => by simp [PyData.eqvAll]
  | [], _ :: _ => by simp [PyData.eqvAll]
  | _ :: _, [] => by simp [PyData.eqvAll]
  | x :: r, y :: s => by simp [PyData.eqvAll, Py.eq, eqv_py r s]
theorem lay_py {α : Type} [Py α] : ∀ xs : List α, PyData.canLayAll0 (xs.map Py.p) = true
  | [] => by simp [PyData.canLayAll0]
  | x :: r => by simp [PyData.canLayAll0, Py.lay, lay_py r]
theorem dep_py {α : Type} [Py α] : ∀ xs : List α, PyData.depthAll (xs.map Py.p) ≤ Py.n α
  | [] => by simp [PyData.depthAll]
  | x :: r => by simp only [List.map_cons, PyData.depthAll]; have := Py.dep x; have := dep_py r; omega
instance {α : Type} [Py α] : Py (List α) where
  d := fun xs => .lst (xs.map Py.d)
  p := fun xs => .list (xs.map Py.p)
  ok := fun xs => by rw [toP, toPs_py]; rfl
  eq := fun a b => by rw [PyData.eqv]; exact eqv_py a b
  lay := fun xs => by rw [PyData.canLay0]; exact lay_py xs
  n := Py.n α + 1
  dep := fun xs => by rw [PyData.depth]; have := dep_py xs; omega
/-- a tuple of things of one kind -/
structure Tu (α : Type) where
  l : List α
instance {α : Type} [Py α] : Py (Tu α) where
  d := fun xs => .tup (xs.l.map Py.d)
  p := fun xs => .tuple (xs.l.map Py.p)
  ok := fun xs => by rw [toP, toPs_py]; rfl
  eq := fun a b => by
    rw [PyData.eqv]
    have := eqv_py a.l b.l
    cases a; cases b; simp only [Tu.mk.injEq]; exact this
  lay := fun xs => by rw [PyData.canLay0]; exact lay_py xs.l
  n := Py.n α + 1
  dep := fun xs => by rw [PyData.depth]; have := dep_py xs.l; omega
instance {α β : Type} [Py α] [Py β] : Py (α × β) where
  d := fun x => .tup [Py.d x.1, Py.d x.2]
  p := fun x => .tuple [Py.p x.1, Py.p x.2]
  ok := fun x => by simp [toP, toPs, Py.ok]
  eq := fun a b => by
    simp [PyData.eqv, PyData.eqvAll, Py.eq, Prod.ext_iff]
  lay := fun x => by simp [PyData.canLay0, PyData.canLayAll0, Py.lay]
  n := max (Py.n α) (Py.n β) + 1
  dep := fun x => by
    simp only [PyData.depth, PyData.depthAll]
    have := Py.dep x.1; have := Py.dep x.2; omega
theorem eqW_py {α : Type} [Py α] [DecidableEq α] (hn : Py.n α ≤ 64) {a b : α} {h : Hh} {K : Bool → Prop} : eqW (Py.d a) (Py.d b) h K = K (decide (a = b)) := by
  have sh : ∀ x : α, SeqAt.shaped (Py.p x) = true := fun x => by
    unfold SeqAt.shaped
    rw [Py.lay, Bool.true_and]
    have := Py.dep x
    simp; omega
  rw [eqW_P (toP_isP (Py.ok a)) (toP_isP (Py.ok b)) (sh a) (sh b)]
  congr 1
  by_cases e : a = b
  · rw [(Py.eq a b).2 e, decide_eq_true e]
  · rw [decide_eq_false e]
    cases q : PyData.eqv (Py.p a) (Py.p b) with
    | true => exact absurd ((Py.eq a b).1 q) e
    | false => rfl

/-! ### loops that are known to the step -/
section
variable {σ α : Type} {t : Tg} {b : En → Hh → Ed → Prop} {K : Ed} {h : Hh}
theorem fr_det (st : σ → En) (f : α → D) (P : List α → σ → Prop) (F : List α → σ → Prop) (nil : ∀ s, P [] s → K.nx (st s) h = F [] s)
    (cons : ∀ a as s, P (a :: as) s → (∃ s', P as s' ∧ F as s' = F (a :: as) s ∧ ∀ W : En → Hh → Prop, (tgW t (f a) (st s) fun ρ1 => b ρ1 h { K with nx := W }) = W (st s') h) ∨
      ∀ W : En → Hh → Prop, (tgW t (f a) (st s) fun ρ1 => b ρ1 h { K with nx := W }) = F (a :: as) s) :
    ∀ (xs : List α) (s : σ), P xs s → frL t b K (xs.map f) (st s) h = F xs s
  | [], s, p => nil s p
  | a :: as, s, p => by
    rw [List.map_cons]
    unfold frL
    rcases cons a as s p with ⟨s', p', e, q⟩ | q
    · rw [q, fr_det st f P F nil cons as s' p', e]
    · exact q _
/-- the same, of the heap too -/
theorem fr_detH (st : σ → En) (hp : σ → Hh) (f : α → D) (P : List α → σ → Prop) (F : List α → σ → Prop) (nil : ∀ s, P [] s → K.nx (st s) (hp s) = F [] s)
    (cons : ∀ a as s, P (a :: as) s → (∃ s', P as s' ∧ F as s' = F (a :: as) s ∧ ∀ W : En → Hh → Prop, (tgW t (f a) (st s) fun ρ1 => b ρ1 (hp s) { K with nx := W }) = W (st s') (hp s')) ∨
      ∀ W : En → Hh → Prop, (tgW t (f a) (st s) fun ρ1 => b ρ1 (hp s) { K with nx := W }) = F (a :: as) s) :
    ∀ (xs : List α) (s : σ), P xs s → frL t b K (xs.map f) (st s) (hp s) = F xs s
  | [], s, p => nil s p
  | a :: as, s, p => by
    rw [List.map_cons]
    unfold frL
    rcases cons a as s p with ⟨s', p', e, q⟩ | q
    · rw [q, fr_detH st hp f P F nil cons as s' p', e]
    · exact q _
theorem wh_det {c : En → Hh → QD → XD → Prop} (st : σ → En) (P : σ → Prop) (F : σ → Prop) (m : σ → Nat)
    (step : ∀ s, P s → (∃ s', P s' ∧ m s' < m s ∧ F s' = F s ∧ ∀ W : En → Hh → Prop, c (st s) h (fun d h1 => blW d fun d => if d = true then b (st s) h1 { K with nx := W } else K.nx (st s) h1) (fun x h1 => K.ex x (st s) h1) = W (st s') h) ∨
      ∀ W : En → Hh → Prop, c (st s) h (fun d h1 => blW d fun d => if d = true then b (st s) h1 { K with nx := W } else K.nx (st s) h1) (fun x h1 => K.ex x (st s) h1) = F s) (s : σ) (p : P s) : whI c b K (st s) h = F s := by
  unfold whI
  apply propext
  constructor
  · rintro ⟨n, w⟩
    induction n generalizing s with
    | zero => exact w.elim
    | succ n ih =>
      have w' : c (st s) h (fun d h1 => blW d fun d => if d = true then b (st s) h1 { K with nx := whW (fun ρ h Q => c ρ h Q fun c h1 => K.ex c ρ h1) b K n } else K.nx (st s) h1) (fun x h1 => K.ex x (st s) h1) := w
      rcases step s p with ⟨s', p', _, e, q⟩ | q
      · rw [q] at w'; rw [← e]; exact ih s' p' w'
      · rw [q] at w'; exact w'
  · intro f
    have gen : ∀ n s, m s < n → P s → F s → whW (fun ρ h Q => c ρ h Q fun c h1 => K.ex c ρ h1) b K n (st s) h := by
      intro n
      induction n with
      | zero => intro s l; exact absurd l (Nat.not_lt_zero _)
      | succ n ih =>
        intro s l p f
        show c (st s) h (fun d h1 => blW d fun d => if d = true then b (st s) h1 { K with nx := whW (fun ρ h Q => c ρ h Q fun c h1 => K.ex c ρ h1) b K n } else K.nx (st s) h1) (fun x h1 => K.ex x (st s) h1)
        rcases step s p with ⟨s', p', l', e, q⟩ | q
        · rw [q]; exact ih s' (by omega) p' (by rw [e]; exact f)
        · rw [q]; exact f
    exact ⟨_, gen _ s (Nat.lt_succ_self _) p f⟩
/-- a comprehension whose items are known -/
theorem lc_det {c e : En → Hh → QD → Prop} {p : Addr} {ρ : En} {K : Hh → Prop} (f : α → D) (P : α → Prop) (g : α → Option D) (hp : h p = none)
    (step : ∀ a, P a → ∀ (h' : Hh) (N : Hh → Prop) (Y : D → Hh → Prop), (tgW t (f a) ρ fun ρ1 => c ρ1 h' fun b h1 => blW b fun b => if b = true then e ρ1 h1 Y else N h1) = match g a with
      | some y => Y y h'
      | none => N h') :
    ∀ (xs : List α) (acc : List D), (∀ a ∈ xs, P a) → acc.length + xs.length ≤ sizeLine → lcL t c e p ρ K (xs.map f) (up h p (.lst acc)) = K (up h p (.lst (acc ++ xs.filterMap g)))
  | [], acc, _, _ => by simp [lcL]
  | a :: as, acc, hP, hl => by
    rw [List.map_cons]
    unfold lcL
    rw [step a (hP a (by simp))]
    rw [List.length_cons] at hl
    cases q : g a with
    | none =>
      simp only
      rw [lc_det f P g hp step as acc (fun b hb => hP b (by simp [hb])) (by omega), List.filterMap_cons_none q]
    | some y =>
      simp only
      have e : wrL (up h p (.lst acc)) p = some acc := by unfold wrL; rw [up_same]
      rw [e, optW_some, up_up, lc_det f P g hp step as (acc ++ [y]) (fun b hb => hP b (by simp [hb])) (by rw [List.length_append, List.length_singleton]; omega), List.filterMap_cons_some q]
      have e2 : acc.length < sizeLine := by omega
      simp [e2]
theorem wrL_up {p : Addr} {xs : List D} : wrL (up h p (.lst xs)) p = some xs := by unfold wrL; rw [up_same]
theorem rdL_up {p : Addr} {xs : List D} : rdL (up h p (.lst xs)) p = some xs := by unfold rdL; rw [up_same]
theorem wrN_upD {p : Addr} {kvs : List (NestedKey × D)} : wrN (up h p (.dN kvs)) p = some kvs := by unfold wrN; rw [up_same]
theorem rdL_upD {p : Addr} {kvs : List (NestedKey × D)} : rdL (up h p (.dN kvs)) p = none := by unfold rdL; rw [up_same]
theorem wrL_upD {p : Addr} {kvs : List (NestedKey × D)} : wrL (up h p (.dN kvs)) p = none := by unfold wrL; rw [up_same]
theorem wrN_upL {p : Addr} {xs : List D} : wrN (up h p (.lst xs)) p = none := by unfold wrN; rw [up_same]
theorem frz_dct {Q : QD} {ks : List NestedKey} {b : List D} : frzW (.dct ks b) h Q = Q (.dct ks b) h := rfl
theorem frz_upN {Q : QD} {p : Addr} {kvs : List (NestedKey × D)} : frzW (.ref p) (up h p (.dN kvs)) Q = Q (.dct (kvs.map (·.1)) (kvs.map (·.2))) (era (up h p (.dN kvs)) p) := by
  simp only [frzW, wrL_upD, wrN_upD, sel_none, optW_some]
theorem frz_non {Q : QD} : frzW .non h Q = Q .non h := rfl
theorem frz_bl {Q : QD} {b : Bool} : frzW (.bl b) h Q = Q (.bl b) h := rfl
theorem frz_int {Q : QD} {b : Int} : frzW (.int b) h Q = Q (.int b) h := rfl
theorem frz_str {Q : QD} {b : Str} : frzW (.str b) h Q = Q (.str b) h := rfl
theorem frz_tup {Q : QD} {b : List D} : frzW (.tup b) h Q = Q (.tup b) h := rfl
theorem frz_lst {Q : QD} {b : List D} : frzW (.lst b) h Q = Q (.lst b) h := rfl
theorem frz_up {Q : QD} {p : Addr} {xs : List D} : frzW (.ref p) (up h p (.lst xs)) Q = Q (.lst xs) (era (up h p (.lst xs)) p) := by
  simp only [frzW, wrL_up, sel_some]
/-- a new list at once a value -/
theorem all_free {p : Prop} : (∀ a, h a = none → p) = p := propext ⟨fun w => let ⟨a, e⟩ := h.free; w a e, fun w _ _ => w⟩
theorem frz_at {Q : QD} {p : Addr} {xs : List D} (hp : h p = none) : frzW (.ref p) (up h p (.lst xs)) Q = Q (.lst xs) h := by rw [frz_up, era_up hp]
theorem all_eq {A : Prop} {F : Addr → Prop} (e : ∀ p, h p = none → F p = A) : (∀ p, h p = none → F p) = A :=
  propext ⟨fun w => let ⟨p, hp⟩ := h.free; (e p hp).mp (w p hp), fun w p hp => (e p hp).mpr w⟩
theorem new_frz {R : D → Hh → Prop} {xs : List D} : (∀ p, h p = none → frzW (.ref p) (up h p (.lst xs)) R) = R (.lst xs) h :=
  propext ⟨fun w => by
    obtain ⟨p, e⟩ := h.free
    have := w p e
    simp only [frzW, wrL_up, sel_some, era_up e] at this
    exact this, fun w p e => by simp only [frzW, wrL_up, sel_some, era_up e]; exact w⟩
theorem new_frzN {R : D → Hh → Prop} {kvs : List (NestedKey × D)} : (∀ p, h p = none → frzW (.ref p) (up h p (.dN kvs)) R) = R (.dct (kvs.map (·.1)) (kvs.map (·.2))) h :=
  propext ⟨fun w => by
    obtain ⟨p, e⟩ := h.free
    have := w p e
    rw [frz_upN, era_up e] at this
    exact this, fun w p e => by rw [frz_upN, era_up e]; exact w⟩
theorem lc_all {c e : En → Hh → QD → Prop} {ρ : En} {R : Addr → Hh → Prop} (f : α → D) (P : α → Prop) (g : α → Option D)
    (step : ∀ a, P a → ∀ (h' : Hh) (N : Hh → Prop) (Y : D → Hh → Prop), (tgW t (f a) ρ fun ρ1 => c ρ1 h' fun b h1 => blW b fun b => if b = true then e ρ1 h1 Y else N h1) = match g a with
      | some y => Y y h'
      | none => N h') (xs : List α) (hP : ∀ a ∈ xs, P a) (hl : xs.length ≤ sizeLine) :
    (∀ p, h p = none → lcI (.seq (xs.map f)) t c e p ρ (R p) (up h p (.lst []))) = ∀ p, h p = none → R p (up h p (.lst (xs.filterMap g))) := by
  apply propext
  have q := fun p (hp : h p = none) => lc_det (K := R p) f P g hp step xs [] hP (by simpa using hl)
  constructor
  · intro w p hp
    have w' := w p hp
    simp only [lcI] at w'
    rw [q p hp] at w'; simpa using w'
  · intro w p hp
    simp only [lcI]
    rw [q p hp]; simpa using w p hp
/-- without a condition -/
theorem lc_map {e : En → Hh → QD → Prop} {ρ : En} {R : Addr → Hh → Prop} (f : α → D) (P : α → Prop) (g : α → D)
    (step : ∀ a, P a → ∀ (h' : Hh) (Y : D → Hh → Prop), (tgW t (f a) ρ fun ρ1 => e ρ1 h' Y) = Y (g a) h') (xs : List α) (hP : ∀ a ∈ xs, P a) (hl : xs.length ≤ sizeLine) :
    (∀ p, h p = none → lcI (.seq (xs.map f)) t (fun _ h Q => Q (.bl true) h) e p ρ (R p) (up h p (.lst []))) = ∀ p, h p = none → R p (up h p (.lst (xs.map g))) := by
  rw [lc_all f P (fun a => some (g a)) (fun a pa h' N Y => ?_) xs hP hl]
  · rw [List.filterMap_eq_map']
  · have := step a pa h' Y
    simp only [blW, if_true]
    exact this
end

/-! ### fractions -/
abbrev Fr := Int × Int
abbrev frD (q : Fr) : D := .tup [.int q.1, .int q.2]
/-- top and bottom, each by their greatest common divisor -/
@[irreducible] def mk (t b : Int) : Fr := (t / (Int.gcd t b : Int), b / (Int.gcd t b : Int))
@[irreducible] def plusF (a b : Fr) : Fr := mk (a.1 * b.2 + b.1 * a.2) (a.2 * b.2)
@[irreducible] def minusF (a b : Fr) : Fr := mk (a.1 * b.2 - b.1 * a.2) (a.2 * b.2)
@[irreducible] def timesF (a b : Fr) : Fr := mk (a.1 * b.1) (a.2 * b.2)
structure Sz (n m : Nat) (q : Fr) : Prop where
  top : B n q.1
  pos : 0 < q.2
  bot : B m q.2
theorem Sz.mono {n m n' m' : Nat} {q : Fr} (h : Sz n m q) (l1 : n ≤ n') (l2 : m ≤ m') : Sz n' m' q := ⟨h.top.mono l1, h.pos, h.bot.mono l2⟩
theorem gcd_pos {t b : Int} (hb : 0 < b) : 0 < (Int.gcd t b : Int) := by
  have := Int.gcd_pos_of_ne_zero_right t (show b ≠ 0 by omega); omega
theorem B.div {n : Nat} {x g : Int} (h : B n x) : B n (x / g) := h.ofle (Int.natAbs_ediv_le_natAbs x g)
theorem B.gcd {m : Nat} {t b : Int} (hb : 0 < b) (h : B m b) : B m (Int.gcd t b : Int) := h.ofle (by
  have e : (Int.gcd t b) ∣ b.natAbs := Nat.gcd_dvd_right _ _
  have := Nat.le_of_dvd (by omega) e
  simpa using this)
theorem mk_sz {n m : Nat} {t b : Int} (ht : B n t) (hb : 0 < b) (h : B m b) : Sz n m (mk t b) := by
  rw [mk]
  refine ⟨ht.div, ?_, h.div⟩
  have hd : (Int.gcd t b : Int) ∣ b := Int.gcd_dvd_right _ _
  exact Int.ediv_pos_of_pos_of_dvd hb (Int.le_of_lt (gcd_pos hb)) hd
theorem plus_sz {n m k l : Nat} {a b : Fr} (ha : Sz n m a) (hb : Sz k l b) : Sz (max (n + l) (k + m) + 1) (m + l) (plusF a b) := by
  rw [plusF]
  exact mk_sz ((ha.top.mul hb.bot).add (hb.top.mul ha.bot)) (Int.mul_pos ha.pos hb.pos) (ha.bot.mul hb.bot)
theorem minus_sz {n m k l : Nat} {a b : Fr} (ha : Sz n m a) (hb : Sz k l b) : Sz (max (n + l) (k + m) + 1) (m + l) (minusF a b) := by
  rw [minusF]
  exact mk_sz ((ha.top.mul hb.bot).sub (hb.top.mul ha.bot)) (Int.mul_pos ha.pos hb.pos) (ha.bot.mul hb.bot)
theorem times_sz {n m k l : Nat} {a b : Fr} (ha : Sz n m a) (hb : Sz k l b) : Sz (n + k) (m + l) (timesF a b) := by
  rw [timesF]
  exact mk_sz (ha.top.mul hb.top) (Int.mul_pos ha.pos hb.pos) (ha.bot.mul hb.bot)
theorem abs_if (x : Int) : (if x < 0 then -x else x) = (x.natAbs : Int) := by split <;> omega
theorem fdiv_gcd {x t b : Int} (hb : 0 < b) : x.fdiv (Int.gcd t b) = x / (Int.gcd t b : Int) := Int.fdiv_eq_ediv_of_nonneg _ (by have := gcd_pos (t := t) hb; omega)
theorem fmod_pos {a b : Int} (hb : 0 ≤ b) : a.fmod b = a % b := Int.fmod_eq_emod_of_nonneg _ hb
theorem B.mod {n : Nat} {a b : Int} (h0 : 0 < b) (h : B n b) : B n (a % b) := h.ofle (by
  have := Int.emod_nonneg a (show b ≠ 0 by omega); have := Int.emod_lt_of_pos a h0; omega)

theorem eqW_bl {a b : Bool} {h : Hh} {K : Bool → Prop} : eqW (.bl a) (.bl b) h K = K (a == b) := by
  rw [show (a == b) = decide (a = b) from Bool.beq_eq_decide_eq a b]; exact eqW_py (α := Bool) (by decide)
theorem eqW_fr {a b : Fr} {h : Hh} {K : Bool → Prop} : eqW (frD a) (frD b) h K = K (decide (a = b)) := eqW_py (α := Fr) (by decide)
theorem eqW_frs {a b : List Fr} {h : Hh} {K : Bool → Prop} : eqW (.lst (a.map frD)) (.lst (b.map frD)) h K = K (decide (a = b)) := eqW_py (α := List Fr) (by decide)
theorem eqW_frss {a b : List (List Fr)} {h : Hh} {K : Bool → Prop} : eqW (.lst (a.map fun r => .lst (r.map frD))) (.lst (b.map fun r => .lst (r.map frD))) h K = K (decide (a = b)) := eqW_py (α := List (List Fr)) (by decide)

def sumF (qs : List Fr) : Fr := qs.foldl plusF (0, 1)
theorem sz_01 {n m : Nat} (hn : 1 ≤ n) (hm : 1 ≤ m) : Sz n m (0, 1) := Sz.mono (n := 1) (m := 1) ⟨by decide, by decide, by decide⟩ hn hm
theorem sum_step {n m i : Nat} {w q : Fr} (hq : Sz n m q) (hw : Sz (n + (m + 1) * i + 1) (m * i + 1) w) : Sz (n + (m + 1) * (i + 1) + 1) (m * (i + 1) + 1) (plusF w q) := by
  refine (plus_sz hw hq).mono ?_ ?_
  · have e : (m + 1) * (i + 1) = m * i + i + m + 1 := by rw [Nat.add_mul, Nat.mul_add]; omega
    have e2 : (m + 1) * i = m * i + i := by rw [Nat.add_mul]; omega
    rw [e, e2]; omega
  · rw [Nat.mul_add]; omega

/-! ### walks over lists that are told -/
theorem enuD_map {α : Type} {f : α → D} : ∀ (xs : List α) (k : Nat), enuD k (xs.map f) = (xs.zipIdx k).map fun p => .tup [.int p.2, f p.1]
  | [], k => by simp [enuD]
  | x :: r, k => by simp [enuD, enuD_map r (k + 1)]
theorem zipD_map {α β : Type} {f : α → D} {g : β → D} : ∀ (xs : List α) (ys : List β), zipD (xs.map f) (ys.map g) = (xs.zip ys).map fun p => .tup [f p.1, g p.2]
  | [], ys => by simp [zipD]
  | x :: r, [] => by simp [zipD]
  | x :: r, y :: s => by simp [zipD, zipD_map r s]
theorem rngD_eq : ∀ (n : Nat) (lo : Int), rngD lo n = (List.range n).map fun i => .int (lo + (i : Nat))
  | 0, lo => by simp [rngD]
  | n + 1, lo => by
    rw [rngD, rngD_eq n (lo + 1), List.range_succ_eq_map]
    simp only [List.map_cons, List.map_map, Int.natCast_zero, Int.add_zero]
    congr 1
    apply List.map_congr_left
    intro a _
    simp only [Function.comp, Nat.succ_eq_add_one]
    congr 1; omega
theorem rngD_0 (n : Nat) : rngD 0 n = (List.range n).map fun (i : Nat) => .int (i : Int) := by
  rw [rngD_eq]; apply List.map_congr_left; intro a _; simp
theorem cutD_map {α : Type} {f : α → D} {xs : List α} {lo hi : Option Int} : cutD (xs.map f) lo hi = ((xs.drop (HT.sIx xs.length 0 lo)).take (HT.sIx xs.length xs.length hi - HT.sIx xs.length 0 lo)).map f := by
  unfold cutD; rw [List.length_map, List.map_take, List.map_drop]
theorem cut_to {α : Type} {xs : List α} {k : Nat} : (xs.drop (HT.sIx xs.length 0 none)).take (HT.sIx xs.length xs.length (some (k : Int)) - HT.sIx xs.length 0 none) = xs.take k := by
  rw [HT.sIx_none, HT.sIx_nat, List.drop_zero, Nat.sub_zero]
  by_cases h : k ≤ xs.length
  · rw [Nat.min_eq_left h]
  · rw [Nat.min_eq_right (by omega), List.take_length, List.take_of_length_le (by omega)]
theorem cut_from {α : Type} {xs : List α} {k : Nat} : (xs.drop (HT.sIx xs.length 0 (some (k : Int)))).take (HT.sIx xs.length xs.length none - HT.sIx xs.length 0 (some (k : Int))) = xs.drop k := by
  rw [HT.sIx_none, HT.sIx_nat]
  by_cases h : k ≤ xs.length
  · rw [Nat.min_eq_left h, List.take_of_length_le (by rw [List.length_drop]; omega)]
  · rw [Nat.min_eq_right (by omega), List.drop_length, List.drop_of_length_le (by omega)]; simp
theorem cut_mid {α : Type} {xs : List α} {k l : Nat} : (xs.drop (HT.sIx xs.length 0 (some (k : Int)))).take (HT.sIx xs.length xs.length (some (l : Int)) - HT.sIx xs.length 0 (some (k : Int))) = (xs.drop k).take (l - k) := by
  rw [HT.sIx_nat, HT.sIx_nat]
  by_cases h : k ≤ xs.length
  · rw [Nat.min_eq_left h]
    by_cases h2 : l ≤ xs.length
    · rw [Nat.min_eq_left h2]
    · rw [Nat.min_eq_right (by omega), List.take_of_length_le (by rw [List.length_drop]; omega), List.take_of_length_le (by rw [List.length_drop]; omega)]
  · rw [Nat.min_eq_right (by omega : xs.length ≤ k), List.drop_length, List.drop_of_length_le (by omega)]; simp
end Lt
namespace Lt
open PySem PySem.Spec PyProof.Rows L2
/-! ### fractions by their values -/
def val (q : Fr) : Rat := (q.1 : Rat) / (q.2 : Rat)
/-- in lowest terms -/
structure Low (q : Fr) : Prop where
  pos : 0 < q.2
  cop : Int.gcd q.1 q.2 = 1
theorem mk_low {t b : Int} (hb : 0 < b) : Low (mk t b) := by
  have hg := gcd_pos (t := t) hb
  rw [mk]
  refine ⟨Int.ediv_pos_of_pos_of_dvd hb (Int.le_of_lt hg) (Int.gcd_dvd_right _ _), ?_⟩
  show Int.gcd (t / (Int.gcd t b : Int)) (b / (Int.gcd t b : Int)) = 1
  exact Int.gcd_ediv_gcd_ediv_gcd (by omega)
theorem mk_val {t b : Int} (hb : 0 < b) : val (mk t b) = (t : Rat) / (b : Rat) := by
  have hg := gcd_pos (t := t) hb
  have h1 : (Int.gcd t b : Int) * (t / (Int.gcd t b : Int)) = t := Int.mul_ediv_cancel' (Int.gcd_dvd_left _ _)
  have h2 : (Int.gcd t b : Int) * (b / (Int.gcd t b : Int)) = b := Int.mul_ediv_cancel' (Int.gcd_dvd_right _ _)
  have p2 := (mk_low (t := t) hb).pos
  rw [mk] at p2 ⊢
  show ((t / (Int.gcd t b : Int) : Int) : Rat) / ((b / (Int.gcd t b : Int) : Int) : Rat) = _
  have p3 : 0 < b / (Int.gcd t b : Int) := p2
  generalize (t / (Int.gcd t b : Int) : Int) = x at *
  generalize (b / (Int.gcd t b : Int) : Int) = y at *
  generalize (Int.gcd t b : Int) = g at *
  have e1 : (t : Rat) = (g : Rat) * (x : Rat) := by rw [← Rat.intCast_mul, h1]
  have e2 : (b : Rat) = (g : Rat) * (y : Rat) := by rw [← Rat.intCast_mul, h2]
  have ng : (g : Rat) ≠ 0 := by intro z; rw [← Rat.intCast_zero, Rat.intCast_inj] at z; omega
  have ny : (y : Rat) ≠ 0 := by intro z; rw [← Rat.intCast_zero, Rat.intCast_inj] at z; omega
  rw [e1, e2]
  grind
theorem dvd_cop {a b c : Int} (h : a ∣ b * c) (g : Int.gcd a b = 1) : a ∣ c := by
  rw [← Int.natAbs_dvd_natAbs] at h ⊢
  rw [Int.natAbs_mul] at h
  exact Nat.Coprime.dvd_of_dvd_mul_left g h
theorem low_ext {p q : Fr} (hp : Low p) (hq : Low q) (e : p.1 * q.2 = q.1 * p.2) : p = q := by
  have h1 : p.2 ∣ q.2 := by
    have : p.2 ∣ p.1 * q.2 := ⟨q.1, by rw [e]; exact Int.mul_comm _ _⟩
    exact dvd_cop this (by rw [Int.gcd_comm]; exact hp.cop)
  have h2 : q.2 ∣ p.2 := by
    have : q.2 ∣ q.1 * p.2 := ⟨p.1, by rw [← e]; exact Int.mul_comm _ _⟩
    exact dvd_cop this (by rw [Int.gcd_comm]; exact hq.cop)
  have h3 : p.2 = q.2 := Int.dvd_antisymm (Int.le_of_lt hp.pos) (Int.le_of_lt hq.pos) h1 h2
  have h4 : p.1 = q.1 := by
    rw [← h3] at e
    exact Int.eq_of_mul_eq_mul_right (by have := hp.pos; omega) e
  exact Prod.ext h4 h3
theorem val_inj {p q : Fr} (hp : Low p) (hq : Low q) (e : val p = val q) : p = q := by
  apply low_ext hp hq
  unfold val at e
  have np : (p.2 : Rat) ≠ 0 := by intro z; rw [← Rat.intCast_zero, Rat.intCast_inj] at z; have := hp.pos; omega
  have nq : (q.2 : Rat) ≠ 0 := by intro z; rw [← Rat.intCast_zero, Rat.intCast_inj] at z; have := hq.pos; omega
  have e2 : (p.1 : Rat) * (q.2 : Rat) = (q.1 : Rat) * (p.2 : Rat) := by grind
  rw [← Rat.intCast_mul, ← Rat.intCast_mul, Rat.intCast_inj] at e2
  exact e2
theorem plus_val {a b : Fr} (ha : 0 < a.2) (hb : 0 < b.2) : val (plusF a b) = val a + val b := by
  have na : (a.2 : Rat) ≠ 0 := by intro z; rw [← Rat.intCast_zero, Rat.intCast_inj] at z; omega
  have nb : (b.2 : Rat) ≠ 0 := by intro z; rw [← Rat.intCast_zero, Rat.intCast_inj] at z; omega
  unfold plusF
  rw [mk_val (Int.mul_pos ha hb)]
  unfold val
  simp only [Rat.intCast_add, Rat.intCast_mul]
  grind
theorem minus_val {a b : Fr} (ha : 0 < a.2) (hb : 0 < b.2) : val (minusF a b) = val a - val b := by
  have na : (a.2 : Rat) ≠ 0 := by intro z; rw [← Rat.intCast_zero, Rat.intCast_inj] at z; omega
  have nb : (b.2 : Rat) ≠ 0 := by intro z; rw [← Rat.intCast_zero, Rat.intCast_inj] at z; omega
  unfold minusF
  rw [mk_val (Int.mul_pos ha hb)]
  unfold val
  simp only [Rat.intCast_sub, Rat.intCast_mul]
  grind
theorem times_val {a b : Fr} (ha : 0 < a.2) (hb : 0 < b.2) : val (timesF a b) = val a * val b := by
  have na : (a.2 : Rat) ≠ 0 := by intro z; rw [← Rat.intCast_zero, Rat.intCast_inj] at z; omega
  have nb : (b.2 : Rat) ≠ 0 := by intro z; rw [← Rat.intCast_zero, Rat.intCast_inj] at z; omega
  unfold timesF
  rw [mk_val (Int.mul_pos ha hb)]
  unfold val
  simp only [Rat.intCast_mul]
  grind
theorem plus_low {a b : Fr} (ha : 0 < a.2) (hb : 0 < b.2) : Low (plusF a b) := by rw [plusF]; exact mk_low (Int.mul_pos ha hb)
theorem minus_low {a b : Fr} (ha : 0 < a.2) (hb : 0 < b.2) : Low (minusF a b) := by rw [minusF]; exact mk_low (Int.mul_pos ha hb)
theorem times_low {a b : Fr} (ha : 0 < a.2) (hb : 0 < b.2) : Low (timesF a b) := by rw [timesF]; exact mk_low (Int.mul_pos ha hb)
end Lt
namespace Lt
open PySem PySem.Spec PyProof.Rows L2
theorem wh_gcd2 {K : Ed} {A : Int → Prop} {C : Cn} {h : Hh} (hK : ∀ g, K.nx [some (.int g), some (.int 0)] h = A g) (a b : Nat) :
    whI (wE C (.cm .gt (.v 1) (.kI 0))) (wS C (.seq (.par 0 1 (.v 1) (.op .mod (.v 0) (.v 1))) .skip)) K [some (.int a), some (.int b)] h = A (Nat.gcd a b) := by
  refine wh_det (σ := Nat × Nat) (fun s => [some (.int s.1), some (.int s.2)]) (fun _ => True) (fun s => A (Nat.gcd s.1 s.2)) (fun s => s.2) (fun s _ => ?_) (a, b) trivial
  obtain ⟨a, b⟩ := s
  by_cases e : b = 0
  · subst e
    right; intro W
    simp [wE, wS, optW_some, getE, cmW, blW, hK]
  · left
    have e1 : (0 : Int) < b := by omega
    have e2 : (b : Int) ≠ 0 := by omega
    have e3 : (a : Int).fmod b = ((a % b : Nat) : Int) := by rw [Int.fmod_eq_emod_of_nonneg _ (by omega)]; rfl
    refine ⟨(b, a % b), trivial, Nat.mod_lt _ (by omega), ?_, fun W => ?_⟩
    · show A _ = A _
      rw [Nat.gcd_comm a b, Nat.gcd_rec b a, Nat.gcd_comm]
    · simp [wE, wS, optW_some, getE, setE, binW, cmW, blW, e1, e2, e3, e]
theorem wh_gcd4 {K : Ed} {A : Int → Prop} {C : Cn} {h : Hh} {x y : Option D} (hK : ∀ g, K.nx [x, y, some (.int g), some (.int 0)] h = A g) (a b : Nat) :
    whI (wE C (.cm .gt (.v 3) (.kI 0))) (wS C (.seq (.par 2 3 (.v 3) (.op .mod (.v 2) (.v 3))) .skip)) K [x, y, some (.int a), some (.int b)] h = A (Nat.gcd a b) := by
  refine wh_det (σ := Nat × Nat) (fun s => [x, y, some (.int s.1), some (.int s.2)]) (fun _ => True) (fun s => A (Nat.gcd s.1 s.2)) (fun s => s.2) (fun s _ => ?_) (a, b) trivial
  obtain ⟨a, b⟩ := s
  by_cases e : b = 0
  · subst e
    right; intro W
    simp [wE, wS, optW_some, getE, cmW, blW, hK]
  · left
    have e1 : (0 : Int) < b := by omega
    have e2 : (b : Int) ≠ 0 := by omega
    have e3 : (a : Int).fmod b = ((a % b : Nat) : Int) := by rw [Int.fmod_eq_emod_of_nonneg _ (by omega)]; rfl
    refine ⟨(b, a % b), trivial, Nat.mod_lt _ (by omega), ?_, fun W => ?_⟩
    · show A _ = A _
      rw [Nat.gcd_comm a b, Nat.gcd_rec b a, Nat.gcd_comm]
    · simp [wE, wS, optW_some, getE, setE, binW, cmW, blW, e1, e2, e3, e]
end Lt
namespace Lt
open PySem PySem.Spec PyProof.Rows L2
/-! ### lists laid one by one -/
theorem up_comm {h : Hh} {a b : Addr} {o u : O} (e : a ≠ b) : up (up h a o) b u = up (up h b u) a o := Hh.ext fun c => by
  by_cases z : c = b
  · subst z; rw [up_same, up_ne (Ne.symm e), up_same]
  · by_cases y : c = a
    · subst y; rw [up_ne z, up_same, up_same]
    · rw [up_ne z, up_ne y, up_ne y, up_ne z]
structure Arr (h h' : Hh) (ps : List Addr) (rows : List (List D)) : Prop where
  len : ps.length = rows.length
  nd : ps.Nodup
  new : ∀ p ∈ ps, h p = none
  get : ∀ (i : Nat) (p : Addr) (r : List D), ps[i]? = some p → rows[i]? = some r → h' p = some (.lst r)
  old : ∀ a, a ∉ ps → h' a = h a
section
variable {h h' : Hh} {ps : List Addr} {rows : List (List D)} {p : Addr} {r : List D} {i : Nat}
theorem Arr.nil : Arr h h [] [] := ⟨rfl, List.nodup_nil, fun _ z => by simp at z, fun i p r z => by simp at z, fun _ _ => rfl⟩
theorem Arr.notin (A : Arr h h' ps rows) (e : h' p = none) : p ∉ ps := fun z => by
  obtain ⟨i, hi, rfl⟩ := List.getElem_of_mem z
  have hr : i < rows.length := by rw [← A.len]; exact hi
  have := A.get i ps[i] rows[i] (List.getElem?_eq_getElem hi) (List.getElem?_eq_getElem hr)
  rw [e] at this; cases this
theorem Arr.snoc (A : Arr h h' ps rows) (e : h' p = none) : Arr h (up h' p (.lst r)) (ps ++ [p]) (rows ++ [r]) := by
  have ni := A.notin e
  refine ⟨by simp [A.len], ?_, fun q hq => ?_, fun i q s h1 h2 => ?_, fun a ha => ?_⟩
  · rw [List.nodup_append]; exact ⟨A.nd, by simp, fun a ha b hb => by simp at hb; subst hb; intro z; subst z; exact ni ha⟩
  · rcases List.mem_append.1 hq with z | z
    · exact A.new q z
    · simp at z; subst z; rw [← A.old q ni]; exact e
  · by_cases hi : i < ps.length
    · rw [List.getElem?_append_left hi] at h1
      rw [List.getElem?_append_left (A.len ▸ hi)] at h2
      rw [up_ne (fun z => by subst z; exact ni (List.mem_of_getElem? h1))]
      exact A.get i q s h1 h2
    · rw [List.getElem?_append_right (by omega)] at h1
      rw [List.getElem?_append_right (by rw [← A.len]; omega)] at h2
      have e1 : i - ps.length = 0 := by
        cases z : i - ps.length with
        | zero => rfl
        | succ n => rw [z] at h1; simp at h1
      rw [e1] at h1; rw [← A.len, e1] at h2
      simp at h1 h2; subst h1 h2
      exact up_same
  · have h1 : a ∉ ps := fun z => ha (by simp [z])
    have h2 : a ≠ p := fun z => ha (by simp [z])
    rw [up_ne h2]; exact A.old a h1
theorem Arr.rd (A : Arr h h' ps rows) (e : ps[i]? = some p) (e2 : rows[i]? = some r) : rdL h' p = some r := by
  unfold rdL; rw [A.get i p r e e2]
theorem Arr.wr (A : Arr h h' ps rows) (e : ps[i]? = some p) (e2 : rows[i]? = some r) : wrL h' p = some r := by
  unfold wrL; rw [A.get i p r e e2]
theorem Arr.set (A : Arr h h' ps rows) (e : ps[i]? = some p) : Arr h (up h' p (.lst r)) ps (rows.set i r) := by
  refine ⟨by simp [A.len], A.nd, A.new, fun j q s h1 h2 => ?_, fun a ha => ?_⟩
  · by_cases hij : i = j
    · subst hij
      rw [e] at h1; cases h1
      have hi : i < rows.length := by
        by_cases z : i < rows.length
        · exact z
        · rw [List.getElem?_eq_none (by rw [List.length_set]; omega)] at h2; cases h2
      rw [List.getElem?_set_self hi] at h2; cases h2
      exact up_same
    · rw [List.getElem?_set_ne hij] at h2
      rw [up_ne]
      · exact A.get j q s h1 h2
      · intro z; subst z
        exact hij ((List.getElem?_inj (by
          by_cases z : i < ps.length
          · exact z
          · rw [List.getElem?_eq_none (by omega)] at e; cases e) A.nd).1 (e.trans h1.symm))
  · rw [up_ne (fun z => by subst z; exact ha (List.mem_of_getElem? e))]; exact A.old a ha
theorem Arr.gc (A : Arr h h' ps rows) : gcH h h' = h := Hh.ext fun a => by
  by_cases z : h a = none
  · rw [gc_new z, z]
  · rw [gc_old z]
    exact A.old a fun y => z (A.new a y)
theorem Arr.isPs (A : Arr h h' ps rows) {ds : List (List PyData)} (e : rows.map toPs = ds.map some) : IsPs h' (ps.map D.ref) (ds.map PyData.list) := by
  have gen : ∀ (ps : List Addr) (rows : List (List D)) (ds : List (List PyData)), ps.length = rows.length → (∀ (i : Nat) p r, ps[i]? = some p → rows[i]? = some r → h' p = some (.lst r)) → rows.map toPs = ds.map some → IsPs h' (ps.map D.ref) (ds.map PyData.list) := by
    intro ps
    induction ps with
    | nil =>
      intro rows ds l _ e
      have : rows = [] := List.eq_nil_of_length_eq_zero l.symm
      subst this
      have : ds = [] := by cases ds with
        | nil => rfl
        | cons _ _ => simp at e
      subst this
      simp [IsPs]
    | cons p ps ih =>
      intro rows ds l g e
      match rows, ds, l, e with
      | r :: rows, d :: ds, l, e =>
        simp only [List.map_cons, List.cons.injEq] at e
        rw [List.map_cons, List.map_cons, IsPs]
        refine ⟨_, _, rfl, ?_, ih rows ds (by simpa using l) (fun i q s h1 h2 => g (i + 1) q s (by simpa using h1) (by simpa using h2)) e.2⟩
        rw [IsP]
        exact ⟨r, by simp only [lsD, rdL, g 0 p r rfl rfl], toPs_isPs e.1⟩
      | [], _, l, _ => simp at l
      | _ :: _, [], _, e => simp at e
  exact gen ps rows ds A.len A.get e
end
section
variable {σ α : Type} {t : Tg} {b : En → Hh → Ed → Prop} {K : Ed}
/-- a loop whose turns lay new objects -/
theorem fr_all (st : σ → En) (hp : σ → Hh) (f : α → D) (P : List α → σ → Prop) (F : List α → σ → Prop) (nil : ∀ s, P [] s → K.nx (st s) (hp s) = F [] s)
    (cons : ∀ a as s, P (a :: as) s → ∃ N : σ → Prop, (∃ s', N s') ∧ (∀ s', N s' → P as s' ∧ F as s' = F (a :: as) s) ∧ ∀ W : En → Hh → Prop, (tgW t (f a) (st s) fun ρ1 => b ρ1 (hp s) { K with nx := W }) = ∀ s', N s' → W (st s') (hp s')) :
    ∀ (xs : List α) (s : σ), P xs s → frL t b K (xs.map f) (st s) (hp s) = F xs s
  | [], s, p => nil s p
  | a :: as, s, p => by
    rw [List.map_cons]
    unfold frL
    obtain ⟨N, ⟨s0, n0⟩, hN, q⟩ := cons a as s p
    rw [q]
    apply propext
    constructor
    · intro w
      have := w s0 n0
      rw [fr_all st hp f P F nil cons as s0 (hN s0 n0).1, (hN s0 n0).2] at this
      exact this
    · intro w s' n'
      rw [fr_all st hp f P F nil cons as s' (hN s' n').1, (hN s' n').2]
      exact w
end
end Lt
namespace Lt
open PySem PySem.Spec PyProof.Rows L2
/-! ### loops, one way -/
section
variable {σ α : Type} {t : Tg} {b : En → Hh → Ed → Prop} {K : Ed}
theorem fr_go (st : σ → En) (hp : σ → Hh) (f : α → D) (I : List α → σ → Prop) (nil : ∀ s, I [] s → K.nx (st s) (hp s))
    (cons : ∀ a as s, I (a :: as) s → ∀ W : En → Hh → Prop, (∀ s', I as s' → W (st s') (hp s')) → tgW t (f a) (st s) fun ρ1 => b ρ1 (hp s) { K with nx := W }) :
    ∀ (xs : List α) (s : σ), I xs s → frL t b K (xs.map f) (st s) (hp s)
  | [], s, p => nil s p
  | a :: as, s, p => by
    rw [List.map_cons]
    unfold frL
    exact cons a as s p _ fun s' p' => fr_go st hp f I nil cons as s' p'
end
end Lt
namespace Lt
open PySem PySem.Spec PyProof.Rows L2
section
variable {α : Type} {t : Tg} {h : Hh}
/-- a comprehension whose items are known, that reads the heap -/
theorem lc_detH {c e : En → Hh → QD → Prop} {p : Addr} {ρ : En} {K : Hh → Prop} (f : α → D) (P : α → Prop) (g : α → Option D)
    (step : ∀ a, P a → ∀ (acc : List D) (N : Hh → Prop) (Y : D → Hh → Prop), (tgW t (f a) ρ fun ρ1 => c ρ1 (up h p (.lst acc)) fun b h1 => blW b fun b => if b = true then e ρ1 h1 Y else N h1) = match g a with
      | some y => Y y (up h p (.lst acc))
      | none => N (up h p (.lst acc))) :
    ∀ (xs : List α) (acc : List D), (∀ a ∈ xs, P a) → acc.length + xs.length ≤ sizeLine → lcL t c e p ρ K (xs.map f) (up h p (.lst acc)) = K (up h p (.lst (acc ++ xs.filterMap g)))
  | [], acc, _, _ => by simp [lcL]
  | a :: as, acc, hP, hl => by
    rw [List.map_cons]
    unfold lcL
    rw [step a (hP a (by simp)) acc]
    rw [List.length_cons] at hl
    cases q : g a with
    | none =>
      simp only
      rw [lc_detH f P g step as acc (fun b hb => hP b (by simp [hb])) (by omega), List.filterMap_cons_none q]
    | some y =>
      simp only
      have e : wrL (up h p (.lst acc)) p = some acc := by unfold wrL; rw [up_same]
      rw [e, optW_some, up_up, lc_detH f P g step as (acc ++ [y]) (fun b hb => hP b (by simp [hb])) (by rw [List.length_append, List.length_singleton]; omega), List.filterMap_cons_some q]
      have e2 : acc.length < sizeLine := by omega
      simp [e2]
theorem lc_allH {c e : En → Hh → QD → Prop} {ρ : En} {R : Addr → Hh → Prop} (f : α → D) (P : α → Prop) (g : α → Option D)
    (step : ∀ p, h p = none → ∀ a, P a → ∀ (acc : List D) (N : Hh → Prop) (Y : D → Hh → Prop), (tgW t (f a) ρ fun ρ1 => c ρ1 (up h p (.lst acc)) fun b h1 => blW b fun b => if b = true then e ρ1 h1 Y else N h1) = match g a with
      | some y => Y y (up h p (.lst acc))
      | none => N (up h p (.lst acc))) (xs : List α) (hP : ∀ a ∈ xs, P a) (hl : xs.length ≤ sizeLine) :
    (∀ p, h p = none → lcI (.seq (xs.map f)) t c e p ρ (R p) (up h p (.lst []))) = ∀ p, h p = none → R p (up h p (.lst (xs.filterMap g))) := by
  apply propext
  have q := fun p (hp : h p = none) => lc_detH (K := R p) f P g (step p hp) xs [] hP (by simpa using hl)
  constructor
  · intro w p hp
    have w' := w p hp
    simp only [lcI] at w'
    rw [q p hp] at w'; simpa using w'
  · intro w p hp
    simp only [lcI]
    rw [q p hp]; simpa using w p hp
theorem lc_mapH {e : En → Hh → QD → Prop} {ρ : En} {R : Addr → Hh → Prop} (f : α → D) (P : α → Prop) (g : α → D)
    (step : ∀ p, h p = none → ∀ a, P a → ∀ (acc : List D) (Y : D → Hh → Prop), (tgW t (f a) ρ fun ρ1 => e ρ1 (up h p (.lst acc)) Y) = Y (g a) (up h p (.lst acc))) (xs : List α) (hP : ∀ a ∈ xs, P a) (hl : xs.length ≤ sizeLine) :
    (∀ p, h p = none → lcI (.seq (xs.map f)) t (fun _ h Q => Q (.bl true) h) e p ρ (R p) (up h p (.lst []))) = ∀ p, h p = none → R p (up h p (.lst (xs.map g))) := by
  rw [lc_allH f P (fun a => some (g a)) (fun p hp a pa acc N Y => ?_) xs hP hl]
  · rw [List.filterMap_eq_map']
  · have := step p hp a pa acc Y
    simp only [blW, if_true]
    exact this
end
end Lt

namespace Lt
open PySem PySem.Spec PyProof.Rows L2
/-! ### what each operation comes to, by the forms of its arguments -/
section
variable {i j k : Int} {x y z : Str} {xs ys : List D} {a b : Addr} {h : Hh} {Q : QD} {d e : D} {bb cc : Bool}
theorem q_addI : binW .add (.int i) (.int j) h Q = Q (.int (i + j)) h := rfl
theorem q_addS : binW .add (.str x) (.str y) h Q = (x.length + y.length ≤ sizeLine ∧ Q (.str (x ++ y)) h) := rfl
theorem q_addT : binW .add (.tup xs) (.tup ys) h Q = (xs.length + ys.length ≤ sizeLine ∧ Q (.tup (xs ++ ys)) h) := rfl
theorem q_addL : binW .add (.lst xs) d h Q = optW (lsD h d) fun ys => xs.length + ys.length ≤ sizeLine ∧ ∀ p, h p = none → Q (.ref p) (up h p (.lst (xs ++ ys))) := by cases d <;> rfl
theorem q_addR : binW .add (.ref a) d h Q = optW (rdL h a) fun xs => optW (lsD h d) fun ys => xs.length + ys.length ≤ sizeLine ∧ ∀ p, h p = none → Q (.ref p) (up h p (.lst (xs ++ ys))) := by cases d <;> rfl
theorem q_subI : binW .sub (.int i) (.int j) h Q = Q (.int (i - j)) h := rfl
theorem q_mulI : binW .mul (.int i) (.int j) h Q = (IntMulOk i j ∧ Q (.int (i * j)) h) := rfl
theorem q_mulR : binW .mul (.ref a) (.int k) h Q = optW (rdL h a) fun xs => -(2 ^ 63) ≤ k ∧ k < 2 ^ 63 ∧ xs.length * k.toNat ≤ sizeLine ∧ ∀ p, h p = none → Q (.ref p) (up h p (.lst (List.replicate k.toNat xs).flatten)) := rfl
theorem q_mulL : binW .mul (.lst xs) (.int k) h Q = (-(2 ^ 63) ≤ k ∧ k < 2 ^ 63 ∧ xs.length * k.toNat ≤ sizeLine ∧ ∀ p, h p = none → Q (.ref p) (up h p (.lst (List.replicate k.toNat xs).flatten))) := rfl
theorem q_mulT : binW .mul (.tup xs) (.int k) h Q = ((-(2 ^ 63) ≤ k ∧ k ≤ 1000 ∧ xs.length ≤ 1000) ∧ Q (.tup (List.replicate k.toNat xs).flatten) h) := rfl
theorem q_divI : binW .div (.int i) (.int j) h Q = (j ≠ 0 ∧ Builtin.divisionGoesByPylong i j = false ∧ Q (.int (i.fdiv j)) h) := rfl
theorem q_modI : binW .mod (.int i) (.int j) h Q = (j ≠ 0 ∧ Q (.int (i.fmod j)) h) := rfl
theorem q_powI : binW .pow (.int i) (.int j) h Q = (CPow i j ∧ Q (.int (i ^ j.toNat)) h) := rfl
theorem q_neg : negW (.int i) h Q = Q (.int (-i)) h := rfl
theorem q_lt : cmW .lt (.int i) (.int j) h Q = Q (.bl (decide (i < j))) h := rfl
theorem q_le : cmW .le (.int i) (.int j) h Q = Q (.bl (decide (i ≤ j))) h := rfl
theorem q_gt : cmW .gt (.int i) (.int j) h Q = Q (.bl (decide (j < i))) h := rfl
theorem q_ge : cmW .ge (.int i) (.int j) h Q = Q (.bl (decide (j ≤ i))) h := rfl
theorem q_eqI : cmW .eq (.int i) (.int j) h Q = Q (.bl (decide (i = j))) h := rfl
theorem q_neI : cmW .ne (.int i) (.int j) h Q = Q (.bl (!decide (i = j))) h := rfl
theorem q_eqB : cmW .eq (.bl bb) d h Q = eqW (.bl bb) d h fun b => Q (.bl b) h := by cases d <;> rfl
theorem q_eqS : cmW .eq (.str x) (.str y) h Q = Q (.bl (decide (x = y))) h := rfl
theorem q_eqN : cmW .eq .non d h Q = eqW .non d h fun b => Q (.bl b) h := by cases d <;> rfl
theorem q_eqT : cmW .eq (.tup xs) d h Q = eqW (.tup xs) d h fun b => Q (.bl b) h := by cases d <;> rfl
theorem q_eqL : cmW .eq (.lst xs) d h Q = eqW (.lst xs) d h fun b => Q (.bl b) h := by cases d <;> rfl
theorem q_eqR : cmW .eq (.ref a) d h Q = eqW (.ref a) d h fun b => Q (.bl b) h := by cases d <;> rfl
theorem q_neB : cmW .ne (.bl bb) d h Q = eqW (.bl bb) d h fun b => Q (.bl (!b)) h := by cases d <;> rfl
theorem q_neS : cmW .ne (.str x) (.str y) h Q = Q (.bl (!decide (x = y))) h := rfl
theorem q_neN : cmW .ne .non d h Q = eqW .non d h fun b => Q (.bl (!b)) h := by cases d <;> rfl
theorem q_neT : cmW .ne (.tup xs) d h Q = eqW (.tup xs) d h fun b => Q (.bl (!b)) h := by cases d <;> rfl
theorem q_neL : cmW .ne (.lst xs) d h Q = eqW (.lst xs) d h fun b => Q (.bl (!b)) h := by cases d <;> rfl
theorem q_neR : cmW .ne (.ref a) d h Q = eqW (.ref a) d h fun b => Q (.bl (!b)) h := by cases d <;> rfl
theorem q_in : cmW .isin d e h Q = inW d e h fun b => Q (.bl b) h := by cases d <;> cases e <;> rfl
theorem q_notin : cmW .notin d e h Q = inW d e h fun b => Q (.bl (!b)) h := by cases d <;> cases e <;> rfl
theorem q_ixT : ixW (.tup xs) (.int i) h Q = optW (atI xs i) fun v => Q v h := rfl
theorem q_ixL : ixW (.lst xs) (.int i) h Q = optW (atI xs i) fun v => Q v h := rfl
theorem q_ixS : ixW (.str z) (.int i) h Q = (z.length ≤ sizeLine ∧ optW (atI z.cps.toList i) fun c => Q (.str ⟨#[c]⟩) h) := rfl
theorem q_ixR : ixW (.ref a) d h Q = selW (rdL h a) (fun xs => intW d fun i => optW (atI xs i) fun v => Q v h) (optW (wrN h a) fun kvs => optW (keyT d) fun k => optW (lkp kvs k) fun v => Q v h) := by cases d <;> rfl
theorem q_ixD {ks : List NestedKey} : ixW (.dct ks xs) d h Q = optW (keyT d) fun k => optW (lkp (ks.zip xs) k) fun v => Q v h := by cases d <;> rfl
variable {lo hi : Option Int}
theorem q_slT : slW (.tup xs) lo hi h Q = Q (.tup (cutD xs lo hi)) h := rfl
theorem q_slL : slW (.lst xs) lo hi h Q = ∀ p, h p = none → Q (.ref p) (up h p (.lst (cutD xs lo hi))) := rfl
theorem q_slR : slW (.ref a) lo hi h Q = optW (rdL h a) fun xs => ∀ p, h p = none → Q (.ref p) (up h p (.lst (cutD xs lo hi))) := rfl
theorem q_slS : slW (.str z) lo hi h Q = (z.length ≤ sizeLine ∧ Q (.str (cutS z lo hi)) h) := rfl
theorem q_intW {f : Int → Prop} : intW (.int i) f = f i := rfl
theorem q_blW {f : Bool → Prop} : blW (.bl bb) f = f bb := rfl
theorem q_lenT : biW .len [.tup xs] h Q = Q (.int (xs.length : Nat)) h := rfl
theorem q_lenS : biW .len [.str x] h Q = (x.length ≤ sizeLine ∧ Q (.int (x.length : Nat)) h) := rfl
theorem q_lenR : biW .len [.ref a] h Q = selW (rdL h a) (fun xs => Q (.int (xs.length : Nat)) h) (optW (wrN h a) fun kvs => Q (.int (kvs.length : Nat)) h) := rfl
theorem q_lenD {ks : List NestedKey} : biW .len [.dct ks xs] h Q = Q (.int ((ks.zip xs).length : Nat)) h := rfl
theorem q_lenL : biW .len [.lst xs] h Q = Q (.int (xs.length : Nat)) h := rfl
theorem q_int1I : biW .int1 [.int i] h Q = Q (.int i) h := rfl
theorem q_int1B {b : Bool} : biW .int1 [.bl b] h Q = Q (.int (if b = true then 1 else 0)) h := rfl
theorem q_abs : biW .abs [.int i] h Q = Q (.int (if i < 0 then -i else i)) h := rfl
theorem q_min2 : biW .min2 [.int i, .int j] h Q = Q (.int (if j < i then j else i)) h := rfl
theorem q_max2 : biW .max2 [.int i, .int j] h Q = Q (.int (if j > i then j else i)) h := rfl
theorem q_sumR : biW .sum [.ref a] h Q = optW (rdL h a) fun xs => optW (intsD xs) fun ns => Q (.int ns.sum) h := rfl
theorem q_sumL : biW .sum [.lst xs] h Q = optW (intsD xs) fun ns => Q (.int ns.sum) h := rfl
theorem q_sumT : biW .sum [.tup xs] h Q = optW (intsD xs) fun ns => Q (.int ns.sum) h := rfl
theorem q_anyR : biW .any [.ref a] h Q = optW (rdL h a) fun xs => optW (blsD xs) fun bs => Q (.bl (bs.any id)) h := rfl
theorem q_anyL : biW .any [.lst xs] h Q = optW (blsD xs) fun bs => Q (.bl (bs.any id)) h := rfl
theorem q_allR : biW .all [.ref a] h Q = optW (rdL h a) fun xs => optW (blsD xs) fun bs => Q (.bl (bs.all id)) h := rfl
theorem q_allL : biW .all [.lst xs] h Q = optW (blsD xs) fun bs => Q (.bl (bs.all id)) h := rfl
theorem q_listR : biW .list [.ref a] h Q = optW (rdL h a) fun xs => ∀ p, h p = none → Q (.ref p) (up h p (.lst xs)) := rfl
theorem q_listL : biW .list [.lst xs] h Q = ∀ p, h p = none → Q (.ref p) (up h p (.lst xs)) := rfl
theorem q_listT : biW .list [.tup xs] h Q = ∀ p, h p = none → Q (.ref p) (up h p (.lst xs)) := rfl
theorem q_tupR : biW .tuple [.ref a] h Q = optW (rdL h a) fun xs => Q (.tup xs) h := rfl
theorem q_tupL : biW .tuple [.lst xs] h Q = Q (.tup xs) h := rfl
theorem q_tupT : biW .tuple [.tup xs] h Q = Q (.tup xs) h := rfl
theorem q_tAp : mtT .append (.ref a) h = ∃ xs, rdL h a = some xs := rfl
theorem q_tEx : mtT .extend (.ref a) h = ∃ xs, rdL h a = some xs := rfl
theorem q_tPop : mtT .pop (.ref a) h = ∃ xs, rdL h a = some xs := rfl
theorem q_tRev : mtT .reverse (.ref a) h = ∃ xs, rdL h a = some xs := rfl
theorem q_tCl : mtT .clear (.ref a) h = ∃ xs, rdL h a = some xs := rfl
theorem q_mAp : mtW .append (.ref a) [d] h Q = optW (wrL h a) fun xs => xs.length < sizeLine ∧ Q .non (up h a (.lst (xs ++ [d]))) := rfl
theorem q_mEx : mtW .extend (.ref a) [d] h Q = optW (wrL h a) fun xs => optW (sqD h d) fun ys => xs.length + ys.length ≤ sizeLine ∧ Q .non (up h a (.lst (xs ++ ys))) := rfl
theorem q_sqT : sqD h (.tup xs) = some xs := rfl
theorem q_sqL : sqD h (.lst xs) = some xs := rfl
theorem q_sqR : sqD h (.ref a) = rdL h a := rfl
theorem q_lrev : pxW .lrev [d] h Q = optW (lsD h d) fun xs => ∀ p, h p = none → Q (.ref p) (up h p (.lst xs.reverse)) := rfl
theorem q_mPop : mtW .pop (.ref a) [] h Q = optW (wrL h a) fun xs => optW xs[xs.length - 1]? fun y => Q y (up h a (.lst xs.dropLast)) := rfl
theorem q_mRev : mtW .reverse (.ref a) [] h Q = optW (wrL h a) fun xs => Q .non (up h a (.lst xs.reverse)) := rfl
theorem q_mCl : mtW .clear (.ref a) [] h Q = optW (wrL h a) fun xs => Q .non (up h a (.lst [])) := rfl
theorem q_isN1 : isNon .non = true := rfl
theorem q_isN2 : isNon (.bl bb) = false := rfl
theorem q_isN3 : isNon (.int i) = false := rfl
theorem q_isN4 : isNon (.str x) = false := rfl
theorem q_isN5 : isNon (.tup xs) = false := rfl
theorem q_isN6 : isNon (.lst xs) = false := rfl
theorem q_eqD {ks : List NestedKey} : cmW .eq (.dct ks xs) d h Q = eqW (.dct ks xs) d h fun b => Q (.bl b) h := by cases d <;> rfl
theorem q_neD {ks : List NestedKey} : cmW .ne (.dct ks xs) d h Q = eqW (.dct ks xs) d h fun b => Q (.bl (!b)) h := by cases d <;> rfl
theorem q_isN8 {ks : List NestedKey} : isNon (.dct ks xs) = false := rfl
theorem q_rdD {ks : List NestedKey} : rdN h (.dct ks xs) = some (ks.zip xs) := rfl
theorem q_rdR : rdN h (.ref a) = wrN h a := rfl
theorem q_rdL : rdN h (.lst xs) = none := rfl
theorem q_inR {K : Bool → Prop} : inW d (.ref a) h K = selW (rdL h a) (fun _ => ∃ x ds, IsP h d x ∧ IsP h (.ref a) (.list ds) ∧ SeqAt.shaped x = true ∧ SeqAt.shaped (.list ds) = true ∧ K (ds.any fun z => PyData.eqv z x)) (optW (wrN h a) fun kvs => optW (keyT d) fun k => K (lkp kvs k).isSome) := rfl
theorem q_inD {ks : List NestedKey} {K : Bool → Prop} : inW d (.dct ks xs) h K = optW (keyT d) fun k => K (lkp (ks.zip xs) k).isSome := rfl
theorem q_tGet : mtT .get d h = ∃ kvs, rdN h d = some kvs := by cases d <;> rfl
theorem q_get2 : mtW .get d [e] h Q = optW (rdN h d) fun kvs => optW (keyT e) fun k => Q ((lkp kvs k).getD .non) h := by cases d <;> rfl
theorem q_get3 {f : D} : mtW .get d [e, f] h Q = optW (rdN h d) fun kvs => optW (keyT e) fun k => Q ((lkp kvs k).getD f) h := by cases d <;> rfl
theorem q_dnew : pxW .dnew [] h Q = ∀ p, h p = none → Q (.ref p) (up h p (.dN [])) := rfl
theorem q_done : pxW .done [e, d] h Q = optW (keyT e) fun k => ∀ p, h p = none → Q (.ref p) (up h p (.dN [(k, d)])) := rfl
theorem q_sumV : pxW .sumV [d] h Q = optW (rdN h d) fun kvs => optW (intsD (kvs.map (·.2))) fun ns => Q (.int ns.sum) h := rfl
theorem q_srtL : pxW .srtL [d] h Q = optW (rdN h d) fun kvs => (kvs.all fun p => tupK p.1) = true ∧ ∀ p, h p = none → Q (.ref p) (up h p (.lst (srtD (kvs.map fun p => ofK p.1) (kvs.map fun p => .int (lenK p.1 : Int))))) := rfl
theorem q_dcp : pxW .dcp [d] h Q = optW (rdN h d) fun kvs => (kvs.all fun p => numK p.1) = true ∧ ∀ p, h p = none → Q (.ref p) (up h p (.dN kvs)) := rfl
theorem q_srtK : pxW .srtK [d] h Q = optW (rdN h d) fun kvs => SrtOk (kvs.map fun p => p.1.data) ∧ ∀ p, h p = none → Q (.ref p) (up h p (.lst (srtD (kvs.map fun p => ofK p.1) (kvs.map fun p => p.1.data)))) := rfl
theorem q_ktI : keyT (.int i) = some (.num i) := rfl
theorem q_ktN : keyT .non = some .none := rfl
theorem q_isN7 : isNon (.ref a) = false := rfl
variable {t : Ty}
theorem q_ty1 : isTy h .non t = some false := rfl
theorem q_ty2 : isTy h (.bl bb) .int = some true := rfl
theorem q_ty3 : isTy h (.bl bb) .bool = some true := rfl
theorem q_ty4 : isTy h (.bl bb) .str = some false := rfl
theorem q_ty5 : isTy h (.bl bb) .tuple = some false := rfl
theorem q_ty6 : isTy h (.bl bb) .list = some false := rfl
theorem q_ty7 : isTy h (.int i) .int = some true := rfl
theorem q_ty8 : isTy h (.int i) .bool = some false := rfl
theorem q_ty9 : isTy h (.int i) .str = some false := rfl
theorem q_ty10 : isTy h (.int i) .tuple = some false := rfl
theorem q_ty11 : isTy h (.int i) .list = some false := rfl
theorem q_ty12 : isTy h (.str x) .int = some false := rfl
theorem q_ty13 : isTy h (.str x) .bool = some false := rfl
theorem q_ty14 : isTy h (.str x) .str = some true := rfl
theorem q_ty15 : isTy h (.str x) .tuple = some false := rfl
theorem q_ty16 : isTy h (.str x) .list = some false := rfl
theorem q_ty17 : isTy h (.tup xs) .int = some false := rfl
theorem q_ty18 : isTy h (.tup xs) .bool = some false := rfl
theorem q_ty19 : isTy h (.tup xs) .str = some false := rfl
theorem q_ty20 : isTy h (.tup xs) .tuple = some true := rfl
theorem q_ty21 : isTy h (.tup xs) .list = some false := rfl
theorem q_ty22 : isTy h (.lst xs) .int = some false := rfl
theorem q_ty23 : isTy h (.lst xs) .bool = some false := rfl
theorem q_ty24 : isTy h (.lst xs) .str = some false := rfl
theorem q_ty25 : isTy h (.lst xs) .tuple = some false := rfl
theorem q_ty26 : isTy h (.lst xs) .list = some true := rfl
variable {R : IT → Hh → Prop}
theorem q_itR : itW .val [.ref a] h R = optW (rdL h a) fun _ => R (.lst a) h := rfl
theorem q_itT : itW .val [.tup xs] h R = R (.seq xs) h := rfl
theorem q_itL : itW .val [.lst xs] h R = R (.seq xs) h := rfl
theorem q_rg1 : itW .range1 [.int j] h R = (-(2 ^ 62) ≤ j ∧ j < 2 ^ 62 ∧ R (.seq (rngD 0 j.toNat)) h) := rfl
theorem q_rg2 : itW .range2 [.int i, .int j] h R = ((-(2 ^ 62) ≤ i ∧ i < 2 ^ 62 ∧ -(2 ^ 62) ≤ j ∧ j < 2 ^ 62) ∧ R (.seq (rngD i (j - i).toNat)) h) := rfl
theorem q_rg3 : itW .range3 [.int i, .int j, .int k] h R = ((k ≠ 0 ∧ k.natAbs < 1073741824 ∧ Builtin.Range.small i j k = true ∧ 0 ≤ Builtin.Range.rangeSize i j k) ∧ R (.seq (rng3 i k (Builtin.Range.rangeSize i j k).toNat)) h) := rfl
theorem q_enR : itW .enum [.ref a] h R = optW (rdL h a) fun _ => R (.enu a) h := rfl
theorem q_enL : itW .enum [.lst xs] h R = R (.seq (enuD 0 xs)) h := rfl
theorem q_enT : itW .enum [.tup xs] h R = R (.seq (enuD 0 xs)) h := rfl
theorem q_zpT : itW .zip [.tup xs, .tup ys] h R = R (.seq (zipD xs ys)) h := rfl
theorem q_tIx : mtT .index (.lst xs) h = True := rfl
theorem q_tIxR : mtT .index (.ref a) h = ∃ xs, rdL h a = some xs := rfl
theorem q_tIn : mtT .insert (.ref a) h = ∃ xs, rdL h a = some xs := rfl
theorem q_mIx : mtW .index (.lst xs) [d] h Q = (flatD d = true ∧ xs.all flatD = true ∧ optW (idxD d xs) fun j => Q (.int (j : Nat)) h) := rfl
theorem q_mIxR : mtW .index (.ref a) [d] h Q = optW (rdL h a) fun xs => flatD d = true ∧ xs.all flatD = true ∧ optW (idxD d xs) fun j => Q (.int (j : Nat)) h := rfl
theorem q_mIn : mtW .insert (.ref a) [.int i, d] h Q = optW (wrL h a) fun xs => xs.length < sizeLine ∧ 0 ≤ i ∧ i < 2 ^ 63 ∧ Q .non (up h a (.lst (xs.take i.toNat ++ [d] ++ xs.drop i.toNat))) := rfl
theorem q_zpR : itW .zip [.ref a, .ref b] h R = optW (rdL h a) fun _ => optW (rdL h b) fun _ => R (.zip a b) h := rfl
theorem q_zpF : itW .zip [.ref a, .lst ys] h R = optW (rdL h a) fun _ => R (.zpf a ys) h := rfl
theorem q_zpL : itW .zip [.lst xs, .lst ys] h R = R (.seq (zipD xs ys)) h := rfl
theorem q_rvL : itW .rev [.lst xs] h R = R (.seq xs.reverse) h := rfl
theorem q_rvT : itW .rev [.tup xs] h R = R (.seq xs.reverse) h := rfl
variable {ρ : En} {K : En → Prop} {is : List Nat} {n : Nat}
theorem q_tgN : tgW (.nm n) d ρ K = K (setE ρ n (some d)) := rfl
theorem q_tgT : tgW (.tp is) (.tup xs) ρ K = optW (setsE ρ is xs) K := rfl
theorem q_frS {t : Tg} {b : En → Hh → Ed → Prop} {E : Ed} : frI (.seq xs) t b E ρ h = frL t b E xs ρ h := rfl
theorem q_asR {R : Hh → Prop} : asW (.ref a) e d h R = selW (wrL h a) (fun xs => intW e fun i => optW (ixN xs.length i) fun j => R (up h a (.lst (xs.set j d)))) (optW (wrN h a) fun kvs => kvs.length < sizeLine ∧ optW (keyT e) fun k => R (up h a (.dN (stoK kvs k d)))) := rfl
theorem q_lsL : lsD h (.lst xs) = some xs := rfl
theorem q_lsR : lsD h (.ref a) = rdL h a := rfl
theorem q_pN {f : En → Hh → QD → XD → Prop} : partW .kN f = fun _ h K _ => K none h := rfl
theorem q_pV {f : En → Hh → QD → XD → Prop} {i : Nat} : partW (.v i) f = fun ρ h K X => f ρ h (fun y h2 => intW y fun i => K (some i) h2) X := rfl
theorem q_pI {f : En → Hh → QD → XD → Prop} {i : Int} : partW (.kI i) f = fun ρ h K X => f ρ h (fun y h2 => intW y fun i => K (some i) h2) X := rfl
theorem q_pO {f : En → Hh → QD → XD → Prop} {o : Bo} {a b : E} : partW (.op o a b) f = fun ρ h K X => f ρ h (fun y h2 => intW y fun i => K (some i) h2) X := rfl
theorem q_pG {f : En → Hh → QD → XD → Prop} {a : E} : partW (.neg a) f = fun ρ h K X => f ρ h (fun y h2 => intW y fun i => K (some i) h2) X := rfl
theorem q_pX {f : En → Hh → QD → XD → Prop} {a b : E} : partW (.ix a b) f = fun ρ h K X => f ρ h (fun y h2 => intW y fun i => K (some i) h2) X := rfl
theorem q_pB {f : En → Hh → QD → XD → Prop} {o : Bi} {a : Es} : partW (.bi o a) f = fun ρ h K X => f ρ h (fun y h2 => intW y fun i => K (some i) h2) X := rfl
end
theorem q_set0 {v : Option D} {r : En} {x : Option D} : setE (v :: r) 0 x = x :: r := rfl
theorem q_setS {v : Option D} {r : En} {n : Nat} {x : Option D} : setE (v :: r) (n + 1) x = v :: setE r n x := rfl
end Lt
namespace Lt
open PySem PySem.Spec PyProof.Rows L2
/-! ### drawn numbers -/
def mixF (c p m : Int) : Int := (c * 48271 + 11) % p % m
theorem mixF_pos {c p m : Int} (hm : 0 < m) : 0 ≤ mixF c p m ∧ mixF c p m < m := ⟨Int.emod_nonneg _ (by omega), Int.emod_lt_of_pos _ hm⟩
/-! ### fractions with any bottom but nought -/
def mkS (t b : Int) : Fr := if b < 0 then mk (-t) (-b) else mk t b
@[irreducible] def overF (a b : Fr) : Fr := mkS (a.1 * b.2) (a.2 * b.1)
theorem mk_cross {t b : Int} (hb : 0 < b) : (mk t b).1 * b = t * (mk t b).2 := by
  rw [mk]
  show t / (Int.gcd t b : Int) * b = t * (b / (Int.gcd t b : Int))
  obtain ⟨u, hu⟩ := Int.gcd_dvd_left t b
  obtain ⟨v, hv⟩ := Int.gcd_dvd_right t b
  have hg := gcd_pos (t := t) hb
  generalize (Int.gcd t b : Int) = g at *
  subst hu hv
  rw [Int.mul_ediv_cancel_left _ (by omega), Int.mul_ediv_cancel_left _ (by omega)]
  grind
theorem mkS_cross {t b : Int} (hb : b ≠ 0) : (mkS t b).1 * b = t * (mkS t b).2 := by
  unfold mkS
  split
  · have := mk_cross (t := -t) (b := -b) (by omega)
    grind
  · exact mk_cross (by omega)
theorem mkS_low {t b : Int} (hb : b ≠ 0) : Low (mkS t b) := by
  unfold mkS
  split
  · exact mk_low (by omega)
  · exact mk_low (by omega)
theorem mkS_sz {n m : Nat} {t b : Int} (ht : B n t) (hb : b ≠ 0) (h : B m b) : Sz n m (mkS t b) := by
  unfold mkS
  split
  · exact mk_sz ht.neg (by omega) h.neg
  · exact mk_sz ht (by omega) h
theorem Low.gcd {q : Fr} (h : Low q) : (Int.gcd q.1 q.2 : Int) = 1 := by rw [h.cop]; rfl
theorem B.pow {n : Nat} {i : Int} (h : B n i) : ∀ k : Nat, B (n * k + 1) (i ^ k)
  | 0 => by rw [Int.pow_zero]; exact B.mono (m := 1) (by decide) (by omega)
  | k + 1 => by
    rw [Int.pow_succ]
    exact ((B.pow h k).mul h).mono (by rw [Nat.mul_add]; omega)
end Lt
namespace Lt
open PySem PySem.Spec PyProof.Rows L2
theorem rng3_map : ∀ (n : Nat) (lo c : Nat), rng3 (lo : Int) (c : Int) n = (List.range n).map fun k => D.int ((lo + k * c : Nat) : Int)
  | 0, lo, c => by simp [rng3]
  | n + 1, lo, c => by
    have e : ((lo : Int) + (c : Int)) = ((lo + c : Nat) : Int) := by omega
    rw [rng3, e, rng3_map n (lo + c) c, List.range_succ_eq_map]
    simp only [List.map_cons, List.map_map, Nat.zero_mul, Nat.add_zero]
    congr 1
    apply List.map_congr_left
    intro a _
    simp only [Function.comp, Nat.succ_eq_add_one]
    congr 2
    rw [Nat.add_mul]; omega
theorem minmax_if {n : Nat} {k : Nat} : (if (if (n : Int) > 1 then (n : Int) else 1) < (k : Int) then (if (n : Int) > 1 then (n : Int) else 1) else (k : Int)) = ((min k (max 1 n) : Nat) : Int) := by
  split <;> split <;> omega
end Lt

namespace Lt
open PySem PySem.Spec PyProof.Rows L2
/-! ### texts by their signs -/
def st (l : List Nat) : Str := ⟨l.toArray⟩
theorem st_len {l : List Nat} : (st l).length = l.length := by simp [st, Str.length]
theorem st_cps {l : List Nat} : (st l).cps.toList = l := by simp [st]
theorem st_inj {a b : List Nat} : st a = st b ↔ a = b := ⟨fun h => by have := congrArg (fun s : Str => s.cps.toList) h; simpa [st] using this, fun h => by rw [h]⟩
theorem st_app {a b : List Nat} : st a ++ st b = st (a ++ b) := by
  show Str.append _ _ = _
  unfold Str.append st
  simp
theorem st_one {c : Nat} : (⟨#[c]⟩ : Str) = st [c] := rfl
theorem st_of (s : Str) : s = st s.cps.toList := by cases s; simp [st]
theorem st_nil : Str.ofString "" = st [] := by decide +kernel
theorem st_cut {l : List Nat} {lo hi : Option Int} : cutS (st l) lo hi = st ((l.drop (HT.sIx l.length 0 lo)).take (HT.sIx l.length l.length hi - HT.sIx l.length 0 lo)) := by
  unfold cutS
  simp only [st_len]
  simp [st, Array.extract, List.extract_eq_take_drop]
theorem cut_last {α : Type} {xs : List α} : (xs.drop (HT.sIx xs.length 0 none)).take (HT.sIx xs.length xs.length (some (-1)) - HT.sIx xs.length 0 none) = xs.dropLast := by
  rw [HT.sIx_none, List.drop_zero, Nat.sub_zero, List.dropLast_eq_take]
  congr 1
  unfold HT.sIx
  simp
  omega
theorem nodup_range_map {α : Type} {f : Nat → α} {n : Nat} (h : ∀ x y, x < n → y < n → f x = f y → x = y) : ((List.range n).map f).Nodup := by
  refine List.pairwise_map.2 (List.Pairwise.imp_of_mem (fun {x y} hx hy lt e => ?_) List.pairwise_lt_range)
  have := h x y (List.mem_range.1 hx) (List.mem_range.1 hy) e
  omega
theorem abc_at {i : Int} (h0 : 0 ≤ i) (h1 : i < 26) : atI (Str.ofString "abcdefghijklmnopqrstuvwxyz").cps.toList i = some (97 + i.toNat) := by
  obtain ⟨n, rfl⟩ : ∃ n : Nat, i = n := ⟨i.toNat, by omega⟩
  have : ∀ k : Fin 26, (Str.ofString "abcdefghijklmnopqrstuvwxyz").cps.toList[k.val]? = some (97 + k.val) := by decide +kernel
  rw [atI_N]
  exact this ⟨n, by omega⟩
/-! ### drawn cells -/
def cellF (ns : List Int) (k : Int) : Int := if 0 < ns.length then ns[(k % ns.length).toNat]?.getD 0 else 0
def drawF (ns : List Int) (k p m : Int) : Int := ((cellF ns k + k * k) * 48271 + 11) % p % m
theorem drawF_pos {ns : List Int} {k p m : Int} (hm : 0 < m) : 0 ≤ drawF ns k p m ∧ drawF ns k p m < m := ⟨Int.emod_nonneg _ (by omega), Int.emod_lt_of_pos _ hm⟩
theorem idx {ns : List Int} {k : Int} (hl : 0 < ns.length) : atI ns (k.fmod ns.length) = some (cellF ns k) := by
  have h1 := Int.emod_nonneg k (b := ns.length) (by omega)
  have h2 := Int.emod_lt_of_pos k (b := ns.length) (by omega)
  rw [fmod_pos (by omega), atI_of h1 h2]
  have h3 : (k % ns.length).toNat < ns.length := by omega
  unfold cellF
  rw [if_pos hl, List.getElem?_eq_getElem h3]; rfl
/-! ### names of boxes -/
def turnF (ns : List Int) (k a p : Nat) : Int :=
  if p = a then (k : Int) + drawF ns 4 10069 26
  else (p : Int) * p + drawF ns 2 10039 26 + (if drawF ns 3 10061 2 = 0 then drawF ns (30 + k) 10067 26 else 0)
def sizeF (ns : List Int) (k a : Nat) : Nat := a + 1 + (if drawF ns 1 10009 2 = 0 then (drawF ns (20 + k) 10037 (8 - a)).toNat else 0)
def nameF (ns : List Int) (k a : Nat) : List Nat := (List.range (sizeF ns k a)).map fun p => 97 + (turnF ns k a p % 26).toNat
theorem sizeF_le {ns : List Int} {k a : Nat} (ha : a < 8) : a < sizeF ns k a ∧ sizeF ns k a ≤ 8 := by
  have q := drawF_pos (ns := ns) (k := 20 + k) (p := 10037) (m := 8 - a) (by omega)
  unfold sizeF
  split <;> omega
theorem nameF_len {ns : List Int} {k a : Nat} : (nameF ns k a).length = sizeF ns k a := by unfold nameF; simp
theorem nameF_at {ns : List Int} {k a : Nat} (ha : a < 8) : (nameF ns k a)[a]? = some (97 + ((k + drawF ns 4 10069 26) % 26).toNat) := by
  unfold nameF
  rw [List.getElem?_map, List.getElem?_range (sizeF_le ha).1]
  simp [turnF]
def letter (c : Nat) : Prop := 97 ≤ c ∧ c ≤ 122
theorem nameF_letter {ns : List Int} {k a : Nat} : ∀ c ∈ nameF ns k a, letter c := fun c hc => by
  unfold nameF at hc
  obtain ⟨p, _, rfl⟩ := List.mem_map.1 hc
  unfold letter
  omega
/-- the k-th box's name: the second may be the first with a letter more or less -/
def nameK (ns : List Int) (a k : Nat) : List Nat :=
  if k = 1 ∧ drawF ns 9 10369 3 = 0 then (if (nameF ns 0 a).length - 1 < 7 then nameF ns 0 a ++ [101] else (nameF ns 0 a).dropLast) else nameF ns k a
theorem nameK_len {ns : List Int} {a k : Nat} (ha : a < 8) : 1 ≤ (nameK ns a k).length ∧ (nameK ns a k).length ≤ 8 := by
  have h0 := sizeF_le (ns := ns) (k := 0) ha
  have hk := sizeF_le (ns := ns) (k := k) ha
  unfold nameK
  split
  · split
    · rw [List.length_append, nameF_len] at *; simp; omega
    · rw [List.length_dropLast, nameF_len] at *; omega
  · rw [nameF_len]; omega
theorem nameK_letter {ns : List Int} {a k : Nat} : ∀ c ∈ nameK ns a k, letter c := fun c hc => by
  unfold nameK at hc
  split at hc
  · split at hc
    · rcases List.mem_append.1 hc with z | z
      · exact nameF_letter c z
      · simp at z; subst z; unfold letter; omega
    · exact nameF_letter c (List.dropLast_subset _ hc)
  · exact nameF_letter c hc
/-- the letter at the drawn place tells the names -/
theorem at_ne {ns : List Int} {k l : Nat} (hk : k < 26) (hl : l < 26) (e : 97 + (((k : Int) + drawF ns 4 10069 26) % 26).toNat = 97 + (((l : Int) + drawF ns 4 10069 26) % 26).toNat) : k = l := by
  have q := drawF_pos (ns := ns) (k := 4) (p := 10069) (m := 26) (by decide)
  generalize drawF ns 4 10069 26 = d at *
  omega
theorem nameF_inj {ns : List Int} {a k l : Nat} (ha : a < 8) (hk : k < 26) (hl : l < 26) (e : nameF ns k a = nameF ns l a) : k = l := by
  have h1 := nameF_at (ns := ns) (k := k) ha
  have h2 := nameF_at (ns := ns) (k := l) ha
  rw [e, h2] at h1
  simp only [Option.some.injEq] at h1
  exact (at_ne hl hk h1).symm
theorem nameK_inj {ns : List Int} {a k l : Nat} (ha : a < 8) (hk : k < 26) (hl : l < 26) (e : nameK ns a k = nameK ns a l) : k = l := by
  have aux : ∀ {k : Nat}, k < 26 → k ≠ 1 → nameK ns a 1 = nameF ns k a → drawF ns 9 10369 3 = 0 → False := fun {k} hk h1 e d => by
    have s0 := sizeF_le (ns := ns) (k := 0) ha
    have sk := sizeF_le (ns := ns) (k := k) ha
    have a0 := nameF_at (ns := ns) (k := 0) ha
    have ak := nameF_at (ns := ns) (k := k) ha
    unfold nameK at e
    rw [if_pos ⟨rfl, d⟩] at e
    split at e
    · rename_i h7
      have z : (nameF ns 0 a ++ [101])[a]? = some (97 + ((0 + drawF ns 4 10069 26) % 26).toNat) := by
        rw [List.getElem?_append_left (by rw [nameF_len]; exact s0.1)]; exact a0
      rw [e, ak] at z
      simp only [Option.some.injEq] at z
      have := at_ne (ns := ns) (k := k) (l := 0) hk (by decide) z
      subst this
      have := congrArg List.length e
      simp at this
    · rename_i h7
      rw [nameF_len] at h7
      have l1 := congrArg List.length e
      rw [List.length_dropLast, nameF_len, nameF_len] at l1
      by_cases h : a < 7
      · have z : (nameF ns 0 a).dropLast[a]? = some (97 + ((0 + drawF ns 4 10069 26) % 26).toNat) := by
          rw [List.getElem?_dropLast, nameF_len, if_pos (by omega)]; exact a0
        rw [e, ak] at z
        simp only [Option.some.injEq] at z
        have := at_ne (ns := ns) (k := k) (l := 0) hk (by decide) z
        subst this
        omega
      · omega
  by_cases d : drawF ns 9 10369 3 = 0
  · by_cases h1 : k = 1
    · subst h1
      by_cases h2 : l = 1
      · exact h2.symm
      · have : nameK ns a l = nameF ns l a := by unfold nameK; rw [if_neg (fun z => h2 z.1)]
        rw [this] at e
        exact (aux hl h2 e d).elim
    · have : nameK ns a k = nameF ns k a := by unfold nameK; rw [if_neg (fun z => h1 z.1)]
      rw [this] at e
      by_cases h2 : l = 1
      · subst h2; exact (aux hk h1 e.symm d).elim
      · have : nameK ns a l = nameF ns l a := by unfold nameK; rw [if_neg (fun z => h2 z.1)]
        rw [this] at e
        exact nameF_inj ha hk hl e
  · have : ∀ k, nameK ns a k = nameF ns k a := fun k => by unfold nameK; rw [if_neg (fun z => d z.2)]
    rw [this, this] at e
    exact nameF_inj ha hk hl e
/-! ### boxes -/
abbrev Box := List Nat × Int
abbrev boxD (b : Box) : D := .tup [.str (st b.1), .int b.2]
def prodB (bs : List Box) : Int := (bs.map (·.2)).foldl (· * ·) 1
theorem prodB_nil : prodB [] = 1 := rfl
theorem prodB_snoc {bs : List Box} {b : Box} : prodB (bs ++ [b]) = prodB bs * b.2 := by unfold prodB; simp
/-- boxes as told -/
structure Boxes (bs : List Box) (most : Int) : Prop where
  n : bs.length ≤ 9
  nm : ∀ b ∈ bs, (1 ≤ b.1.length ∧ b.1.length ≤ 8) ∧ ∀ c ∈ b.1, letter c
  nd : (bs.map (·.1)).Nodup
  sz : ∀ b ∈ bs, 1 ≤ b.2 ∧ b.2 ≤ 9
  pr : prodB bs ≤ most
/-! ### operands, states -/
inductive Opd where
  | num (i : Int) | nm (l : List Nat)
  deriving DecidableEq
def opdD : Opd → D
  | .num i => .int i
  | .nm l => .str (st l)
/-- a name is a box's, a number has no more than so many bits -/
def OkO (bs : List Box) (n : Nat) : Opd → Prop
  | .num i => B n i
  | .nm l => l ∈ bs.map (·.1)
def worthF (bs : List Box) (σ : List Int) : Opd → Int
  | .num i => i
  | .nm l => match (bs.zip σ).find? fun q => decide (q.1.1 = l) with
    | some q => q.2
    | none => 0
abbrev stD (σ : List Int) : D := .tup (σ.map D.int)
structure StOk (bs : List Box) (σ : List Int) : Prop where
  len : bs.length = σ.length
  v : ∀ q ∈ bs.zip σ, 0 ≤ q.2 ∧ q.2 < q.1.2
theorem find_zip {l : List Nat} : ∀ {bs : List Box} {σ : List Int}, bs.length = σ.length → l ∈ bs.map (·.1) → ∃ (i : Nat) (q : Box × Int), bs.findIdx? (fun b => decide (b.1 = l)) = some i ∧ σ[i]? = some q.2 ∧ bs[i]? = some q.1 ∧ (bs.zip σ).find? (fun q => decide (q.1.1 = l)) = some q
  | [], _, _, h => by simp at h
  | _ :: _, [], e, _ => by simp at e
  | b :: bs, v :: σ, e, h => by
    by_cases c : b.1 = l
    · exact ⟨0, (b, v), by simp [List.findIdx?_cons, c], rfl, rfl, by simp [c]⟩
    · obtain ⟨i, q, h1, h2, h3, h4⟩ := find_zip (l := l) (bs := bs) (σ := σ) (by simpa using e) (by
        rw [List.map_cons, List.mem_cons] at h
        rcases h with h | h
        · exact absurd h.symm c
        · exact h)
      exact ⟨i + 1, q, by simp [List.findIdx?_cons, c, h1], by simpa using h2, by simpa using h3, by simp [c, h4]⟩
theorem worth_b {bs : List Box} {σ : List Int} {o : Opd} {n : Nat} {m : Int} (hs : StOk bs σ) (hb : Boxes bs m) (ho : OkO bs n o) (h4 : 4 ≤ n) : B n (worthF bs σ o) := by
  cases o with
  | num i => exact ho
  | nm l =>
    obtain ⟨i, q, _, _, h3, h⟩ := find_zip hs.len ho
    have e : worthF bs σ (.nm l) = q.2 := by
      show (match (bs.zip σ).find? (fun q => decide (q.1.1 = l)) with
        | some q => q.2
        | none => 0) = _
      rw [h]
    rw [e]
    have h1 := hs.v q (List.mem_of_find?_eq_some h)
    have h2 := hb.sz q.1 (List.mem_of_getElem? h3)
    exact B.mono (m := 4) (by unfold B; omega) h4
theorem idx_names {l : List Nat} : ∀ {bs : List Box}, idxD (.str (st l)) (bs.map fun b => .str (st b.1)) = bs.findIdx? fun b => decide (b.1 = l)
  | [] => rfl
  | b :: bs => by
    have ih := idx_names (l := l) (bs := bs)
    unfold idxD at ih ⊢
    rw [List.map_cons, List.findIdx?_cons, List.findIdx?_cons, ih]
    have e : eqD (.str (st b.1)) (.str (st l)) = decide (b.1 = l) := by
      show (st b.1 == st l) = _
      rw [Bool.eq_iff_iff]; simp [st_inj]
    rw [e]
theorem flat_names {bs : List Box} : (bs.map fun b => D.str (st b.1)).all flatD = true := by simp [flatD]
theorem s_signs : (Str.ofString "=" = Str.ofString "<") = False ∧ (Str.ofString "<" = Str.ofString "=") = False ∧ (Str.ofString "#" = Str.ofString "=") = False ∧ (Str.ofString "#" = Str.ofString "<") = False ∧
    (Str.ofString "-" = Str.ofString "+") = False ∧ (Str.ofString "*" = Str.ofString "+") = False ∧ (Str.ofString "*" = Str.ofString "-") = False ∧ (Str.ofString "+" = Str.ofString "-") = False :=
  ⟨eq_false (by decide +kernel), eq_false (by decide +kernel), eq_false (by decide +kernel), eq_false (by decide +kernel), eq_false (by decide +kernel), eq_false (by decide +kernel), eq_false (by decide +kernel), eq_false (by decide +kernel)⟩
/-- a reckoning's sign -/
inductive Sg where | plus | minus | times
  deriving DecidableEq
def Sg.s : Sg → Str
  | .plus => "+" | .minus => "-" | .times => "*"
def Sg.f : Sg → Int → Int → Int
  | .plus, a, b => a + b
  | .minus, a, b => a - b
  | .times, a, b => a * b
def Sg.i : Sg → Int
  | .plus => 0 | .minus => 1 | .times => 2
inductive Tg2 where | eq | lt | ne
  deriving DecidableEq
def Tg2.s : Tg2 → Str
  | .eq => "=" | .lt => "<" | .ne => "#"
def Tg2.f : Tg2 → Int → Int → Bool
  | .eq, a, b => decide (a = b)
  | .lt, a, b => decide (a < b)
  | .ne, a, b => !decide (a = b)
end Lt

namespace Lt
open PySem PySem.Spec PyProof.Rows L2
/-! ### programs -/
structure Tt where
  o : Opd
  s : Tg2
  u : Opd
inductive Rk where
  | one (o : Opd) | two (o : Opd) (s : Sg) (u : Opd)
def ttD (t : Tt) : D := .tup [opdD t.o, .str t.s.s, opdD t.u]
def rkD : Rk → D
  | .one o => .tup [opdD o]
  | .two o s u => .tup [opdD o, .str s.s, opdD u]
inductive Kd where
  | set (l : List Nat) (r : Rk) | draw (l : List Nat) (ws : List Int) | gain (o : Opd) | look (t : Tt) | pass
  | whil (t : Tt) | tim (n : Int) | iff (t : Tt) | hand
inductive Deed where
  | mk (k : Kd) (bs : List (List Deed))
def Deed.k : Deed → Kd
  | .mk k _ => k
def Deed.bs : Deed → List (List Deed)
  | .mk _ bs => bs
def Kd.w : Kd → Str
  | .set _ _ => Str.ofString "set" | .draw _ _ => Str.ofString "draw" | .gain _ => Str.ofString "gain" | .look _ => Str.ofString "look" | .pass => Str.ofString "pass"
  | .whil _ => Str.ofString "while" | .tim _ => Str.ofString "times" | .iff _ => Str.ofString "if" | .hand => Str.ofString "hand"
def Kd.d : Kd → List D → D
  | .set l r, _ => .tup [.str (Str.ofString "set"), .str (st l), rkD r]
  | .draw l ws, _ => .tup [.str (Str.ofString "draw"), .str (st l), .tup (ws.map D.int)]
  | .gain o, _ => .tup [.str (Str.ofString "gain"), opdD o]
  | .look t, _ => .tup [.str (Str.ofString "look"), ttD t]
  | .pass, _ => .tup [.str (Str.ofString "pass")]
  | .whil t, xs => .tup (.str (Str.ofString "while") :: ttD t :: xs)
  | .tim n, xs => .tup (.str (Str.ofString "times") :: .int n :: xs)
  | .iff t, xs => .tup (.str (Str.ofString "if") :: ttD t :: xs)
  | .hand, xs => .tup [.str (Str.ofString "hand"), .tup xs]
mutual
def deedD : Deed → D
  | .mk k bs => k.d (blksL bs)
def blkL : List Deed → List D
  | [] => []
  | d :: r => deedD d :: blkL r
def blksL : List (List Deed) → List D
  | [] => []
  | b :: r => .tup (blkL b) :: blksL r
end
abbrev blkD (b : List Deed) : D := .tup (b.map deedD)
theorem blkL_map : ∀ b : List Deed, blkL b = b.map deedD
  | [] => by rw [blkL, List.map_nil]
  | d :: r => by rw [blkL, blkL_map r, List.map_cons]
theorem blksL_map : ∀ bs : List (List Deed), blksL bs = bs.map blkD
  | [] => by rw [blksL, List.map_nil]
  | b :: r => by rw [blksL, blksL_map r, List.map_cons, blkL_map]
theorem deedD_eq {k : Kd} {bs : List (List Deed)} : deedD (.mk k bs) = k.d (bs.map blkD) := by rw [deedD, blksL_map]
/-- how many blocks -/
def Kd.ar : Kd → Nat → Prop
  | .whil _, n => n = 1
  | .tim _, n => n = 1
  | .iff _, n => n = 2
  | .hand, n => 2 ≤ n ∧ n ≤ 8
  | _, n => n = 0
def OkN (bx : List Box) : Opd → Prop
  | .num i => 0 ≤ i ∧ i < 10 ^ 9
  | .nm l => l ∈ bx.map (·.1)
theorem OkN.o {bx : List Box} : ∀ {o : Opd}, OkN bx o → OkO bx 32 o
  | .num i, h => by
    have h1 := h.1; have h2 := h.2
    show B 32 i
    unfold B; omega
  | .nm _, h => h
structure WtOk (z : Int) (ws : List Int) : Prop where
  len : (ws.length : Int) = z
  rg : ∀ w ∈ ws, 0 ≤ w ∧ w < 10 ^ 9
  pos : 0 < ws.sum
structure TtOk (bx : List Box) (t : Tt) : Prop where
  o : OkN bx t.o
  u : OkN bx t.u
def RkOk (bx : List Box) : Rk → Prop
  | .one o => OkN bx o
  | .two o _ u => OkN bx o ∧ OkN bx u
def Kd.ok (bx : List Box) : Kd → Prop
  | .set l r => l ∈ bx.map (·.1) ∧ RkOk bx r
  | .draw l ws => ∃ z, (l, z) ∈ bx ∧ WtOk z ws
  | .gain o => OkN bx o
  | .look t => TtOk bx t
  | .pass => True
  | .whil t => TtOk bx t
  | .tim n => 0 ≤ n ∧ n ≤ 60
  | .iff t => TtOk bx t
  | .hand => True
/-- a block, no more than n within one another -/
def OkB (bx : List Box) : Nat → List Deed → Prop
  | 0, b => b = []
  | n + 1, b => ∀ d ∈ b, d.k.ok bx ∧ d.k.ar d.bs.length ∧ ∀ c ∈ d.bs, OkB bx n c
section
variable {bx : List Box} {n m : Nat} {b c : List Deed} {d : Deed}
theorem OkB.nil : ∀ {n : Nat}, OkB bx n []
  | 0 => rfl
  | n + 1 => fun _ h => by cases h
theorem OkB.up : ∀ {n : Nat} {b : List Deed}, OkB bx n b → OkB bx (n + 1) b
  | 0, b, h => by rw [show b = [] from h]; exact .nil
  | n + 1, b, h => fun d hd => ⟨(h d hd).1, (h d hd).2.1, fun c hc => ((h d hd).2.2 c hc).up⟩
theorem OkB.mono (h : OkB bx n b) (l : n ≤ m) : OkB bx m b := by
  obtain ⟨k, rfl⟩ : ∃ k, m = n + k := ⟨m - n, by omega⟩
  clear l
  induction k with
  | zero => exact h
  | succ k ih => exact ih.up
theorem OkB.in (h : OkB bx n b) (hd : d ∈ b) : d.k.ok bx ∧ d.k.ar d.bs.length ∧ ∀ c ∈ d.bs, OkB bx (n - 1) c := by
  cases n with
  | zero => rw [show b = [] from h] at hd; cases hd
  | succ n => exact h d hd
theorem OkB.app (h : OkB bx n b) (k : OkB bx n c) : OkB bx n (b ++ c) := by
  cases n with
  | zero => rw [show b = [] from h, show c = [] from k]; exact rfl
  | succ n => exact fun d hd => (List.mem_append.1 hd).elim (h d) (k d)
theorem OkB.sub (h : OkB bx n b) (s : ∀ d ∈ c, d ∈ b) : OkB bx n c := by
  cases n with
  | zero =>
    rw [show b = [] from h] at s
    cases c with
    | nil => exact rfl
    | cons x r => exact absurd (s x (by simp)) (by simp)
  | succ n => exact fun d hd => h d (s d hd)
theorem OkB.one (k : Kd) (bs : List (List Deed)) (h : k.ok bx) (a : k.ar bs.length) (hb : ∀ c ∈ bs, OkB bx n c) : OkB bx (n + 1) [.mk k bs] := fun d hd => by
  rw [List.mem_singleton] at hd; subst hd; exact ⟨h, a, hb⟩
end
/-! ### lengths -/
def inTim : Kd → Int → Int
  | .tim n, x => (if n > 1 then n else 1) * (1 + x)
  | _, x => x
mutual
def lenD : Deed → Int
  | .mk k bs => 1 + inTim k (lenBs bs)
def lenB : List Deed → Int
  | [] => 0
  | d :: r => lenD d + lenB r
def lenBs : List (List Deed) → Int
  | [] => 0
  | b :: r => lenB b + lenBs r
end
mutual
def wtD : Deed → Nat
  | .mk _ bs => 1 + wtBs bs
def wtB : List Deed → Nat
  | [] => 1
  | d :: r => wtD d + wtB r
def wtBs : List (List Deed) → Nat
  | [] => 0
  | b :: r => wtB b + wtBs r
end
mutual
def hasD (w : Str) : Deed → Bool
  | .mk k bs => decide (k.w = w) || hasBs w bs
def hasB (w : Str) : List Deed → Bool
  | [] => false
  | d :: r => hasD w d || hasB w r
def hasBs (w : Str) : List (List Deed) → Bool
  | [] => false
  | b :: r => hasB w b || hasBs w r
end
theorem lenBs_sum : ∀ bs, lenBs bs = (bs.map lenB).sum
  | [] => by rw [lenBs]; rfl
  | b :: r => by rw [lenBs, lenBs_sum r]; rfl
theorem hasBs_any {w : Str} : ∀ bs, hasBs w bs = (bs.map (hasB w)).any id
  | [] => by rw [hasBs]; rfl
  | b :: r => by rw [hasBs, hasBs_any r]; rfl
theorem wtB_pos : ∀ b, 1 ≤ wtB b
  | [] => by rw [wtB]; exact Nat.le_refl _
  | d :: r => by rw [wtB]; have := wtB_pos r; omega
theorem wtD_pos : ∀ d, 1 ≤ wtD d
  | .mk k bs => by rw [wtD]; omega
theorem wtB_app : ∀ b c, wtB (b ++ c) + 1 = wtB b + wtB c
  | [], c => by rw [List.nil_append, wtB]; omega
  | d :: r, c => by rw [List.cons_append, wtB, wtB]; have := wtB_app r c; omega
theorem wtBs_app : ∀ b c, wtBs (b ++ c) = wtBs b + wtBs c
  | [], c => by rw [List.nil_append, wtBs]; omega
  | d :: r, c => by rw [List.cons_append, wtBs, wtBs, wtBs_app r c]; omega
theorem len_wtBs : ∀ bs, bs.length ≤ wtBs bs
  | [] => by rw [wtBs]; exact Nat.le_refl _
  | b :: r => by rw [wtBs, List.length_cons]; have := wtB_pos b; have := len_wtBs r; omega
theorem len_wtB : ∀ b, b.length + 1 ≤ wtB b
  | [] => by rw [wtB]; exact Nat.le_refl _
  | d :: r => by rw [wtB, List.length_cons]; have := wtD_pos d; have := len_wtB r; omega
theorem lenB_app : ∀ b c, lenB (b ++ c) = lenB b + lenB c
  | [], c => by rw [List.nil_append, lenB]; omega
  | d :: r, c => by rw [List.cons_append, lenB, lenB, lenB_app r c]; omega
theorem intsD_map : ∀ xs : List Int, intsD (xs.map D.int) = some xs
  | [] => rfl
  | x :: r => by rw [List.map_cons, intsD, intsD_map r]; rfl
theorem blsD_map : ∀ xs : List Bool, blsD (xs.map D.bl) = some xs
  | [] => rfl
  | x :: r => by rw [List.map_cons, blsD, blsD_map r]; rfl
mutual
theorem lenD_nn {bx : List Box} {n : Nat} : ∀ {d : Deed}, 0 ≤ lenD d
  | .mk k bs => by
    rw [lenD]
    have := lenBs_nn (bx := bx) (n := n) (bs := bs)
    cases k <;> simp only [inTim] <;> try omega
    rename_i q
    have : 0 ≤ (if q > 1 then q else 1) * (1 + lenBs bs) := Int.mul_nonneg (by split <;> omega) (by omega)
    omega
theorem lenB_nn {bx : List Box} {n : Nat} : ∀ {b : List Deed}, 0 ≤ lenB b
  | [] => by rw [lenB]; exact Int.le_refl _
  | d :: r => by rw [lenB]; have := lenD_nn (bx := bx) (n := n) (d := d); have := lenB_nn (bx := bx) (n := n) (b := r); omega
theorem lenBs_nn {bx : List Box} {n : Nat} : ∀ {bs : List (List Deed)}, 0 ≤ lenBs bs
  | [] => by rw [lenBs]; exact Int.le_refl _
  | b :: r => by rw [lenBs]; have := lenB_nn (bx := bx) (n := n) (b := b); have := lenBs_nn (bx := bx) (n := n) (bs := r); omega
end
/-! ### heaps of two lists -/
theorem wrL_upN {h : Hh} {a b : Addr} {o : O} (e : b ≠ a) : wrL (up h a o) b = wrL h b := by unfold wrL; rw [up_ne e]
theorem rdL_upN {h : Hh} {a b : Addr} {o : O} (e : b ≠ a) : rdL (up h a o) b = rdL h b := by unfold rdL; rw [up_ne e]
theorem up_swap {h : Hh} {a b : Addr} {o u v : O} (e : a ≠ b) : up (up (up h a o) b u) a v = up (up h a v) b u := by
  rw [up_comm e, up_up, up_comm (Ne.symm e)]
theorem pop_at {α : Type} {xs : List α} {x : α} : (xs ++ [x])[(xs ++ [x]).length - 1]? = some x := by simp
theorem pos_snoc {α : Type} {xs : List α} {x : α} : ((0 : Int) < ((xs ++ [x]).length : Nat)) = True := eq_true (by rw [List.length_append, List.length_singleton]; omega)
theorem atI_3 {α : Type} {x y z u : α} {r : List α} : atI (x :: y :: z :: u :: r) 3 = some u := by
  have h : (3 : Int) < ((x :: y :: z :: u :: r).length : Nat) := by simp; omega
  simp only [atI, ixN]
  rw [if_pos (by decide), if_pos h]; rfl
theorem len1 {α : Type} {xs : List α} (h : xs.length = 1) : ∃ x, xs = [x] := List.length_eq_one_iff.1 h
theorem len2 {α : Type} {xs : List α} (h : xs.length = 2) : ∃ x y, xs = [x, y] := by
  match xs, h with
  | [x, y], _ => exact ⟨x, y, rfl⟩
/-- a while, one way -/
theorem wh_go {σ : Type} {c : En → Hh → QD → XD → Prop} {b : En → Hh → Ed → Prop} {K : Ed} (st : σ → En) (hp : σ → Hh) (P : σ → Prop) (m : σ → Nat)
    (step : ∀ s, P s → ∀ W : En → Hh → Prop, (∀ s', P s' → m s' < m s → W (st s') (hp s')) → c (st s) (hp s) (fun d h1 => blW d fun d => if d = true then b (st s) h1 { K with nx := W } else K.nx (st s) h1) (fun x h1 => K.ex x (st s) h1)) (s : σ) (p : P s) : whI c b K (st s) (hp s) := by
  have gen : ∀ n s, m s < n → P s → whW (fun ρ h Q => c ρ h Q fun c h1 => K.ex c ρ h1) b K n (st s) (hp s) := by
    intro n
    induction n with
    | zero => intro s l; exact absurd l (Nat.not_lt_zero _)
    | succ n ih =>
      intro s l p
      show c (st s) (hp s) (fun d h1 => blW d fun d => if d = true then b (st s) h1 { K with nx := whW (fun ρ h Q => c ρ h Q fun c h1 => K.ex c ρ h1) b K n } else K.nx (st s) h1) (fun x h1 => K.ex x (st s) h1)
      exact step s p _ fun s' p' l' => ih s' (by omega) p'
  exact ⟨_, gen _ s (Nat.lt_succ_self _) p⟩
/-! ### stacks of blocks -/
def lenS (s : List (List Deed × Int)) : Int := (s.map fun q => q.2 * lenB q.1).sum
def wtS (s : List (List Deed × Int)) : Nat := (s.map fun q => wtB q.1).sum
theorem lenS_app {a b : List (List Deed × Int)} : lenS (a ++ b) = lenS a + lenS b := by unfold lenS; rw [List.map_append, List.sum_append]
theorem wtS_app {a b : List (List Deed × Int)} : wtS (a ++ b) = wtS a + wtS b := by unfold wtS; rw [List.map_append, List.sum_append]
theorem lenS_one {q : List Deed × Int} : lenS [q] = q.2 * lenB q.1 := by unfold lenS; simp
theorem wtS_one {q : List Deed × Int} : wtS [q] = wtB q.1 := by unfold wtS; simp
theorem len_wtS : ∀ s : List (List Deed × Int), s.length ≤ wtS s
  | [] => Nat.le_refl _
  | q :: r => by
    have e : wtS (q :: r) = wtB q.1 + wtS r := by unfold wtS; rw [List.map_cons, List.sum_cons]
    have := wtB_pos q.1; have := len_wtS r
    rw [e, List.length_cons]; omega
abbrev ptD (q : List Deed × Int) : D := .tup [blkD q.1, .int q.2]
theorem hasB_nil {w : Str} : hasB w [] = false := by rw [hasB]
theorem hasB_cons {w : Str} {d : Deed} {r : List Deed} : hasB w (d :: r) = (hasD w d || hasB w r) := by rw [hasB]
theorem wtBs_cons {b : List Deed} {r : List (List Deed)} : wtBs (b :: r) = wtB b + wtBs r := by rw [wtBs]
theorem deed_w {k : Kd} {xs : List D} : ∃ r, k.d xs = .tup (.str k.w :: r) := by cases k <;> exact ⟨_, rfl⟩
theorem ix_deed {d : Deed} {h : Hh} {Q : QD} : ixW (deedD d) (.int 0) h Q = Q (.str d.k.w) h := by
  obtain ⟨k, bs⟩ := d
  rw [deedD_eq]
  obtain ⟨r, e⟩ := deed_w (k := k) (xs := bs.map blkD)
  rw [e, q_ixT, atI_0, optW_some]; rfl
theorem wt_in {c : List Deed} : ∀ {bs : List (List Deed)}, c ∈ bs → wtB c ≤ wtBs bs
  | x :: r, h => by
    rw [wtBs]
    rcases List.mem_cons.1 h with e | e
    · subst e; omega
    · have := wt_in e; omega
theorem wtD_eq {d : Deed} : wtD d = 1 + wtBs d.bs := by obtain ⟨k, bs⟩ := d; rw [wtD]; rfl
theorem lenD_eq {d : Deed} : lenD d = 1 + inTim d.k (lenBs d.bs) := by obtain ⟨k, bs⟩ := d; rw [lenD]; rfl
theorem hasD_eq {d : Deed} {w : Str} : hasD w d = (decide (d.k.w = w) || hasBs w d.bs) := by obtain ⟨k, bs⟩ := d; rw [hasD]; rfl
theorem n_blocks {d : Deed} {m : Nat} (h : wtD d ≤ m) (l : m ≤ 100000) : d.bs.length ≤ sizeLine := Nat.le_trans (by
  rw [wtD_eq] at h
  have := len_wtBs d.bs
  omega : _ ≤ 100000) (by decide)
/-- times, or not -/
theorem tim_or (d : Deed) : (∃ n, d.k = .tim n ∧ d.k.w = Str.ofString "times") ∨ (¬ d.k.w = Str.ofString "times" ∧ ∀ x, inTim d.k x = x) := by
  obtain ⟨k, bs⟩ := d
  cases k with
  | tim n => exact .inl ⟨n, rfl, rfl⟩
  | _ => exact .inr ⟨by simp only [Deed.k, Kd.w]; decide +kernel, fun _ => rfl⟩
theorem ix_tim {d : Deed} {n : Int} {h : Hh} {Q : QD} (e : d.k = .tim n) : ixW (deedD d) (.int 1) h Q = Q (.int n) h := by
  obtain ⟨k, bs⟩ := d
  rw [show k = .tim n from e, deedD_eq]
  show ixW (.tup (.str (Str.ofString "times") :: .int n :: bs.map blkD)) (.int 1) h Q = _
  rw [q_ixT, atI_1, optW_some]
/-! ### words -/
theorem s_words : (Str.ofString "set" = Str.ofString "draw") = False ∧ (Str.ofString "set" = Str.ofString "gain") = False ∧ (Str.ofString "set" = Str.ofString "look") = False ∧ (Str.ofString "set" = Str.ofString "pass") = False ∧ (Str.ofString "set" = Str.ofString "while") = False ∧ (Str.ofString "set" = Str.ofString "times") = False ∧ (Str.ofString "set" = Str.ofString "if") = False ∧ (Str.ofString "set" = Str.ofString "hand") = False ∧ (Str.ofString "draw" = Str.ofString "set") = False ∧ (Str.ofString "draw" = Str.ofString "gain") = False ∧ (Str.ofString "draw" = Str.ofString "look") = False ∧ (Str.ofString "draw" = Str.ofString "pass") = False ∧ (Str.ofString "draw" = Str.ofString "while") = False ∧ (Str.ofString "draw" = Str.ofString "times") = False ∧ (Str.ofString "draw" = Str.ofString "if") = False ∧ (Str.ofString "draw" = Str.ofString "hand") = False ∧ (Str.ofString "gain" = Str.ofString "set") = False ∧ (Str.ofString "gain" = Str.ofString "draw") = False ∧ (Str.ofString "gain" = Str.ofString "look") = False ∧ (Str.ofString "gain" = Str.ofString "pass") = False ∧ (Str.ofString "gain" = Str.ofString "while") = False ∧ (Str.ofString "gain" = Str.ofString "times") = False ∧ (Str.ofString "gain" = Str.ofString "if") = False ∧ (Str.ofString "gain" = Str.ofString "hand") = False ∧ (Str.ofString "look" = Str.ofString "set") = False ∧ (Str.ofString "look" = Str.ofString "draw") = False ∧ (Str.ofString "look" = Str.ofString "gain") = False ∧ (Str.ofString "look" = Str.ofString "pass") = False ∧ (Str.ofString "look" = Str.ofString "while") = False ∧ (Str.ofString "look" = Str.ofString "times") = False ∧ (Str.ofString "look" = Str.ofString "if") = False ∧ (Str.ofString "look" = Str.ofString "hand") = False ∧ (Str.ofString "pass" = Str.ofString "set") = False ∧ (Str.ofString "pass" = Str.ofString "draw") = False ∧ (Str.ofString "pass" = Str.ofString "gain") = False ∧ (Str.ofString "pass" = Str.ofString "look") = False ∧ (Str.ofString "pass" = Str.ofString "while") = False ∧ (Str.ofString "pass" = Str.ofString "times") = False ∧ (Str.ofString "pass" = Str.ofString "if") = False ∧ (Str.ofString "pass" = Str.ofString "hand") = False ∧ (Str.ofString "while" = Str.ofString "set") = False ∧ (Str.ofString "while" = Str.ofString "draw") = False ∧ (Str.ofString "while" = Str.ofString "gain") = False ∧ (Str.ofString "while" = Str.ofString "look") = False ∧ (Str.ofString "while" = Str.ofString "pass") = False ∧ (Str.ofString "while" = Str.ofString "times") = False ∧ (Str.ofString "while" = Str.ofString "if") = False ∧ (Str.ofString "while" = Str.ofString "hand") = False ∧ (Str.ofString "times" = Str.ofString "set") = False ∧ (Str.ofString "times" = Str.ofString "draw") = False ∧ (Str.ofString "times" = Str.ofString "gain") = False ∧ (Str.ofString "times" = Str.ofString "look") = False ∧ (Str.ofString "times" = Str.ofString "pass") = False ∧ (Str.ofString "times" = Str.ofString "while") = False ∧ (Str.ofString "times" = Str.ofString "if") = False ∧ (Str.ofString "times" = Str.ofString "hand") = False ∧ (Str.ofString "if" = Str.ofString "set") = False ∧ (Str.ofString "if" = Str.ofString "draw") = False ∧ (Str.ofString "if" = Str.ofString "gain") = False ∧ (Str.ofString "if" = Str.ofString "look") = False ∧ (Str.ofString "if" = Str.ofString "pass") = False ∧ (Str.ofString "if" = Str.ofString "while") = False ∧ (Str.ofString "if" = Str.ofString "times") = False ∧ (Str.ofString "if" = Str.ofString "hand") = False ∧ (Str.ofString "hand" = Str.ofString "set") = False ∧ (Str.ofString "hand" = Str.ofString "draw") = False ∧ (Str.ofString "hand" = Str.ofString "gain") = False ∧ (Str.ofString "hand" = Str.ofString "look") = False ∧ (Str.ofString "hand" = Str.ofString "pass") = False ∧ (Str.ofString "hand" = Str.ofString "while") = False ∧ (Str.ofString "hand" = Str.ofString "times") = False ∧ (Str.ofString "hand" = Str.ofString "if") = False :=
  ⟨eq_false (by decide +kernel), eq_false (by decide +kernel), eq_false (by decide +kernel), eq_false (by decide +kernel), eq_false (by decide +kernel), eq_false (by decide +kernel), eq_false (by decide +kernel), eq_false (by decide +kernel), eq_false (by decide +kernel), eq_false (by decide +kernel), eq_false (by decide +kernel), eq_false (by decide +kernel), eq_false (by decide +kernel), eq_false (by decide +kernel), eq_false (by decide +kernel), eq_false (by decide +kernel), eq_false (by decide +kernel), eq_false (by decide +kernel), eq_false (by decide +kernel), eq_false (by decide +kernel), eq_false (by decide +kernel), eq_false (by decide +kernel), eq_false (by decide +kernel), eq_false (by decide +kernel), eq_false (by decide +kernel), eq_false (by decide +kernel), eq_false (by decide +kernel), eq_false (by decide +kernel), eq_false (by decide +kernel), eq_false (by decide +kernel), eq_false (by decide +kernel), eq_false (by decide +kernel), eq_false (by decide +kernel), eq_false (by decide +kernel), eq_false (by decide +kernel), eq_false (by decide +kernel), eq_false (by decide +kernel), eq_false (by decide +kernel), eq_false (by decide +kernel), eq_false (by decide +kernel), eq_false (by decide +kernel), eq_false (by decide +kernel), eq_false (by decide +kernel), eq_false (by decide +kernel), eq_false (by decide +kernel), eq_false (by decide +kernel), eq_false (by decide +kernel), eq_false (by decide +kernel), eq_false (by decide +kernel), eq_false (by decide +kernel), eq_false (by decide +kernel), eq_false (by decide +kernel), eq_false (by decide +kernel), eq_false (by decide +kernel), eq_false (by decide +kernel), eq_false (by decide +kernel), eq_false (by decide +kernel), eq_false (by decide +kernel), eq_false (by decide +kernel), eq_false (by decide +kernel), eq_false (by decide +kernel), eq_false (by decide +kernel), eq_false (by decide +kernel), eq_false (by decide +kernel), eq_false (by decide +kernel), eq_false (by decide +kernel), eq_false (by decide +kernel), eq_false (by decide +kernel), eq_false (by decide +kernel), eq_false (by decide +kernel), eq_false (by decide +kernel), eq_false (by decide +kernel)⟩
theorem ixN_N {n i : Nat} (h : i < n) : ixN n (i : Int) = some i := by
  unfold ixN; rw [if_pos (by omega), if_pos (by omega)]; simp
/-! ### texts in lists -/
theorem isPs_strs {h : Hh} : ∀ ws : List Str, IsPs h (ws.map D.str) (ws.map PyData.str)
  | [] => by simp [IsPs]
  | w :: r => by
    rw [List.map_cons, List.map_cons, IsPs]
    exact ⟨_, _, rfl, by rw [IsP], isPs_strs r⟩
def layS (x : Str) : Bool := (PyData.str x).canLay0
theorem layAll_strs : ∀ {ws : List Str}, (∀ w ∈ ws, layS w = true) → PyData.canLayAll0 (ws.map PyData.str) = true
  | [], _ => by simp [PyData.canLayAll0]
  | w :: r, h => by
    rw [List.map_cons, PyData.canLayAll0, layAll_strs fun x hx => h x (by simp [hx])]
    have := h w (by simp)
    unfold layS at this
    rw [this]; rfl
theorem dep_strs : ∀ {ws : List Str}, PyData.depthAll (ws.map PyData.str) = 0
  | [] => by simp [PyData.depthAll]
  | w :: r => by rw [List.map_cons, PyData.depthAll, dep_strs]; simp [PyData.depth]
theorem any_strs {x : Str} : ∀ {ws : List Str}, ((ws.map PyData.str).any fun z => PyData.eqv z (.str x)) = decide (x ∈ ws)
  | [] => by simp
  | w :: r => by
    rw [List.map_cons, List.any_cons, any_strs]
    rw [Bool.eq_iff_iff]
    simp only [PyData.eqv, Bool.or_eq_true, beq_iff_eq, decide_eq_true_eq, List.mem_cons]
    exact or_congr_left eq_comm
theorem in_strs {x : Str} {ws : List Str} {h : Hh} {K : Bool → Prop} (hx : layS x = true) (hw : ∀ w ∈ ws, layS w = true) : inW (.str x) (.lst (ws.map D.str)) h K = K (decide (x ∈ ws)) := by
  have p1 : IsP h (.str x) (.str x) := by rw [IsP]
  have p2 : IsP h (.lst (ws.map D.str)) (.list (ws.map PyData.str)) := by rw [IsP]; exact ⟨_, rfl, isPs_strs ws⟩
  have s1 : SeqAt.shaped (PyData.str x) = true := by
    unfold SeqAt.shaped
    unfold layS at hx
    rw [hx]; simp [PyData.depth]
  have s2 : SeqAt.shaped (.list (ws.map PyData.str)) = true := by
    unfold SeqAt.shaped
    rw [PyData.canLay0, layAll_strs hw, PyData.depth, dep_strs]; rfl
  apply propext
  constructor
  · rintro ⟨d, ds, q1, q2, _, _, k⟩
    rw [← isP_inj p1 q1] at k
    have e := isP_inj p2 q2
    simp only [PyData.list.injEq] at e
    rw [← e, any_strs] at k
    exact k
  · intro k
    exact ⟨_, _, p1, p2, s1, s2, by rw [any_strs]; exact k⟩
theorem lay_w {k : Kd} : layS k.w = true := by cases k <;> (simp only [Kd.w]; decide +kernel)
theorem frz_ref {p : Addr} {h : Hh} {Q : QD} : frzW (.ref p) h Q = selW (wrL h p) (fun xs => Q (.lst xs) (era h p)) (optW (wrN h p) fun kvs => Q (.dct (kvs.map (·.1)) (kvs.map (·.2))) (era h p)) := rfl
theorem lenS_all {w : Int} : ∀ {bs : List (List Deed)}, lenS (bs.map fun c => (c, w)) = w * lenBs bs
  | [] => by rw [lenBs, Int.mul_zero]; rfl
  | b :: r => by
    have e : lenS ((b :: r).map fun c => (c, w)) = w * lenB b + lenS (r.map fun c => (c, w)) := by unfold lenS; rw [List.map_cons, List.map_cons, List.sum_cons]
    rw [e, lenS_all, lenBs, Int.mul_add]
theorem wtS_all {w : Int} : ∀ {bs : List (List Deed)}, wtS (bs.map fun c => (c, w)) = wtBs bs
  | [] => by rw [wtBs]; rfl
  | b :: r => by
    have e : wtS ((b :: r).map fun c => (c, w)) = wtB b + wtS (r.map fun c => (c, w)) := by unfold wtS; rw [List.map_cons, List.map_cons, List.sum_cons]
    rw [e, wtS_all, wtBs]
theorem hasBs_app {w : Str} : ∀ {a b : List (List Deed)}, hasBs w (a ++ b) = (hasBs w a || hasBs w b)
  | [], b => by simp [hasBs]
  | x :: r, b => by rw [List.cons_append, hasBs, hasBs, hasBs_app, Bool.or_assoc]
theorem up_ne0 {h : Hh} {p q : Addr} {o : O} (e : up h p o q = none) : q ≠ p ∧ h q = none := by
  have n : q ≠ p := fun z => by subst z; rw [up_same] at e; cases e
  exact ⟨n, by rw [up_ne n] at e; exact e⟩
theorem sum_nn : ∀ {l : List Int}, (∀ w ∈ l, 0 ≤ w) → 0 ≤ l.sum
  | [], _ => Int.le_refl _
  | w :: r, h => by
    rw [List.sum_cons]
    have := h w (by simp); have := sum_nn fun x hx => h x (List.mem_cons_of_mem _ hx)
    omega
theorem sum_pos : ∀ {l : List Int} {v : Int}, (∀ w ∈ l, 0 ≤ w) → v ∈ l → 0 < v → 0 < l.sum
  | w :: r, v, h, hv, p => by
    rw [List.sum_cons]
    have := h w (by simp); have := sum_nn fun x hx => h x (List.mem_cons_of_mem _ hx)
    rcases List.mem_cons.1 hv with e | e
    · subst e; omega
    · have := sum_pos (fun x hx => h x (List.mem_cons_of_mem _ hx)) e p; omega
theorem wt_set {z v : Int} {l : List Int} {i : Nat} (hl : (l.length : Int) = z) (hr : ∀ w ∈ l, 0 ≤ w ∧ w < 10 ^ 9) (hi : i < l.length) (h0 : 0 < v) (h1 : v < 10 ^ 9) : WtOk z (l.set i v) := by
  have q : ∀ w ∈ l.set i v, 0 ≤ w ∧ w < 10 ^ 9 := fun w hw => by
    rcases List.mem_or_eq_of_mem_set hw with e | e
    · exact hr w e
    · subst e; exact ⟨by omega, h1⟩
  exact ⟨by rw [List.length_set]; exact hl, q, sum_pos (fun w hw => (q w hw).1) (List.mem_set hi v) h0⟩
def Tg2.i : Tg2 → Int
  | .eq => 0 | .lt => 1 | .ne => 2
theorem tg2_of {x : Int} (h0 : 0 ≤ x) (h1 : x < 3) : ∃ s : Tg2, x = s.i := by
  have : x = 0 ∨ x = 1 ∨ x = 2 := by omega
  rcases this with z | z | z
  · exact ⟨.eq, z⟩
  · exact ⟨.lt, z⟩
  · exact ⟨.ne, z⟩
theorem sg_of {x : Int} (h0 : 0 ≤ x) (h1 : x < 3) : ∃ s : Sg, x = s.i := by
  have : x = 0 ∨ x = 1 ∨ x = 2 := by omega
  rcases this with z | z | z
  · exact ⟨.plus, z⟩
  · exact ⟨.minus, z⟩
  · exact ⟨.times, z⟩
theorem sg_at (s : Sg) : atI (Str.ofString "+-*").cps.toList s.i = some (s.s.cps.toList.headD 0) := by cases s <;> decide +kernel
theorem sg_st (s : Sg) : (⟨#[s.s.cps.toList.headD 0]⟩ : Str) = s.s := by cases s <;> decide +kernel
theorem tg_at (s : Tg2) : atI (Str.ofString "=<#").cps.toList s.i = some (s.s.cps.toList.headD 0) := by cases s <;> decide +kernel
theorem tg_st (s : Tg2) : (⟨#[s.s.cps.toList.headD 0]⟩ : Str) = s.s := by cases s <;> decide +kernel
theorem sg_len : (Str.ofString "+-*").length ≤ sizeLine := by decide +kernel
theorem tg_len : (Str.ofString "=<#").length ≤ sizeLine := by decide +kernel
theorem OkB.single {bx : List Box} {n : Nat} {d : Deed} {r : List Deed} (h : OkB bx n [d]) (k : OkB bx n r) : OkB bx n (r ++ [d]) := k.app h
theorem wtB_one {d : Deed} : wtB [d] = wtD d + 1 := by rw [wtB, wtB]
end Lt

namespace Lt
open PySem PySem.Spec PyProof.Rows L2
/-! ### a list that is taken from -/
theorem gc_in {h : Hh} {p : Addr} {o u : O} : gcH (up h p o) (up h p u) = up h p u := Hh.ext fun b => by
  by_cases e : b = p
  · subst e; rw [gc_old (by rw [up_same]; simp), up_same]
  · by_cases z : h b = none
    · rw [gc_new (by rw [up_ne e]; exact z), up_ne e, z]
    · rw [gc_old (by rw [up_ne e]; exact z), up_ne e]
/-- the last one is taken -/
def takeF (l : List Int) (m : Int) : Int := match l.getLast? with
  | some x => x % m
  | none => 0
theorem takeF_pos {l : List Int} {m : Int} (h : 0 < m) : 0 ≤ takeF l m ∧ takeF l m < m := by
  unfold takeF
  split
  · exact ⟨Int.emod_nonneg _ (by omega), Int.emod_lt_of_pos _ h⟩
  · exact ⟨by omega, h⟩
section
variable {σ α : Type} {t : Tg} {e : En → Hh → QD → Prop} {ρ : En} {R : Addr → Hh → Prop}
/-- a comprehension whose items change what is there -/
theorem lc_go (hp : σ → Hh) (f : α → D) (I : List α → σ → List D → Prop) (dom : ∀ s s' p, hp s p = none → hp s' p = none)
    (step : ∀ p a as s acc, hp s p = none → I (a :: as) s acc → ∀ Y : D → Hh → Prop, (∀ s' y, I as s' (acc ++ [y]) → Y y (up (hp s') p (.lst acc))) → tgW t (f a) ρ fun ρ1 => e ρ1 (up (hp s) p (.lst acc)) Y)
    (fin : ∀ s acc, I [] s acc → ∀ p, hp s p = none → R p (up (hp s) p (.lst acc))) (xs : List α) (s : σ) (hl : xs.length ≤ sizeLine) (i0 : I xs s []) :
    ∀ p, hp s p = none → lcI (.seq (xs.map f)) t (fun _ h Q => Q (.bl true) h) e p ρ (R p) (up (hp s) p (.lst [])) := by
  intro p h0
  have gen : ∀ (as : List α) (s : σ) (acc : List D), acc.length + as.length ≤ sizeLine → hp s p = none → I as s acc → lcL t (fun _ h Q => Q (.bl true) h) e p ρ (R p) (as.map f) (up (hp s) p (.lst acc)) := by
    intro as
    induction as with
    | nil => intro s acc _ h1 i; exact fin s acc i p h1
    | cons a as ih =>
      intro s acc hl h1 i
      rw [List.length_cons] at hl
      rw [List.map_cons]
      unfold lcL
      simp only [blW, if_true]
      refine step p a as s acc h1 i _ fun s' y i' => ?_
      rw [wrL_up, optW_some, up_up]
      exact ⟨by omega, ih s' _ (by rw [List.length_append, List.length_singleton]; omega) (dom s s' p h1) i'⟩
  exact gen xs s [] (by simpa using hl) h0 i0
end
/-! ### trees of runs -/
inductive TK where
  | fin (σ : List Int) (g : Int) | lost (g : Int) | draw (ss : List Fr) | hand
inductive Tr where
  | mk (k : TK) (ts : List Tr)
def Tr.k : Tr → TK
  | .mk k _ => k
def Tr.ts : Tr → List Tr
  | .mk _ ts => ts
def TK.d : TK → List D → D
  | .fin σ g, _ => .tup [.str (Str.ofString "end"), stD σ, .int g]
  | .lost g, _ => .tup [.str (Str.ofString "lost"), .int g]
  | .draw ss, ts => .tup [.str (Str.ofString "draw"), .tup ((ss.zip ts).map fun p => .tup [frD p.1, p.2])]
  | .hand, ts => .tup [.str (Str.ofString "hand"), .tup ts]
mutual
def trD : Tr → D
  | .mk k ts => k.d (trsL ts)
def trsL : List Tr → List D
  | [] => []
  | t :: r => trD t :: trsL r
end
theorem trsL_map : ∀ ts : List Tr, trsL ts = ts.map trD
  | [] => by rw [trsL, List.map_nil]
  | t :: r => by rw [trsL, trsL_map r, List.map_cons]
theorem trD_eq {k : TK} {ts : List Tr} : trD (.mk k ts) = k.d (ts.map trD) := by rw [trD, trsL_map]
/-- how many bits a number has -/
def bt (i : Int) : Nat := i.natAbs.log2 + 1
theorem bt_B (i : Int) : B (bt i) i := by unfold B bt; exact Nat.lt_log2_self
/-- b: hands may stand in it; w: how many numbers a state has -/
def TK.ok (b : Bool) (w : Nat) : TK → Nat → Prop
  | .fin σ g, n => ((0 ≤ g ∧ B 200 g) ∧ n = 0) ∧ σ.length = w ∧ ∀ v ∈ σ, 0 ≤ v ∧ v < 3
  | .lost g, n => (0 ≤ g ∧ B 200 g) ∧ n = 0
  | .draw ss, n => n = ss.length ∧ (1 ≤ n ∧ n ≤ 9) ∧ ∀ s ∈ ss, 0 < s.1 ∧ s.1 ≤ s.2 ∧ Low s
  | .hand, n => (2 ≤ n ∧ n ≤ 8) ∧ b = true
def OkT (b : Bool) (w : Nat) : Nat → Tr → Prop
  | 0, _ => False
  | n + 1, .mk k ts => k.ok b w ts.length ∧ ∀ t ∈ ts, OkT b w n t
theorem OkT.mono1 {b : Bool} {w : Nat} : ∀ {n : Nat} {t : Tr}, OkT b w n t → OkT b w (n + 1) t
  | n + 1, .mk k ts, h => ⟨h.1, fun t ht => OkT.mono1 (h.2 t ht)⟩
theorem OkT.mono {b : Bool} {w : Nat} {n m : Nat} {t : Tr} (h : OkT b w n t) (l : n ≤ m) : OkT b w m t := by
  induction m with
  | zero => rw [Nat.le_zero.1 l] at h; exact h
  | succ m ih =>
    by_cases e : n = m + 1
    · subst e; exact h
    · exact (ih (by omega)).mono1
/-! what it comes to -/
def maxF (a b : Fr) : Fr := if a.1 * b.2 < b.1 * a.2 then b else a
def TK.best : TK → List Fr → Fr
  | .fin _ g, _ => (g, 1)
  | .lost g, _ => (g, 1)
  | .draw ss, bs => sumF ((ss.zip bs).map fun p => timesF p.1 p.2)
  | .hand, b :: bs => bs.foldl maxF b
  | .hand, [] => (0, 1)
def TK.n : TK → List Nat → Nat
  | .fin _ _, _ => 201
  | .lost _, _ => 201
  | .draw ss, l => 1 + ((ss.zip l).map fun p => bt p.1.2 + 1 + p.2).sum
  | .hand, l => 1 + l.sum
def TK.m : TK → List Nat → Nat
  | .fin _ _, _ => 1
  | .lost _, _ => 1
  | .draw ss, l => 1 + ((ss.zip l).map fun p => bt p.1.2 + p.2).sum
  | .hand, l => 1 + l.sum
mutual
def bestT : Tr → Fr
  | .mk k ts => k.best (bestTs ts)
def bestTs : List Tr → List Fr
  | [] => []
  | t :: r => bestT t :: bestTs r
end
mutual
def nT : Tr → Nat
  | .mk k ts => k.n (nTs ts)
def nTs : List Tr → List Nat
  | [] => []
  | t :: r => nT t :: nTs r
end
mutual
def mT : Tr → Nat
  | .mk k ts => k.m (mTs ts)
def mTs : List Tr → List Nat
  | [] => []
  | t :: r => mT t :: mTs r
end
theorem bestTs_map : ∀ ts, bestTs ts = ts.map bestT
  | [] => by rw [bestTs]; rfl
  | t :: r => by rw [bestTs, bestTs_map r]; rfl
theorem nTs_map : ∀ ts, nTs ts = ts.map nT
  | [] => by rw [nTs]; rfl
  | t :: r => by rw [nTs, nTs_map r]; rfl
theorem mTs_map : ∀ ts, mTs ts = ts.map mT
  | [] => by rw [mTs]; rfl
  | t :: r => by rw [mTs, mTs_map r]; rfl
theorem bestT_eq {k : TK} {ts : List Tr} : bestT (.mk k ts) = k.best (ts.map bestT) := by rw [bestT, bestTs_map]
theorem nT_eq {k : TK} {ts : List Tr} : nT (.mk k ts) = k.n (ts.map nT) := by rw [nT, nTs_map]
theorem mT_eq {k : TK} {ts : List Tr} : mT (.mk k ts) = k.m (ts.map mT) := by rw [mT, mTs_map]
theorem zip_mapR {α β γ : Type} {f : β → γ} : ∀ {xs : List α} {ys : List β}, xs.zip (ys.map f) = (xs.zip ys).map fun p => (p.1, f p.2)
  | [], _ => by simp
  | _ :: _, [] => by simp
  | x :: xs, y :: ys => by rw [List.map_cons, List.zip_cons_cons, List.zip_cons_cons, List.map_cons, zip_mapR]
theorem sum_le_sum {α : Type} {f g : α → Nat} : ∀ {l : List α}, (∀ x ∈ l, f x ≤ g x) → (l.map f).sum ≤ (l.map g).sum
  | [], _ => Nat.le_refl _
  | x :: r, h => by
    rw [List.map_cons, List.map_cons, List.sum_cons, List.sum_cons]
    have := h x (by simp); have := sum_le_sum fun y hy => h y (List.mem_cons_of_mem x hy)
    omega
theorem mT_le {b : Bool} {w : Nat} : ∀ {n : Nat} {t : Tr}, OkT b w n t → mT t ≤ nT t
  | n + 1, .mk k ts, h => by
    rw [mT_eq, nT_eq]
    have ih : ∀ t ∈ ts, mT t ≤ nT t := fun t ht => mT_le (h.2 t ht)
    cases k with
    | fin _ _ => simp only [TK.m, TK.n]; omega
    | lost _ => simp only [TK.m, TK.n]; omega
    | draw ss =>
      simp only [TK.m, TK.n, zip_mapR, List.map_map]
      have := sum_le_sum (l := ss.zip ts) (f := (fun p => bt p.1.2 + p.2) ∘ fun p => (p.1, mT p.2)) (g := (fun p => bt p.1.2 + 1 + p.2) ∘ fun p => (p.1, nT p.2)) fun p hp => by
        have := ih p.2 (List.of_mem_zip hp).2
        simp only [Function.comp]; omega
      omega
    | hand =>
      simp only [TK.m, TK.n]
      have := sum_le_sum (l := ts) ih
      omega
theorem mT_pos : ∀ t : Tr, 1 ≤ mT t
  | .mk k ts => by rw [mT_eq]; cases k <;> simp only [TK.m] <;> omega
theorem B.max_if {n m : Nat} {i j : Int} {c : Prop} [Decidable c] (h : B n i) (k : B m j) : B (n + m) (if c then i else j) := by
  split
  · exact h.mono (by omega)
  · exact k.mono (by omega)
/-- what is below 2 ^ n, and not below nought -/
structure Good (n m : Nat) (q : Fr) : Prop where
  sz : Sz n m q
  low : Low q
  nn : 0 ≤ q.1
theorem Good.mono {n m n' m' : Nat} {q : Fr} (g : Good n m q) (l1 : n ≤ n') (l2 : m ≤ m') : Good n' m' q := ⟨g.sz.mono l1 l2, g.low, g.nn⟩
theorem mk_nn {t b : Int} (ht : 0 ≤ t) (hb : 0 < b) : 0 ≤ (mk t b).1 := by
  rw [mk]
  exact Int.ediv_nonneg ht (Int.le_of_lt (gcd_pos hb))
theorem Good.times {n m k l : Nat} {a b : Fr} (ha : Good n m a) (hb : Good k l b) : Good (n + k) (m + l) (timesF a b) :=
  ⟨times_sz ha.sz hb.sz, times_low ha.sz.pos hb.sz.pos, by unfold timesF; exact mk_nn (Int.mul_nonneg ha.nn hb.nn) (Int.mul_pos ha.sz.pos hb.sz.pos)⟩
theorem Good.plus {n m k l : Nat} {a b : Fr} (ha : Good n m a) (hb : Good k l b) (h1 : m ≤ n) (h2 : l ≤ k) : Good (n + k + 1) (m + l) (plusF a b) :=
  ⟨(plus_sz ha.sz hb.sz).mono (by omega) (Nat.le_refl _), plus_low ha.sz.pos hb.sz.pos, by
    unfold plusF
    exact mk_nn (Int.add_nonneg (Int.mul_nonneg ha.nn (Int.le_of_lt hb.sz.pos)) (Int.mul_nonneg hb.nn (Int.le_of_lt ha.sz.pos))) (Int.mul_pos ha.sz.pos hb.sz.pos)⟩
theorem good_01 : Good 1 1 (0, 1) := ⟨sz_01 (Nat.le_refl _) (Nat.le_refl _), ⟨by decide, by decide⟩, by decide⟩
theorem good_int {g : Int} (h : 0 ≤ g) (hb : B 200 g) : Good 201 1 (g, 1) :=
  ⟨⟨hb.mono (by decide), (by show (0 : Int) < 1; decide), (by show B 1 1; decide)⟩, ⟨(by show (0 : Int) < 1; decide), by show Int.gcd g 1 = 1; simp⟩, h⟩
theorem good_share {s : Fr} (h : 0 < s.1 ∧ s.1 ≤ s.2 ∧ Low s) : Good (bt s.2) (bt s.2) s := ⟨⟨(bt_B s.2).ofle (by omega), h.2.2.pos, bt_B s.2⟩, h.2.2, by omega⟩
theorem good_max {n m k l : Nat} {a b : Fr} (ha : Good n m a) (hb : Good k l b) : Good (n + k) (m + l) (maxF a b) := by
  unfold maxF
  split
  · exact hb.mono (by omega) (by omega)
  · exact ha.mono (by omega) (by omega)
/-- sums and greatest ones on the way -/
theorem good_sum : ∀ {l : List (Fr × Tr)} {n m : Nat} {w : Fr}, (∀ p ∈ l, (0 < p.1.1 ∧ p.1.1 ≤ p.1.2 ∧ Low p.1) ∧ Good (nT p.2) (mT p.2) (bestT p.2) ∧ mT p.2 ≤ nT p.2) → Good n m w → m ≤ n →
    Good (n + (l.map fun p => bt p.1.2 + 1 + nT p.2).sum) (m + (l.map fun p => bt p.1.2 + mT p.2).sum) (l.foldl (fun w p => plusF w (timesF p.1 (bestT p.2))) w)
  | [], n, m, w, _, g, _ => by simpa using g
  | p :: r, n, m, w, h, g, hm => by
    obtain ⟨h1, h2, h3⟩ := h p (by simp)
    have g1 := g.plus ((good_share h1).times h2) hm (by omega)
    have := good_sum (l := r) (fun q hq => h q (List.mem_cons_of_mem _ hq)) g1 (by omega)
    rw [List.map_cons, List.map_cons, List.sum_cons, List.sum_cons, List.foldl_cons]
    exact this.mono (by omega) (by omega)
theorem good_maxs : ∀ {l : List Tr} {n m : Nat} {w : Fr}, (∀ t ∈ l, Good (nT t) (mT t) (bestT t)) → Good n m w → Good (n + (l.map nT).sum) (m + (l.map mT).sum) (l.foldl (fun w t => maxF w (bestT t)) w)
  | [], n, m, w, _, g => by simpa using g
  | t :: r, n, m, w, h, g => by
    have := good_maxs (l := r) (fun q hq => h q (List.mem_cons_of_mem _ hq)) (good_max g (h t (by simp)))
    rw [List.map_cons, List.map_cons, List.sum_cons, List.sum_cons, List.foldl_cons]
    exact this.mono (by omega) (by omega)
theorem good_best {b : Bool} {w : Nat} : ∀ {n : Nat} {t : Tr}, OkT b w n t → Good (nT t) (mT t) (bestT t)
  | n + 1, .mk k ts, h => by
    rw [mT_eq, nT_eq, bestT_eq]
    have ih : ∀ t ∈ ts, Good (nT t) (mT t) (bestT t) := fun t ht => good_best (h.2 t ht)
    have im : ∀ t ∈ ts, mT t ≤ nT t := fun t ht => mT_le (h.2 t ht)
    obtain ⟨hk, ho⟩ := h
    cases k with
    | fin σ g => exact good_int hk.1.1.1 hk.1.1.2
    | lost g => exact good_int hk.1.1 hk.1.2
    | draw ss =>
      simp only [TK.m, TK.n, TK.best, zip_mapR, List.map_map]
      have := good_sum (l := ss.zip ts) (fun p hp => ⟨hk.2.2 p.1 (List.of_mem_zip hp).1, ih p.2 (List.of_mem_zip hp).2, im p.2 (List.of_mem_zip hp).2⟩) good_01 (Nat.le_refl _)
      unfold sumF
      rw [List.foldl_map]
      exact this
    | hand =>
      cases ts with
      | nil => exact good_01.mono (by simp [TK.n]) (by simp [TK.m])
      | cons t r =>
        simp only [TK.m, TK.n, TK.best, List.map_cons, List.sum_cons]
        rw [List.foldl_map]
        exact (good_maxs (l := r) (fun q hq => ih q (List.mem_cons_of_mem _ hq)) (ih t (by simp))).mono (by omega) (by omega)
/-- data that are told alike -/
def datB : Nat → D → Bool
  | _, .non => true
  | _, .int _ => true
  | _, .str _ => true
  | n + 1, .tup xs => decide (xs.length ≤ 1000000) && xs.all (datB n)
  | n + 1, .lst xs => decide (xs.length ≤ 1000000) && xs.all (datB n)
  | _, _ => false
theorem dat_fr {q : Fr} {n : Nat} : datB (n + 1) (frD q) = true := by cases n <;> rfl
def LS (l : List Int) : O := .lst (l.map D.int)
theorem rdL_LS {h : Hh} {p : Addr} {l : List Int} : rdL (up h p (LS l)) p = some (l.map D.int) := by unfold LS; exact rdL_up
theorem wrL_LS {h : Hh} {p : Addr} {l : List Int} : wrL (up h p (LS l)) p = some (l.map D.int) := by unfold LS; exact wrL_up
theorem last_map {l : List Int} : (l.map D.int)[l.length - 1]? = l.getLast?.map D.int := by
  rw [List.getElem?_map, List.getLast?_eq_getElem?]
/-- sums of such as are not reduced -/
theorem mk_plus {w s b : Fr} (hw : 0 < w.2) (hs : 0 < s.2) (hb : 0 < b.2) : mk (w.1 * (s.2 * b.2) + s.1 * b.1 * w.2) (w.2 * (s.2 * b.2)) = plusF w (timesF s b) := by
  have h1 : 0 < s.2 * b.2 := Int.mul_pos hs hb
  have h2 : 0 < w.2 * (s.2 * b.2) := Int.mul_pos hw h1
  have lt := times_low hs hb
  refine val_inj (mk_low h2) (plus_low hw lt.pos) ?_
  rw [mk_val h2, plus_val hw lt.pos, times_val hs hb]
  have n1 : (w.2 : Rat) ≠ 0 := by intro z; rw [← Rat.intCast_zero, Rat.intCast_inj] at z; omega
  have n2 : (s.2 : Rat) ≠ 0 := by intro z; rw [← Rat.intCast_zero, Rat.intCast_inj] at z; omega
  have n3 : (b.2 : Rat) ≠ 0 := by intro z; rw [← Rat.intCast_zero, Rat.intCast_inj] at z; omega
  unfold val
  simp only [Rat.intCast_add, Rat.intCast_mul]
  grind
theorem max_01 {b : Fr} (hl : Low b) (hn : 0 ≤ b.1) : maxF (0, 1) b = b := by
  unfold maxF
  split
  · rfl
  · rename_i h
    simp only [Int.zero_mul, Int.mul_one] at h
    have h0 : b.1 = 0 := by omega
    have h1 := hl.cop
    have h2 := hl.pos
    obtain ⟨x, y⟩ := b
    simp only at h0 h1 h2 ⊢
    subst h0
    rw [Int.gcd_zero_left] at h1
    have : y = 1 := by omega
    subst this; rfl
theorem mk_share {v t : Int} (hv : 0 < v) (ht : v ≤ t) : 0 < (mk v t).1 ∧ (mk v t).1 ≤ (mk v t).2 ∧ Low (mk v t) := by
  have h0 : 0 < t := by omega
  have hl := mk_low (t := v) h0
  have c := mk_cross (t := v) h0
  have hp := hl.pos
  refine ⟨?_, ?_, hl⟩
  · apply Int.pos_of_mul_pos_left (b := t) _ (by omega) |> fun z => z
    rw [c]; exact Int.mul_pos hv hp
  · have h1 : (mk v t).1 * t ≤ (mk v t).2 * t := by
      rw [c, Int.mul_comm]
      exact Int.mul_le_mul_of_nonneg_left ht (by omega)
    exact Int.le_of_mul_le_mul_right h1 h0
theorem bt_le {i : Int} {n : Nat} (h : B n i) (hn : 1 ≤ n) : bt i ≤ n := by
  unfold bt B at *
  by_cases z : i.natAbs = 0
  · rw [z]; simp; exact hn
  · have := (Nat.log2_lt z).2 h
    omega
theorem sum_ge {l : List Int} {v : Int} (h : ∀ w ∈ l, 0 ≤ w) (hv : v ∈ l) : v ≤ l.sum := by
  induction l with
  | nil => cases hv
  | cons w r ih =>
    rw [List.sum_cons]
    have h1 := h w (by simp)
    have h2 := sum_nn fun x hx => h x (List.mem_cons_of_mem w hx)
    rcases List.mem_cons.1 hv with e | e
    · subst e; omega
    · have := ih (fun x hx => h x (List.mem_cons_of_mem w hx)) e; omega
theorem sum_le {l : List Int} {c : Int} (h : ∀ w ∈ l, w ≤ c) : l.sum ≤ l.length * c := by
  induction l with
  | nil => simp
  | cons w r ih =>
    rw [List.sum_cons, List.length_cons]
    have h1 := h w (by simp)
    have := ih fun x hx => h x (List.mem_cons_of_mem w hx)
    have e : ((r.length + 1 : Nat) : Int) * c = r.length * c + c := by
      rw [Int.natCast_add, Int.add_mul]; simp
    omega
theorem sum_leN {α : Type} {f : α → Nat} {l : List α} {c : Nat} (h : ∀ w ∈ l, f w ≤ c) : (l.map f).sum ≤ l.length * c := by
  induction l with
  | nil => simp
  | cons w r ih =>
    rw [List.map_cons, List.sum_cons, List.length_cons, Nat.add_mul]
    have h1 := h w (by simp)
    have := ih fun x hx => h x (List.mem_cons_of_mem w hx)
    omega
def Nb : Nat → Nat
  | 0 => 201 | 1 => 2125 | 2 => 8641 | _ => 34705
def Mb : Nat → Nat
  | 0 => 1 | 1 => 316 | 2 => 1401 | _ => 5741
theorem nb_hand {m c : Nat} (hm : m ≤ 2) (hc : c ≤ 8) (h2 : m = 0 ∨ c ≤ 4) : 1 + c * Nb m ≤ Nb (m + 1) ∧ 1 + c * Mb m ≤ Mb (m + 1) := by
  have : m = 0 ∨ m = 1 ∨ m = 2 := by omega
  rcases this with rfl | rfl | rfl <;> simp only [Nb, Mb] <;> omega
theorem nb_draw {m c : Nat} (hm : m ≤ 2) (hc : c ≤ 9) (h2 : m = 0 ∨ c ≤ 4) : 1 + c * (35 + Nb m) ≤ Nb (m + 1) ∧ 1 + c * (34 + Mb m) ≤ Mb (m + 1) := by
  have : m = 0 ∨ m = 1 ∨ m = 2 := by omega
  rcases this with rfl | rfl | rfl <;> simp only [Nb, Mb] <;> omega
theorem gc_in2 {h : Hh} {p q : Addr} {o u v : O} (ne : p ≠ q) (hq : h q = none) : gcH (up h p o) (up (up h q u) p v) = up h p v := by
  rw [up_comm (Ne.symm ne), gc_up (by rw [up_ne (Ne.symm ne)]; exact hq), gc_in]
theorem le_sumN {α : Type} {f : α → Nat} : ∀ {l : List α} {x : α}, x ∈ l → f x ≤ (l.map f).sum
  | y :: r, x, h => by
    rw [List.map_cons, List.sum_cons]
    rcases List.mem_cons.1 h with e | e
    · subst e; omega
    · have := le_sumN (f := f) e; omega
theorem trD_fin {σ : List Int} {g : Int} {ts : List Tr} : trD (.mk (.fin σ g) ts) = .tup [.str (Str.ofString "end"), stD σ, .int g] := by rw [trD_eq]; rfl
theorem trD_lost {g : Int} {ts : List Tr} : trD (.mk (.lost g) ts) = .tup [.str (Str.ofString "lost"), .int g] := by rw [trD_eq]; rfl
theorem trD_hand {ts : List Tr} : trD (.mk .hand ts) = .tup [.str (Str.ofString "hand"), .tup (ts.map trD)] := by rw [trD_eq]; rfl
theorem trD_draw {ss : List Fr} {ts : List Tr} : trD (.mk (.draw ss) ts) = .tup [.str (Str.ofString "draw"), .tup ((ss.zip ts).map fun p => .tup [frD p.1, trD p.2])] := by
  rw [trD_eq]; simp only [TK.d, zip_mapR, List.map_map, Function.comp_def]
theorem nT_draw {ss : List Fr} {ts : List Tr} : nT (.mk (.draw ss) ts) = 1 + ((ss.zip ts).map fun p => bt p.1.2 + 1 + nT p.2).sum := by
  rw [nT_eq]; simp only [TK.n, zip_mapR, List.map_map, Function.comp_def]
theorem mT_draw {ss : List Fr} {ts : List Tr} : mT (.mk (.draw ss) ts) = 1 + ((ss.zip ts).map fun p => bt p.1.2 + mT p.2).sum := by
  rw [mT_eq]; simp only [TK.m, zip_mapR, List.map_map, Function.comp_def]
theorem nT_hand {ts : List Tr} : nT (.mk .hand ts) = 1 + (ts.map nT).sum := by rw [nT_eq]; rfl
theorem mT_hand {ts : List Tr} : mT (.mk .hand ts) = 1 + (ts.map mT).sum := by rw [mT_eq]; rfl
theorem best_draw {ss : List Fr} {ts : List Tr} : bestT (.mk (.draw ss) ts) = (ss.zip ts).foldl (fun w p => plusF w (timesF p.1 (bestT p.2))) (0, 1) := by
  rw [bestT_eq]; simp only [TK.best, sumF, zip_mapR, List.map_map, List.foldl_map, Function.comp_def]
theorem best_hand {t : Tr} {ts : List Tr} : bestT (.mk .hand (t :: ts)) = ts.foldl (fun w t => maxF w (bestT t)) (bestT t) := by
  rw [bestT_eq]; simp only [TK.best, List.map_cons, List.foldl_map]
theorem s_trees : (Str.ofString "draw" = Str.ofString "end") = False ∧ (Str.ofString "draw" = Str.ofString "lost") = False ∧ (Str.ofString "lost" = Str.ofString "end") = False ∧ (Str.ofString "hand" = Str.ofString "end") = False ∧ (Str.ofString "hand" = Str.ofString "lost") = False ∧
    (Str.ofString "hand" = Str.ofString "draw") = False ∧ (Str.ofString "end" = Str.ofString "draw") = False ∧ (Str.ofString "end" = Str.ofString "hand") = False ∧ (Str.ofString "lost" = Str.ofString "draw") = False ∧ (Str.ofString "lost" = Str.ofString "hand") = False ∧ (Str.ofString "draw" = Str.ofString "hand") = False :=
  ⟨eq_false (by decide +kernel), eq_false (by decide +kernel), eq_false (by decide +kernel), eq_false (by decide +kernel), eq_false (by decide +kernel), eq_false (by decide +kernel), eq_false (by decide +kernel), eq_false (by decide +kernel), eq_false (by decide +kernel), eq_false (by decide +kernel), eq_false (by decide +kernel)⟩
theorem len_leN {α : Type} {f : α → Nat} : ∀ {l : List α}, (∀ x ∈ l, 1 ≤ f x) → l.length ≤ (l.map f).sum
  | [], _ => Nat.le_refl _
  | x :: r, h => by
    rw [List.map_cons, List.sum_cons, List.length_cons]
    have := h x (by simp); have := len_leN fun y hy => h y (List.mem_cons_of_mem x hy)
    omega
end Lt

namespace Lt
open PySem PySem.Spec PyProof.Rows L2
/-! ### repr -/
theorem q_rpr {x : D} {d : PyData} {h : Hh} {Q : QD} (sx : seqD x = true) (hx : IsP h x d) (g : d.showable = true ∧ d.hasDict = false ∧ d.depth ≤ 60 ∧ d.shown.length ≤ sizeLine) : pxW .rpr [x] h Q = Q (.str d.shown) h :=
  propext ⟨fun ⟨d', _, ip, _, q⟩ => by rw [isP_inj hx ip]; exact q, fun q => ⟨d, sx, hx, g, q⟩⟩
/-- data of small ints, no more than so deep, no more than so much -/
structure Sm (c n m : Nat) (d : PyData) : Prop where
  sh : d.showable = true
  nd : d.hasDict = false
  dp : d.depth ≤ n
  ly : d.canLay0 = true
  wt : d.weight ≤ m
  it : d.intsShort c = true
structure Sms (c n m : Nat) (ds : List PyData) : Prop where
  sh : PyData.showableAll ds = true
  nd : PyData.hasDictAll ds = false
  dp : PyData.depthAll ds ≤ n
  ly : PyData.canLayAll0 ds = true
  wt : PyData.weightAll ds ≤ m
  it : PyData.intsShortAll c ds = true
theorem Sms.nil {c n m : Nat} : Sms c n m [] := ⟨rfl, rfl, by simp [PyData.depthAll], rfl, by simp [PyData.weightAll], rfl⟩
theorem Sms.cons {c n m k : Nat} {d : PyData} {ds : List PyData} (h : Sm c n m d) (r : Sms c n k ds) : Sms c n (m + 1 + k) (d :: ds) :=
  ⟨by rw [PyData.showableAll, h.sh, r.sh]; rfl, by rw [PyData.hasDictAll, h.nd, r.nd]; rfl, by rw [PyData.depthAll]; exact Nat.max_le.2 ⟨h.dp, r.dp⟩, by rw [PyData.canLayAll0, h.ly, r.ly]; rfl,
   by rw [PyData.weightAll]; have := h.wt; have := r.wt; omega, by rw [PyData.intsShortAll, h.it, r.it]; rfl⟩
theorem Sms.all {c n m : Nat} : ∀ {ds : List PyData}, (∀ d ∈ ds, Sm c n m d) → Sms c n (ds.length * (m + 1)) ds
  | [], _ => .nil
  | d :: ds, h => by
    have := Sms.cons (h d (by simp)) (Sms.all fun x hx => h x (List.mem_cons_of_mem _ hx))
    have e : (d :: ds).length * (m + 1) = m + 1 + ds.length * (m + 1) := by rw [List.length_cons, Nat.add_mul]; omega
    rw [e]; exact this
theorem Sms.tup {c n m : Nat} {ds : List PyData} (h : Sms c n m ds) : Sm c (n + 1) m (.tuple ds) :=
  ⟨by rw [PyData.showable]; exact h.sh, by rw [PyData.hasDict]; exact h.nd, by rw [PyData.depth]; have := h.dp; omega, by rw [PyData.canLay0]; exact h.ly, by rw [PyData.weight]; exact h.wt, by rw [PyData.intsShort]; exact h.it⟩
theorem Sms.lst {c n m : Nat} {ds : List PyData} (h : Sms c n m ds) : Sm c (n + 1) m (.list ds) :=
  ⟨by rw [PyData.showable]; exact h.sh, by rw [PyData.hasDict]; exact h.nd, by rw [PyData.depth]; have := h.dp; omega, by rw [PyData.canLay0]; exact h.ly, by rw [PyData.weight]; exact h.wt, by rw [PyData.intsShort]; exact h.it⟩
theorem sm_int {i : Int} (h0 : 0 ≤ i) (h1 : i < 10) : Sm 13 0 4 (.int i) := by
  have : i = 0 ∨ i = 1 ∨ i = 2 ∨ i = 3 ∨ i = 4 ∨ i = 5 ∨ i = 6 ∨ i = 7 ∨ i = 8 ∨ i = 9 := by omega
  rcases this with rfl | rfl | rfl | rfl | rfl | rfl | rfl | rfl | rfl | rfl <;> exact ⟨by decide +kernel, rfl, by decide +kernel, by decide +kernel, by decide +kernel, by decide +kernel⟩
theorem Sm.ok {n m : Nat} {d : PyData} (h : Sm 13 n m d) (hn : n ≤ 60) (hm : m ≤ 2 ^ 20) : d.showable = true ∧ d.hasDict = false ∧ d.depth ≤ 60 ∧ d.shown.length ≤ sizeLine := by
  refine ⟨h.sh, h.nd, Nat.le_trans h.dp hn, Nat.le_trans (shown_le13 (d := d) ?_ h.it) (by decide)⟩
  unfold PyData.layable0
  have := h.dp
  rw [h.ly, decide_eq_true (by omega), decide_eq_true (Nat.le_trans h.wt hm)]; rfl
/-- of great ints, not too much -/
theorem sm_intB {n m : Nat} {i : Int} (h : i.natAbs.log2 < 1920) (hm : i.natAbs.log2 + 1 ≤ m) : Sm 1921 n m (.int i) := by
  refine ⟨by rw [PyData.showable]; exact decide_eq_true h, rfl, by simp [PyData.depth], rfl, ?_, ?_⟩
  · rw [PyData.weight]; split <;> omega
  · rw [PyData.intsShort]
    refine decide_eq_true ?_
    rw [PyData.shown]
    exact int_text_len_1921 h
theorem log_lt {i : Int} {k : Nat} (hk : 1 ≤ k) (h : B k i) : i.natAbs.log2 < k := by
  unfold B at h
  by_cases z : i.natAbs = 0
  · rw [z]; have : Nat.log2 0 = 0 := by decide
    omega
  · exact (Nat.log2_lt z).2 (by omega)
theorem sm_B {n k : Nat} {i : Int} (hk : 1 ≤ k) (h9 : k ≤ 1920) (h : B k i) : Sm 1921 n k (.int i) := sm_intB (by have := log_lt hk h; omega) (by have := log_lt hk h; omega)
theorem Sm.okB {n m : Nat} {d : PyData} (h : Sm 1921 n m d) (hn : n ≤ 60) (hm : m ≤ 8000) : d.showable = true ∧ d.hasDict = false ∧ d.depth ≤ 60 ∧ d.shown.length ≤ sizeLine := by
  refine ⟨h.sh, h.nd, Nat.le_trans h.dp hn, ?_⟩
  have h2 := PyData.shown_le 1921 (by decide) d (PyData.leavesShort_of_canLay0 1921 d h.ly h.it)
  have h3 := h.wt
  exact Nat.le_trans (by omega : _ ≤ 16000000) (by decide)
/-- states -/
def stP (σ : List Int) : PyData := .tuple (σ.map .int)
theorem isPs_ints {h : Hh} : ∀ ns : List Int, IsPs h (ns.map D.int) (ns.map .int)
  | [] => by rw [List.map_nil, List.map_nil, IsPs]
  | n :: r => by rw [List.map_cons, List.map_cons, IsPs]; exact ⟨_, _, rfl, by rw [IsP], isPs_ints r⟩
theorem isP_st {h : Hh} {σ : List Int} : IsP h (stD σ) (stP σ) := by unfold stP; rw [IsP]; exact ⟨_, rfl, isPs_ints σ⟩
theorem isPs_sts {h : Hh} : ∀ ss : List (List Int), IsPs h (ss.map stD) (ss.map stP)
  | [] => by rw [List.map_nil, List.map_nil, IsPs]
  | σ :: r => by rw [List.map_cons, List.map_cons, IsPs]; exact ⟨_, _, rfl, isP_st, isPs_sts r⟩
theorem sm_st {σ : List Int} (h9 : σ.length ≤ 9) (h : ∀ i ∈ σ, 0 ≤ i ∧ i < 10) : Sm 13 1 45 (stP σ) := by
  have := Sms.all (c := 13) (n := 0) (m := 4) (ds := σ.map .int) fun d hd => by
    obtain ⟨i, hi, rfl⟩ := List.mem_map.1 hd
    exact sm_int (h i hi).1 (h i hi).2
  have t := this.tup
  exact ⟨t.sh, t.nd, t.dp, t.ly, Nat.le_trans t.wt (by rw [List.length_map]; omega), t.it⟩
theorem sm_sts {ss : List (List Int)} (hl : ss.length ≤ 1000) (h : ∀ σ ∈ ss, σ.length ≤ 9 ∧ ∀ i ∈ σ, 0 ≤ i ∧ i < 10) : Sm 13 2 46000 (.list (ss.map stP)) := by
  have := Sms.all (c := 13) (n := 1) (m := 45) (ds := ss.map stP) fun d hd => by
    obtain ⟨σ, hσ, rfl⟩ := List.mem_map.1 hd
    exact sm_st (h σ hσ).1 (h σ hσ).2
  have t := this.lst
  exact ⟨t.sh, t.nd, t.dp, t.ly, Nat.le_trans t.wt (by rw [List.length_map]; omega), t.it⟩
/-- the text of a list of states -/
def stsT (ss : List (List Int)) : Str := (PyData.list (ss.map stP)).shown
section
variable {h : Hh} {Q : QD} {ss : List (List Int)}
theorem rpr_sts (hl : ss.length ≤ 1000) (hs : ∀ σ ∈ ss, σ.length ≤ 9 ∧ ∀ i ∈ σ, 0 ≤ i ∧ i < 10) : pxW .rpr [.lst (ss.map stD)] h Q = Q (.str (stsT ss)) h :=
  q_rpr rfl (by rw [IsP]; exact ⟨_, rfl, isPs_sts ss⟩) ((sm_sts hl hs).ok (by decide) (by decide))
theorem rpr_stsR {p : Addr} (rd : rdL h p = some (ss.map stD)) (hl : ss.length ≤ 1000) (hs : ∀ σ ∈ ss, σ.length ≤ 9 ∧ ∀ i ∈ σ, 0 ≤ i ∧ i < 10) : pxW .rpr [.ref p] h Q = Q (.str (stsT ss)) h :=
  q_rpr rfl (by rw [IsP]; exact ⟨_, rd, isPs_sts ss⟩) ((sm_sts hl hs).ok (by decide) (by decide))
theorem rpr_st {σ : List Int} (h9 : σ.length ≤ 9) (hs : ∀ i ∈ σ, 0 ≤ i ∧ i < 10) : pxW .rpr [stD σ] h Q = Q (.str (stP σ).shown) h :=
  q_rpr rfl isP_st ((sm_st h9 hs).ok (by decide) (by decide))
end
end Lt
namespace Lt
open PySem PySem.Spec PyProof.Rows L2
/-! ### all states -/
def sz (b : Box) : Nat := b.2.toNat
def statesF : List Box → List (List Int) → List (List Int)
  | [], s => s
  | b :: r, s => statesF r (s.flatMap fun σ => (List.range (sz b)).map fun i : Nat => σ ++ [(i : Int)])
def prN : List Box → Nat
  | [] => 1
  | b :: r => sz b * prN r
def digF : List Box → Nat → List Int → List Int
  | [], _, σ => σ
  | b :: r, n, σ => digF r (n / sz b) (((n % sz b : Nat) : Int) :: σ)
def allF (bs : List Box) : List (List Int) := (List.range (prN bs)).map fun n => digF bs.reverse n []
theorem prN_snoc {b : Box} : ∀ bs, prN (bs ++ [b]) = prN bs * sz b
  | [] => by simp [prN]
  | x :: r => by rw [List.cons_append, prN, prN, prN_snoc r, Nat.mul_assoc]
theorem statesF_snoc {b : Box} : ∀ (bs : List Box) (s : List (List Int)), statesF (bs ++ [b]) s = (statesF bs s).flatMap fun σ => (List.range (sz b)).map fun i : Nat => σ ++ [(i : Int)]
  | [], s => rfl
  | x :: r, s => by rw [List.cons_append, statesF, statesF, statesF_snoc r]
theorem digF_acc : ∀ (bs : List Box) (n : Nat) (σ : List Int), digF bs n σ = digF bs n [] ++ σ
  | [], _, _ => rfl
  | b :: r, n, σ => by rw [digF, digF, digF_acc r _ (_ :: σ), digF_acc r _ [_]]; simp
theorem range_mul {b : Nat} : ∀ P, List.range (P * b) = (List.range P).flatMap fun q => (List.range b).map fun i => q * b + i
  | 0 => by simp
  | P + 1 => by
    rw [List.range_succ, List.flatMap_append, ← range_mul P, Nat.add_mul, Nat.one_mul, List.range_add]
    simp
theorem states_all {bs : List Box} (h : ∀ b ∈ bs, 0 < sz b) : statesF bs [[]] = allF bs := by
  have gen : ∀ n (bs : List Box), bs.length = n → (∀ b ∈ bs, 0 < sz b) → statesF bs [[]] = allF bs := by
    intro n
    induction n with
    | zero => intro bs e _; rw [List.length_eq_zero_iff.1 e]; rfl
    | succ n ih =>
      intro bs e h
      obtain ⟨r, b, rfl⟩ : ∃ r b, bs = r ++ [b] := by
        rcases List.eq_nil_or_concat bs with z | ⟨r, b, z⟩
        · subst z; simp at e
        · exact ⟨r, b, by rw [z, List.concat_eq_append]⟩
      have hb := h b (by simp)
      rw [statesF_snoc, ih r (by simpa using e) fun x hx => h x (by simp [hx])]
      unfold allF
      rw [prN_snoc, range_mul, List.map_flatMap, List.flatMap_map]
      congr 1
      funext q
      rw [List.map_map]
      apply List.map_congr_left
      intro i hi
      have hi := List.mem_range.1 hi
      simp only [Function.comp, List.reverse_append, List.reverse_cons, List.reverse_nil, List.nil_append, List.cons_append, digF]
      rw [digF_acc _ _ [_], Nat.mul_comm q, Nat.mul_add_mod, Nat.mod_eq_of_lt hi, Nat.mul_add_div hb, Nat.div_eq_of_lt hi, Nat.add_zero]
  exact gen _ bs rfl h
/-- small boxes -/
structure Bx (bs : List Box) : Prop where
  n : bs.length ≤ 9
  sz : ∀ b ∈ bs, 1 ≤ b.2 ∧ b.2 ≤ 9
  pr : prN bs ≤ 1000
theorem prN_prodB : ∀ {bs : List Box} {a : Int}, 0 ≤ a → (∀ b ∈ bs, 1 ≤ b.2) → (bs.map (·.2)).foldl (· * ·) a = a * (prN bs : Int)
  | [], a, _, _ => by simp [prN]
  | b :: r, a, h, hb => by
    have b0 := hb b (by simp)
    rw [List.map_cons, List.foldl_cons, prN_prodB (Int.mul_nonneg h (by omega)) fun x hx => hb x (by simp [hx]), prN, Int.natCast_mul]
    have : ((sz b : Nat) : Int) = b.2 := by unfold sz; omega
    rw [this, Int.mul_assoc]
theorem Boxes.bx {bs : List Box} {m : Int} (h : Boxes bs m) (hm : m ≤ 1000) : Bx bs := by
  refine ⟨h.n, h.sz, ?_⟩
  have e : prodB bs = 1 * (prN bs : Int) := prN_prodB (by decide) fun b hb => (h.sz b hb).1
  have := h.pr
  omega
theorem digF_st : ∀ {bs : List Box} {n : Nat} {σ : List Int}, (∀ b ∈ bs, 1 ≤ b.2 ∧ b.2 ≤ 9) → (∀ i ∈ σ, 0 ≤ i ∧ i < 10) → (digF bs n σ).length = bs.length + σ.length ∧ ∀ i ∈ digF bs n σ, 0 ≤ i ∧ i < 10
  | [], n, σ, _, h => by rw [digF]; exact ⟨by simp, h⟩
  | b :: r, n, σ, hb, h => by
    have b0 := hb b (by simp)
    rw [digF]
    have hz : 0 < Lt.sz b := by unfold Lt.sz; omega
    have hz9 : Lt.sz b ≤ 9 := by unfold Lt.sz; omega
    have := Nat.mod_lt n hz
    obtain ⟨h1, h2⟩ := digF_st (bs := r) (n := n / Lt.sz b) (σ := ((n % Lt.sz b : Nat) : Int) :: σ) (fun x hx => hb x (by simp [hx])) (fun i hi => by
      rcases List.mem_cons.1 hi with e | e
      · subst e; omega
      · exact h i e)
    exact ⟨by rw [h1, List.length_cons, List.length_cons]; omega, h2⟩
theorem Bx.st {bs : List Box} (h : Bx bs) : (allF bs).length ≤ 1000 ∧ ∀ σ ∈ allF bs, σ.length ≤ 9 ∧ ∀ i ∈ σ, 0 ≤ i ∧ i < 10 := by
  refine ⟨by unfold allF; rw [List.length_map, List.length_range]; exact h.pr, fun σ hσ => ?_⟩
  obtain ⟨n, _, rfl⟩ := List.mem_map.1 hσ
  obtain ⟨h1, h2⟩ := digF_st (bs := bs.reverse) (n := n) (σ := []) (fun b hb => h.sz b (List.mem_reverse.1 hb)) (fun i hi => by cases hi)
  exact ⟨by rw [h1, List.length_reverse]; have := h.n; simp only [List.length_nil]; omega, h2⟩
theorem prN_pos : ∀ {bs : List Box}, (∀ b ∈ bs, 1 ≤ b.2) → 1 ≤ prN bs
  | [], _ => Nat.le_refl 1
  | b :: r, h => by
    have b0 := h b (by simp)
    have := prN_pos fun x hx => h x (List.mem_cons_of_mem b hx)
    rw [prN]
    exact Nat.mul_pos (by unfold sz; omega) this
theorem prN_app : ∀ {a b : List Box}, prN (a ++ b) = prN a * prN b
  | [], b => by simp [prN]
  | x :: a, b => by rw [List.cons_append, prN, prN, prN_app, Nat.mul_assoc]
theorem statesF_len : ∀ {bs : List Box} {s : List (List Int)}, (statesF bs s).length = s.length * prN bs
  | [], s => by simp [statesF, prN]
  | b :: r, s => by
    rw [statesF, statesF_len, prN]
    have : (s.flatMap fun σ => (List.range (sz b)).map fun i : Nat => σ ++ [(i : Int)]).length = s.length * sz b := by
      induction s with
      | nil => simp
      | cons x t ih => rw [List.flatMap_cons, List.length_append, ih, List.length_map, List.length_range, List.length_cons, Nat.add_mul]; omega
    rw [this, Nat.mul_assoc]
end Lt

namespace Lt
open PySem PySem.Spec PyProof.Rows L2
/-! ### sorted ints -/
def srtN (l : List Nat) : List Nat := l.mergeSort fun a b => decide (a ≤ b)
abbrev inD' (j : Nat) : D := .int (j : Int)
theorem zip_maps {α β γ : Type} (f : α → β) (g : α → γ) : ∀ l : List α, (l.map f).zip (l.map g) = l.map fun a => (f a, g a)
  | [] => rfl
  | a :: l => by rw [List.map_cons, List.map_cons, List.map_cons, List.zip_cons_cons, zip_maps f g l]
/-- sorted items that stand for as, by what they are -/
theorem srtD_map {α : Type} (f : α → D) (g : α → PyData) (l : List α) : srtD (l.map f) (l.map g) = (l.mergeSort (PySem.W.dataLe false g)).map f := by
  unfold srtD
  rw [zip_maps, ← List.map_mergeSort (r := PySem.W.dataLe false g) (f := fun a => (f a, g a)) (fun a _ b _ => rfl), List.map_map]
  rfl
theorem srtD_nat (l : List Nat) : srtD (l.map fun j : Nat => .int (j : Int)) (l.map fun j : Nat => .int (j : Int)) = (srtN l).map fun j : Nat => .int (j : Int) := by
  rw [srtD_map (fun j : Nat => D.int (j : Int)) (fun j : Nat => PyData.int (j : Int)), PySem.W.dataLe_int (fun j : Nat => (j : Int))]
  unfold srtN
  congr 2
  funext a b
  exact decide_eq_decide.2 (by omega)
theorem srtOk_nat {l : List Nat} (h : l.length ≤ sizeLine) : SrtOk (l.map fun j : Nat => PyData.int (j : Int)) :=
  ⟨PySem.W.AllAlike.of (fun a b => by simp [PySem.W.alike]), (.inl (PySem.W.Sortable.others (fun b => ⟨(fun e => by cases e), (fun xs e => by cases e)⟩))), (fun d hd => by obtain ⟨j, _, rfl⟩ := List.mem_map.1 hd; simp [PyData.depth]), by rw [List.length_map]; exact h⟩
theorem srtN_mem {l : List Nat} {j : Nat} : j ∈ srtN l ↔ j ∈ l := List.mem_mergeSort
theorem srtN_sorted (l : List Nat) : (srtN l).Pairwise (· ≤ ·) := by
  have := List.pairwise_mergeSort (le := fun a b : Nat => decide (a ≤ b)) (fun a b c h1 h2 => by simp at *; omega) (fun a b => by simp; omega) l
  exact this.imp fun h => of_decide_eq_true h
theorem sorted_uniq {a b : List Nat} (na : a.Nodup) (nb : b.Nodup) (sa : a.Pairwise (· ≤ ·)) (sb : b.Pairwise (· ≤ ·)) (h : ∀ x, x ∈ a ↔ x ∈ b) : a = b :=
  List.Perm.eq_of_pairwise (le := (· ≤ ·)) (fun x y _ _ h1 h2 => by omega) sa sb ((List.perm_ext_iff_of_nodup na nb).2 h)
theorem range_sorted (n : Nat) : (List.range n).Pairwise (· ≤ ·) := List.pairwise_lt_range.imp fun h => Nat.le_of_lt h
/-- those below n with P, rising -/
noncomputable def those (n : Nat) (P : Nat → Prop) : List Nat := open Classical in (List.range n).filter fun j => decide (P j)
theorem those_mem {n : Nat} {P : Nat → Prop} {j : Nat} : j ∈ those n P ↔ j < n ∧ P j := by unfold those; simp
theorem those_nodup {n : Nat} {P : Nat → Prop} : (those n P).Nodup := by unfold those; exact List.nodup_range.filter _
theorem those_sorted {n : Nat} {P : Nat → Prop} : (those n P).Pairwise (· ≤ ·) := by unfold those; exact (range_sorted n).filter _
theorem those_len {n : Nat} {P : Nat → Prop} : (those n P).length ≤ n := by unfold those; exact Nat.le_trans (List.length_filter_le _ _) (by simp)
theorem srtN_those {l : List Nat} {n : Nat} {P : Nat → Prop} (nd : l.Nodup) (h : ∀ j, j ∈ l ↔ j < n ∧ P j) : srtN l = those n P :=
  sorted_uniq ((nd.perm (List.mergeSort_perm l _).symm)) those_nodup (srtN_sorted l) those_sorted fun x => by rw [srtN_mem, h, those_mem]
theorem len_nodup {l : List Nat} {n : Nat} (nd : l.Nodup) (h : ∀ j ∈ l, j < n) : l.length ≤ n := by
  have p : l.Perm ((List.range n).filter fun j => decide (j ∈ l)) := (List.perm_ext_iff_of_nodup nd (List.nodup_range.filter _)).2 fun x => by
    simp only [List.mem_filter, List.mem_range, decide_eq_true_eq]
    exact ⟨fun hx => ⟨h x hx, hx⟩, fun hx => hx.2⟩
  have := p.length_eq
  have := List.length_filter_le (fun j => decide (j ∈ l)) (List.range n)
  rw [List.length_range] at this
  omega
/-! ### a dict of marks -/
def addN (l : List Nat) (j : Nat) : List Nat := if j ∈ l then l else l ++ [j]
theorem addN_mem {l : List Nat} {j k : Nat} : k ∈ addN l j ↔ k ∈ l ∨ k = j := by
  unfold addN; split
  · exact ⟨.inl, fun h => h.elim id fun e => e ▸ by assumption⟩
  · simp
theorem addN_nodup {l : List Nat} {j : Nat} (h : l.Nodup) : (addN l j).Nodup := by
  unfold addN; split
  · exact h
  · rw [List.nodup_append]; exact ⟨h, by simp, fun a ha b hb => by simp at hb; subst hb; rintro rfl; contradiction⟩
abbrev mkK (v : Nat → D) (l : List Nat) : List (NestedKey × D) := l.map fun j : Nat => (.num (j : Int), v j)
theorem lkp_mk {v : Nat → D} {j : Nat} : ∀ {l : List Nat}, lkp (mkK v l) (.num (j : Int)) = if j ∈ l then some (v j) else none
  | [] => by simp [mkK, lkp]
  | a :: l => by
    have ih := lkp_mk (v := v) (j := j) (l := l)
    unfold lkp at ih ⊢
    rw [mkK, List.map_cons, List.find?_cons]
    by_cases c : a = j
    · subst c
      simp
    · have : decide ((NestedKey.num (a : Int)) = .num (j : Int)) = false := decide_eq_false (by intro e; injection e with e; omega)
      rw [this]
      show ((mkK v l).find? _).map _ = _
      rw [ih]
      have : (j ∈ a :: l) ↔ j ∈ l := by simp [Ne.symm c]
      by_cases h : j ∈ l
      · rw [if_pos h, if_pos (this.2 h)]
      · rw [if_neg h, if_neg fun z => h (this.1 z)]
theorem any_mk {v : Nat → D} {j : Nat} {l : List Nat} : (mkK v l).any (fun p => decide (p.1 = .num (j : Int))) = decide (j ∈ l) := by
  rw [Bool.eq_iff_iff, List.any_eq_true, decide_eq_true_eq]
  constructor
  · rintro ⟨p, hp, e⟩
    obtain ⟨a, ha, rfl⟩ := List.mem_map.1 hp
    have e := of_decide_eq_true e
    injection e with e
    have : a = j := by omega
    subst this; exact ha
  · intro h
    exact ⟨_, List.mem_map.2 ⟨j, h, rfl⟩, by simp⟩
/-- the same mark for all -/
theorem sto_mk {c : D} {j : Nat} {l : List Nat} : stoK (mkK (fun _ => c) l) (.num (j : Int)) c = mkK (fun _ => c) (addN l j) := by
  unfold stoK addN
  rw [any_mk]
  by_cases h : j ∈ l
  · rw [if_pos (decide_eq_true h), if_pos h, mkK, List.map_map]
    refine List.map_congr_left fun a _ => ?_
    show (if NestedKey.num (a : Int) = .num (j : Int) then _ else _ : NestedKey × D) = _
    split <;> rfl
  · rw [if_neg (by simp [h]), if_neg h, mkK, mkK, List.map_append]; rfl
/-- another one -/
theorem sto_new {v : Nat → D} {c : D} {j : Nat} {l : List Nat} (h : j ∉ l) : stoK (mkK v l) (.num (j : Int)) c = mkK v l ++ [(.num (j : Int), c)] := by
  unfold stoK
  rw [any_mk, if_neg (by simp [h])]
theorem mk_keys {v : Nat → D} {l : List Nat} : ((mkK v l).map fun p => ofK p.1) = l.map (fun j : Nat => .int (j : Int)) ∧ ((mkK v l).map fun p => p.1.data) = l.map (fun j : Nat => .int (j : Int)) := by
  constructor
  · rw [List.map_map]; rfl
  · rw [List.map_map]; exact List.map_congr_left fun a _ => rfl
theorem q_ktI' {j : Nat} : keyT (.int (j : Int)) = some (.num (j : Int)) := rfl
theorem srtK_mk {v : Nat → D} {l : List Nat} {h : Hh} {Q : QD} (hl : l.length ≤ sizeLine) : (SrtOk ((mkK v l).map fun p => p.1.data) ∧ ∀ p, h p = none → Q (.ref p) (up h p (.lst (srtD ((mkK v l).map fun p => ofK p.1) ((mkK v l).map fun p => p.1.data))))) = ∀ p, h p = none → Q (.ref p) (up h p (.lst ((srtN l).map fun j : Nat => .int (j : Int)))) := by
  rw [mk_keys.1, mk_keys.2, srtD_nat]
  exact propext ⟨fun x => x.2, fun x => ⟨srtOk_nat hl, x⟩⟩
/-! ### ints in lists -/
theorem isPs_nat {h : Hh} : ∀ l : List Nat, IsPs h (l.map fun j : Nat => .int (j : Int)) (l.map fun j : Nat => .int (j : Int))
  | [] => rfl
  | j :: l => ⟨_, _, rfl, rfl, isPs_nat l⟩
theorem shaped_nats : ∀ l : List Nat, SeqAt.shaped (.list (l.map fun j : Nat => PyData.int (j : Int))) = true := by
  intro l
  have : ∀ l : List Nat, PyData.canLayAll0 (l.map fun j : Nat => PyData.int (j : Int)) = true ∧ PyData.depthAll (l.map fun j : Nat => PyData.int (j : Int)) = 0 := by
    intro l
    induction l with
    | nil => exact ⟨rfl, rfl⟩
    | cons a l ih =>
      rw [List.map_cons, PyData.canLayAll0, PyData.depthAll]
      exact ⟨by rw [ih.1]; simp [PyData.canLay0], by rw [ih.2]; simp [PyData.depth]⟩
  obtain ⟨a, b⟩ := this l
  unfold SeqAt.shaped
  rw [PyData.canLay0, PyData.depth, a, b]; rfl
theorem in_nats {l : List Nat} {j : Nat} {h : Hh} {p : Addr} {K : Bool → Prop} (rd : rdL h p = some (l.map fun j : Nat => .int (j : Int))) : inW (.int (j : Int)) (.ref p) h K = K (decide (j ∈ l)) := by
  rw [q_inR, rd, sel_some]
  have e : (l.map fun j : Nat => PyData.int (j : Int)).any (fun z => PyData.eqv z (.int (j : Int))) = decide (j ∈ l) := by
    rw [Bool.eq_iff_iff, List.any_eq_true, decide_eq_true_eq]
    constructor
    · rintro ⟨x, hx, e⟩
      obtain ⟨a, ha, rfl⟩ := List.mem_map.1 hx
      simp [PyData.eqv] at e
      have e : a = j := by omega
      subst e; exact ha
    · intro h
      exact ⟨_, List.mem_map.2 ⟨j, h, rfl⟩, by simp [PyData.eqv]⟩
  have p1 : IsP h (.int (j : Int)) (.int (j : Int)) := rfl
  have p2 : IsP h (.ref p) (.list (l.map fun j : Nat => PyData.int (j : Int))) := by rw [IsP]; exact ⟨_, rd, isPs_nat l⟩
  refine propext ⟨fun ⟨x, ds, q1, q2, _, _, k⟩ => ?_, fun k => ⟨_, _, p1, p2, rfl, shaped_nats l, by rw [e]; exact k⟩⟩
  have e1 := isP_inj q1 p1
  have e2 := isP_inj q2 p2
  injection e2 with e2
  subst e1 e2
  rw [e] at k; exact k
theorem in_natsL {l : List Nat} {j : Nat} {h : Hh} {K : Bool → Prop} : inW (.int (j : Int)) (.lst (l.map fun j : Nat => .int (j : Int))) h K = K (decide (j ∈ l)) := by
  have e : (l.map fun j : Nat => PyData.int (j : Int)).any (fun z => PyData.eqv z (.int (j : Int))) = decide (j ∈ l) := by
    rw [Bool.eq_iff_iff, List.any_eq_true, decide_eq_true_eq]
    constructor
    · rintro ⟨x, hx, e⟩
      obtain ⟨a, ha, rfl⟩ := List.mem_map.1 hx
      simp [PyData.eqv] at e
      have e : a = j := by omega
      subst e; exact ha
    · intro h
      exact ⟨_, List.mem_map.2 ⟨j, h, rfl⟩, by simp [PyData.eqv]⟩
  have p1 : IsP h (.int (j : Int)) (.int (j : Int)) := rfl
  have p2 : IsP h (.lst (l.map fun j : Nat => .int (j : Int))) (.list (l.map fun j : Nat => PyData.int (j : Int))) := by rw [IsP]; exact ⟨_, rfl, isPs_nat l⟩
  show (∃ d ds, IsP h (.int (j : Int)) d ∧ IsP h (.lst (l.map fun j : Nat => .int (j : Int))) (.list ds) ∧ SeqAt.shaped d = true ∧ SeqAt.shaped (.list ds) = true ∧ K (ds.any fun z => PyData.eqv z d)) = _
  refine propext ⟨fun ⟨x, ds, q1, q2, _, _, k⟩ => ?_, fun k => ⟨_, _, p1, p2, rfl, shaped_nats l, by rw [e]; exact k⟩⟩
  have e1 := isP_inj q1 p1
  have e2 := isP_inj q2 p2
  injection e2 with e2
  subst e1 e2
  rw [e] at k; exact k
/-- sorted of a list of ints -/
theorem srt_natsR {l : List Nat} {h : Hh} {p : Addr} {Q : QD} (rd : rdL h p = some (l.map fun j : Nat => .int (j : Int))) (wn : wrN h p = none) (hl : l.length ≤ sizeLine) : pxW .srt [.ref p] h Q = ∀ q, h q = none → Q (.ref q) (up h q (.lst ((srtN l).map fun j : Nat => .int (j : Int)))) := by
  have ip : IsPs h (l.map fun j : Nat => .int (j : Int)) (l.map fun j : Nat => .int (j : Int)) := isPs_nat l
  simp only [pxW, rdN, wrN] at wn ⊢
  have rn : rdN h (.ref p) = none := wn
  show (match rdN h (.ref p) with | some kvs => _ | none => optW (lsD h (.ref p)) _) = _
  rw [rn]
  show optW (rdL h p) _ = _
  rw [rd, optW_some]
  refine propext ⟨fun ⟨ds, i1, _, k⟩ => ?_, fun k => ⟨_, ip, srtOk_nat hl, by rw [srtD_nat]; exact k⟩⟩
  have := isPs_inj i1 ip
  subst this
  rw [srtD_nat] at k; exact k
/-! ### nets -/
abbrev Choice := Fr × List (Nat × Fr)
abbrev Net := List (List Choice)
abbrev paD (p : Nat × Fr) : D := .tup [.int (p.1 : Int), frD p.2]
abbrev chD (c : Choice) : D := .tup [frD c.1, .lst (c.2.map paD)]
abbrev ndD (n : List Choice) : D := .lst (n.map chD)
abbrev netD (N : Net) : D := .lst (N.map ndD)
structure NetIn (N : Net) : Prop where
  len : N.length ≤ 200
  ch : ∀ nd ∈ N, nd.length ≤ 60
  pa : ∀ nd ∈ N, ∀ c ∈ nd, c.2.length ≤ 200
  lt : ∀ nd ∈ N, ∀ c ∈ nd, ∀ p ∈ c.2, p.1 < N.length
def succF (N : Net) (i : Nat) : List Nat := ((N[i]?).getD []).flatMap fun c => c.2.map (·.1)
inductive Reach (N : Net) (i : Nat) : Nat → Prop
  | refl : Reach N i i
  | step {j k : Nat} : Reach N i j → k ∈ succF N j → Reach N i k
theorem Reach.trans {N : Net} {i j k : Nat} (a : Reach N i j) (b : Reach N j k) : Reach N i k := by
  induction b with
  | refl => exact a
  | step _ h ih => exact .step ih h
theorem succF_lt {N : Net} (h : NetIn N) {i k : Nat} (hk : k ∈ succF N i) : k < N.length := by
  unfold succF at hk
  obtain ⟨c, hc, hp⟩ := List.mem_flatMap.1 hk
  obtain ⟨p, hp', rfl⟩ := List.mem_map.1 hp
  cases e : N[i]? with
  | none => rw [e] at hc; cases hc
  | some nd => rw [e] at hc; exact h.lt nd (List.mem_of_getElem? e) c hc p hp'
theorem Reach.lt {N : Net} (h : NetIn N) {i j : Nat} (hi : i < N.length) (r : Reach N i j) : j < N.length := by
  cases r with
  | refl => exact hi
  | step _ k => exact succF_lt h k
noncomputable def reachF (N : Net) (i : Nat) : List Nat := those N.length (Reach N i)
noncomputable def folF (N : Net) (i : Nat) : List Nat := those N.length (· ∈ succF N i)
theorem reachF_mem {N : Net} (h : NetIn N) {i j : Nat} (hi : i < N.length) : j ∈ reachF N i ↔ Reach N i j := by
  unfold reachF; rw [those_mem]; exact ⟨fun x => x.2, fun x => ⟨x.lt h hi, x⟩⟩
theorem folF_mem {N : Net} (h : NetIn N) {i j : Nat} : j ∈ folF N i ↔ j ∈ succF N i := by
  unfold folF; rw [those_mem]; exact ⟨fun x => x.2, fun x => ⟨succF_lt h x, x⟩⟩
/-- a queue that is closed holds what is reached -/
theorem closed_reach {N : Net} {i : Nat} {q : List Nat} (h0 : i ∈ q) (hr : ∀ j ∈ q, Reach N i j) (hc : ∀ j ∈ q, ∀ k ∈ succF N j, k ∈ q) (j : Nat) : j ∈ q ↔ Reach N i j :=
  ⟨hr j, fun r => by
    induction r with
    | refl => exact h0
    | step _ h ih => exact hc _ ih _ h⟩
theorem net_at {N : Net} {i : Nat} {nd : List Choice} (e : N[i]? = some nd) : atI (N.map ndD) (i : Int) = some (ndD nd) := by rw [atI_N, List.getElem?_map, e]; rfl
end Lt

namespace Lt
open PySem PySem.Spec PyProof.Rows L2
/-! ### objects laid one by one -/
structure ArrO (h h' : Hh) (ps : List Addr) (os : List O) : Prop where
  len : ps.length = os.length
  nd : ps.Nodup
  new : ∀ p ∈ ps, h p = none
  get : ∀ (i : Nat) (p : Addr) (o : O), ps[i]? = some p → os[i]? = some o → h' p = some o
  old : ∀ a, a ∉ ps → h' a = h a
section
variable {h h' : Hh} {ps : List Addr} {os : List O} {p : Addr} {o : O} {i : Nat}
theorem ArrO.nil : ArrO h h [] [] := ⟨rfl, List.nodup_nil, (fun _ z => by simp at z), (fun i p r z => by simp at z), fun _ _ => rfl⟩
theorem ArrO.notin (A : ArrO h h' ps os) (e : h' p = none) : p ∉ ps := fun z => by
  obtain ⟨i, hi, rfl⟩ := List.getElem_of_mem z
  have hr : i < os.length := by rw [← A.len]; exact hi
  have := A.get i ps[i] os[i] (List.getElem?_eq_getElem hi) (List.getElem?_eq_getElem hr)
  rw [e] at this; cases this
theorem ArrO.free (A : ArrO h h' ps os) (e : h' p = none) : h p = none := by rw [← A.old p (A.notin e)]; exact e
theorem ArrO.snoc (A : ArrO h h' ps os) (e : h' p = none) : ArrO h (up h' p o) (ps ++ [p]) (os ++ [o]) := by
  have ni := A.notin e
  refine ⟨by simp [A.len], ?_, fun q hq => ?_, fun i q s h1 h2 => ?_, fun a ha => ?_⟩
  · rw [List.nodup_append]; exact ⟨A.nd, by simp, fun a ha b hb => by simp at hb; subst hb; intro z; subst z; exact ni ha⟩
  · rcases List.mem_append.1 hq with z | z
    · exact A.new q z
    · simp at z; subst z; exact A.free e
  · by_cases hi : i < ps.length
    · rw [List.getElem?_append_left hi] at h1
      rw [List.getElem?_append_left (A.len ▸ hi)] at h2
      rw [up_ne (fun z => by subst z; exact ni (List.mem_of_getElem? h1))]
      exact A.get i q s h1 h2
    · rw [List.getElem?_append_right (by omega)] at h1
      rw [List.getElem?_append_right (by rw [← A.len]; omega)] at h2
      have e1 : i - ps.length = 0 := by
        cases z : i - ps.length with
        | zero => rfl
        | succ n => rw [z] at h1; simp at h1
      rw [e1] at h1; rw [← A.len, e1] at h2
      simp at h1 h2; subst h1 h2
      exact up_same
  · have h1 : a ∉ ps := fun z => ha (by simp [z])
    have h2 : a ≠ p := fun z => ha (by simp [z])
    rw [up_ne h2]; exact A.old a h1
theorem ArrO.set (A : ArrO h h' ps os) (e : ps[i]? = some p) : ArrO h (up h' p o) ps (os.set i o) := by
  have hip : i < ps.length := by
    by_cases z : i < ps.length
    · exact z
    · rw [List.getElem?_eq_none (by omega)] at e; cases e
  refine ⟨by simp [A.len], A.nd, A.new, fun j q s h1 h2 => ?_, fun a ha => ?_⟩
  · by_cases hij : i = j
    · subst hij
      rw [e] at h1; cases h1
      rw [List.getElem?_set_self (by rw [← A.len]; exact hip)] at h2; cases h2
      exact up_same
    · rw [List.getElem?_set_ne hij] at h2
      rw [up_ne]
      · exact A.get j q s h1 h2
      · intro z; subst z
        exact hij ((List.getElem?_inj hip A.nd).1 (e.trans h1.symm))
  · rw [up_ne (fun z => by subst z; exact ha (List.mem_of_getElem? e))]; exact A.old a ha
theorem ArrO.tail (A : ArrO h h' (p :: ps) (o :: os)) : ArrO h (era h' p) ps os := by
  have nd := List.nodup_cons.1 A.nd
  refine ⟨by have := A.len; simpa using this, nd.2, fun q hq => A.new q (List.mem_cons_of_mem _ hq), fun i q s h1 h2 => ?_, fun a ha => ?_⟩
  · rw [era_ne (fun z => by subst z; exact nd.1 (List.mem_of_getElem? h1))]
    exact A.get (i + 1) q s (by simpa using h1) (by simpa using h2)
  · by_cases z : a = p
    · subst z; rw [era_same, A.new a (List.mem_cons_self ..)]
    · rw [era_ne z]; exact A.old a fun y => by rcases List.mem_cons.1 y with y | y; exact z y; exact ha y
theorem ArrO.gc (A : ArrO h h' ps os) : gcH h h' = h := Hh.ext fun a => by
  by_cases z : h a = none
  · rw [gc_new z, z]
  · rw [gc_old z]
    exact A.old a fun y => z (A.new a y)
/-- frozen with all that hangs on it -/
theorem dfzs_arr {f : D → Hh → D × Hh} {F : O → D} : ∀ {ps : List Addr} {os : List O} {h' : Hh}, ArrO h h' ps os → (∀ o ∈ os, ∀ p k, k p = some o → f (.ref p) k = (F o, era k p)) → dfzs f (ps.map D.ref) h' = (os.map F, h)
  | [], [], h', A, _ => by
    have : h' = h := Hh.ext fun a => A.old a (by simp)
    subst this; rfl
  | [], _ :: _, _, A, _ => by have := A.len; simp at this
  | _ :: _, [], _, A, _ => by have := A.len; simp at this
  | p :: ps, o :: os, h', A, hf => by
    have e := hf o (List.mem_cons_self ..) p h' (A.get 0 p o rfl rfl)
    rw [List.map_cons, dfzs, e]
    have := dfzs_arr A.tail fun o ho => hf o (List.mem_cons_of_mem _ ho)
    rw [this]; rfl
end
mutual
/-- nothing that may change hangs on it -/
def vB : D → Bool
  | .ref _ => false
  | .tup xs => vBs xs
  | .lst xs => vBs xs
  | .dct _ xs => vBs xs
  | .non => true
  | .bl _ => true
  | .int _ => true
  | .str _ => true
def vBs : List D → Bool
  | [] => true
  | x :: r => vB x && vBs r
end
theorem vBs_all : ∀ {xs : List D}, vBs xs = true ↔ ∀ x ∈ xs, vB x = true
  | [] => by simp [vBs]
  | x :: r => by rw [vBs, Bool.and_eq_true, vBs_all]; simp
theorem dfzs_id {f : D → Hh → D × Hh} {h : Hh} : ∀ {xs : List D}, (∀ x ∈ xs, f x h = (x, h)) → dfzs f xs h = (xs, h)
  | [], _ => rfl
  | x :: r, e => by rw [dfzs, e x (List.mem_cons_self ..), dfzs_id fun y hy => e y (List.mem_cons_of_mem _ hy)]
theorem dfz_v : ∀ (n : Nat) {d : D} {h : Hh}, vB d = true → dfzD n d h = (d, h)
  | 0, _, _, _ => rfl
  | n + 1, d, h, v => by
    cases d with
    | tup xs => rw [vB] at v; rw [dfzD, dfzs_id fun x hx => dfz_v n (vBs_all.1 v x hx)]
    | lst xs => rw [vB] at v; rw [dfzD, dfzs_id fun x hx => dfz_v n (vBs_all.1 v x hx)]
    | dct ks xs => rw [vB] at v; rw [dfzD, dfzs_id fun x hx => dfz_v n (vBs_all.1 v x hx)]
    | ref a => rw [vB] at v; cases v
    | _ => rfl
theorem dfz_dN {n : Nat} {p : Addr} {kvs : List (NestedKey × D)} {k : Hh} (e : k p = some (.dN kvs)) (v : ∀ q ∈ kvs, vB q.2 = true) : dfzD (n + 1) (.ref p) k = (.dct (kvs.map (·.1)) (kvs.map (·.2)), era k p) := by
  rw [dfzD]
  simp only [e]
  rw [dfzs_id fun x hx => ?_]
  obtain ⟨q, hq, rfl⟩ := List.mem_map.1 hx
  exact dfz_v n (v q hq)
theorem dfz_lst {n : Nat} {p : Addr} {xs : List D} {k : Hh} (e : k p = some (.lst xs)) (v : ∀ x ∈ xs, vB x = true) : dfzD (n + 1) (.ref p) k = (.lst xs, era k p) := by
  rw [dfzD]
  simp only [e]
  rw [dfzs_id fun x hx => dfz_v n (v x hx)]
/-- a frozen list of objects -/
theorem dfz_arrL {n : Nat} {h h' : Hh} {ps : List Addr} {os : List O} {F : O → D} (A : ArrO h h' ps os) (hf : ∀ o ∈ os, ∀ p k, k p = some o → dfzD n (.ref p) k = (F o, era k p)) : dfzD (n + 1) (.lst (ps.map D.ref)) h' = (.lst (os.map F), h) := by
  rw [dfzD, dfzs_arr A hf]
section
variable {α : Type} {t : Tg} {h : Hh}
/-- a comprehension each of whose items is a new object -/
theorem lc_new {e : En → Hh → QD → Prop} {ρ : En} {R : Addr → Hh → Prop} (mk : O) (f : α → D) (step : ∀ a (h' : Hh) (Y : QD), (tgW t (f a) ρ fun ρ1 => e ρ1 h' Y) = ∀ p, h' p = none → Y (.ref p) (up h' p mk)) (xs : List α) (hl : xs.length ≤ sizeLine)
    (H : ∀ q ps h', ArrO h h' ps (List.replicate xs.length mk) → h' q = none → R q (up h' q (.lst (ps.map D.ref)))) :
    ∀ q, h q = none → lcI (.seq (xs.map f)) t (fun _ h Q => Q (.bl true) h) e q ρ (R q) (up h q (.lst [])) := by
  intro q hq
  have gen : ∀ (ys : List α) (m : Nat) (ps : List Addr) (h' : Hh), ArrO h h' ps (List.replicate m mk) → h' q = none → m + ys.length = xs.length →
      lcL t (fun _ h Q => Q (.bl true) h) e q ρ (R q) (ys.map f) (up h' q (.lst (ps.map D.ref))) := by
    intro ys
    induction ys with
    | nil =>
      intro m ps h' A n hm
      simp only [List.length_nil, Nat.add_zero] at hm
      subst hm
      exact H q ps h' A n
    | cons y ys ih =>
      intro m ps h' A n hm
      rw [List.length_cons] at hm
      have pl : ps.length = m := by rw [A.len, List.length_replicate]
      show tgW t (f y) ρ fun ρ1 => blW (.bl true) fun b => if b = true then _ else _
      have go : (tgW t (f y) ρ fun ρ1 => blW (.bl true) fun b => if b = true then e ρ1 (up h' q (.lst (ps.map D.ref))) fun y h2 => optW (wrL h2 q) fun acc => acc.length < sizeLine ∧ lcL t (fun _ h Q => Q (.bl true) h) e q ρ (R q) (ys.map f) (up h2 q (.lst (acc ++ [y]))) else lcL t (fun _ h Q => Q (.bl true) h) e q ρ (R q) (ys.map f) (up h' q (.lst (ps.map D.ref)))) =
          (tgW t (f y) ρ fun ρ1 => e ρ1 (up h' q (.lst (ps.map D.ref))) fun y h2 => optW (wrL h2 q) fun acc => acc.length < sizeLine ∧ lcL t (fun _ h Q => Q (.bl true) h) e q ρ (R q) (ys.map f) (up h2 q (.lst (acc ++ [y])))) := by
        congr 1
      rw [go, step]
      intro p hp
      have ne : p ≠ q := fun z => by subst z; rw [up_same] at hp; cases hp
      rw [up_ne ne] at hp
      rw [up_comm (Ne.symm ne), wrL_up, optW_some]
      refine ⟨by rw [List.length_map, pl]; omega, ?_⟩
      rw [up_up]
      have := ih (m + 1) (ps ++ [p]) (up h' p mk) (by rw [List.replicate_succ']; exact A.snoc hp) (by rw [up_ne (Ne.symm ne)]; exact n) (by omega)
      rw [List.map_append] at this
      exact this
  have := gen xs 0 [] h ArrO.nil hq (by simp)
  exact this
end
/-! ### rows of weights -/
abbrev Row := List (Nat × Int)
def mkR (r : Row) : List (NestedKey × D) := r.map fun p => (.num (p.1 : Int), .int p.2)
structure RowOk (n : Nat) (c : Int) (r : Row) : Prop where
  nd : (r.map (·.1)).Nodup
  lt : ∀ p ∈ r, p.1 < n
  rg : ∀ p ∈ r, 0 < p.2 ∧ p.2 ≤ c
theorem RowOk.nil {n : Nat} {c : Int} : RowOk n c [] := ⟨by simp, by simp, by simp⟩
theorem RowOk.mono {n : Nat} {c d : Int} {r : Row} (h : RowOk n c r) (l : c ≤ d) : RowOk n d r := ⟨h.nd, h.lt, fun p hp => ⟨(h.rg p hp).1, Int.le_trans (h.rg p hp).2 l⟩⟩
def wtR (r : Row) (j : Nat) : Int := match r.find? (fun p => decide (p.1 = j)) with
  | some p => p.2
  | none => 0
theorem lkp_R {j : Nat} : ∀ {r : Row}, lkp (mkR r) (.num (j : Int)) = (r.find? fun p => decide (p.1 = j)).map fun p => .int p.2
  | [] => rfl
  | p :: r => by
    have ih := lkp_R (j := j) (r := r)
    unfold lkp at ih ⊢
    rw [mkR, List.map_cons, List.find?_cons, List.find?_cons]
    by_cases c : p.1 = j
    · rw [decide_eq_true c, decide_eq_true (by rw [c])]; rfl
    · rw [decide_eq_false c, decide_eq_false (by intro e; injection e with e; omega)]; exact ih
theorem get_R {j : Nat} {r : Row} : (lkp (mkR r) (.num (j : Int))).getD (.int 0) = .int (wtR r j) := by
  rw [lkp_R]; unfold wtR
  cases r.find? fun p => decide (p.1 = j) <;> rfl
theorem at_R {j : Nat} {r : Row} (h : j ∈ r.map (·.1)) : lkp (mkR r) (.num (j : Int)) = some (.int (wtR r j)) := by
  rw [lkp_R]; unfold wtR
  cases e : r.find? fun p => decide (p.1 = j) with
  | some p => rfl
  | none =>
    obtain ⟨p, hp, rfl⟩ := List.mem_map.1 h
    have := List.find?_eq_none.1 e p hp
    simp at this
theorem wtR_mem {j : Nat} {r : Row} (h : j ∈ r.map (·.1)) : (j, wtR r j) ∈ r := by
  unfold wtR
  cases e : r.find? fun p => decide (p.1 = j) with
  | some p =>
    have h1 := List.mem_of_find?_eq_some e
    have h2 := List.find?_some e
    simp only [decide_eq_true_eq] at h2
    subst h2; exact h1
  | none =>
    obtain ⟨p, hp, rfl⟩ := List.mem_map.1 h
    have := List.find?_eq_none.1 e p hp
    simp at this
theorem wtR_not {j : Nat} {r : Row} (h : j ∉ r.map (·.1)) : wtR r j = 0 := by
  unfold wtR
  rw [List.find?_eq_none.2]
  intro p hp e
  exact h (List.mem_map.2 ⟨p, hp, of_decide_eq_true e⟩)
def stoR (r : Row) (j : Nat) (w : Int) : Row := if j ∈ r.map (·.1) then r.map (fun p => if p.1 = j then (p.1, w) else p) else r ++ [(j, w)]
theorem sto_R {r : Row} {j : Nat} {w : Int} : stoK (mkR r) (.num (j : Int)) (.int w) = mkR (stoR r j w) := by
  have a : (mkR r).any (fun p => decide (p.1 = .num (j : Int))) = decide (j ∈ r.map (·.1)) := by
    rw [Bool.eq_iff_iff, List.any_eq_true, decide_eq_true_eq]
    constructor
    · rintro ⟨p, hp, e⟩
      obtain ⟨q, hq, rfl⟩ := List.mem_map.1 hp
      have e := of_decide_eq_true e
      injection e with e
      exact List.mem_map.2 ⟨q, hq, by omega⟩
    · intro h
      obtain ⟨q, hq, rfl⟩ := List.mem_map.1 h
      exact ⟨_, List.mem_map.2 ⟨q, hq, rfl⟩, by simp⟩
  unfold stoK stoR
  rw [a]
  by_cases h : j ∈ r.map (·.1)
  · rw [if_pos (decide_eq_true h), if_pos h, mkR, mkR, List.map_map, List.map_map]
    refine List.map_congr_left fun p _ => ?_
    show (if NestedKey.num (p.1 : Int) = .num (j : Int) then _ else _ : NestedKey × D) = _
    by_cases c : p.1 = j
    · subst c; simp
    · have : ¬ NestedKey.num (p.1 : Int) = .num (j : Int) := by intro e; injection e with e; omega
      rw [if_neg this]
      show _ = ((NestedKey.num ((if p.1 = j then (p.1, w) else p).1 : Int)), D.int (if p.1 = j then (p.1, w) else p).2)
      rw [if_neg c]
  · rw [if_neg (by simpa using h), if_neg h, mkR, mkR, List.map_append]; rfl
theorem stoR_ok {n : Nat} {c d : Int} {r : Row} {j : Nat} {w : Int} (h : RowOk n c r) (hj : j < n) (hw : 0 < w ∧ w ≤ d) (l : c ≤ d) : RowOk n d (stoR r j w) := by
  unfold stoR
  split
  · refine ⟨?_, fun p hp => ?_, fun p hp => ?_⟩
    · rw [List.map_map]
      have : (r.map ((fun x => x.1) ∘ fun p : Nat × Int => if p.1 = j then (p.1, w) else p)) = r.map (·.1) := List.map_congr_left fun p _ => by show (if p.1 = j then (p.1, w) else p).1 = _; split <;> rfl
      rw [this]; exact h.nd
    · obtain ⟨q, hq, rfl⟩ := List.mem_map.1 hp
      have := h.lt q hq
      split <;> exact this
    · obtain ⟨q, hq, rfl⟩ := List.mem_map.1 hp
      split
      · exact hw
      · exact ⟨(h.rg q hq).1, Int.le_trans (h.rg q hq).2 l⟩
  · rename_i ni
    refine ⟨?_, fun p hp => ?_, fun p hp => ?_⟩
    · rw [List.map_append, List.nodup_append]
      exact ⟨h.nd, by simp, fun a ha b hb => by simp at hb; subst hb; rintro rfl; exact ni ha⟩
    · rcases List.mem_append.1 hp with z | z
      · exact h.lt p z
      · rw [List.mem_singleton] at z; subst z; exact hj
    · rcases List.mem_append.1 hp with z | z
      · exact ⟨(h.rg p z).1, Int.le_trans (h.rg p z).2 l⟩
      · rw [List.mem_singleton] at z; subst z; exact hw
theorem wtR_rg {n : Nat} {c : Int} {r : Row} {j : Nat} (h : RowOk n c r) (hc : 0 ≤ c) : 0 ≤ wtR r j ∧ wtR r j ≤ c := by
  by_cases m : j ∈ r.map (·.1)
  · have := h.rg _ (wtR_mem m)
    simp only at this; omega
  · rw [wtR_not m]; omega
end Lt

set_option maxHeartbeats 1000000
namespace Lt
open PySem PySem.Spec PyProof.Rows L2
theorem RowOk.len {n : Nat} {c : Int} {r : Lt.Row} (h : RowOk n c r) : r.length ≤ n := by
  have := len_nodup h.nd (n := n) fun j hj => by obtain ⟨p, hp, rfl⟩ := List.mem_map.1 hj; exact h.lt p hp
  rwa [List.length_map] at this
theorem zip_fs {α β : Type} : ∀ l : List (α × β), (l.map (·.1)).zip (l.map (·.2)) = l
  | [] => rfl
  | a :: l => by rw [List.map_cons, List.map_cons, List.zip_cons_cons, zip_fs l]
theorem rdN_dct {h : Hh} {kvs : List (NestedKey × D)} : rdN h (.dct (kvs.map (·.1)) (kvs.map (·.2))) = some kvs := by show some ((kvs.map (·.1)).zip (kvs.map (·.2))) = _; rw [zip_fs]
theorem ints_R : ∀ r : Lt.Row, intsD ((mkR r).map (·.2)) = some (r.map (·.2))
  | [] => rfl
  | p :: r => by
    have := ints_R r
    unfold mkR at this ⊢
    rw [List.map_cons, List.map_cons, intsD, this]; rfl
theorem keys_R {r : Lt.Row} : ((mkR r).map fun p => ofK p.1) = (r.map (·.1)).map (fun j : Nat => .int (j : Int)) ∧ ((mkR r).map fun p => p.1.data) = (r.map (·.1)).map (fun j : Nat => .int (j : Int)) := by
  constructor
  · unfold mkR; rw [List.map_map, List.map_map]; rfl
  · unfold mkR; rw [List.map_map, List.map_map]; exact List.map_congr_left fun a _ => rfl
theorem srtK_R {r : Lt.Row} {h : Hh} {Q : QD} (hl : r.length ≤ sizeLine) : (SrtOk ((mkR r).map fun p => p.1.data) ∧ ∀ p, h p = none → Q (.ref p) (up h p (.lst (srtD ((mkR r).map fun p => ofK p.1) ((mkR r).map fun p => p.1.data))))) = ∀ p, h p = none → Q (.ref p) (up h p (.lst ((srtN (r.map (·.1))).map fun j : Nat => .int (j : Int)))) := by
  rw [keys_R.1, keys_R.2, srtD_nat]
  exact propext ⟨fun x => x.2, fun x => ⟨srtOk_nat (by rwa [List.length_map]), x⟩⟩
theorem sum_rg {m : Int} : ∀ {l : List Int}, (∀ x ∈ l, 0 < x ∧ x ≤ m) → 0 ≤ l.sum ∧ (l ≠ [] → 0 < l.sum) ∧ l.sum ≤ l.length * m
  | [], _ => by simp
  | x :: r, h => by
    have a := h x (by simp)
    have ih := sum_rg fun y hy => h y (List.mem_cons_of_mem _ hy)
    rw [List.sum_cons, List.length_cons, Int.natCast_add, Int.add_mul]
    simp only [Int.cast_ofNat_Int, Int.one_mul]
    have := ih.1; have := ih.2.2
    exact ⟨by omega, fun _ => by omega, by omega⟩
theorem srtN_len {l : List Nat} : (srtN l).length = l.length := List.length_mergeSort l
/-! ### chains -/
structure ChOk (c : Nat) (x : Choice) : Prop where
  len : x.2.length ≤ c
  lt : ∀ p ∈ x.2, p.1 < c
structure NdOk (c : Nat) (nd : List Choice) : Prop where
  one : nd.length ≤ 1
  ch : ∀ x ∈ nd, ChOk c x
structure ChainOk (N : Net) : Prop where
  len : N.length ≤ 60
  nd : ∀ nd ∈ N, NdOk N.length nd
theorem ChainOk.in {N : Net} (h : ChainOk N) : NetIn N :=
  ⟨Nat.le_trans h.len (by decide), (fun nd hn => Nat.le_trans (h.nd nd hn).one (by decide)), (fun nd hn c hc => Nat.le_trans ((h.nd nd hn).ch c hc).len (Nat.le_trans h.len (by decide))), fun nd hn c hc p hp => ((h.nd nd hn).ch c hc).lt p hp⟩
abbrev ntD (l : List Nat) : D := .lst (l.map fun j : Nat => .int (j : Int))
/-! ### a queue of what is reached -/
structure Que (N : Net) (i : Nat) (qs : List Nat) (n : Nat) : Prop where
  nd : qs.Nodup
  i0 : i ∈ qs
  r : ∀ j ∈ qs, Reach N i j
  le : n ≤ qs.length
  cl : ∀ k, k < n → ∀ x, qs[k]? = some x → ∀ y ∈ succF N x, y ∈ qs
structure Qin (N : Net) (i : Nat) (qs us : List Nat) : Prop where
  pre : ∃ t, us = qs ++ t
  nd : us.Nodup
  r : ∀ j ∈ us, Reach N i j
theorem wrN_upN {h : Hh} {a b : Addr} {o : O} (e : b ≠ a) : wrN (up h a o) b = wrN h b := by unfold wrN; rw [up_ne e]
theorem in_natsI {l : List Nat} {j : Nat} {h : Hh} {p : Addr} {A B : Prop} (rd : rdL h p = some (l.map fun j : Nat => .int (j : Int))) (k : if decide (j ∈ l) = false then A else B) :
    ∃ x ds, IsP h (.int (j : Int)) x ∧ IsP h (.ref p) (.list ds) ∧ SeqAt.shaped x = true ∧ SeqAt.shaped (.list ds) = true ∧ if (ds.any fun z => PyData.eqv z x) = false then A else B := by
  have := in_nats (K := fun b => if b = false then A else B) (j := j) rd
  rw [q_inR, rd, sel_some] at this
  exact this.mpr k
theorem Que.start {N : Net} {i : Nat} : Que N i [i] 0 := ⟨by simp, by simp, fun j hj => by rw [List.mem_singleton] at hj; subst hj; exact .refl, Nat.zero_le _, fun k hk => absurd hk (Nat.not_lt_zero _)⟩
section
variable {N : Net} {i n x y : Nat} {qs us : List Nat}
theorem Que.lt (Q : Que N i qs n) (hN : NetIn N) (hi : i < N.length) : ∀ j ∈ qs, j < N.length := fun j hj => (Q.r j hj).lt hN hi
theorem Que.len (Q : Que N i qs n) (hN : NetIn N) (hi : i < N.length) : qs.length ≤ N.length := len_nodup Q.nd (Q.lt hN hi)
theorem Que.fin (Q : Que N i qs n) (hN : NetIn N) (hi : i < N.length) (e : qs.length ≤ n) : srtN qs = reachF N i :=
  srtN_those Q.nd fun j => by
    rw [closed_reach Q.i0 Q.r (fun j hj k hk => by
      obtain ⟨m, hm, e2⟩ := List.getElem_of_mem hj
      exact Q.cl m (by omega) j (by rw [← e2]; exact List.getElem?_eq_getElem hm) k hk) j]
    exact ⟨fun r => ⟨r.lt hN hi, r⟩, fun z => z.2⟩
theorem Que.go (Q : Que N i qs n) : Qin N i qs qs := ⟨⟨[], by simp⟩, Q.nd, Q.r⟩
theorem Qin.sub (U : Qin N i qs us) : ∀ z ∈ qs, z ∈ us := fun z hz => by obtain ⟨t, rfl⟩ := U.pre; exact List.mem_append_left _ hz
theorem Qin.len (U : Qin N i qs us) (hN : NetIn N) (hi : i < N.length) : us.length ≤ N.length := len_nodup U.nd fun j hj => (U.r j hj).lt hN hi
theorem Qin.add (U : Qin N i qs us) (hx : x ∈ qs) (hy : y ∈ succF N x) : Qin N i qs (addN us y) := by
  obtain ⟨t, e⟩ := U.pre
  refine ⟨?_, addN_nodup U.nd, fun j hj => ?_⟩
  · unfold addN; split
    · exact ⟨t, e⟩
    · exact ⟨t ++ [y], by rw [e, List.append_assoc]⟩
  · rcases addN_mem.1 hj with z | z
    · exact U.r j z
    · subst z; exact .step (U.r x (U.sub x hx)) hy
theorem Qin.done (Q : Que N i qs n) (U : Qin N i qs us) (e : qs[n]? = some x) (h : ∀ y ∈ succF N x, y ∈ us) : Que N i us (n + 1) := by
  have hn : n < qs.length := by
    by_cases z : n < qs.length
    · exact z
    · rw [List.getElem?_eq_none (by omega)] at e; cases e
  obtain ⟨t, et⟩ := U.pre
  refine ⟨U.nd, U.sub _ Q.i0, U.r, by rw [et, List.length_append]; omega, fun k hk z ez w hw => ?_⟩
  rw [et, List.getElem?_append_left (by omega)] at ez
  by_cases c : k = n
  · subst c; rw [e] at ez; cases ez; exact h w hw
  · exact U.sub _ (Q.cl k (by omega) z ez w hw)
end
section
variable {α : Type} {t : Tg} {h : Hh}
theorem lc_one {e : En → Hh → QD → Prop} {ρ : En} {R : Addr → Hh → Prop} (f : α → D) (P : α → Prop) (g : α → D) (step : ∀ a, P a → ∀ (h' : Hh) (Y : QD), Y (g a) h' → tgW t (f a) ρ fun ρ1 => e ρ1 h' Y) (xs : List α) (hP : ∀ a ∈ xs, P a) (hl : xs.length ≤ sizeLine)
    (H : ∀ p, h p = none → R p (up h p (.lst (xs.map g)))) : ∀ p, h p = none → lcI (.seq (xs.map f)) t (fun _ h Q => Q (.bl true) h) e p ρ (R p) (up h p (.lst [])) := by
  refine lc_go (σ := Unit) (fun _ => h) f (fun as _ acc => ∃ pre, xs = pre ++ as ∧ acc = pre.map g) (fun _ _ p hp => hp) (fun p a as _ acc hp I Y hY => ?_) (fun _ acc I p hp => ?_) xs () hl ⟨[], rfl, rfl⟩
  · obtain ⟨pre, e1, rfl⟩ := I
    exact step a (hP a (by rw [e1]; simp)) _ _ (hY () _ ⟨pre ++ [a], by rw [e1]; simp, by simp⟩)
  · obtain ⟨pre, e1, rfl⟩ := I
    rw [List.append_nil] at e1; subst e1
    exact H p hp
end
instance : Py Nat where
  d := fun j => .int (j : Int)
  p := fun j => .int (j : Int)
  ok := fun _ => by rw [toP]
  eq := fun a b => by simp only [PyData.eqv, decide_eq_true_eq, beq_iff_eq]; omega
  lay := fun _ => by simp [PyData.canLay0]
  n := 0
  dep := fun _ => by simp [PyData.depth]

section
variable {h : Hh} {K : Bool → Prop}
theorem eqW_nats {a b : List Nat} : eqW (ntD a) (ntD b) h K = K (decide (a = b)) := eqW_py (α := List Nat) (by decide)
theorem eqW_natss {a b : List (List Nat)} : eqW (.lst (a.map ntD)) (.lst (b.map ntD)) h K = K (decide (a = b)) := eqW_py (α := List (List Nat)) (by decide)
theorem eqW_nd {a b : List Choice} : eqW (ndD a) (ndD b) h K = K (decide (a = b)) := eqW_py (α := List Choice) (by decide)
theorem eqW_nd0 {a : List Choice} : eqW (ndD a) (.lst []) h K = K (decide (a = [])) := eqW_py (α := List Choice) (b := []) (by decide)
instance : DecidableEq Choice := inferInstanceAs (DecidableEq (Fr × List (Nat × Fr)))
instance : DecidableEq (List Choice) := instDecidableEqList
instance : DecidableEq Net := (instDecidableEqList : DecidableEq (List (List Choice)))
theorem eqW_net {a b : Net} : eqW (netD a) (netD b) h K = K (decide (a = b)) := eqW_py (α := Net) (by decide)
end
/-- a node in a ring, the least there -/
noncomputable def ringC (N : Net) (i : Nat) : Bool := decide (N[i]? ≠ some []) && decide ((reachF N i).head? = some i) && (reachF N i).all fun k => decide (reachF N k = reachF N i)
noncomputable def ringsF (N : Net) : List (List Nat) := ((List.range N.length).filter (ringC N)).map (reachF N)
theorem reach_at {N : Net} {i : Nat} (hi : i < N.length) : atI ((List.range N.length).map fun i => ntD (reachF N i)) (i : Int) = some (ntD (reachF N i)) := by
  rw [atI_N, List.getElem?_map, List.getElem?_range hi]; rfl
theorem reach_0 {N : Net} {i : Nat} (hN : NetIn N) (hi : i < N.length) : ∃ a r, reachF N i = a :: r := by
  have : i ∈ reachF N i := (reachF_mem hN hi).2 .refl
  cases e : reachF N i with
  | nil => rw [e] at this; cases this
  | cons a r => exact ⟨a, r, rfl⟩
/-- a loop over a list that is not changed in it -/
theorem fr_zpf {σ α β : Type} {t : Tg} {b : En → Hh → Ed → Prop} {K : Ed} (st : σ → En) (hp : σ → Hh) (f : α → D) (g : β → D) (q : Addr) (xs : List α) (ys : List β) (I : List (α × β) → σ → Prop) (rd : ∀ as s, I as s → rdL (hp s) q = some (xs.map f)) (nil : ∀ s, I [] s → K.nx (st s) (hp s))
    (cons : ∀ a as s, I (a :: as) s → ∀ W : En → Hh → Prop, (∀ s', I as s' → W (st s') (hp s')) → tgW t (.tup [f a.1, g a.2]) (st s) fun ρ1 => b ρ1 (hp s) { K with nx := W }) (s : σ) (i0 : I (xs.zip ys) s) : frI (.zpf q (ys.map g)) t b K (st s) (hp s) := by
  have gen : ∀ (as pre : List (α × β)) (s : σ), xs.zip ys = pre ++ as → I as s → frW (.zpf q (ys.map g)) t b K (as.length + 1) pre.length (st s) (hp s) := by
    intro as
    induction as with
    | nil =>
      intro pre s e i
      have l : pre.length = min xs.length ys.length := by rw [← List.length_zip, e, List.append_nil]
      unfold frW
      show match nxZ (rdL (hp s) q) (some (ys.map g)) pre.length with
        | .stuck => False
        | .stop => _
        | .go d => _
      rw [rd _ _ i]
      unfold nxZ
      by_cases h1 : pre.length < xs.length
      · have h2 : ¬ pre.length < ys.length := by omega
        simp only [List.getElem?_map, List.getElem?_eq_getElem h1, List.getElem?_eq_none (show ys.length ≤ pre.length by omega), Option.map_some, Option.map_none]
        exact nil s i
      · simp only [List.getElem?_map, List.getElem?_eq_none (show xs.length ≤ pre.length by omega), Option.map_none]
        exact nil s i
    | cons a as ih =>
      intro pre s e i
      have e1 : (xs.zip ys)[pre.length]? = some a := by rw [e]; simp
      have e2 := (List.getElem?_zip_eq_some.1 e1)
      unfold frW
      show match nxZ (rdL (hp s) q) (some (ys.map g)) pre.length with
        | .stuck => False
        | .stop => _
        | .go d => _
      rw [rd _ _ i]
      unfold nxZ
      simp only [List.getElem?_map, e2.1, e2.2, Option.map_some]
      refine cons a as s i _ fun s' i' => ?_
      have := ih (pre ++ [a]) s' (by rw [e]; simp) i'
      rw [List.length_append, List.length_singleton] at this
      exact this
  exact ⟨_, gen (xs.zip ys) [] s rfl i0⟩
theorem fr_ref {σ α : Type} {t : Tg} {b : En → Hh → Ed → Prop} {K : Ed} (st : σ → En) (hp : σ → Hh) (f : α → D) (q : Addr) (xs : List α) (I : List α → σ → Prop) (rd : ∀ as s, I as s → rdL (hp s) q = some (xs.map f)) (nil : ∀ s, I [] s → K.nx (st s) (hp s))
    (cons : ∀ a as s, I (a :: as) s → ∀ W : En → Hh → Prop, (∀ s', I as s' → W (st s') (hp s')) → tgW t (f a) (st s) fun ρ1 => b ρ1 (hp s) { K with nx := W }) (s : σ) (i0 : I xs s) : frI (.lst q) t b K (st s) (hp s) := by
  have gen : ∀ (as pre : List α) (s : σ), xs = pre ++ as → I as s → frW (.lst q) t b K (as.length + 1) pre.length (st s) (hp s) := by
    intro as
    induction as with
    | nil =>
      intro pre s e i
      have e1 : (xs.map f)[pre.length]? = none := List.getElem?_eq_none (by rw [e, List.length_map, List.append_nil]; exact Nat.le_refl _)
      unfold frW IT.nx nxL
      simp only [rd _ _ i, e1]
      exact nil s i
    | cons a as ih =>
      intro pre s e i
      have e1 : (xs.map f)[pre.length]? = some (f a) := by rw [e]; simp
      unfold frW
      show match nxL (rdL (hp s) q) pre.length with
        | .stuck => False
        | .stop => _
        | .go d => _
      unfold nxL
      simp only [rd _ _ i, e1]
      refine cons a as s i _ fun s' i' => ?_
      have := ih (pre ++ [a]) s' (by rw [e]; simp) i'
      rw [List.length_append, List.length_singleton] at this
      exact this
  exact ⟨_, gen xs [] s rfl i0⟩
theorem isTy_ref {h : Hh} {a : Addr} {xs : List D} (e : rdL h a = some xs) : isTy h (.ref a) .list = some true := by simp only [isTy, e]
theorem arr_isPs {H : Hh} : ∀ {ps : List Addr} {rows : List (List Nat)}, ps.length = rows.length → (∀ (i : Nat) p l, ps[i]? = some p → rows[i]? = some l → rdL H p = some (l.map fun j : Nat => .int (j : Int))) → IsPs H (ps.map D.ref) (rows.map fun l => .list (l.map fun j : Nat => .int (j : Int)))
  | [], [], _, _ => rfl
  | [], _ :: _, l, _ => by simp at l
  | _ :: _, [], l, _ => by simp at l
  | p :: ps, r :: rows, l, g => by
    rw [List.map_cons, List.map_cons, IsPs]
    refine ⟨_, _, rfl, ?_, arr_isPs (by simpa using l) fun i q s h1 h2 => g (i + 1) q s (by simpa using h1) (by simpa using h2)⟩
    rw [IsP]
    exact ⟨_, g 0 p r rfl rfl, isPs_nat r⟩
theorem eq_natrows {h : Hh} {rows : List (List Nat)} {h0 : Hh} {ps : List Addr} {q : Addr} {K : Bool → Prop} (A : ArrO h0 h ps (rows.map fun l => .lst (l.map fun j : Nat => .int (j : Int)))) (hq : h q = none) : eqW (.ref q) (.lst (rows.map ntD)) (up h q (.lst (ps.map D.ref))) K = K true := by
  have pl : ps.length = rows.length := by have := A.len; rwa [List.length_map] at this
  have p1 : IsP (up h q (.lst (ps.map D.ref))) (.ref q) (.list (rows.map fun l => .list (l.map fun j : Nat => .int (j : Int)))) := by
    rw [IsP]
    refine ⟨_, rdL_up, arr_isPs pl fun i p l e1 e2 => ?_⟩
    have g := A.get i _ _ e1 (by rw [List.getElem?_map, e2]; rfl)
    have pn : p ≠ q := fun z => by rw [z, hq] at g; cases g
    rw [rdL_upN pn]; unfold rdL; rw [g]
  have p2 : IsP (up h q (.lst (ps.map D.ref))) (.lst (rows.map ntD)) (.list (rows.map fun l => .list (l.map fun j : Nat => .int (j : Int)))) := toP_isP (Py.ok (α := List (List Nat)) rows)
  have sh : SeqAt.shaped (.list (rows.map fun l => .list (l.map fun j : Nat => .int (j : Int)))) = true := by
    unfold SeqAt.shaped
    have e : (PyData.list (rows.map fun l => .list (l.map fun j : Nat => .int (j : Int)))) = Py.p rows := rfl
    rw [e, Py.lay, Bool.true_and]
    have := Py.dep rows
    simp only [decide_eq_true_eq]
    exact Nat.le_trans this (by decide)
  rw [eqW_P p1 p2 sh sh, SeqAt.eqv_refl _ (by unfold SeqAt.shaped at sh; rw [Bool.and_eq_true] at sh; exact sh.1)]
end Lt

namespace Lt
open PySem PySem.Spec PyProof.Rows L2
/-! ### determinants: rows are things, columns are rules that tell a number for each -/
def sumQ (f : Nat → Rat) : Nat → Rat
  | 0 => 0
  | n + 1 => sumQ f n + f n
theorem sumQ_congr {f g : Nat → Rat} : ∀ {n : Nat}, (∀ k, k < n → f k = g k) → sumQ f n = sumQ g n
  | 0, _ => rfl
  | n + 1, h => by rw [sumQ, sumQ, sumQ_congr (fun k l => h k (by omega)), h n (by omega)]
theorem sumQ_zero {f : Nat → Rat} : ∀ {n : Nat}, (∀ k, k < n → f k = 0) → sumQ f n = 0
  | 0, _ => rfl
  | n + 1, h => by rw [sumQ, sumQ_zero (fun k l => h k (by omega)), h n (by omega)]; grind
theorem sumQ_add {f g : Nat → Rat} : ∀ n : Nat, sumQ (fun k => f k + g k) n = sumQ f n + sumQ g n
  | 0 => by simp only [sumQ]; grind
  | n + 1 => by simp only [sumQ]; rw [sumQ_add n]; grind
theorem sumQ_mul {f : Nat → Rat} {x : Rat} : ∀ n : Nat, sumQ (fun k => x * f k) n = x * sumQ f n
  | 0 => by simp only [sumQ]; grind
  | n + 1 => by simp only [sumQ]; rw [sumQ_mul n]; grind
theorem sumQ_neg {f : Nat → Rat} : ∀ n : Nat, sumQ (fun k => - f k) n = - sumQ f n
  | 0 => by simp only [sumQ]; grind
  | n + 1 => by simp only [sumQ]; rw [sumQ_neg n]; grind
/-- one summand alone -/
theorem sumQ_one {f : Nat → Rat} {p : Nat} : ∀ {n : Nat}, p < n → (∀ k, k < n → k ≠ p → f k = 0) → sumQ f n = f p
  | 0, l, _ => absurd l (Nat.not_lt_zero _)
  | n + 1, l, h => by
    rw [sumQ]
    by_cases e : p = n
    · subst e; rw [sumQ_zero (fun k l => h k (by omega) (by omega))]; grind
    · rw [sumQ_one (by omega) (fun k l => h k (by omega)), h n (by omega) (fun z => e z.symm)]; grind
theorem sumQ_two {f : Nat → Rat} {p q : Nat} : ∀ {n : Nat}, p < n → q < n → p ≠ q → (∀ k, k < n → k ≠ p → k ≠ q → f k = 0) → sumQ f n = f p + f q
  | 0, l, _, _, _ => absurd l (Nat.not_lt_zero _)
  | n + 1, l, l2, ne, h => by
    rw [sumQ]
    by_cases e : p = n
    · subst e; rw [sumQ_one (by omega : q < p) (fun k l y => h k (by omega) (by omega) y)]; grind
    · by_cases e2 : q = n
      · subst e2; rw [sumQ_one (by omega : p < q) (fun k l y => h k (by omega) y (by omega))]
      · rw [sumQ_two (by omega) (by omega) ne (fun k l => h k (by omega)), h n (by omega) (fun z => e z.symm) (fun z => e2 z.symm)]; grind
theorem sumQ_swap {f : Nat → Nat → Rat} {m : Nat} : ∀ n : Nat, sumQ (fun i => sumQ (fun j => f i j) m) n = sumQ (fun j => sumQ (fun i => f i j) n) m
  | 0 => by simp only [sumQ]; rw [sumQ_zero (fun _ _ => rfl)]
  | n + 1 => by simp only [sumQ]; rw [sumQ_swap n, ← sumQ_add]

def skip (k i : Nat) : Nat := if i < k then i else i + 1
def sgn (k : Nat) : Rat := if k % 2 = 0 then 1 else -1
theorem sgn_s (k : Nat) : sgn (k + 1) = - sgn k := by
  unfold sgn
  rcases Nat.mod_two_eq_zero_or_one k with h | h
  · rw [if_pos h, if_neg (show ¬ (k + 1) % 2 = 0 by omega)]
  · rw [if_neg (show ¬ k % 2 = 0 by omega), if_pos (show (k + 1) % 2 = 0 by omega)]; grind
section
variable {α : Type}
def det : List α → (Nat → α → Rat) → Rat
  | [], _ => 1
  | r :: rs, C => sumQ (fun k => sgn k * C k r * det rs (fun i => C (skip k i))) (rs.length + 1)
/-- column p another one -/
def upC (C : Nat → α → Rat) (p : Nat) (x : α → Rat) : Nat → α → Rat := fun i => if i = p then x else C i
theorem det_congr : ∀ {rs : List α} {C D : Nat → α → Rat}, (∀ i, i < rs.length → ∀ r ∈ rs, C i r = D i r) → det rs C = det rs D
  | [], _, _, _ => rfl
  | r :: rs, C, D, h => by
    unfold det
    refine sumQ_congr fun k l => ?_
    rw [h k (by simpa using l) r (by simp), det_congr (fun i li s hs => h (skip k i) ?_ s (by simp [hs]))]
    unfold skip; rw [List.length_cons]; split <;> omega
theorem skip_upC {C : Nat → α → Rat} {p k : Nat} {x : α → Rat} (e : k ≠ p) : (fun i => upC C p x (skip k i)) = upC (fun i => C (skip k i)) (if p < k then p else p - 1) x := by
  funext i
  simp only [upC, skip]
  by_cases h : i < k
  · by_cases hp : p < k
    · simp only [if_pos h, if_pos hp]
    · simp only [if_pos h, if_neg hp, if_neg (show ¬ i = p by omega), if_neg (show ¬ i = p - 1 by omega)]
  · by_cases hp : p < k
    · simp only [if_neg h, if_pos hp, if_neg (show ¬ i + 1 = p by omega), if_neg (show ¬ i = p by omega)]
    · by_cases z : i + 1 = p
      · simp only [if_neg h, if_neg hp, if_pos z, if_pos (show i = p - 1 by omega)]
      · simp only [if_neg h, if_neg hp, if_neg z, if_neg (show ¬ i = p - 1 by omega)]
theorem skip_upC_same {C : Nat → α → Rat} {p : Nat} {x : α → Rat} : (fun i => upC C p x (skip p i)) = fun i => C (skip p i) := by
  funext i
  unfold upC skip
  split
  · rw [if_neg (by omega)]
  · rw [if_neg (by omega)]
theorem det_add : ∀ {rs : List α} {C : Nat → α → Rat} {p : Nat} {x y : α → Rat}, p < rs.length → det rs (upC C p fun r => x r + y r) = det rs (upC C p x) + det rs (upC C p y)
  | [], _, _, _, _, l => absurd l (Nat.not_lt_zero _)
  | r :: rs, C, p, x, y, l => by
    rw [det, det, det, ← sumQ_add]
    refine sumQ_congr fun k lk => ?_
    rw [List.length_cons] at l
    by_cases e : k = p
    · subst e
      rw [skip_upC_same, skip_upC_same, skip_upC_same]
      have e1 : ∀ z : α → Rat, upC C k z k r = z r := fun z => by unfold upC; rw [if_pos rfl]
      rw [e1, e1, e1]; grind
    · rw [skip_upC e, skip_upC e, skip_upC e, det_add (by split <;> omega)]
      have e1 : ∀ z : α → Rat, upC C p z k r = C k r := fun z => by unfold upC; rw [if_neg e]
      rw [e1, e1, e1]; grind
theorem det_mul : ∀ {rs : List α} {C : Nat → α → Rat} {p : Nat} {x : α → Rat} {a : Rat}, p < rs.length → det rs (upC C p fun r => a * x r) = a * det rs (upC C p x)
  | [], _, _, _, _, l => absurd l (Nat.not_lt_zero _)
  | r :: rs, C, p, x, a, l => by
    rw [det, det, ← sumQ_mul]
    refine sumQ_congr fun k lk => ?_
    rw [List.length_cons] at l
    by_cases e : k = p
    · subst e
      rw [skip_upC_same, skip_upC_same]
      have e1 : ∀ z : α → Rat, upC C k z k r = z r := fun z => by unfold upC; rw [if_pos rfl]
      rw [e1, e1]; grind
    · rw [skip_upC e, skip_upC e, det_mul (by split <;> omega)]
      have e1 : ∀ z : α → Rat, upC C p z k r = C k r := fun z => by unfold upC; rw [if_neg e]
      rw [e1, e1]; grind
theorem det_nil {rs : List α} {C : Nat → α → Rat} {p : Nat} (l : p < rs.length) : det rs (upC C p fun _ => 0) = 0 := by
  have := det_mul (C := C) (x := fun _ => 0) (a := 0) l
  simp only [Rat.zero_mul] at this
  exact this
theorem det_sum {rs : List α} {C : Nat → α → Rat} {p : Nat} {a : Nat → Rat} {x : Nat → α → Rat} (l : p < rs.length) : ∀ n : Nat, det rs (upC C p fun r => sumQ (fun k => a k * x k r) n) = sumQ (fun k => a k * det rs (upC C p (x k))) n
  | 0 => by simp only [sumQ]; exact det_nil l
  | n + 1 => by simp only [sumQ]; rw [det_add l, det_sum l n, det_mul l]
/-- two neighbouring columns alike -/
theorem det_adj : ∀ {rs : List α} {C : Nat → α → Rat} {p : Nat}, p + 1 < rs.length → (∀ r, C p r = C (p + 1) r) → det rs C = 0
  | [], _, _, l, _ => absurd l (Nat.not_lt_zero _)
  | r :: rs, C, p, l, h => by
    rw [List.length_cons] at l
    rw [det, sumQ_two (p := p) (q := p + 1) (by omega) l (by omega)]
    · have e : (fun i => C (skip p i)) = fun i => C (skip (p + 1) i) := by
        funext i r
        unfold skip
        by_cases z : i = p
        · subst z; rw [if_neg (by omega), if_pos (by omega), h]
        · by_cases y : i < p
          · rw [if_pos y, if_pos (by omega)]
          · rw [if_neg y, if_neg (by omega)]
      rw [e, h, sgn_s]; grind
    · intro k lk n1 n2
      have q : det rs (fun i => C (skip k i)) = 0 := by
        by_cases z : p < k
        · refine det_adj (p := p) (by omega) fun r => ?_
          unfold skip; rw [if_pos z, if_pos (by omega), h]
        · refine det_adj (p := p - 1) (by omega) fun r => ?_
          unfold skip; rw [if_neg (by omega), if_neg (by omega)]
          have e1 : p - 1 + 1 = p := by omega
          rw [e1, h]
      rw [q]; grind
/-- neighbours change places -/
theorem det_swap {rs : List α} {C : Nat → α → Rat} {p : Nat} {x y : α → Rat} (l : p + 1 < rs.length) : det rs (upC (upC C p x) (p + 1) y) = - det rs (upC (upC C p y) (p + 1) x) := by
  have comm : ∀ u v : α → Rat, upC (upC C p u) (p + 1) v = upC (upC C (p + 1) v) p u := fun u v => by
    funext i; unfold upC
    by_cases z : i = p + 1
    · subst z; rw [if_pos rfl, if_neg (by omega), if_pos rfl]
    · rw [if_neg z]
      by_cases w : i = p
      · rw [if_pos w, if_pos w]
      · rw [if_neg w, if_neg w, if_neg z]
  have z : ∀ u : α → Rat, det rs (upC (upC C p u) (p + 1) u) = 0 := fun u => det_adj l fun r => by
    unfold upC; rw [if_neg (by omega), if_pos rfl, if_pos rfl]
  have h := z fun r => x r + y r
  rw [det_add l, comm, comm, det_add (by omega), det_add (by omega), ← comm, ← comm, ← comm, ← comm, z, z] at h
  grind
theorem det_two : ∀ {d : Nat} {rs : List α} {C : Nat → α → Rat} {p : Nat}, p + d + 1 < rs.length → (∀ r, C p r = C (p + d + 1) r) → det rs C = 0
  | 0, rs, C, p, l, h => det_adj l h
  | d + 1, rs, C, p, l, h => by
    have e : C = upC (upC C (p + d + 1) (C (p + d + 1))) (p + d + 1 + 1) (C (p + d + 1 + 1)) := by
      funext i; unfold upC
      by_cases z : i = p + d + 1 + 1
      · rw [if_pos z, z]
      · rw [if_neg z]
        by_cases w : i = p + d + 1
        · rw [if_pos w, w]
        · rw [if_neg w]
    rw [e, det_swap (by omega), det_two (d := d) (p := p) (by omega)]
    · grind
    · intro r
      unfold upC
      rw [if_neg (by omega), if_neg (by omega), if_neg (by omega), if_pos rfl]
      exact h r
theorem det_eq {rs : List α} {C : Nat → α → Rat} {p q : Nat} (lp : p < rs.length) (lq : q < rs.length) (ne : p ≠ q) (h : ∀ r, C p r = C q r) : det rs C = 0 := by
  by_cases z : p < q
  · obtain ⟨d, rfl⟩ : ∃ d, q = p + d + 1 := ⟨q - p - 1, by omega⟩
    exact det_two lq h
  · obtain ⟨d, rfl⟩ : ∃ d, p = q + d + 1 := ⟨p - q - 1, by omega⟩
    exact det_two lp fun r => (h r).symm
/-- a column that is a sum of columns -/
theorem det_cram {rs : List α} {C : Nat → α → Rat} {l : Nat} {a : Nat → Rat} (hl : l < rs.length) : det rs (upC C l fun r => sumQ (fun m => a m * C m r) rs.length) = a l * det rs C := by
  rw [det_sum hl, sumQ_one hl]
  · congr 2
    funext i; unfold upC
    split
    · rename_i e; rw [e]
    · rfl
  · intro k lk ne
    rw [det_eq (p := l) (q := k) hl lk (fun z => ne z.symm)]
    · grind
    · intro r; unfold upC; rw [if_pos rfl, if_neg ne]
/-- the last column is nought but for the last row -/
theorem det_last : ∀ {rs : List α} {i : α} {C : Nat → α → Rat}, (∀ r ∈ rs, C rs.length r = 0) → C rs.length i = 1 → det (rs ++ [i]) C = det rs C
  | [], i, C, _, h => by
    simp only [List.nil_append, det, List.length_nil] at h ⊢
    simp only [sumQ, h, sgn]; grind
  | r :: rs, i, C, h0, h1 => by
    rw [List.cons_append, det, det]
    have e : (rs ++ [i]).length + 1 = (rs.length + 1) + 1 := by simp
    have z : C (rs.length + 1) r = 0 := h0 r (by simp)
    rw [e, sumQ, z]
    have q : ∀ x : Rat, sgn (rs.length + 1) * 0 * x = 0 := fun x => by grind
    rw [q, Rat.add_zero]
    refine sumQ_congr fun k lk => ?_
    congr 1
    have s : skip k rs.length = rs.length + 1 := by unfold skip; rw [if_neg (by omega)]
    refine det_last (fun s' hs => ?_) ?_
    · show C (skip k rs.length) s' = 0
      rw [s]; exact h0 s' (by simp [hs])
    · show C (skip k rs.length) i = 1
      rw [s]; exact h1
/-! ### whole numbers, sizes -/
def WhN (n : Nat) (x : Rat) : Prop := ∃ i : Int, x = (i : Rat) ∧ i.natAbs ≤ n
theorem WhN.mono {n m : Nat} {x : Rat} (h : WhN n x) (l : n ≤ m) : WhN m x := let ⟨i, e, b⟩ := h; ⟨i, e, Nat.le_trans b l⟩
theorem WhN.mul {n m : Nat} {x y : Rat} (h : WhN n x) (k : WhN m y) : WhN (n * m) (x * y) := by
  obtain ⟨i, rfl, b⟩ := h; obtain ⟨j, rfl, c⟩ := k
  exact ⟨i * j, (Rat.intCast_mul _ _).symm, by rw [Int.natAbs_mul]; exact Nat.mul_le_mul b c⟩
theorem WhN.add {n m : Nat} {x y : Rat} (h : WhN n x) (k : WhN m y) : WhN (n + m) (x + y) := by
  obtain ⟨i, rfl, b⟩ := h; obtain ⟨j, rfl, c⟩ := k
  exact ⟨i + j, (Rat.intCast_add _ _).symm, Nat.le_trans (Int.natAbs_add_le _ _) (Nat.add_le_add b c)⟩
theorem WhN.sgn (k : Nat) : WhN 1 (sgn k) := by
  unfold Lt.sgn
  split
  · exact ⟨1, by simp, by decide⟩
  · exact ⟨-1, by simp, by decide⟩
theorem WhN.zero {n : Nat} : WhN n 0 := ⟨0, by simp, by simp⟩
theorem WhN.sum {f : Nat → Rat} {b : Nat} : ∀ {n : Nat}, (∀ k, k < n → WhN b (f k)) → WhN (n * b) (sumQ f n)
  | 0, _ => by rw [sumQ]; exact .zero
  | n + 1, h => by
    rw [sumQ]
    exact ((WhN.sum fun k l => h k (by omega)).add (h n (by omega))).mono (by rw [Nat.add_mul]; omega)
def sumN (f : Nat → Nat) : Nat → Nat
  | 0 => 0
  | n + 1 => sumN f n + f n
theorem sumN_congr {f g : Nat → Nat} : ∀ {n : Nat}, (∀ k, k < n → f k = g k) → sumN f n = sumN g n
  | 0, _ => rfl
  | n + 1, h => by rw [sumN, sumN, sumN_congr (fun k l => h k (by omega)), h n (by omega)]
theorem sumN_skip {c : Nat → Nat} {k : Nat} : ∀ {n : Nat}, k < n + 1 → c k + sumN (fun i => c (skip k i)) n = sumN c (n + 1)
  | 0, l => by
    have : k = 0 := by omega
    subst this; simp [sumN]
  | n + 1, l => by
    by_cases e : k = n + 1
    · subst e
      rw [show sumN (fun i => c (skip (n + 1) i)) (n + 1) = sumN c (n + 1) from sumN_congr fun i li => by unfold skip; rw [if_pos li]]
      rw [sumN.eq_def c (n + 1 + 1)]; simp only; omega
    · rw [sumN, sumN, ← sumN_skip (k := k) (n := n) (by omega)]
      have : skip k n = n + 1 := by unfold skip; rw [if_neg (by omega)]
      rw [this]; omega
theorem sumN_one {p t : Nat} : ∀ {n : Nat}, sumN (fun i => if i = p then t else 0) n ≤ t
  | 0 => Nat.zero_le _
  | n + 1 => by
    rw [sumN]
    by_cases e : n = p
    · subst e
      rw [if_pos rfl, sumN_congr (g := fun _ => 0) (fun k l => if_neg (by omega))]
      have : ∀ m, sumN (fun _ => 0) m = 0 := fun m => by
        induction m with
        | zero => rfl
        | succ m ih => rw [sumN, ih]
      rw [this]; omega
    · rw [if_neg e]; exact sumN_one
theorem det_wh {b : α → Nat} {e : Nat} : ∀ {rs : List α} {C : Nat → α → Rat} {c : Nat → Nat}, rs.length ≤ 2 ^ e → (∀ r ∈ rs, ∀ i, i < rs.length → WhN (2 ^ (b r + c i)) (C i r)) → WhN (2 ^ ((rs.map fun r => b r + e).sum + sumN c rs.length)) (det rs C)
  | [], C, c, _, _ => ⟨1, by simp [det], by simp [sumN]⟩
  | r :: rs, C, c, l, h => by
    rw [det, List.map_cons, List.sum_cons]
    rw [List.length_cons] at l
    have i := fun k (lk : k < rs.length + 1) => (((WhN.sgn k).mul (h r (by simp) k (by simpa using lk))).mul (det_wh (e := e) (rs := rs) (C := fun i => C (skip k i)) (c := fun i => c (skip k i)) (by omega) fun s hs i li => h s (by simp [hs]) _ (by unfold skip; rw [List.length_cons]; split <;> omega))).mono (m := 2 ^ (b r + ((rs.map fun r => b r + e).sum + sumN c (rs.length + 1)))) (by
      rw [Nat.one_mul, ← Nat.pow_add]
      refine Nat.pow_le_pow_right (by decide) ?_
      have := sumN_skip (c := c) lk
      omega)
    refine (WhN.sum i).mono ?_
    rw [List.length_cons, show b r + e + (rs.map fun r => b r + e).sum + sumN c (rs.length + 1) = e + (b r + ((rs.map fun r => b r + e).sum + sumN c (rs.length + 1))) by omega, Nat.pow_add 2 e]
    exact Nat.mul_le_mul_right _ l
end
/-! ### sizes of a quotient -/
theorem den_nz (q : Rat) : ((q.den : Int) : Rat) ≠ 0 := by
  have := q.den_nz
  intro z
  rw [← Rat.intCast_zero, Rat.intCast_inj] at z; omega
theorem rat_div (q : Rat) : (q.num : Rat) / ((q.den : Int) : Rat) = q := by
  have := Rat.num_divInt_den q
  rw [Rat.divInt_eq_div] at this; exact this
theorem rat_den (q : Rat) : q * ((q.den : Int) : Rat) = (q.num : Rat) := by
  have h := rat_div q
  have n := den_nz q
  generalize (q.num : Rat) = x at *
  generalize ((q.den : Int) : Rat) = y at *
  rw [← h]; grind
theorem quo_sz {q x y : Rat} {n m : Nat} (hx : WhN n x) (hy : WhN m y) (h0 : y ≠ 0) (e : q * y = x) : q.num.natAbs ≤ n ∧ q.den ≤ m := by
  obtain ⟨i, rfl, b⟩ := hx; obtain ⟨j, rfl, c⟩ := hy
  have j0 : j ≠ 0 := fun z => h0 (by rw [z]; simp)
  have hq : q * ((q.den : Int) : Rat) = (q.num : Rat) := rat_den q
  have e2 : q.num * j = i * (q.den : Int) := by
    rw [← Rat.intCast_inj, Rat.intCast_mul, Rat.intCast_mul, ← e, ← hq]; grind
  have cp : Int.gcd (q.den : Int) q.num = 1 := by
    have := q.reduced
    rw [Int.gcd_comm]; simpa [Int.gcd, Nat.Coprime] using this
  have d1 : (q.den : Int) ∣ j := dvd_cop (b := q.num) ⟨i, by rw [e2]; exact Int.mul_comm _ _⟩ cp
  have d2 : q.num ∣ i := dvd_cop (b := (q.den : Int)) ⟨j, by rw [Int.mul_comm, ← e2]⟩ (by rw [Int.gcd_comm]; exact cp)
  have l2 : q.den ≤ j.natAbs := by
    have := Int.natAbs_dvd_natAbs.2 d1
    exact Nat.le_of_dvd (by omega) (by simpa using this)
  refine ⟨?_, Nat.le_trans l2 c⟩
  by_cases i0 : i = 0
  · subst i0
    have : q.num = 0 := by
      rw [Int.zero_mul] at e2
      rcases Int.mul_eq_zero.1 e2 with z | z
      · exact z
      · exact absurd z j0
    rw [this]; simp
  · have := Nat.le_of_dvd (by omega) (Int.natAbs_dvd_natAbs.2 d2)
    omega
end Lt

namespace Lt
open PySem PySem.Spec PyProof.Rows L2
/-! ### rows worked off: what stands after the columns below z -/
structure Gau (A : Nat → Nat → Rat) (R C : Nat → Rat) (n z : Nat) (W : Nat → Nat → Rat) (hd : Nat → Nat) (k : Nat) (id : Nat → Nat) : Prop where
  kn : k ≤ n
  hlt : ∀ l, l < k → hd l < z
  hinc : ∀ l m, l < m → m < k → hd l < hd m
  one : ∀ l m, l < k → m < k → W l (hd m) = if l = m then 1 else 0
  nul : ∀ i c, k ≤ i → i < n → c < z → W i c = 0
  rep : ∀ i j, i < n → A (id i) j = sumQ (fun m => A (id i) (hd m) * W m j) k + if k ≤ i then W i j else 0
  span : ∀ i, i < n → ∃ y : Nat → Rat, ∀ j, W i j = sumQ (fun m => y m * A m j) n
  idlt : ∀ i, i < n → id i < n
  inj : ∀ i j, i < n → j < n → id i = id j → i = j
  sur : ∀ r, r < n → ∃ i, i < n ∧ id i = r
  dn : det ((List.range k).map id) (fun m r => R r * C (hd m) * A r (hd m)) ≠ 0
section
variable {A W : Nat → Nat → Rat} {R C : Nat → Rat} {n z k : Nat} {hd id : Nat → Nat}
theorem Gau.start : Gau A R C n 0 A hd 0 (fun i => i) where
  kn := Nat.zero_le _
  hlt := fun _ l => absurd l (Nat.not_lt_zero _)
  hinc := fun _ _ _ l => absurd l (Nat.not_lt_zero _)
  one := fun _ _ l => absurd l (Nat.not_lt_zero _)
  nul := fun _ _ _ _ l => absurd l (Nat.not_lt_zero _)
  rep := fun i j _ => by rw [sumQ, if_pos (Nat.zero_le _)]; grind
  span := fun i hi => ⟨fun m => if m = i then 1 else 0, fun j => by
    rw [sumQ_one hi]
    · show A i j = (if i = i then (1 : Rat) else 0) * A i j
      rw [if_pos rfl]; grind
    · intro m _ ne
      show (if m = i then (1 : Rat) else 0) * A m j = 0
      rw [if_neg ne]; grind⟩
  idlt := fun _ h => h
  inj := fun _ _ _ _ e => e
  sur := fun r h => ⟨r, h, rfl⟩
  dn := by simp [det]
theorem Gau.stay (G : Gau A R C n z W hd k id) (h : ∀ i, k ≤ i → i < n → W i z = 0) : Gau A R C n (z + 1) W hd k id :=
  { G with
    hlt := fun l hl => Nat.lt_succ_of_lt (G.hlt l hl)
    nul := fun i c h1 h2 h3 => by
      by_cases e : c = z
      · subst e; exact h i h1 h2
      · exact G.nul i c h1 h2 (by omega) }
/-- the columns of the heads, by the scales -/
theorem Gau.piv (G : Gau A R C n z W hd k id) (hC : ∀ j, C j ≠ 0) {l : Nat} (hl : l < k) (j : Nat) :
    det ((List.range k).map id) (upC (fun m r => R r * C (hd m) * A r (hd m)) l fun r => R r * C j * A r j) = (W l j * C j / C (hd l)) * det ((List.range k).map id) (fun m r => R r * C (hd m) * A r (hd m)) := by
  have el : ((List.range k).map id).length = k := by simp
  rw [← det_cram (a := fun m => W m j * C j / C (hd m)) (by rw [el]; exact hl), el]
  refine det_congr fun i hi r hr => ?_
  unfold upC
  by_cases e : i = l
  · rw [if_pos e, if_pos e]
    obtain ⟨q, hq, rfl⟩ := List.mem_map.1 hr
    rw [List.mem_range] at hq
    rw [G.rep q j (by have := G.kn; omega), if_neg (by omega), Rat.add_zero, ← sumQ_mul]
    refine sumQ_congr fun m hm => ?_
    have := hC (hd m)
    grind
  · rw [if_neg e, if_neg e]
theorem Gau.more (G : Gau A R C n z W hd k id) (hC : ∀ j, C j ≠ 0) {i : Nat} (h1 : k ≤ i) (h2 : i < n) (j : Nat) :
    det ((List.range k).map id ++ [id i]) (upC (fun m r => R r * C (hd m) * A r (hd m)) k fun r => R r * C j * A r j) = (R (id i) * C j * W i j) * det ((List.range k).map id) (fun m r => R r * C (hd m) * A r (hd m)) := by
  have el : ((List.range k).map id ++ [id i]).length = k + 1 := by simp
  have kn := G.kn
  have cg : det ((List.range k).map id ++ [id i]) (upC (fun m r => R r * C (hd m) * A r (hd m)) k fun r => R r * C j * A r j) = det ((List.range k).map id ++ [id i]) (upC (fun m r => R r * C (hd m) * A r (hd m)) k fun r => sumQ (fun m => (if m < k then W m j * C j / C (hd m) else 0) * (R r * C (hd m) * A r (hd m))) ((List.range k).map id ++ [id i]).length + (R (id i) * C j * W i j) * (if r = id i then 1 else 0)) := by
    refine det_congr fun q hq r hr => ?_
    unfold upC
    by_cases e : q = k
    · rw [if_pos e, if_pos e, el, sumQ, if_neg (by omega : ¬ k < k)]
      have cs : ∃ q, q < n ∧ id q = r ∧ (q < k ∨ q = i) := by
        rcases List.mem_append.1 hr with y | y
        · obtain ⟨q, hq, rfl⟩ := List.mem_map.1 y
          rw [List.mem_range] at hq
          exact ⟨q, by omega, rfl, .inl hq⟩
        · rw [List.mem_singleton] at y; exact ⟨i, h2, y.symm, .inr rfl⟩
      obtain ⟨q, qn, rfl, cs⟩ := cs
      have r0 := G.rep q j qn
      have s : sumQ (fun m => (if m < k then W m j * C j / C (hd m) else 0) * (R (id q) * C (hd m) * A (id q) (hd m))) k = R (id q) * C j * sumQ (fun m => A (id q) (hd m) * W m j) k := by
        rw [← sumQ_mul]
        refine sumQ_congr fun m hm => ?_
        rw [if_pos hm]
        have := hC (hd m)
        grind
      rw [s, r0]
      rcases cs with y | y
      · have ne : ¬ id q = id i := fun w => by have := G.inj q i qn h2 w; omega
        rw [if_neg ne, if_neg (by omega)]; grind
      · subst y
        rw [if_pos rfl, if_pos h1]; grind
    · rw [if_neg e, if_neg e]
  have dl : det ((List.range k).map id ++ [id i]) (upC (fun m r => R r * C (hd m) * A r (hd m)) k fun r => if r = id i then 1 else 0) = det ((List.range k).map id) (upC (fun m r => R r * C (hd m) * A r (hd m)) k fun r => if r = id i then 1 else 0) := by
    have lk : ((List.range k).map id).length = k := by simp
    refine det_last (fun r hr => ?_) ?_
    · obtain ⟨q, hq, rfl⟩ := List.mem_map.1 hr
      rw [List.mem_range] at hq
      rw [lk]; unfold upC
      rw [if_pos rfl, if_neg]
      intro w; have := G.inj q i (by omega) h2 w; omega
    · rw [lk]; unfold upC
      rw [if_pos rfl, if_pos rfl]
  have dc : det ((List.range k).map id) (upC (fun m r => R r * C (hd m) * A r (hd m)) k fun r => if r = id i then 1 else 0) = det ((List.range k).map id) (fun m r => R r * C (hd m) * A r (hd m)) := by
    refine det_congr fun q hq r _ => ?_
    rw [List.length_map, List.length_range] at hq
    unfold upC; rw [if_neg (by omega)]
  rw [cg, det_add (by rw [el]; omega), det_cram (C := fun m r => R r * C (hd m) * A r (hd m)) (a := fun m => if m < k then W m j * C j / C (hd m) else 0) (by rw [el]; omega), if_neg (by omega : ¬ k < k), det_mul (by rw [el]; omega), dl, dc]
  grind
/-! ### one turn -/
def chQ (W : Nat → Nat → Rat) (q z : Nat) (j : Nat) : Rat := W q j / W q z
def swQ (W : Nat → Nat → Rat) (k q : Nat) (i : Nat) : Nat → Rat := if i = q then W k else W i
def nxW (W : Nat → Nat → Rat) (k q z : Nat) (i j : Nat) : Rat := if i = k then chQ W q z j else swQ W k q i j - swQ W k q i z * chQ W q z j
def nxH (hd : Nat → Nat) (k z : Nat) (m : Nat) : Nat := if m = k then z else hd m
def nxI (id : Nat → Nat) (k q : Nat) (i : Nat) : Nat := if i = k then id q else if i = q then id k else id i
theorem Gau.turn (G : Gau A R C n z W hd k id) (hC : ∀ j, C j ≠ 0) (hR : ∀ j, R j ≠ 0) {q : Nat} (h1 : k ≤ q) (h2 : q < n) (h3 : W q z ≠ 0) : Gau A R C n (z + 1) (nxW W k q z) (nxH hd k z) (k + 1) (nxI id k q) := by
  have kn := G.kn
  have c1 : chQ W q z z = 1 := by unfold chQ; grind
  have c0 : ∀ c, c < z → chQ W q z c = 0 := fun c l => by unfold chQ; rw [G.nul q c h1 h2 l]; grind
  have wlt : ∀ m j, m < k → nxW W k q z m j = W m j - W m z * chQ W q z j := fun m j l => by
    unfold nxW swQ; rw [if_neg (by omega), if_neg (by omega)]
  have wk : ∀ j, nxW W k q z k j = chQ W q z j := fun j => by unfold nxW; rw [if_pos rfl]
  have hk : nxH hd k z k = z := if_pos rfl
  have hl : ∀ m, m < k → nxH hd k z m = hd m := fun m l => if_neg (by omega)
  refine ⟨by omega, fun l ll => ?_, fun l m lm mk => ?_, fun l m ll lm => ?_, fun i c hi hn hc => ?_, fun i j hi => ?_, fun i hi => ?_, fun i hi => ?_, fun i j hi hj e => ?_, fun r hr => ?_, ?_⟩
  · by_cases e : l = k
    · subst e; rw [hk]; omega
    · rw [hl l (by omega)]; have := G.hlt l (by omega); omega
  · rw [hl l (by omega)]
    by_cases e : m = k
    · subst e; rw [hk]; exact G.hlt l lm
    · rw [hl m (by omega)]; exact G.hinc l m lm (by omega)
  · by_cases e : l = k
    · subst e
      rw [wk]
      by_cases e2 : m = l
      · subst e2; rw [hk, if_pos rfl]; exact c1
      · rw [hl m (by omega), if_neg (fun y => e2 y.symm)]; exact c0 _ (G.hlt m (by omega))
    · rw [wlt l _ (by omega)]
      by_cases e2 : m = k
      · subst e2; rw [hk, c1, if_neg e]; grind
      · rw [hl m (by omega), c0 _ (G.hlt m (by omega)), G.one l m (by omega) (by omega)]; grind
  · have s : ∀ x, x < z → swQ W k q i x = 0 := fun x lx => by
      unfold swQ
      split
      · exact G.nul k x (Nat.le_refl _) (by omega) lx
      · exact G.nul i x (by omega) hn lx
    unfold nxW; rw [if_neg (by omega)]
    by_cases e : c = z
    · subst e; rw [c1]; grind
    · rw [s c (by omega), c0 c (by omega)]; grind
  · have gen : ∀ p, p < n → nxI id k q i = id p → ((if k ≤ p then W p z else 0) * chQ W q z j + if k + 1 ≤ i then nxW W k q z i j else 0) = (if k ≤ p then W p j else 0) → A (nxI id k q i) j = sumQ (fun m => A (nxI id k q i) (nxH hd k z m) * nxW W k q z m j) (k + 1) + if k + 1 ≤ i then nxW W k q z i j else 0 := fun p hp e w => by
      rw [e, sumQ, hk, wk]
      have e1 : sumQ (fun m => A (id p) (nxH hd k z m) * nxW W k q z m j) k = sumQ (fun m => A (id p) (hd m) * W m j) k + (- chQ W q z j) * sumQ (fun m => A (id p) (hd m) * W m z) k := by
        rw [← sumQ_mul, ← sumQ_add]
        refine sumQ_congr fun m hm => ?_
        rw [hl m hm, wlt m j hm]; grind
      have r1 := G.rep p j hp
      have r2 := G.rep p z hp
      rw [e1]
      generalize sumQ (fun m => A (id p) (hd m) * W m j) k = s1 at *
      generalize sumQ (fun m => A (id p) (hd m) * W m z) k = s2 at *
      grind
    by_cases e : i = k
    · subst e
      refine gen q h2 (by unfold nxI; rw [if_pos rfl]) ?_
      rw [if_pos h1, if_pos h1, if_neg (by omega)]
      unfold chQ; grind
    · by_cases e2 : i = q
      · subst e2
        refine gen k (by omega) (by unfold nxI; rw [if_neg e, if_pos rfl]) ?_
        rw [if_pos (Nat.le_refl _), if_pos (Nat.le_refl _), if_pos (by omega)]
        unfold nxW swQ; rw [if_neg e, if_pos rfl]; grind
      · refine gen i hi (by unfold nxI; rw [if_neg e, if_neg e2]) ?_
        by_cases e3 : k ≤ i
        · rw [if_pos e3, if_pos e3, if_pos (by omega)]
          unfold nxW swQ; rw [if_neg e, if_neg e2]; grind
        · rw [if_neg e3, if_neg e3, if_neg (by omega)]; grind
  · obtain ⟨yq, hq⟩ := G.span q h2
    by_cases e : i = k
    · subst e
      refine ⟨fun m => (1 / W q z) * yq m, fun j => ?_⟩
      rw [wk]; unfold chQ
      have e : sumQ (fun m => (1 / W q z) * yq m * A m j) n = (1 / W q z) * sumQ (fun m => yq m * A m j) n := by
        rw [← sumQ_mul]; exact sumQ_congr fun m _ => by grind
      rw [e, ← hq j]; grind
    · have sp : ∃ y : Nat → Rat, ∀ j, swQ W k q i j = sumQ (fun m => y m * A m j) n := by
        unfold swQ
        split
        · exact G.span k (by omega)
        · exact G.span i hi
      obtain ⟨ys, hs⟩ := sp
      refine ⟨fun m => ys m + (- (swQ W k q i z / W q z)) * yq m, fun j => ?_⟩
      unfold nxW; rw [if_neg e]
      have e : sumQ (fun m => (ys m + (- (swQ W k q i z / W q z)) * yq m) * A m j) n = sumQ (fun m => ys m * A m j) n + (- (swQ W k q i z / W q z)) * sumQ (fun m => yq m * A m j) n := by
        rw [← sumQ_mul, ← sumQ_add]; exact sumQ_congr fun m _ => by grind
      rw [e, ← hs, ← hq]
      unfold chQ; grind
  · unfold nxI
    split
    · exact G.idlt q h2
    · split
      · exact G.idlt k (by omega)
      · exact G.idlt i hi
  · have J := fun x y hx hy => G.inj x y hx hy
    unfold nxI at e
    split at e <;> split at e <;> (try split at e) <;> (try split at e) <;> have := J _ _ (by omega) (by omega) e <;> omega
  · obtain ⟨i, hi, e⟩ := G.sur r hr
    by_cases e1 : i = q
    · subst e1; exact ⟨k, by omega, by unfold nxI; rw [if_pos rfl]; exact e⟩
    · by_cases e2 : i = k
      · subst e2; exact ⟨q, h2, by unfold nxI; rw [if_neg (fun y => e1 y.symm), if_pos rfl]; exact e⟩
      · exact ⟨i, hi, by unfold nxI; rw [if_neg e2, if_neg e1]; exact e⟩
  · have er : (List.range (k + 1)).map (nxI id k q) = (List.range k).map id ++ [id q] := by
      rw [List.range_succ, List.map_append]
      congr 1
      · refine List.map_congr_left fun m hm => ?_
        rw [List.mem_range] at hm
        unfold nxI; rw [if_neg (by omega), if_neg (by omega)]
      · simp [nxI]
    rw [er]
    have ec : det ((List.range k).map id ++ [id q]) (fun m r => R r * C (nxH hd k z m) * A r (nxH hd k z m)) = det ((List.range k).map id ++ [id q]) (upC (fun m r => R r * C (hd m) * A r (hd m)) k fun r => R r * C z * A r z) := by
      refine det_congr fun m hm r _ => ?_
      unfold upC nxH
      split <;> rfl
    rw [ec, G.more hC h1 h2]
    have d := G.dn
    have a1 := hR (id q); have a2 := hC z
    intro y
    rcases Rat.mul_eq_zero.1 y with y | y
    · rcases Rat.mul_eq_zero.1 y with y | y
      · rcases Rat.mul_eq_zero.1 y with y | y
        · exact a1 y
        · exact a2 y
      · exact h3 y
    · exact d y
/-! ### sizes -/
structure Scl (A : Nat → Nat → Rat) (R C : Nat → Rat) (n w b e ρ γ t s r1 : Nat) (c : Nat → Nat) : Prop where
  R0 : ∀ r, R r ≠ 0
  C0 : ∀ j, C j ≠ 0
  Rw : ∀ r, r < n → WhN (2 ^ ρ) (R r)
  Cw : ∀ j, j < w → WhN (2 ^ γ) (C j)
  Aw : ∀ r j, r < n → j < w → WhN (2 ^ (b + (if r = r1 then s else 0) + c j)) (R r * C j * A r j)
  cw : ∀ j, j + 1 < w → c j = 0
  ct : ∀ j, c j ≤ t
  ne : n ≤ 2 ^ e
def SzQ (u v : Nat) (q : Rat) : Prop := q.num.natAbs ≤ 2 ^ u ∧ q.den ≤ 2 ^ v
theorem sumN_le {f : Nat → Nat} {b : Nat} : ∀ {n : Nat}, (∀ k, k < n → f k ≤ b) → sumN f n ≤ n * b
  | 0, _ => by simp [sumN]
  | n + 1, h => by
    rw [sumN, Nat.add_mul]
    have := sumN_le (n := n) fun k l => h k (by omega)
    have := h n (by omega)
    omega
theorem sum_const {α : Type} {l : List α} {x : Nat} : (l.map fun _ => x).sum = l.length * x := by
  induction l with
  | nil => simp
  | cons a r ih => rw [List.map_cons, List.sum_cons, ih, List.length_cons, Nat.add_mul]; omega
theorem sum_spec {b e s r1 : Nat} : ∀ {l : List Nat}, l.Nodup → (l.map fun r => b + (if r = r1 then s else 0) + e).sum ≤ l.length * (b + e) + if r1 ∈ l then s else 0
  | [], _ => by simp
  | r :: l, h => by
    rw [List.nodup_cons] at h
    have ih := sum_spec (b := b) (e := e) (s := s) (r1 := r1) h.2
    rw [List.map_cons, List.sum_cons, List.length_cons, Nat.add_mul, Nat.one_mul]
    by_cases c : r = r1
    · subst c
      rw [if_pos rfl, if_pos (List.mem_cons_self ..)]
      rw [if_neg h.1] at ih
      omega
    · rw [if_neg c]
      by_cases d : r1 ∈ l
      · rw [if_pos d] at ih
        rw [if_pos (List.mem_cons_of_mem _ d)]; omega
      · rw [if_neg d] at ih
        have : r1 ∉ r :: l := fun y => (List.mem_cons.1 y).elim (fun z => c z.symm) d
        rw [if_neg this]; omega
theorem sum_spec2 {b e s r1 : Nat} {l : List Nat} (h : l.Nodup) : (l.map fun r => b + (if r = r1 then s else 0) + e).sum ≤ l.length * (b + e) + s := by
  have := sum_spec (b := b) (e := e) (s := s) (r1 := r1) h
  split at this <;> omega
theorem Gau.sz (G : Gau A R C n z W hd k id) {w b e ρ γ t s r1 : Nat} {c : Nat → Nat} (S : Scl A R C n w b e ρ γ t s r1 c) (zw : z + 1 ≤ w) {i j : Nat} (hi : i < n) (hj : j < w) : SzQ (n * (b + e) + s + t + γ) (n * (b + e) + s + ρ + γ) (W i j) := by
  have kn := G.kn
  have idk : ∀ r ∈ (List.range k).map id, r < n := fun r hr => by
    obtain ⟨q, hq, rfl⟩ := List.mem_map.1 hr
    rw [List.mem_range] at hq
    exact G.idlt q (by omega)
  have lk : ((List.range k).map id).length = k := by simp
  have hw : ∀ m, m < k → hd m < w ∧ c (hd m) = 0 := fun m hm => by
    have := G.hlt m hm
    exact ⟨by omega, S.cw _ (by omega)⟩
  have nd : ((List.range k).map id).Nodup := by
    rw [List.nodup_iff_pairwise_ne, List.pairwise_map]
    refine List.Pairwise.imp_of_mem (fun {x y} hx hy ne e => ?_) (List.nodup_iff_pairwise_ne.1 List.nodup_range)
    rw [List.mem_range] at hx hy
    exact ne (G.inj x y (by omega) (by omega) e)
  have ndi : ∀ {i}, k ≤ i → i < n → ((List.range k).map id ++ [id i]).Nodup := fun {i} h1 h2 => by
    rw [List.nodup_append]
    refine ⟨nd, by simp, fun x hx y hy e => ?_⟩
    rw [List.mem_singleton] at hy; subst hy
    obtain ⟨q, hq, rfl⟩ := List.mem_map.1 hx
    rw [List.mem_range] at hq
    have := G.inj q i (by omega) h2 e; omega
  have pw : WhN (2 ^ (k * (b + e) + s)) (det ((List.range k).map id) (fun m r => R r * C (hd m) * A r (hd m))) := by
    have := det_wh (b := fun r => b + (if r = r1 then s else 0)) (e := e) (c := fun _ => 0) (rs := (List.range k).map id) (C := fun m r => R r * C (hd m) * A r (hd m)) (by rw [lk]; exact Nat.le_trans kn S.ne) (fun r hr m hm => by
      rw [lk] at hm
      have := S.Aw r (hd m) (idk r hr) (hw m hm).1
      rw [(hw m hm).2] at this; exact this)
    have ss := sum_spec2 (b := b) (e := e) (s := s) (r1 := r1) nd
    rw [lk] at this ss
    have s0 : sumN (fun _ => 0) k = 0 := by have := sumN_le (f := fun _ => 0) (b := 0) (n := k) (fun _ _ => Nat.le_refl _); omega
    rw [s0] at this; exact this.mono (Nat.pow_le_pow_right (by decide) (by omega))
  have cj := S.ct j
  by_cases hk : i < k
  · have x := G.piv S.C0 hk j
    have xw := det_wh (b := fun r => b + (if r = r1 then s else 0)) (e := e) (c := fun q => if q = i then c j else 0) (rs := (List.range k).map id) (C := upC (fun m r => R r * C (hd m) * A r (hd m)) i fun r => R r * C j * A r j) (by rw [lk]; exact Nat.le_trans kn S.ne) (fun r hr m hm => by
      rw [lk] at hm
      unfold upC
      by_cases y : m = i
      · simp only [if_pos y]; exact S.Aw r j (idk r hr) hj
      · simp only [if_neg y]
        have := S.Aw r (hd m) (idk r hr) (hw m hm).1
        rw [(hw m hm).2] at this; exact this)
    have ss := sum_spec2 (b := b) (e := e) (s := s) (r1 := r1) nd
    rw [lk] at xw ss
    replace xw := xw.mono (m := 2 ^ (k * (b + e) + s + c j)) (Nat.pow_le_pow_right (by decide) (by have := sumN_one (p := i) (t := c j) (n := k); omega))
    generalize det ((List.range k).map id) (upC (fun m r => R r * C (hd m) * A r (hd m)) i fun r => R r * C j * A r j) = X at *
    generalize hP : det ((List.range k).map id) (fun m r => R r * C (hd m) * A r (hd m)) = P at *
    have p0 : P ≠ 0 := by rw [← hP]; exact G.dn
    have c0 := S.C0 j; have c1 := S.C0 (hd i)
    have kb : k * (b + e) ≤ n * (b + e) := Nat.mul_le_mul_right _ kn
    have := quo_sz (q := W i j) (xw.mul (S.Cw _ (hw i hk).1)) (pw.mul (S.Cw j hj)) (by intro y; rcases Rat.mul_eq_zero.1 y with y | y; exact p0 y; exact c0 y) (by rw [x]; grind)
    rw [← Nat.pow_add, ← Nat.pow_add] at this
    exact ⟨Nat.le_trans this.1 (Nat.pow_le_pow_right (by decide) (by omega)), Nat.le_trans this.2 (Nat.pow_le_pow_right (by decide) (by omega))⟩
  · have x := G.more S.C0 (by omega : k ≤ i) hi j
    have lk1 : ((List.range k).map id ++ [id i]).length = k + 1 := by simp
    have xw := det_wh (b := fun r => b + (if r = r1 then s else 0)) (e := e) (c := fun q => if q = k then c j else 0) (rs := (List.range k).map id ++ [id i]) (C := upC (fun m r => R r * C (hd m) * A r (hd m)) k fun r => R r * C j * A r j) (by rw [lk1]; have := S.ne; omega) (fun r hr m hm => by
      rw [lk1] at hm
      have rn : r < n := by
        rcases List.mem_append.1 hr with y | y
        · exact idk r y
        · rw [List.mem_singleton] at y; subst y; exact G.idlt i hi
      unfold upC
      by_cases y : m = k
      · simp only [if_pos y]; exact S.Aw r j rn hj
      · simp only [if_neg y]
        have := S.Aw r (hd m) rn (hw m (by omega)).1
        rw [(hw m (by omega)).2] at this; exact this)
    have ss := sum_spec2 (b := b) (e := e) (s := s) (r1 := r1) (ndi (by omega : k ≤ i) hi)
    rw [lk1] at xw ss
    replace xw := xw.mono (m := 2 ^ ((k + 1) * (b + e) + s + c j)) (Nat.pow_le_pow_right (by decide) (by have := sumN_one (p := k) (t := c j) (n := k + 1); omega))
    generalize det ((List.range k).map id ++ [id i]) (upC (fun m r => R r * C (hd m) * A r (hd m)) k fun r => R r * C j * A r j) = X at *
    generalize hP : det ((List.range k).map id) (fun m r => R r * C (hd m) * A r (hd m)) = P at *
    have p0 : P ≠ 0 := by rw [← hP]; exact G.dn
    have c0 := S.C0 j; have r0 := S.R0 (id i)
    have kb : k * (b + e) ≤ n * (b + e) := Nat.mul_le_mul_right _ kn
    have kb1 : (k + 1) * (b + e) ≤ n * (b + e) := Nat.mul_le_mul_right _ (by omega)
    have := quo_sz (q := W i j) xw ((pw.mul (S.Rw _ (G.idlt i hi))).mul (S.Cw j hj)) (by intro y; rcases Rat.mul_eq_zero.1 y with y | y; (rcases Rat.mul_eq_zero.1 y with y | y; exact p0 y; exact r0 y); exact c0 y) (by rw [x]; grind)
    rw [← Nat.pow_add, ← Nat.pow_add] at this
    exact ⟨Nat.le_trans this.1 (Nat.pow_le_pow_right (by decide) (by omega)), Nat.le_trans this.2 (Nat.pow_le_pow_right (by decide) (by omega))⟩
end
end Lt

namespace Lt
open PySem PySem.Spec PyProof.Rows L2
/-! ### what the rows tell -/
def metV (W : Nat → Nat → Rat) (hd : Nat → Nat) (k m : Nat) (c : Nat) : Rat := sumQ (fun l => if hd l = c then W l m else 0) k
def kerV (W : Nat → Nat → Rat) (hd : Nat → Nat) (k f : Nat) (c : Nat) : Rat := (if c = f then 1 else 0) + sumQ (fun l => if hd l = c then - W l f else 0) k
theorem sum_sup {f v : Nat → Rat} {hd : Nat → Nat} {k m : Nat} (h : ∀ l, l < k → hd l < m) : sumQ (fun c => f c * sumQ (fun l => if hd l = c then v l else 0) k) m = sumQ (fun l => f (hd l) * v l) k := by
  have e : ∀ c, f c * sumQ (fun l => if hd l = c then v l else 0) k = sumQ (fun l => if hd l = c then f c * v l else 0) k := fun c => by
    rw [← sumQ_mul]; exact sumQ_congr fun l _ => by split <;> grind
  rw [sumQ_congr (fun c _ => e c), sumQ_swap]
  refine sumQ_congr fun l hl => ?_
  rw [sumQ_one (p := hd l) (h l hl) (fun c _ ne => if_neg fun z => ne z.symm), if_pos rfl]
section
variable {A W : Nat → Nat → Rat} {R C : Nat → Rat} {n z k : Nat} {hd id : Nat → Nat}
theorem Gau.hdinj (G : Gau A R C n z W hd k id) {l m : Nat} (hl : l < k) (hm : m < k) (e : hd l = hd m) : l = m := by
  by_cases h1 : l < m
  · have := G.hinc l m h1 hm; omega
  · by_cases h2 : m < l
    · have := G.hinc m l h2 hl; omega
    · omega
theorem Gau.congr {W' : Nat → Nat → Rat} {hd' : Nat → Nat} (G : Gau A R C n z W hd k id) (eW : ∀ i, i < n → ∀ j, W' i j = W i j) (eh : ∀ m, m < k → hd' m = hd m) : Gau A R C n z W' hd' k id where
  kn := G.kn
  hlt := fun l hl => by rw [eh l hl]; exact G.hlt l hl
  hinc := fun l m h1 h2 => by rw [eh l (by omega), eh m h2]; exact G.hinc l m h1 h2
  one := fun l m h1 h2 => by rw [eW l (by have := G.kn; omega), eh m h2]; exact G.one l m h1 h2
  nul := fun i c h1 h2 h3 => by rw [eW i h2]; exact G.nul i c h1 h2 h3
  rep := fun i j hi => by
    rw [eW i hi, G.rep i j hi]
    congr 1
    exact sumQ_congr fun m hm => by rw [eh m hm, eW m (by have := G.kn; omega)]
  span := fun i hi => by
    obtain ⟨y, hy⟩ := G.span i hi
    exact ⟨y, fun j => by rw [eW i hi]; exact hy j⟩
  idlt := G.idlt
  inj := G.inj
  sur := G.sur
  dn := by
    have e : det ((List.range k).map id) (fun m r => R r * C (hd' m) * A r (hd' m)) = det ((List.range k).map id) (fun m r => R r * C (hd m) * A r (hd m)) := by
      refine det_congr fun m hm r _ => ?_
      rw [List.length_map, List.length_range] at hm
      show R r * C (hd' m) * A r (hd' m) = _
      rw [eh m hm]
    rw [e]; exact G.dn
/-- the numbers meet all rows -/
theorem Gau.meets (G : Gau A R C n z W hd k id) (h : ∀ i, k ≤ i → i < n → W i z = 0) {r : Nat} (hr : r < n) : sumQ (fun c => A r c * metV W hd k z c) z = A r z := by
  obtain ⟨i, hi, rfl⟩ := G.sur r hr
  unfold metV
  rw [sum_sup G.hlt, G.rep i z hi]
  split
  · rename_i ki; rw [h i ki hi]; grind
  · grind
theorem Gau.kernel (G : Gau A R C n z W hd k id) {f : Nat} (hf : f < z) {r : Nat} (hr : r < n) : sumQ (fun c => A r c * kerV W hd k f c) z = 0 := by
  obtain ⟨i, hi, rfl⟩ := G.sur r hr
  have e : sumQ (fun c => A (id i) c * kerV W hd k f c) z = sumQ (fun c => A (id i) c * (if c = f then 1 else 0)) z + sumQ (fun c => A (id i) c * sumQ (fun l => if hd l = c then - W l f else 0) k) z := by
    rw [← sumQ_add]; exact sumQ_congr fun c _ => by unfold kerV; grind
  rw [e, sum_sup G.hlt, sumQ_one hf (fun c _ ne => by rw [if_neg ne]; grind), if_pos rfl]
  have r0 := G.rep i f hi
  have n0 : (if k ≤ i then W i f else 0) = 0 := by
    split
    · rename_i ki; exact G.nul i f ki hi hf
    · rfl
  rw [n0] at r0
  have e2 : sumQ (fun l => A (id i) (hd l) * - W l f) k = - sumQ (fun l => A (id i) (hd l) * W l f) k := by
    rw [← sumQ_neg]; exact sumQ_congr fun l _ => by grind
  rw [e2]; grind
theorem Gau.ker1 (G : Gau A R C n z W hd k id) {f : Nat} (hf : ∀ l, l < k → hd l ≠ f) : kerV W hd k f f = 1 := by
  unfold kerV
  rw [if_pos rfl, sumQ_zero fun l hl => if_neg (hf l hl)]; grind
/-- rows that can't be met -/
theorem Gau.against (G : Gau A R C n z W hd k id) {i : Nat} (h1 : k ≤ i) (h2 : i < n) (h3 : W i z ≠ 0) : ∃ y : Nat → Rat, (∀ c, c < z → sumQ (fun m => y m * A m c) n = 0) ∧ sumQ (fun m => y m * A m z) n = 1 := by
  obtain ⟨y, hy⟩ := G.span i h2
  have sc : ∀ c, sumQ (fun m => (1 / W i z) * y m * A m c) n = (1 / W i z) * W i c := fun c => by
    rw [hy c, ← sumQ_mul]; exact sumQ_congr fun m _ => by grind
  refine ⟨fun m => (1 / W i z) * y m, fun c hc => ?_, ?_⟩
  · rw [sc, G.nul i c h1 h2 hc]; grind
  · rw [sc]; grind
/-- rows that can be met -/
theorem Gau.solv (G : Gau A R C n z W hd k id) {y : Nat → Rat} (h : ∀ r, r < n → sumQ (fun c => A r c * y c) z = A r z) {i : Nat} (h1 : k ≤ i) (h2 : i < n) : W i z = 0 := by
  obtain ⟨v, hv⟩ := G.span i h2
  have e : sumQ (fun c => W i c * y c) z = W i z := by
    have e1 : sumQ (fun c => W i c * y c) z = sumQ (fun c => sumQ (fun m => v m * (A m c * y c)) n) z := sumQ_congr fun c _ => by
      have e3 : ∀ c, sumQ (fun m => v m * (A m c * y c)) n = y c * sumQ (fun m => v m * A m c) n := fun c => by
        rw [← sumQ_mul]; exact sumQ_congr fun m _ => by grind
      rw [hv c, e3]; grind
    rw [e1, sumQ_swap, hv z]
    exact sumQ_congr fun m hm => by rw [sumQ_mul, h m hm]
  rw [← e]
  exact sumQ_zero fun c hc => by rw [G.nul i c h1 h2 hc]; grind
theorem hd_ge {hd : Nat → Nat} {k : Nat} (h : ∀ l m, l < m → m < k → hd l < hd m) : ∀ l, l < k → l ≤ hd l
  | 0, _ => Nat.zero_le _
  | l + 1, hl => by
    have := hd_ge h l (by omega)
    have := h l (l + 1) (by omega) hl
    omega
theorem Gau.kz (G : Gau A R C n z W hd k id) : k ≤ z := by
  by_cases h : k = 0
  · omega
  · have := hd_ge G.hinc (k - 1) (by omega)
    have := G.hlt (k - 1) (by omega)
    omega
/-- a free column -/
theorem Gau.free (G : Gau A R C n z W hd k id) (h : k < z) : ∃ f, f < z ∧ ∀ l, l < k → hd l ≠ f := by
  apply Classical.byContradiction
  intro no
  have cov : ∀ f, f < z → ∃ l, l < k ∧ hd l = f := fun f hf => by
    apply Classical.byContradiction
    intro w
    exact no ⟨f, hf, fun l hl e => w ⟨l, hl, e⟩⟩
  have all : ∀ l, l < k → hd l = l := by
    intro l
    induction l using Nat.strongRecOn with
    | ind l ih =>
      intro hl
      obtain ⟨m, hm, e⟩ := cov l (by omega)
      have g := hd_ge G.hinc m hm
      by_cases lm : m = l
      · rw [← lm]; rw [lm]; rw [lm] at e; exact e
      · have := ih m (by omega) hm
        omega
  obtain ⟨m, hm, e⟩ := cov k h
  have := all m hm
  omega
theorem Gau.full (G : Gau A R C n z W hd k id) (tr : ∀ x : Nat → Rat, (∀ r, r < n → sumQ (fun c => A r c * x c) z = 0) → ∀ c, c < z → x c = 0) : k = z := by
  have := G.kz
  by_cases e : k = z
  · exact e
  · obtain ⟨f, hf, nf⟩ := G.free (by omega)
    have := tr _ (fun r hr => G.kernel hf hr) f hf
    rw [G.ker1 nf] at this
    exact absurd this (by decide)
theorem Gau.uni (G : Gau A R C n z W hd k id) (tr : ∀ x : Nat → Rat, (∀ r, r < n → sumQ (fun c => A r c * x c) z = 0) → ∀ c, c < z → x c = 0) {y : Nat → Rat} (h : ∀ r, r < n → sumQ (fun c => A r c * y c) z = A r z) {c : Nat} (hc : c < z) : metV W hd k z c = y c := by
  have m := fun r hr => G.meets (fun i h1 h2 => G.solv h h1 h2) (r := r) hr
  have := tr (fun c => metV W hd k z c + - y c) (fun r hr => by
    have e : sumQ (fun c => A r c * (metV W hd k z c + - y c)) z = sumQ (fun c => A r c * metV W hd k z c) z + - sumQ (fun c => A r c * y c) z := by
      rw [← sumQ_neg, ← sumQ_add]; exact sumQ_congr fun c _ => by grind
    rw [e, m r hr, h r hr]; grind) c hc
  grind
end
/-! ### rows as lists -/
def vq (r : List Rat) (j : Nat) : Rat := r[j]?.getD 0
def mQ (rows : List (List Rat)) (i j : Nat) : Rat := vq (rows[i]?.getD []) j
def hq (hs : List Nat) (m : Nat) : Nat := hs[m]?.getD 0
def clearQ (ch : List Rat) (z : Nat) (row : List Rat) : List Rat := (row.zip ch).map fun p => p.1 - vq row z * p.2
def fndQ (s : List (List Rat) × List Nat) (z : Nat) : List Nat := (List.range' s.2.length (s.1.length - s.2.length)).filter fun k => decide (mQ s.1 k z ≠ 0)
def ch1 (s : List (List Rat) × List Nat) (z q : Nat) : List Rat := (s.1[q]?.getD []).map fun x => x / mQ s.1 q z
def stepQ (s : List (List Rat) × List Nat) (z : Nat) : List (List Rat) × List Nat := match fndQ s z with
  | [] => s
  | q :: _ => (((s.1.set q (s.1[s.2.length]?.getD [])).map (clearQ (ch1 s z q) z)).set s.2.length (ch1 s z q), s.2 ++ [z])
def redQ (rows : List (List Rat)) (z : Nat) : List (List Rat) × List Nat := (List.range z).foldl stepQ (rows, [])
theorem redQ_s {rows : List (List Rat)} {z : Nat} : redQ rows (z + 1) = stepQ (redQ rows z) z := by
  unfold redQ; rw [List.range_succ, List.foldl_append]; rfl
theorem vq_map {r : List Rat} {f : Rat → Rat} (h : f 0 = 0) (j : Nat) : vq (r.map f) j = f (vq r j) := by
  unfold vq; rw [List.getElem?_map]
  cases r[j]? with
  | none => exact h.symm
  | some x => rfl
theorem vq_clear {row ch : List Rat} {z : Nat} (l : row.length = ch.length) (j : Nat) : vq (clearQ ch z row) j = vq row j - vq row z * vq ch j := by
  have gen : ∀ p : Rat, vq ((row.zip ch).map fun q => q.1 - p * q.2) j = vq row j - p * vq ch j := fun p => by
    unfold vq
    rw [List.getElem?_map]
    by_cases h : j < row.length
    · rw [List.getElem?_eq_getElem h, List.getElem?_eq_getElem (by omega : j < ch.length), List.getElem?_eq_getElem (by rw [List.length_zip]; omega), List.getElem_zip]; rfl
    · rw [List.getElem?_eq_none (by rw [List.length_zip]; omega : (row.zip ch).length ≤ j), List.getElem?_eq_none (by omega : row.length ≤ j), List.getElem?_eq_none (by omega : ch.length ≤ j)]
      show (0 : Rat) = 0 - p * 0
      grind
  exact gen _
structure Tabl (rows : List (List Rat)) (n w : Nat) : Prop where
  len : rows.length = n
  row : ∀ r ∈ rows, r.length = w
theorem Tabl.at {rows : List (List Rat)} {n w i : Nat} (T : Tabl rows n w) (h : i < n) : (rows[i]?.getD []).length = w := by
  have : i < rows.length := by rw [T.len]; exact h
  rw [List.getElem?_eq_getElem this]; exact T.row _ (List.getElem_mem this)
theorem red_ok {rows : List (List Rat)} {n w : Nat} {R C : Nat → Rat} (T : Tabl rows n w) (hR : ∀ r, R r ≠ 0) (hC : ∀ j, C j ≠ 0) : ∀ z, Tabl (redQ rows z).1 n w ∧ ∃ id, Gau (mQ rows) R C n z (mQ (redQ rows z).1) (hq (redQ rows z).2) (redQ rows z).2.length id
  | 0 => ⟨T, _, Gau.start⟩
  | z + 1 => by
    obtain ⟨T1, id, G⟩ := red_ok T hR hC z
    rw [redQ_s]
    generalize redQ rows z = s at *
    obtain ⟨W, hs⟩ := s
    simp only at T1 G
    have kn := G.kn
    unfold stepQ
    cases e : fndQ (W, hs) z with
    | nil =>
      simp only
      refine ⟨T1, id, G.stay fun i h1 h2 => ?_⟩
      unfold fndQ at e
      have := List.filter_eq_nil_iff.1 e i (by rw [List.mem_range']; exact ⟨i - hs.length, by simp only [T1.len]; omega, by simp only; omega⟩)
      simp only [decide_eq_true_eq, Classical.not_not] at this
      exact this
    | cons q r =>
      simp only
      have mq : q ∈ fndQ (W, hs) z := by rw [e]; exact List.mem_cons_self ..
      unfold fndQ at mq
      rw [List.mem_filter, List.mem_range'] at mq
      obtain ⟨⟨i, i1, i2⟩, q3⟩ := mq
      simp only [T1.len] at i1 i2
      have q1 : hs.length ≤ q := by omega
      have q2 : q < n := by omega
      have q3 : mQ W q z ≠ 0 := by simpa using q3
      have cl : (ch1 (W, hs) z q).length = w := by unfold ch1; rw [List.length_map]; exact T1.at q2
      have N := G.turn hC hR q1 q2 q3
      refine ⟨⟨by simp [T1.len], fun x hx => ?_⟩, nxI id hs.length q, ?_⟩
      · rcases List.mem_or_eq_of_mem_set hx with y | y
        · obtain ⟨x', hx', rfl⟩ := List.mem_map.1 y
          have : x'.length = w := by
            rcases List.mem_or_eq_of_mem_set hx' with y | y
            · exact T1.row _ y
            · subst y; exact T1.at (by omega)
          unfold clearQ; rw [List.length_map, List.length_zip]; omega
        · subst y; exact cl
      · rw [List.length_append, List.length_singleton]
        have cv : ∀ j, vq (ch1 (W, hs) z q) j = chQ (mQ W) q z j := fun j => by
          unfold ch1 chQ
          rw [vq_map (f := fun x => x / mQ W q z) (by grind)]; rfl
        refine N.congr (fun i hi j => ?_) fun m hm => ?_
        · by_cases c1 : i = hs.length
          · subst c1
            unfold mQ nxW
            rw [List.getElem?_set_self (by rw [List.length_map, List.length_set, T1.len]; exact hi), if_pos rfl]
            exact cv j
          · unfold nxW
            rw [if_neg c1]
            unfold mQ
            rw [List.getElem?_set_ne (fun y => c1 y.symm), List.getElem?_map]
            have sw : ∃ row, (W.set q (W[hs.length]?.getD []))[i]? = some row ∧ row.length = w ∧ ∀ j, vq row j = swQ (mQ W) hs.length q i j := by
              by_cases c2 : i = q
              · subst c2
                refine ⟨_, List.getElem?_set_self (by rw [T1.len]; exact hi), T1.at (by omega), fun j => ?_⟩
                unfold swQ; rw [if_pos rfl]; rfl
              · have il : i < W.length := by rw [T1.len]; exact hi
                refine ⟨W[i], by rw [List.getElem?_set_ne (fun y => c2 y.symm), List.getElem?_eq_getElem il], T1.row _ (List.getElem_mem il), fun j => ?_⟩
                unfold swQ; rw [if_neg c2]; unfold mQ; rw [List.getElem?_eq_getElem il]; rfl
            obtain ⟨row, e1, e2, e3⟩ := sw
            rw [e1]
            show vq (clearQ (ch1 (W, hs) z q) z row) j = _
            rw [vq_clear (by rw [e2, cl]), e3, e3, cv]; rfl
        · unfold hq nxH
          by_cases c1 : m = hs.length
          · subst c1; rw [if_pos rfl]; simp
          · rw [if_neg c1, List.getElem?_append_left (by omega)]
end Lt

namespace Lt
open PySem PySem.Spec PyProof.Rows L2
/-! ### fractions and what they stand for -/
def qf (q : Rat) : Fr := (q.num, (q.den : Int))
theorem qf_low (q : Rat) : Low (qf q) := ⟨by have := q.den_pos; show (0 : Int) < (q.den : Int); omega, by
  have := q.reduced
  show Int.gcd q.num (q.den : Int) = 1
  simpa [Int.gcd, Nat.Coprime] using this⟩
theorem qf_val (q : Rat) : val (qf q) = q := rat_div q
theorem qf_of {p : Fr} (hp : Low p) : qf (val p) = p := val_inj (qf_low _) hp (qf_val _)
theorem qf_inj {a b : Rat} (h : qf a = qf b) : a = b := by rw [← qf_val a, h, qf_val]
theorem qf_plus (a b : Rat) : plusF (qf a) (qf b) = qf (a + b) := by
  have la := (qf_low a).pos; have lb := (qf_low b).pos
  refine val_inj (plus_low la lb) (qf_low _) ?_
  rw [plus_val la lb, qf_val, qf_val, qf_val]
theorem qf_minus (a b : Rat) : minusF (qf a) (qf b) = qf (a - b) := by
  have la := (qf_low a).pos; have lb := (qf_low b).pos
  refine val_inj (minus_low la lb) (qf_low _) ?_
  rw [minus_val la lb, qf_val, qf_val, qf_val]
theorem qf_times (a b : Rat) : timesF (qf a) (qf b) = qf (a * b) := by
  have la := (qf_low a).pos; have lb := (qf_low b).pos
  refine val_inj (times_low la lb) (qf_low _) ?_
  rw [times_val la lb, qf_val, qf_val, qf_val]
theorem mkS_val {t b : Int} (hb : b ≠ 0) : val (mkS t b) = (t : Rat) / (b : Rat) := by
  unfold mkS
  split
  · rw [mk_val (by omega)]
    have e1 : ((-t : Int) : Rat) = - (t : Rat) := Rat.intCast_neg t
    have e2 : ((-b : Int) : Rat) = - (b : Rat) := Rat.intCast_neg b
    have nb : (b : Rat) ≠ 0 := by intro z; rw [← Rat.intCast_zero, Rat.intCast_inj] at z; omega
    rw [e1, e2]; grind
  · exact mk_val (by omega)
theorem num0 {b : Rat} (hb : b ≠ 0) : b.num ≠ 0 := fun z => hb (by
  have := rat_div b
  rw [z, Rat.intCast_zero] at this
  rw [← this]; grind)
theorem qf_over (a : Rat) {b : Rat} (hb : b ≠ 0) : overF (qf a) (qf b) = qf (a / b) := by
  have la := (qf_low a).pos; have lb := (qf_low b).pos
  have n0 := num0 hb
  have d1 : (qf a).2 * (qf b).1 ≠ 0 := Int.mul_ne_zero (by omega) n0
  have ea := qf_val a; have eb := qf_val b
  refine val_inj (by rw [overF]; exact mkS_low d1) (qf_low _) ?_
  rw [overF, mkS_val d1, qf_val]
  unfold val at ea eb
  rw [Rat.intCast_mul, Rat.intCast_mul]
  have na : ((qf a).2 : Rat) ≠ 0 := by intro z; rw [← Rat.intCast_zero, Rat.intCast_inj] at z; omega
  have nb : ((qf b).2 : Rat) ≠ 0 := by intro z; rw [← Rat.intCast_zero, Rat.intCast_inj] at z; omega
  have nn : ((qf b).1 : Rat) ≠ 0 := by intro z; rw [← Rat.intCast_zero, Rat.intCast_inj] at z; exact n0 z
  generalize ((qf a).1 : Rat) = x at *
  generalize ((qf a).2 : Rat) = y at *
  generalize ((qf b).1 : Rat) = u at *
  generalize ((qf b).2 : Rat) = v at *
  rw [← ea, ← eb]; grind
theorem qf_0 : qf 0 = (0, 1) := rfl
theorem qf_1 : qf 1 = (1, 1) := rfl
theorem qf_eq0 {q : Rat} : qf q = (0, 1) ↔ q = 0 := ⟨fun h => qf_inj (h.trans qf_0.symm), fun h => by rw [h]; rfl⟩
theorem SzQ.sz {u v : Nat} {q : Rat} (h : SzQ u v q) : Sz (u + 1) (v + 1) (qf q) := by
  obtain ⟨a, b⟩ := h
  have p1 : 2 ^ u < 2 ^ (u + 1) := Nat.pow_lt_pow_right (by decide) (by omega)
  have p2 : 2 ^ v < 2 ^ (v + 1) := Nat.pow_lt_pow_right (by decide) (by omega)
  exact ⟨by show q.num.natAbs < _; omega, (qf_low q).pos, by show (q.den : Int).natAbs < _; simp only [Int.natAbs_natCast]; omega⟩
theorem SzQ.mono {u v u' v' : Nat} {q : Rat} (h : SzQ u v q) (l1 : u ≤ u') (l2 : v ≤ v') : SzQ u' v' q := ⟨Nat.le_trans h.1 (Nat.pow_le_pow_right (by decide) l1), Nat.le_trans h.2 (Nat.pow_le_pow_right (by decide) l2)⟩
abbrev fqD (q : Rat) : D := frD (qf q)
abbrev rwQ (r : List Rat) : D := .lst (r.map fqD)
abbrev rwsQ (rows : List (List Rat)) : D := .lst (rows.map rwQ)
theorem rw_cons {x : Rat} {r : List Rat} : (x :: r).map fqD = fqD x :: r.map fqD := rfl
theorem eqW_q0 {h : Hh} {K : Bool → Prop} {q : Rat} : eqW (fqD q) (.tup [.int 0, .int 1]) h K = K (decide (q = 0)) := by
  have e := eqW_fr (a := qf q) (b := (0, 1)) (h := h) (K := K)
  rw [show decide (q = 0) = decide (qf q = (0, 1)) from by congr 1; exact propext qf_eq0.symm]
  exact e
theorem vq_lt {r : List Rat} {j : Nat} (h : j < r.length) : r[j]? = some (vq r j) := by unfold vq; rw [List.getElem?_eq_getElem h]; rfl
theorem at_rw {r : List Rat} {j : Nat} (h : j < r.length) : atI (r.map fqD) (j : Int) = some (fqD (vq r j)) := by rw [atI_N, List.getElem?_map, vq_lt h]; rfl
theorem at_rws {rows : List (List Rat)} {i : Nat} (h : i < rows.length) : atI (rows.map rwQ) (i : Int) = some (rwQ (rows[i]?.getD [])) := by rw [atI_N, List.getElem?_map, List.getElem?_eq_getElem h]; rfl
theorem clear_part0 {row ch : List Rat} {z : Nat} (l : row.length = ch.length) (h : vq row z = 0) : clearQ ch z row = row := by
  unfold clearQ
  rw [h]
  refine List.ext_getElem (by rw [List.length_map, List.length_zip]; omega) fun i h1 h2 => ?_
  rw [List.getElem_map, List.getElem_zip]; grind
theorem clear_len {row ch : List Rat} {z : Nat} (l : row.length = ch.length) : (clearQ ch z row).length = row.length := by unfold clearQ; rw [List.length_map, List.length_zip]; omega
theorem rngD_s {lo n : Nat} : rngD (lo : Int) n = (List.range' lo n).map fun i : Nat => D.int (i : Int) := by
  rw [rngD_eq]
  refine List.ext_getElem (by simp) fun i h1 h2 => ?_
  simp
theorem fm_filter {α β : Type} {p : α → Bool} {f : α → β} : ∀ l : List α, l.filterMap (fun k => if p k = true then some (f k) else none) = (l.filter p).map f
  | [] => rfl
  | x :: r => by
    cases c : p x with
    | true => rw [List.filterMap_cons_some (b := f x) (by rw [c]; rfl), List.filter_cons_of_pos c, List.map_cons, fm_filter r]
    | false => rw [List.filterMap_cons_none (by rw [c]; rfl), List.filter_cons_of_neg (by rw [c]; decide), fm_filter r]
theorem all_two {h : Hh} {q : Addr} {o : O} {A B : Addr → Prop} (e : ∀ p, h p = none → p ≠ q → A p = B p) : (∀ p, (up h q o) p = none → A p) = ∀ p, h p = none → p ≠ q → B p := propext ⟨fun k p h1 h2 => by
  have f : (up h q o) p = none := by rw [up_ne h2]; exact h1
  rw [← e p h1 h2]; exact k p f, fun k p h1 => by
  have pq : p ≠ q := fun y => by subst y; rw [up_same] at h1; cases h1
  have h2 : h p = none := by rwa [up_ne pq] at h1
  rw [e p h2 pq]; exact k p h2 pq⟩
def turnQ (rows : List (List Rat)) (many : Nat) : List (List Rat) := (List.range many).map (fun c => (rows.map fun r => vq r c) ++ [0]) ++ [(rows.map fun r => vq r many) ++ [1]]
def metL (s : List (List Rat) × List Nat) (many : Nat) : List Rat := (List.range many).map (metV (mQ s.1) (hq s.2) s.2.length many)
def kerL (s : List (List Rat) × List Nat) (many f : Nat) : List Rat := (List.range many).map (kerV (mQ s.1) (hq s.2) s.2.length f)
def agQ (rows : List (List Rat)) (many : Nat) : List Rat := metL (redQ (turnQ rows many) rows.length) rows.length
def frQ (hs : List Nat) (many : Nat) : Nat := ((List.range many).filter fun c => !decide (c ∈ hs))[0]?.getD 0
def badQ (many : Nat) (rs : List (List Rat)) : Bool := rs.any fun r => decide (vq r many ≠ 0)
theorem turn_tab {rows : List (List Rat)} {n w many : Nat} (T : Tabl rows n w) : Tabl (turnQ rows many) (many + 1) (n + 1) := by
  refine ⟨by simp [turnQ], fun r hr => ?_⟩
  unfold turnQ at hr
  rcases List.mem_append.1 hr with h | h
  · obtain ⟨c, _, rfl⟩ := List.mem_map.1 h
    simp [T.len]
  · rw [List.mem_singleton] at h; subst h; simp [T.len]
theorem red_nd {rows : List (List Rat)} {n w z : Nat} (T : Tabl rows n w) : (redQ rows z).2.Nodup ∧ (redQ rows z).2.length ≤ n ∧ (redQ rows z).2.length ≤ z := by
  obtain ⟨_, id, G⟩ := red_ok (R := fun _ => 1) (C := fun _ => 1) T (fun _ => by decide) (fun _ => by decide) z
  refine ⟨?_, G.kn, G.kz⟩
  rw [List.nodup_iff_pairwise_ne, List.pairwise_iff_getElem]
  intro i j hi hj lt e
  have := G.hinc i j lt hj
  unfold hq at this
  rw [List.getElem?_eq_getElem hi, List.getElem?_eq_getElem hj] at this
  simp only [Option.getD_some] at this; omega
theorem redQ_hd {rows : List (List Rat)} : ∀ {z x : Nat}, x ∈ (redQ rows z).2 → x < z
  | 0, x, h => by simp [redQ] at h
  | z + 1, x, h => by
    rw [redQ_s] at h
    unfold stepQ at h
    split at h
    · have := redQ_hd h; omega
    · rcases List.mem_append.1 h with h | h
      · have := redQ_hd h; omega
      · simp at h; omega
end Lt

namespace Lt
open PySem PySem.Spec PyProof.Rows L2
/-! ### sums of products -/
theorem sumQ_first {f : Nat → Rat} : ∀ {n : Nat}, sumQ f (n + 1) = f 0 + sumQ (fun k => f (k + 1)) n
  | 0 => by simp only [sumQ]; grind
  | n + 1 => by rw [sumQ, sumQ_first, sumQ.eq_def (fun k => f (k + 1)) (n + 1)]; simp only; grind
def dotQ (ps xs : List Rat) : Rat := (ps.zip xs).foldl (fun w p => w + p.1 * p.2) 0
theorem fold_add : ∀ (l : List (Rat × Rat)) (w : Rat), l.foldl (fun w p => w + p.1 * p.2) w = w + l.foldl (fun w p => w + p.1 * p.2) 0
  | [], w => by simp only [List.foldl_nil]; grind
  | p :: l, w => by rw [List.foldl_cons, List.foldl_cons, fold_add l, fold_add l (0 + p.1 * p.2)]; grind
theorem dotQ_sum : ∀ (ps xs : List Rat), xs.length ≤ ps.length → dotQ ps xs = sumQ (fun c => vq ps c * vq xs c) xs.length
  | ps, [], _ => by unfold dotQ; rw [List.zip_nil_right]; rfl
  | [], x :: xs, h => by simp at h
  | p :: ps, x :: xs, h => by
    have ih := dotQ_sum ps xs (by simpa using h)
    unfold dotQ at ih ⊢
    rw [List.zip_cons_cons, List.foldl_cons, fold_add, ih, List.length_cons, sumQ_first]
    have e1 : vq (p :: ps) 0 = p := rfl
    have e2 : vq (x :: xs) 0 = x := rfl
    rw [e1, e2]
    have e3 : (fun k => vq (p :: ps) (k + 1) * vq (x :: xs) (k + 1)) = fun k => vq ps k * vq xs k := rfl
    rw [e3]; grind
/-- sums with tops and bottoms as they come -/
def rawF (w : Fr) (q : Rat × Rat) : Fr := (w.1 * (qf q.1).2 * (qf q.2).2 + (qf q.1).1 * (qf q.2).1 * w.2, w.2 * (qf q.1).2 * (qf q.2).2)
structure RawB (n m i : Nat) (w : Fr) (v : Rat) : Prop where
  t : B (n + i * (m + 1) + 1) w.1
  p : 0 < w.2
  b : B (i * m + 1) w.2
  v : val w = v
theorem raw_0 {n m : Nat} : RawB n m 0 (0, 1) 0 := ⟨B.mono (m := 1) (by decide) (by omega), by decide, B.mono (m := 1) (by decide) (by omega), by unfold val; grind⟩
theorem raw_step {n m n' m' i : Nat} {w : Fr} {v : Rat} {q : Rat × Rat} (h : RawB (n + n') (m + m') i w v) (h1 : Sz n m (qf q.1)) (h2 : Sz n' m' (qf q.2)) : RawB (n + n') (m + m') (i + 1) (rawF w q) (v + q.1 * q.2) := by
  have z1 : (i + 1) * (m + m' + 1) = i * (m + m' + 1) + (m + m' + 1) := by rw [Nat.add_mul]; omega
  have z2 : i * (m + m' + 1) = i * (m + m') + i := by rw [Nat.mul_add]; omega
  have z3 : (i + 1) * (m + m') = i * (m + m') + (m + m') := by rw [Nat.add_mul]; omega
  refine ⟨((h.t.mul h1.bot).mul h2.bot |>.add ((h1.top.mul h2.top).mul h.b)).mono (by omega), Int.mul_pos (Int.mul_pos h.p h1.pos) h2.pos, ((h.b.mul h1.bot).mul h2.bot).mono (by omega), ?_⟩
  have e1 := qf_val q.1; have e2 := qf_val q.2
  have hv := h.v
  have n1 : (w.2 : Rat) ≠ 0 := by intro z; rw [← Rat.intCast_zero, Rat.intCast_inj] at z; have := h.p; omega
  have n2 : ((qf q.1).2 : Rat) ≠ 0 := by intro z; rw [← Rat.intCast_zero, Rat.intCast_inj] at z; have := h1.pos; omega
  have n3 : ((qf q.2).2 : Rat) ≠ 0 := by intro z; rw [← Rat.intCast_zero, Rat.intCast_inj] at z; have := h2.pos; omega
  unfold val at e1 e2 hv ⊢
  unfold rawF
  simp only [Rat.intCast_mul, Rat.intCast_add]
  rw [← e1, ← e2, ← hv]
  grind
theorem raw_mk {n m i : Nat} {w : Fr} {v : Rat} (h : RawB n m i w v) : mk w.1 w.2 = qf v := val_inj (mk_low h.p) (qf_low _) (by rw [mk_val h.p, qf_val, ← h.v]; rfl)
def rawD (w : Fr) (q : Option D × Option D) (a b : D) : En := [some a, some b, some (.int w.1), some (.int w.2), q.1, q.2]
theorem mk_qf (q : Rat) : mk (qf q).1 (qf q).2 = qf q := val_inj (mk_low (qf_low q).pos) (qf_low _) (by rw [mk_val (qf_low q).pos, qf_val]; exact rat_div q)
theorem qf_gcd (q : Rat) : (Int.gcd (qf q).1 (qf q).2 : Int) = 1 := (qf_low q).gcd
/-- fractions of whole numbers -/
theorem mk_rat {t b : Int} (hb : 0 < b) : mk t b = qf ((t : Rat) / (b : Rat)) := val_inj (mk_low hb) (qf_low _) (by rw [mk_val hb, qf_val])
def fracF (ns : List Int) (k : Int) : Fr :=
  if drawF ns k 10007 4 = 0 then (0, 1)
  else if drawF ns k 10007 4 = 1 then mk (cellF ns k % (2 * 10 ^ 59) - 10 ^ 59) (1 + drawF ns k 10009 9)
  else mk (drawF ns k 10037 13 - 6) (1 + drawF ns k 10009 9)
theorem frac_sz {ns : List Int} {k : Int} : Sz 200 4 (fracF ns k) := by
  have q := drawF_pos (ns := ns) (k := k) (p := 10009) (m := 9) (by decide)
  have q2 := drawF_pos (ns := ns) (k := k) (p := 10037) (m := 13) (by decide)
  unfold fracF
  split
  · exact sz_01 (by decide) (by decide)
  · split
    · have h1 := Int.emod_nonneg (cellF ns k) (b := 2 * 10 ^ 59) (by decide)
      have h2 := Int.emod_lt_of_pos (cellF ns k) (b := 2 * 10 ^ 59) (by decide)
      exact mk_sz (by unfold B; omega) (by omega) (by unfold B; omega)
    · exact mk_sz (by unfold B; omega) (by omega) (by unfold B; omega)
theorem frac_low {ns : List Int} {k : Int} : Low (fracF ns k) := by
  have q := drawF_pos (ns := ns) (k := k) (p := 10009) (m := 9) (by decide)
  unfold fracF
  split
  · exact ⟨by decide, by decide⟩
  · split <;> exact mk_low (by omega)
def fracQ (ns : List Int) (k : Int) : Rat := val (fracF ns k)
theorem fracQ_qf {ns : List Int} {k : Int} : qf (fracQ ns k) = fracF ns k := qf_of frac_low
/-! ### a common bottom -/
/-- q times d is whole, not greater than 2 ^ n -/
theorem whN_of {q : Rat} {u v : Nat} (h : Sz u v (qf q)) : WhN (2 ^ u) (((q.den : Int) : Rat) * q) ∧ WhN (2 ^ v) ((q.den : Int) : Rat) := by
  refine ⟨⟨q.num, by rw [Rat.mul_comm]; exact rat_den q, ?_⟩, ⟨(q.den : Int), rfl, ?_⟩⟩
  · have := h.top; unfold B at this; exact Nat.le_of_lt this
  · have := h.bot; unfold B at this; exact Nat.le_of_lt this
def prodD : List Rat → Rat
  | [] => 1
  | q :: l => ((q.den : Int) : Rat) * prodD l
theorem prodD_ne : ∀ l : List Rat, prodD l ≠ 0
  | [] => by decide
  | q :: l => fun h => (Rat.mul_eq_zero.1 h).elim (fun z => den_nz q z) (prodD_ne l)
theorem prodD_wh {v : Nat} : ∀ {l : List Rat}, (∀ q ∈ l, q.den ≤ 2 ^ v) → WhN (2 ^ (l.length * v)) (prodD l)
  | [], _ => ⟨1, by simp [prodD], by simp⟩
  | q :: l, h => by
    have a : WhN (2 ^ v) ((q.den : Int) : Rat) := ⟨(q.den : Int), rfl, by have := h q (by simp); simp only [Int.natAbs_natCast]; exact this⟩
    have b := prodD_wh (v := v) (l := l) fun x hx => h x (List.mem_cons_of_mem _ hx)
    rw [prodD, List.length_cons, Nat.add_mul, Nat.one_mul, Nat.add_comm, Nat.pow_add]
    exact a.mul b
theorem prodD_at {u v : Nat} : ∀ {l : List Rat} {q : Rat}, (∀ q ∈ l, SzQ u v q) → q ∈ l → WhN (2 ^ (u + l.length * v)) (prodD l * q)
  | [], _, _, h => by cases h
  | x :: l, q, h, m => by
    rw [prodD, List.length_cons, Nat.add_mul, Nat.one_mul]
    have hx := h x (by simp)
    rcases List.mem_cons.1 m with e | m
    · subst e
      have a : WhN (2 ^ u) (((q.den : Int) : Rat) * q) := ⟨q.num, by rw [Rat.mul_comm]; exact rat_den q, hx.1⟩
      have b := prodD_wh (v := v) (l := l) fun x hx => (h x (List.mem_cons_of_mem _ hx)).2
      have := (a.mul b).mono (m := 2 ^ (u + (l.length * v + v))) (by rw [← Nat.pow_add]; exact Nat.pow_le_pow_right (by decide) (by omega))
      rwa [show ((q.den : Int) : Rat) * q * prodD l = ((q.den : Int) : Rat) * prodD l * q by grind] at this
    · have a : WhN (2 ^ v) ((x.den : Int) : Rat) := ⟨(x.den : Int), rfl, by simp only [Int.natAbs_natCast]; exact hx.2⟩
      have b := prodD_at (u := u) (v := v) (l := l) (q := q) (fun x hx => h x (List.mem_cons_of_mem _ hx)) m
      have := (a.mul b).mono (m := 2 ^ (u + (l.length * v + v))) (by rw [← Nat.pow_add]; exact Nat.pow_le_pow_right (by decide) (by omega))
      rwa [← Rat.mul_assoc] at this
end Lt

namespace Lt
open PySem PySem.Spec PyProof.Rows L2
/-! ### what the answer tells, for rows as lists -/
section
variable {rows : List (List Rat)} {n w many : Nat}
theorem gau1 (T : Tabl rows n w) (z : Nat) : ∃ id, Gau (mQ rows) (fun _ => 1) (fun _ => 1) n z (mQ (redQ rows z).1) (hq (redQ rows z).2) (redQ rows z).2.length id :=
  (red_ok (R := fun _ => 1) (C := fun _ => 1) T (fun _ => by decide) (fun _ => by decide) z).2
theorem tab1 (T : Tabl rows n w) (z : Nat) : Tabl (redQ rows z).1 n w := (red_ok (R := fun _ => 1) (C := fun _ => 1) T (fun _ => by decide) (fun _ => by decide) z).1
theorem bad_iff (T : Tabl rows n w) : badQ many ((redQ rows many).1.drop (redQ rows many).2.length) = false ↔ ∀ i, (redQ rows many).2.length ≤ i → i < n → mQ (redQ rows many).1 i many = 0 := by
  have T1 := tab1 T many
  unfold badQ
  rw [List.any_eq_false]
  constructor
  · intro h i h1 h2
    have hi : i < (redQ rows many).1.length := by rw [T1.len]; exact h2
    have hm : (redQ rows many).1[i] ∈ (redQ rows many).1.drop (redQ rows many).2.length := by
      rw [List.mem_drop_iff_getElem]
      exact ⟨i - (redQ rows many).2.length, by omega, by congr 1; omega⟩
    have := h _ hm
    unfold mQ
    rw [List.getElem?_eq_getElem hi]
    simpa using this
  · intro h r hr
    rw [List.mem_drop_iff_getElem] at hr
    obtain ⟨i, hi, rfl⟩ := hr
    have := h (i + (redQ rows many).2.length) (by omega) (by rw [← T1.len]; omega)
    unfold mQ at this
    have hi' : i + (redQ rows many).2.length < (redQ rows many).1.length := by omega
    rw [List.getElem?_eq_getElem hi'] at this
    simp only [Option.getD_some] at this
    have e : (redQ rows many).1[(redQ rows many).2.length + i] = (redQ rows many).1[i + (redQ rows many).2.length] := by congr 1; omega
    simp only [e, this]; simp
theorem mQ_row {i : Nat} (h : i < rows.length) (j : Nat) : mQ rows i j = vq rows[i] j := by unfold mQ; rw [List.getElem?_eq_getElem h]; rfl
theorem vq_range {f : Nat → Rat} {m c : Nat} (h : c < m) : vq ((List.range m).map f) c = f c := by
  unfold vq; rw [List.getElem?_map, List.getElem?_range h]; rfl
theorem dot_range {r : List Rat} {f : Nat → Rat} {m : Nat} (h : m ≤ r.length) : dotQ r ((List.range m).map f) = sumQ (fun c => vq r c * f c) m := by
  rw [dotQ_sum _ _ (by simpa using h), List.length_map, List.length_range]
  exact sumQ_congr fun c hc => by rw [vq_range hc]
/-- rows that can be met -/
theorem ans_solv (T : Tabl rows n (many + 1)) {y : Nat → Rat} (h : ∀ r ∈ rows, sumQ (fun c => vq r c * y c) many = vq r many) : badQ many ((redQ rows many).1.drop (redQ rows many).2.length) = false := by
  obtain ⟨id, G⟩ := gau1 T many
  rw [bad_iff T]
  intro i h1 h2
  refine G.solv (y := y) (fun r hr => ?_) h1 h2
  have hr' : r < rows.length := by rw [T.len]; exact hr
  have := h _ (List.getElem_mem hr')
  rw [mQ_row hr', ← this]
  exact sumQ_congr fun c _ => by rw [mQ_row hr']
theorem ans_meets (T : Tabl rows n (many + 1)) (h : badQ many ((redQ rows many).1.drop (redQ rows many).2.length) = false) {r : List Rat} (hr : r ∈ rows) : dotQ r (metL (redQ rows many) many) = vq r many := by
  obtain ⟨id, G⟩ := gau1 T many
  rw [bad_iff T] at h
  obtain ⟨i, hi, rfl⟩ := List.getElem_of_mem hr
  have := G.meets h (r := i) (by rw [← T.len]; exact hi)
  unfold metL
  rw [dot_range (by rw [T.row _ hr]; omega), ← mQ_row hi, ← this]
  exact sumQ_congr fun c _ => by rw [mQ_row hi]
theorem fr_free (T : Tabl rows n (many + 1)) (h : (redQ rows many).2.length ≠ many) : frQ (redQ rows many).2 many < many ∧ frQ (redQ rows many).2 many ∉ (redQ rows many).2 := by
  obtain ⟨id, G⟩ := gau1 T many
  have kz := G.kz
  obtain ⟨f, fm, fn⟩ := G.free (by omega)
  have fni : ∀ x, (∀ l, l < (redQ rows many).2.length → hq (redQ rows many).2 l ≠ x) ↔ x ∉ (redQ rows many).2 := fun x => ⟨fun hx hi => by
    obtain ⟨l, hl, rfl⟩ := List.getElem_of_mem hi
    exact hx l hl (by unfold hq; rw [List.getElem?_eq_getElem hl]; rfl), fun hx l hl e => hx (by
    unfold hq at e; rw [List.getElem?_eq_getElem hl] at e; simp only [Option.getD_some] at e; rw [← e]; exact List.getElem_mem hl)⟩
  have mf : f ∈ (List.range many).filter fun i => !decide (i ∈ (redQ rows many).2) := by
    rw [List.mem_filter, List.mem_range]; exact ⟨fm, by simpa using (fni f).1 fn⟩
  unfold frQ
  cases ff : (List.range many).filter fun i => !decide (i ∈ (redQ rows many).2) with
  | nil => rw [ff] at mf; cases mf
  | cons f0 fr0 =>
    have : f0 ∈ (List.range many).filter fun i => !decide (i ∈ (redQ rows many).2) := by rw [ff]; exact List.mem_cons_self ..
    rw [List.mem_filter, List.mem_range] at this
    exact ⟨this.1, by simpa using this.2⟩
theorem ans_kernel (T : Tabl rows n (many + 1)) (h : (redQ rows many).2.length ≠ many) : (∀ r ∈ rows, dotQ r (kerL (redQ rows many) many (frQ (redQ rows many).2 many)) = 0) ∧ ∃ z ∈ kerL (redQ rows many) many (frQ (redQ rows many).2 many), z ≠ 0 := by
  obtain ⟨id, G⟩ := gau1 T many
  have kz := G.kz
  obtain ⟨f, fm, fn⟩ := G.free (by omega)
  have fni : ∀ x, (∀ l, l < (redQ rows many).2.length → hq (redQ rows many).2 l ≠ x) ↔ x ∉ (redQ rows many).2 := fun x => ⟨fun hx hi => by
    obtain ⟨l, hl, rfl⟩ := List.getElem_of_mem hi
    exact hx l hl (by unfold hq; rw [List.getElem?_eq_getElem hl]; rfl), fun hx l hl e => hx (by
    unfold hq at e; rw [List.getElem?_eq_getElem hl] at e; simp only [Option.getD_some] at e; rw [← e]; exact List.getElem_mem hl)⟩
  have mf : f ∈ (List.range many).filter fun i => !decide (i ∈ (redQ rows many).2) := by
    rw [List.mem_filter, List.mem_range]; exact ⟨fm, by simpa using (fni f).1 fn⟩
  have fr : frQ (redQ rows many).2 many < many ∧ frQ (redQ rows many).2 many ∉ (redQ rows many).2 := by
    unfold frQ
    cases ff : (List.range many).filter fun i => !decide (i ∈ (redQ rows many).2) with
    | nil => rw [ff] at mf; cases mf
    | cons f0 fr0 =>
      have : f0 ∈ (List.range many).filter fun i => !decide (i ∈ (redQ rows many).2) := by rw [ff]; exact List.mem_cons_self ..
      rw [List.mem_filter, List.mem_range] at this
      exact ⟨this.1, by simpa using this.2⟩
  generalize frQ (redQ rows many).2 many = g at fr
  refine ⟨fun r hr => ?_, 1, ?_, by decide⟩
  · obtain ⟨i, hi, rfl⟩ := List.getElem_of_mem hr
    have := G.kernel fr.1 (r := i) (by rw [← T.len]; exact hi)
    unfold kerL
    rw [dot_range (by rw [T.row _ hr]; omega), ← this]
    exact sumQ_congr fun c _ => by rw [mQ_row hi]
  · unfold kerL
    exact List.mem_map.2 ⟨g, List.mem_range.2 fr.1, G.ker1 ((fni g).2 fr.2)⟩
/-- all columns are heads -/
theorem ans_full (T : Tabl rows n (many + 1)) (h : (redQ rows many).2.length = many) {x : Nat → Rat} (hx : ∀ r ∈ rows, sumQ (fun c => vq r c * x c) many = 0) {c : Nat} (hc : c < many) : x c = 0 := by
  obtain ⟨id, G⟩ := gau1 T many
  rw [h] at G
  have kn := G.kn
  have hl : ∀ l, l < many → hq (redQ rows many).2 l = l := fun l hl => by
    have := hd_ge G.hinc
    have ub : ∀ d l, l + d + 1 = many → hq (redQ rows many).2 l ≤ l := fun d => by
      induction d with
      | zero => intro l e; have := G.hlt l (by omega); omega
      | succ d ih => intro l e; have := ih (l + 1) (by omega); have := G.hinc l (l + 1) (by omega) (by omega); omega
    have := ub (many - l - 1) l (by omega)
    have := hd_ge G.hinc l hl
    omega
  obtain ⟨y, hy⟩ := G.span c (by omega)
  have z : sumQ (fun j => mQ (redQ rows many).1 c j * x j) many = 0 := by
    have e1 : sumQ (fun j => mQ (redQ rows many).1 c j * x j) many = sumQ (fun j => sumQ (fun m => y m * (mQ rows m j * x j)) n) many := sumQ_congr fun j _ => by
      have e3 : ∀ j, sumQ (fun m => y m * (mQ rows m j * x j)) n = x j * sumQ (fun m => y m * mQ rows m j) n := fun j => by
        rw [← sumQ_mul]; exact sumQ_congr fun m _ => by grind
      rw [hy j, e3]; grind
    rw [e1, sumQ_swap]
    refine sumQ_zero fun m hm => ?_
    have hm' : m < rows.length := by rw [T.len]; exact hm
    rw [sumQ_mul, sumQ_congr (g := fun j => vq rows[m] j * x j) (fun j _ => by rw [mQ_row hm']), hx _ (List.getElem_mem hm')]; grind
  rw [sumQ_one hc (fun j hj ne => by
    have := G.one c j (by omega) (by omega)
    rw [hl j hj, if_neg (fun e => ne e.symm)] at this
    rw [this]; grind)] at z
  have := G.one c c (by omega) (by omega)
  rw [hl c hc, if_pos rfl] at this
  rw [this] at z; grind
theorem ans_uni (T : Tabl rows n (many + 1)) (tr : ∀ x : Nat → Rat, (∀ r ∈ rows, sumQ (fun c => vq r c * x c) many = 0) → ∀ c, c < many → x c = 0) {y : Nat → Rat} (h : ∀ r ∈ rows, sumQ (fun c => vq r c * y c) many = vq r many) : (redQ rows many).2.length = many ∧ metL (redQ rows many) many = (List.range many).map y := by
  obtain ⟨id, G⟩ := gau1 T many
  have conv : ∀ x : Nat → Rat, (∀ r, r < n → sumQ (fun c => mQ rows r c * x c) many = 0) → ∀ c, c < many → x c = 0 := fun x hx => tr x fun r hr => by
    obtain ⟨i, hi, rfl⟩ := List.getElem_of_mem hr
    rw [← hx i (by rw [← T.len]; exact hi)]
    exact sumQ_congr fun c _ => by rw [mQ_row hi]
  refine ⟨G.full conv, ?_⟩
  unfold metL
  refine List.map_congr_left fun c hc => ?_
  rw [List.mem_range] at hc
  refine G.uni conv (y := y) (fun r hr => ?_) hc
  have hr' : r < rows.length := by rw [T.len]; exact hr
  rw [mQ_row hr', ← h _ (List.getElem_mem hr')]
  exact sumQ_congr fun c _ => by rw [mQ_row hr']
theorem vq_app {r : List Rat} {x : Rat} {j : Nat} : vq (r ++ [x]) j = if j = r.length then x else vq r j := by
  unfold vq
  by_cases h : j < r.length
  · rw [List.getElem?_append_left h, if_neg (by omega)]
  · by_cases e : j = r.length
    · subst e; rw [if_pos rfl]; simp
    · rw [if_neg e, List.getElem?_append_right (by omega), List.getElem?_eq_none (by simp; omega), List.getElem?_eq_none (by omega)]
theorem turn_at (T : Tabl rows n (many + 1)) {ρ j : Nat} (hρ : ρ ≤ many) : mQ (turnQ rows many) ρ j = if j = n then (if ρ = many then 1 else 0) else mQ rows j ρ := by
  have vm : ∀ c, vq (rows.map fun r => vq r c) j = mQ rows j c := fun c => by
    unfold mQ
    unfold vq
    rw [List.getElem?_map]
    cases e : rows[j]? with
    | none => simp
    | some r => simp
  have ln : (rows.map fun r => vq r ρ).length = n := by rw [List.length_map, T.len]
  unfold mQ turnQ
  by_cases e : ρ = many
  · subst e
    rw [List.getElem?_append_right (by simp)]
    simp only [List.length_map, List.length_range, Nat.sub_self, List.getElem?_cons_zero, Option.getD_some]
    rw [vq_app, ln]
    simp only [if_true]
    split
    · rfl
    · exact vm _
  · rw [List.getElem?_append_left (by simp; omega), List.getElem?_map, List.getElem?_range (by omega)]
    simp only [Option.map_some, Option.getD_some]
    rw [vq_app, ln, if_neg e]
    split
    · rfl
    · exact vm _
theorem ans_against (T : Tabl rows n (many + 1)) (h : badQ many ((redQ rows many).1.drop (redQ rows many).2.length) = true) : (agQ rows many).length = n ∧ (∀ c, c < many → dotQ (rows.map fun r => vq r c) (agQ rows many) = 0) ∧ dotQ (rows.map fun r => vq r many) (agQ rows many) = 1 := by
  obtain ⟨id, G⟩ := gau1 T many
  have : ∃ i, (redQ rows many).2.length ≤ i ∧ i < n ∧ mQ (redQ rows many).1 i many ≠ 0 := by
    apply Classical.byContradiction
    intro no
    have := (bad_iff T).2 fun i h1 h2 => Classical.byContradiction fun ne => no ⟨i, h1, h2, ne⟩
    rw [this] at h; cases h
  obtain ⟨i, h1, h2, h3⟩ := this
  obtain ⟨y, y1, y2⟩ := G.against h1 h2 h3
  have TT := turn_tab (many := many) T
  obtain ⟨id', G'⟩ := gau1 TT n
  have col : ∀ ρ, ρ < many + 1 → sumQ (fun c => mQ (turnQ rows many) ρ c * y c) n = mQ (turnQ rows many) ρ n := fun ρ hρ => by
    rw [turn_at T (by omega), if_pos rfl, sumQ_congr (g := fun m => y m * mQ rows m ρ) (fun m hm => by rw [turn_at T (by omega), if_neg (by omega)]; grind)]
    by_cases e : ρ = many
    · subst e; rw [if_pos rfl]; exact y2
    · rw [if_neg e]; exact y1 ρ (by omega)
  have ms := fun ρ hρ => G'.meets (fun i h1 h2 => G'.solv col h1 h2) (r := ρ) hρ
  have fin : ∀ ρ, ρ ≤ many → dotQ (rows.map fun r => vq r ρ) (agQ rows many) = if ρ = many then 1 else 0 := fun ρ hρ => by
    have := ms ρ (by omega)
    rw [turn_at T hρ, if_pos rfl] at this
    rw [← this]
    unfold agQ metL
    rw [T.len, dot_range (by rw [List.length_map, T.len]; exact Nat.le_refl _)]
    refine sumQ_congr fun c hc => ?_
    rw [turn_at T hρ, if_neg (by omega)]
    congr 1
    unfold mQ vq
    rw [List.getElem?_map]
    cases e : rows[c]? with
    | none => simp
    | some r => simp
  refine ⟨by unfold agQ metL; rw [List.length_map, List.length_range, T.len], fun c hc => by rw [fin c (by omega), if_neg (by omega)], by rw [fin many (Nat.le_refl _), if_pos rfl]⟩
end
/-! ### sizes -/
def RowS (Cm : Rat) (many ρ b t : Nat) (r : List Rat) : Prop := ∃ d : Rat, d ≠ 0 ∧ WhN (2 ^ ρ) d ∧ (∀ c, c < many → WhN (2 ^ b) (d * vq r c)) ∧ WhN (2 ^ (b + t)) (d * Cm * vq r many)
section
variable {rows : List (List Rat)} {n w many ρ b t γ e : Nat} {Cm : Rat}
theorem red_sz {R C : Nat → Rat} {b e ρ γ t s r1 : Nat} {c : Nat → Nat} (T : Tabl rows n w) (S : Scl (mQ rows) R C n w b e ρ γ t s r1 c) : ∀ z, z + 1 ≤ w → ∀ i, i < n → ∀ j, j < w → SzQ (n * (b + e) + s + t + γ) (n * (b + e) + s + ρ + γ) (mQ (redQ rows z).1 i j) := fun z hz i hi j hj => by
  obtain ⟨_, id, G⟩ := red_ok (R := R) (C := C) T S.R0 S.C0 z
  exact G.sz S hz hi hj
theorem rowS_pick (T : Tabl rows n (many + 1)) (h : ∀ r ∈ rows, RowS Cm many ρ b t r) : ∃ R : Nat → Rat, (∀ i, R i ≠ 0) ∧ ∀ i, i < n → WhN (2 ^ ρ) (R i) ∧ (∀ c, c < many → WhN (2 ^ b) (R i * mQ rows i c)) ∧ WhN (2 ^ (b + t)) (R i * Cm * mQ rows i many) := by
  have pick : ∀ i, ∃ d : Rat, d ≠ 0 ∧ (i < n → WhN (2 ^ ρ) d ∧ (∀ c, c < many → WhN (2 ^ b) (d * mQ rows i c)) ∧ WhN (2 ^ (b + t)) (d * Cm * mQ rows i many)) := fun i => by
    by_cases hi : i < n
    · have hi' : i < rows.length := by rw [T.len]; exact hi
      obtain ⟨d, d0, d1, d2, d3⟩ := h _ (List.getElem_mem hi')
      exact ⟨d, d0, fun _ => ⟨d1, fun c hc => by rw [mQ_row hi']; exact d2 c hc, by rw [mQ_row hi']; exact d3⟩⟩
    · exact ⟨1, by decide, fun y => absurd y hi⟩
  exact ⟨fun i => Classical.choose (pick i), fun i => (Classical.choose_spec (pick i)).1, fun i hi => (Classical.choose_spec (pick i)).2 hi⟩
theorem rows_sz (T : Tabl rows n (many + 1)) (h : ∀ r ∈ rows, RowS Cm many ρ b t r) (c0 : Cm ≠ 0) (cw : WhN (2 ^ γ) Cm) (ne : n ≤ 2 ^ e) : ∀ z, z ≤ many → ∀ i, i < n → ∀ j, j < many + 1 → SzQ (n * (b + e) + t + γ) (n * (b + e) + ρ + γ) (mQ (redQ rows z).1 i j) := by
  obtain ⟨R, R0, hR⟩ := rowS_pick T h
  have S : Scl (mQ rows) R (fun j => if j = many then Cm else 1) n (many + 1) b e ρ γ t 0 0 (fun j => if j = many then t else 0) := {
    R0 := R0
    C0 := fun j => by split; exact c0; decide
    Rw := fun r hr => (hR r hr).1
    Cw := fun j _ => by
      split
      · exact cw
      · exact WhN.mono (n := 1) ⟨1, by simp, by decide⟩ Nat.one_le_two_pow
    Aw := fun r j hr hj => by
      by_cases y : j = many
      · subst y
        simp only [if_pos rfl]
        have := (hR r hr).2.2
        simpa using this
      · simp only [if_neg y]
        have := (hR r hr).2.1 j (by omega)
        simpa using this
    cw := fun j hj => if_neg (by omega)
    ct := fun j => by split <;> omega
    ne := ne }
  intro z hz i hi j hj
  have := red_sz T S z (by omega) i hi j hj
  simpa using this
theorem turn_sz (T : Tabl rows n (many + 1)) (h : ∀ r ∈ rows, RowS Cm many ρ b t r) (c0 : Cm ≠ 0) (cw : WhN (2 ^ γ) Cm) (γb : γ ≤ b + t) (me : many + 1 ≤ 2 ^ e) : ∀ z, z ≤ n → ∀ i, i < many + 1 → ∀ j, j < n + 1 → SzQ ((many + 1) * (b + e) + t + ρ) ((many + 1) * (b + e) + t + γ + ρ) (mQ (redQ (turnQ rows many) z).1 i j) := by
  obtain ⟨R, R0, hR⟩ := rowS_pick T h
  have one : ∀ m, WhN (2 ^ m) 1 := fun m => WhN.mono (n := 1) ⟨1, by simp, by decide⟩ Nat.one_le_two_pow
  have S : Scl (mQ (turnQ rows many)) (fun ρ' => if ρ' = many then Cm else 1) (fun j => if j = n then 1 else R j) (many + 1) (n + 1) b e γ ρ 0 t many (fun _ => 0) := {
    R0 := fun j => by split; exact c0; decide
    C0 := fun j => by split; decide; exact R0 j
    Rw := fun r hr => by split; exact cw; exact one _
    Cw := fun j hj => by
      by_cases y : j = n
      · simp only [if_pos y]; exact one _
      · simp only [if_neg y]; exact (hR j (by omega)).1
    Aw := fun r j hr hj => by
      rw [turn_at T (by omega)]
      by_cases y : j = n
      · simp only [if_pos y]
        by_cases q : r = many
        · simp only [if_pos q]
          have := cw.mono (m := 2 ^ (b + t + 0)) (Nat.pow_le_pow_right (by decide) (by omega))
          simpa using this
        · simp only [if_neg q]
          rw [Rat.mul_zero]; exact WhN.zero
      · simp only [if_neg y]
        by_cases q : r = many
        · simp only [if_pos q]
          have := (hR j (by omega)).2.2
          rw [← q] at this
          have e2 : Cm * R j * mQ rows j r = R j * Cm * mQ rows j r := by grind
          rw [e2]; exact this
        · simp only [if_neg q]
          have := (hR j (by omega)).2.1 r (by omega)
          have e2 : 1 * R j * mQ rows j r = R j * mQ rows j r := by grind
          rw [e2]; exact this
    cw := fun _ _ => rfl
    ct := fun _ => Nat.zero_le _
    ne := me }
  intro z hz i hi j hj
  have := red_sz (turn_tab T) S z (by omega) i hi j hj
  simpa using this
theorem met_sz {s : List (List Rat) × List Nat} {k u v m : Nat} (T : Tabl s.1 k w) (hm : m < w) (hh : ∀ x ∈ s.2, x < m) (hnd : s.2.Nodup) (hl : s.2.length ≤ k) (h : ∀ i, i < k → SzQ u v (mQ s.1 i m)) : ∀ q ∈ metL s m, SzQ u v q := fun q hq => by
  unfold metL at hq
  obtain ⟨c, hc, rfl⟩ := List.mem_map.1 hq
  have z0 : SzQ u v 0 := ⟨Nat.zero_le _, Nat.one_le_two_pow⟩
  unfold metV
  by_cases y : ∃ l, l < s.2.length ∧ Lt.hq s.2 l = c
  · obtain ⟨l, hl2, e⟩ := y
    rw [sumQ_one hl2 (fun l' hl' ne => if_neg fun e' => ne (by
      unfold Lt.hq at e e'
      rw [List.getElem?_eq_getElem hl2] at e
      rw [List.getElem?_eq_getElem hl'] at e'
      simp only [Option.getD_some] at e e'
      exact (List.getElem_inj (h₀ := hl') (h₁ := hl2) hnd).1 (e'.trans e.symm))), if_pos e]
    exact h l (by omega)
  · rw [sumQ_zero fun l hl2 => if_neg fun e => y ⟨l, hl2, e⟩]; exact z0
theorem SzQ.neg {u v : Nat} {q : Rat} (h : SzQ u v q) : SzQ u v (-q) := by
  unfold SzQ at *
  rw [Rat.neg_num, Rat.neg_den, Int.natAbs_neg]; exact h
theorem ker_sz {s : List (List Rat) × List Nat} {k u v m f : Nat} (T : Tabl s.1 k w) (hf : f < m) (hm : m < w) (fn : f ∉ s.2) (hnd : s.2.Nodup) (hl : s.2.length ≤ k) (h : ∀ i, i < k → SzQ u v (mQ s.1 i f)) : ∀ q ∈ kerL s m f, SzQ u v q := fun q hq => by
  unfold kerL at hq
  obtain ⟨c, hc, rfl⟩ := List.mem_map.1 hq
  have z0 : SzQ u v 0 := ⟨Nat.zero_le _, Nat.one_le_two_pow⟩
  have z1 : SzQ u v 1 := ⟨Nat.one_le_two_pow, Nat.one_le_two_pow⟩
  unfold kerV
  by_cases y : ∃ l, l < s.2.length ∧ Lt.hq s.2 l = c
  · obtain ⟨l, hl2, e⟩ := y
    have cf : c ≠ f := fun z => fn (by
      unfold Lt.hq at e
      rw [List.getElem?_eq_getElem hl2] at e
      simp only [Option.getD_some] at e
      rw [← z, ← e]; exact List.getElem_mem hl2)
    rw [sumQ_one hl2 (fun l' hl' ne => if_neg fun e' => ne (by
      unfold Lt.hq at e e'
      rw [List.getElem?_eq_getElem hl2] at e
      rw [List.getElem?_eq_getElem hl'] at e'
      simp only [Option.getD_some] at e e'
      exact (List.getElem_inj (h₀ := hl') (h₁ := hl2) hnd).1 (e'.trans e.symm))), if_pos e, if_neg cf]
    have := (h l (by omega)).neg
    rwa [show (0 : Rat) + -mQ s.1 l f = -mQ s.1 l f by grind]
  · rw [sumQ_zero fun l hl2 => if_neg fun e => y ⟨l, hl2, e⟩]
    split
    · rwa [show (1 : Rat) + 0 = 1 by grind]
    · rwa [show (0 : Rat) + 0 = 0 by grind]
end
theorem szq_div {t b : Int} {u v : Nat} (h1 : t.natAbs ≤ 2 ^ u) (b0 : 0 < b) (h2 : b.natAbs ≤ 2 ^ v) : SzQ u v ((t : Rat) / (b : Rat)) := by
  have nb : (b : Rat) ≠ 0 := by intro z; rw [← Rat.intCast_zero, Rat.intCast_inj] at z; omega
  exact quo_sz (x := (t : Rat)) (y := (b : Rat)) ⟨t, rfl, h1⟩ ⟨b, rfl, h2⟩ nb (by grind)
theorem szq_int {t : Int} {u : Nat} (h1 : t.natAbs ≤ 2 ^ u) : SzQ u 0 (t : Rat) := by
  have := szq_div (t := t) (b := 1) (u := u) (v := 0) h1 (by decide) (by decide)
  rwa [show (t : Rat) / ((1 : Int) : Rat) = (t : Rat) by grind] at this
theorem qf_int (t : Int) : qf (t : Rat) = (t, 1) := rfl
theorem qf_neg (q : Rat) : qf (-q) = (-(qf q).1, (qf q).2) := by
  unfold qf; rw [Rat.neg_num, Rat.neg_den]
theorem WhN.sz {q d : Rat} {u v : Nat} (h0 : d ≠ 0) (h1 : WhN (2 ^ v) d) (h2 : WhN (2 ^ u) (d * q)) : SzQ u v q := quo_sz h2 h1 h0 (by grind)
theorem RowS.sz {Cm : Rat} {many ρ b t γ : Nat} {r : List Rat} (h : RowS Cm many ρ b t r) (l : r.length = many + 1) (c0 : Cm ≠ 0) (cw : WhN (2 ^ γ) Cm) : ∀ q ∈ r, SzQ (b + t) (ρ + γ) q := fun q hq => by
  obtain ⟨d, d0, d1, d2, d3⟩ := h
  obtain ⟨c, hc, rfl⟩ := List.getElem_of_mem hq
  have e : r[c] = vq r c := by unfold vq; rw [List.getElem?_eq_getElem hc]; rfl
  rw [e]
  by_cases y : c = many
  · subst y
    have dc : d * Cm ≠ 0 := fun z => (Rat.mul_eq_zero.1 z).elim d0 c0
    have := d1.mul cw
    rw [← Nat.pow_add] at this
    exact WhN.sz dc this d3
  · exact (WhN.sz d0 d1 (d2 c (by omega))).mono (by omega) (by omega)
theorem sumQ_wh {f : Nat → Rat} {b e n : Nat} (hn : n ≤ 2 ^ e) (h : ∀ k, k < n → WhN (2 ^ b) (f k)) : WhN (2 ^ (b + e)) (sumQ f n) := (WhN.sum h).mono (by rw [Nat.pow_add, Nat.mul_comm]; exact Nat.mul_le_mul_left _ hn)
theorem WhN.neg {n : Nat} {x : Rat} (h : WhN n x) : WhN n (-x) := let ⟨i, e, b⟩ := h; ⟨-i, by rw [e, Rat.intCast_neg], by rw [Int.natAbs_neg]; exact b⟩
theorem WhN.pw {a b : Nat} {x : Rat} (h : WhN (2 ^ a) x) (l : a ≤ b) : WhN (2 ^ b) x := h.mono (Nat.pow_le_pow_right (by decide) l)
theorem WhN.mulp {a b : Nat} {x y : Rat} (h : WhN (2 ^ a) x) (k : WhN (2 ^ b) y) : WhN (2 ^ (a + b)) (x * y) := by rw [Nat.pow_add]; exact h.mul k
theorem WhN.addp {a b : Nat} {x y : Rat} (h : WhN (2 ^ a) x) (k : WhN (2 ^ b) y) : WhN (2 ^ (max a b + 1)) (x + y) := (h.add k).mono (by
  have h1 : 2 ^ a ≤ 2 ^ max a b := Nat.pow_le_pow_right (by decide) (Nat.le_max_left _ _)
  have h2 : 2 ^ b ≤ 2 ^ max a b := Nat.pow_le_pow_right (by decide) (Nat.le_max_right _ _)
  rw [Nat.pow_succ]; omega)
theorem vq_set {r : List Rat} {a c : Nat} {x : Rat} (h : a < r.length) : vq (r.set a x) c = if a = c then x else vq r c := by
  unfold vq
  by_cases e : a = c
  · subst e; rw [if_pos rfl, List.getElem?_set_self h]; rfl
  · rw [if_neg e, List.getElem?_set_ne e]
def combQ (t : Int) (r1 r2 : List Rat) : List Rat := (r1.zip r2).map fun p => p.1 * (t : Rat) + p.2
theorem vq_comb {t : Int} {r1 r2 : List Rat} (l : r1.length = r2.length) (c : Nat) : vq (combQ t r1 r2) c = vq r1 c * (t : Rat) + vq r2 c := by
  unfold vq combQ
  rw [List.getElem?_map]
  by_cases h : c < r1.length
  · rw [List.getElem?_eq_getElem h, List.getElem?_eq_getElem (by omega : c < r2.length), List.getElem?_eq_getElem (by rw [List.length_zip]; omega), List.getElem_zip]; rfl
  · rw [List.getElem?_eq_none (by rw [List.length_zip]; omega : (r1.zip r2).length ≤ c), List.getElem?_eq_none (by omega : r1.length ≤ c), List.getElem?_eq_none (by omega : r2.length ≤ c)]
    show (0 : Rat) = 0 * (t : Rat) + 0
    grind
theorem comb_len {t : Int} {r1 r2 : List Rat} (l : r1.length = r2.length) : (combQ t r1 r2).length = r2.length := by unfold combQ; rw [List.length_map, List.length_zip]; omega
theorem comb_S {Cm : Rat} {many ρ b t : Nat} {r1 r2 : List Rat} {k : Int} (l : r1.length = r2.length) (hk : k.natAbs ≤ 2 ^ 2) (h1 : RowS Cm many ρ b t r1) (h2 : RowS Cm many ρ b t r2) : RowS Cm many (ρ + ρ) (b + ρ + 3) t (combQ k r1 r2) := by
  obtain ⟨d, d0, d1, d2, d3⟩ := h1
  obtain ⟨e, e0, e1, e2, e3⟩ := h2
  have kw : WhN (2 ^ 2) (k : Rat) := ⟨k, rfl, hk⟩
  refine ⟨d * e, fun z => (Rat.mul_eq_zero.1 z).elim d0 e0, d1.mulp e1, fun c hc => ?_, ?_⟩
  · rw [vq_comb l]
    have := (((d2 c hc).mulp kw).mulp e1).addp ((e2 c hc).mulp d1)
    rw [show d * vq r1 c * (k : Rat) * e + e * vq r2 c * d = d * e * (vq r1 c * (k : Rat) + vq r2 c) by grind] at this
    exact this.pw (by omega)
  · rw [vq_comb l]
    have := ((d3.mulp kw).mulp e1).addp (e3.mulp d1)
    rw [show d * Cm * vq r1 many * (k : Rat) * e + e * Cm * vq r2 many * d = d * e * Cm * (vq r1 many * (k : Rat) + vq r2 many) by grind] at this
    exact this.pw (by omega)
theorem set_S {Cm x : Rat} {many ρ b t γ o : Nat} {r : List Rat} (l : r.length = many + 1) (cw : WhN (2 ^ γ) Cm) (xw : WhN (2 ^ o) x) (le : ρ + γ + o ≤ b + t) (h : RowS Cm many ρ b t r) : RowS Cm many ρ (b + 1) t (r.set many (vq r many + x)) := by
  obtain ⟨d, d0, d1, d2, d3⟩ := h
  refine ⟨d, d0, d1, fun c hc => ?_, ?_⟩
  · rw [vq_set (by omega), if_neg (by omega)]; exact (d2 c hc).pw (by omega)
  · rw [vq_set (by omega), if_pos rfl]
    have := d3.addp ((d1.mulp cw).mulp xw)
    rw [show d * Cm * vq r many + d * Cm * x = d * Cm * (vq r many + x) by grind] at this
    exact this.pw (by omega)
theorem RowS.mono {Cm : Rat} {many ρ b t ρ' b' : Nat} {r : List Rat} (h : RowS Cm many ρ b t r) (l1 : ρ ≤ ρ') (l2 : b ≤ b') : RowS Cm many ρ' b' t r := by
  obtain ⟨d, d0, d1, d2, d3⟩ := h
  exact ⟨d, d0, d1.pw l1, fun c hc => (d2 c hc).pw l2, d3.pw (by omega)⟩
theorem zero_S {Cm : Rat} {many ρ b t : Nat} : RowS Cm many ρ b t (List.replicate (many + 1) 0) := by
  have v : ∀ c, vq (List.replicate (many + 1) (0 : Rat)) c = 0 := fun c => by
    unfold vq; rw [List.getElem?_replicate]; split <;> rfl
  refine ⟨1, by decide, WhN.mono (n := 1) ⟨1, by simp, by decide⟩ Nat.one_le_two_pow, fun c _ => ?_, ?_⟩
  · rw [v, Rat.mul_zero]; exact WhN.zero
  · rw [v, Rat.mul_zero]; exact WhN.zero
theorem dot2 (a b c d : Rat) : dotQ [a, b] [c, d] = a * c + b * d := by unfold dotQ; simp only [List.zip_cons_cons, List.zip_nil_right, List.foldl_cons, List.foldl_nil]; grind
end Lt

namespace Lt
open PySem PySem.Spec PyProof.Rows L2
/-! ### numbers of nodes settled by their equations -/
abbrev Pa := List (Nat × Fr)
def lsm : Pa → (Nat → Rat) → Rat
  | [], _ => 0
  | p :: ps, x => val p.2 * x p.1 + lsm ps x
theorem lsm_congr {x y : Nat → Rat} : ∀ {ps : Pa}, (∀ p ∈ ps, x p.1 = y p.1) → lsm ps x = lsm ps y
  | [], _ => rfl
  | p :: ps, h => by
    show val p.2 * x p.1 + lsm ps x = val p.2 * y p.1 + lsm ps y
    rw [h p (by simp), lsm_congr fun q hq => h q (List.mem_cons_of_mem _ hq)]
theorem lsm_add {x y : Nat → Rat} : ∀ {ps : Pa}, lsm ps (fun u => x u + y u) = lsm ps x + lsm ps y
  | [] => by simp [lsm]; grind
  | p :: ps => by
    have := lsm_add (x := x) (y := y) (ps := ps)
    simp only [lsm] at this ⊢; rw [this]; grind
theorem lsm_mul {x : Nat → Rat} {a : Rat} : ∀ {ps : Pa}, lsm ps (fun u => a * x u) = a * lsm ps x
  | [] => by simp [lsm]
  | p :: ps => by
    have := lsm_mul (x := x) (a := a) (ps := ps)
    simp only [lsm] at this ⊢; rw [this]; grind
theorem lsm_nn {x : Nat → Rat} : ∀ {ps : Pa}, (∀ p ∈ ps, 0 < val p.2 ∧ 0 ≤ x p.1) → 0 ≤ lsm ps x
  | [], _ => by simp [lsm]
  | p :: ps, h => by
    have a := lsm_nn fun q hq => h q (List.mem_cons_of_mem _ hq)
    have b := h p (by simp)
    have := Rat.mul_nonneg (Rat.le_of_lt b.1) b.2
    simp only [lsm]; grind
theorem lsm_le {x y : Nat → Rat} {ps : Pa} (h : ∀ p ∈ ps, 0 < val p.2 ∧ x p.1 ≤ y p.1) : lsm ps x ≤ lsm ps y := by
  have := lsm_nn (ps := ps) (x := fun u => y u + -1 * x u) fun p hp => ⟨(h p hp).1, by have := (h p hp).2; grind⟩
  rw [lsm_add (x := y) (y := fun u => -1 * x u), lsm_mul] at this
  grind
theorem lsm_zero {x : Nat → Rat} : ∀ {ps : Pa}, (∀ p ∈ ps, 0 < val p.2 ∧ 0 ≤ x p.1) → lsm ps x = 0 → ∀ p ∈ ps, x p.1 = 0
  | [], _, _, _, hp => by cases hp
  | p :: ps, h, e, q, hq => by
    have a := lsm_nn fun q hq => h q (List.mem_cons_of_mem _ hq)
    have b := h p (by simp)
    have c := Rat.mul_nonneg (Rat.le_of_lt b.1) b.2
    simp only [lsm] at e
    rcases List.mem_cons.1 hq with rfl | hq
    · have : val q.2 * x q.1 = 0 := by grind
      rcases Rat.mul_eq_zero.1 this with y | y
      · rw [y] at b; exact absurd b.1 (by decide)
      · exact y
    · exact lsm_zero (fun q hq => h q (List.mem_cons_of_mem _ hq)) (by grind) q hq
structure PaOk (u : Nat) (ps : Pa) : Prop where
  low : ∀ p ∈ ps, Low p.2
  pos : ∀ p ∈ ps, 0 < val p.2
  nd : (ps.map (·.1)).Nodup
  sum : lsm ps (fun _ => 1) = 1
  den : ∃ d : Nat, 0 < d ∧ d ≤ 2 ^ u ∧ ∀ p ∈ ps, ∃ k : Int, ((d : Int) : Rat) * val p.2 = (k : Rat)
/-- no greatest number above nought where a way leads out -/
theorem max_of (x : Nat → Rat) : ∀ {F : List Nat}, F ≠ [] → ∃ w ∈ F, ∀ v ∈ F, x v ≤ x w
  | [], h => absurd rfl h
  | [a], _ => ⟨a, by simp, fun v hv => by rw [List.mem_singleton] at hv; subst hv; exact Rat.le_refl⟩
  | a :: b :: F, _ => by
    obtain ⟨w, wm, hw⟩ := max_of x (F := b :: F) (by simp)
    by_cases c : x w ≤ x a
    · exact ⟨a, by simp, fun v hv => by
        rcases List.mem_cons.1 hv with rfl | hv
        · exact Rat.le_refl
        · exact Rat.le_trans (hw v hv) c⟩
    · refine ⟨w, List.mem_cons_of_mem _ wm, fun v hv => ?_⟩
      rcases List.mem_cons.1 hv with rfl | hv
      · exact Rat.le_of_lt (Rat.not_le.1 c)
      · exact hw v hv
def inF (F : List Nat) (y : Nat → Rat) (u : Nat) : Rat := if u ∈ F then y u else 0
def offF (F : List Nat) (y : Nat → Rat) (u : Nat) : Rat := if u ∈ F then 0 else y u
/-- ways lead out of F: no part of F is closed -/
def Leaves (F : List Nat) (ps : Nat → Pa) : Prop := ∀ S : Nat → Prop, (∃ v, S v) → (∀ v, S v → v ∈ F) → (∀ v, S v → ∀ p ∈ ps v, S p.1) → False
theorem tr_le {u : Nat} {F : List Nat} {ps : Nat → Pa} {x : Nat → Rat} (hp : ∀ v ∈ F, PaOk u (ps v)) (L : Leaves F ps) (h : ∀ v ∈ F, x v = lsm (ps v) (inF F x)) : ∀ v ∈ F, x v ≤ 0 := by
  intro v hv
  obtain ⟨w, wm, hw⟩ := max_of x (F := F) (fun e => by rw [e] at hv; cases hv)
  refine Rat.not_lt.1 fun lt => ?_
  have A0 : 0 < x w := by have := hw v hv; grind
  refine L (fun v => v ∈ F ∧ x v = x w) ⟨w, wm, rfl⟩ (fun v h => h.1) fun v hv p hpp => ?_
  have P := hp v hv.1
  have z := lsm_zero (ps := ps v) (x := fun a => x w * 1 + -1 * inF F x a) (fun q hq => ⟨P.pos q hq, by
    unfold inF
    split
    · rename_i m; have := hw _ m; grind
    · grind⟩) (by rw [lsm_add (x := fun _ => x w * 1) (y := fun a => -1 * inF F x a), lsm_mul (x := fun _ => 1), lsm_mul, P.sum, ← h v hv.1, hv.2]; grind) p hpp
  unfold inF at z
  split at z
  · rename_i m; exact ⟨m, by grind⟩
  · exact absurd A0 (by grind)
theorem tr_zero {u : Nat} {F : List Nat} {ps : Nat → Pa} {x : Nat → Rat} (hp : ∀ v ∈ F, PaOk u (ps v)) (L : Leaves F ps) (h : ∀ v ∈ F, x v = lsm (ps v) (inF F x)) : ∀ v ∈ F, x v = 0 := by
  intro v hv
  have a := tr_le hp L h v hv
  have b := tr_le (x := fun v => -1 * x v) hp L (fun v hv => by
    have e : lsm (ps v) (inF F fun v => -1 * x v) = lsm (ps v) (fun u => -1 * inF F x u) := lsm_congr fun p _ => by
      unfold inF; split <;> grind
    rw [e, lsm_mul, ← h v hv]) v hv
  grind
/-! ### rows -/
def stpR (F : List Nat) (x : Nat → Rat) (row : List Rat) (p : Nat × Fr) : List Rat :=
  if p.1 ∈ F then row.set (F.idxOf p.1) (vq row (F.idxOf p.1) - val p.2) else row.set F.length (vq row F.length + val p.2 * x p.1)
def row0 (F : List Nat) (v : Nat) (g : Rat) : List Rat := ((F.map fun _ => (0 : Rat)) ++ [g]).set (F.idxOf v) 1
def rowR (F : List Nat) (x : Nat → Rat) (ps : Pa) (v : Nat) (g : Rat) : List Rat := ps.foldl (stpR F x) (row0 F v g)
theorem stpR_len {F : List Nat} {x : Nat → Rat} {row : List Rat} {p : Nat × Fr} : (stpR F x row p).length = row.length := by unfold stpR; split <;> rw [List.length_set]
theorem row0_len {F : List Nat} {v : Nat} {g : Rat} : (row0 F v g).length = F.length + 1 := by unfold row0; simp
theorem fold_len {F : List Nat} {x : Nat → Rat} : ∀ {ps : Pa} {row : List Rat}, (ps.foldl (stpR F x) row).length = row.length
  | [], _ => rfl
  | p :: ps, row => by rw [List.foldl_cons, fold_len, stpR_len]
theorem rowR_len {F : List Nat} {x : Nat → Rat} {ps : Pa} {v : Nat} {g : Rat} : (rowR F x ps v g).length = F.length + 1 := by unfold rowR; rw [fold_len, row0_len]
def atF (F : List Nat) (c : Nat) : Nat := F[c]?.getD 0
theorem atF_idx {F : List Nat} {v : Nat} (h : v ∈ F) : F.idxOf v < F.length ∧ atF F (F.idxOf v) = v := by
  have l := List.idxOf_lt_length_of_mem h
  refine ⟨l, ?_⟩
  unfold atF
  rw [List.getElem?_eq_getElem l]
  exact List.getElem_idxOf l
theorem sum_set {row : List Rat} {m c : Nat} {z : Rat} {y : Nat → Rat} (l : row.length = m + 1) (hc : c < m) : sumQ (fun k => vq (row.set c z) k * y k) m = sumQ (fun k => vq row k * y k) m + (z - vq row c) * y c := by
  have e : sumQ (fun k => vq (row.set c z) k * y k) m = sumQ (fun k => vq row k * y k + (if k = c then (z - vq row c) * y c else 0)) m := sumQ_congr fun k _ => by
    rw [vq_set (by omega)]
    by_cases e : c = k
    · subst e; rw [if_pos rfl, if_pos rfl]; grind
    · rw [if_neg e, if_neg (fun z => e z.symm)]; grind
  rw [e, sumQ_add, sumQ_one hc (fun k _ ne => if_neg ne), if_pos rfl]
theorem sum_last {row : List Rat} {m : Nat} {z : Rat} {y : Nat → Rat} (l : row.length = m + 1) : sumQ (fun k => vq (row.set m z) k * y k) m = sumQ (fun k => vq row k * y k) m := sumQ_congr fun k hk => by
  rw [vq_set (by omega), if_neg (by omega)]
theorem fold_dot {F : List Nat} {x y : Nat → Rat} : ∀ {ps : Pa} {row : List Rat}, row.length = F.length + 1 → sumQ (fun c => vq (ps.foldl (stpR F x) row) c * y (atF F c)) F.length = sumQ (fun c => vq row c * y (atF F c)) F.length - lsm ps (inF F y) ∧ vq (ps.foldl (stpR F x) row) F.length = vq row F.length + lsm ps (offF F x)
  | [], row, _ => by simp only [List.foldl_nil, lsm]; constructor <;> grind
  | p :: ps, row, l => by
    rw [List.foldl_cons]
    obtain ⟨a, b⟩ := fold_dot (ps := ps) (x := x) (y := y) (row := stpR F x row p) (by rw [stpR_len]; exact l)
    rw [a, b]
    unfold stpR
    simp only [lsm]
    by_cases c : p.1 ∈ F
    · obtain ⟨i1, i2⟩ := atF_idx c
      rw [if_pos c, sum_set (y := fun c => y (atF F c)) l i1, i2, vq_set (by omega), if_neg (by omega)]
      unfold inF offF
      rw [if_pos c, if_pos c]
      constructor <;> grind
    · rw [if_neg c, sum_last (y := fun c => y (atF F c)) l, vq_set (by omega), if_pos rfl]
      unfold inF offF
      rw [if_neg c, if_neg c]
      constructor <;> grind
theorem row0_dot {F : List Nat} {v : Nat} {g : Rat} {y : Nat → Rat} (h : v ∈ F) : sumQ (fun c => vq (row0 F v g) c * y (atF F c)) F.length = y v ∧ vq (row0 F v g) F.length = g := by
  obtain ⟨i1, i2⟩ := atF_idx h
  have l : ((F.map fun _ => (0 : Rat)) ++ [g]).length = F.length + 1 := by simp
  have z : ∀ c, c < F.length → vq ((F.map fun _ => (0 : Rat)) ++ [g]) c = 0 := fun c hc => by
    rw [vq_app, List.length_map, if_neg (by omega)]
    unfold vq; rw [List.getElem?_map, List.getElem?_eq_getElem hc]; rfl
  unfold row0
  rw [sum_set (y := fun c => y (atF F c)) l i1, i2, z _ i1, sumQ_zero (fun c hc => by rw [z c hc]; grind), vq_set (by omega), if_neg (by omega), vq_app, List.length_map, if_pos rfl]
  constructor <;> grind
theorem rowR_dot {F : List Nat} {x y : Nat → Rat} {ps : Pa} {v : Nat} {g : Rat} (h : v ∈ F) : sumQ (fun c => vq (rowR F x ps v g) c * y (atF F c)) F.length = y v - lsm ps (inF F y) := by
  unfold rowR
  rw [(fold_dot (y := y) row0_len).1, (row0_dot (y := y) h).1]
theorem rowR_last {F : List Nat} {x : Nat → Rat} {ps : Pa} {v : Nat} {g : Rat} (h : v ∈ F) : vq (rowR F x ps v g) F.length = g + lsm ps (offF F x) := by
  unfold rowR
  rw [(fold_dot (y := fun _ => 0) row0_len).2, (row0_dot (y := fun _ => 0) h).2]
theorem rowR_at {F : List Nat} {x : Nat → Rat} {ps : Pa} {v c : Nat} {g : Rat} (h : v ∈ F) (nd : F.Nodup) (hc : c < F.length) : vq (rowR F x ps v g) c = (if v = atF F c then 1 else 0) - lsm ps (fun u => if u = atF F c then 1 else 0) := by
  have := rowR_dot (x := x) (ps := ps) (g := g) (y := fun u => if u = atF F c then 1 else 0) h
  rw [sumQ_one hc (fun k hk ne => by
    rw [if_neg]; · grind
    intro e
    unfold atF at e
    rw [List.getElem?_eq_getElem hk, List.getElem?_eq_getElem hc] at e
    exact ne ((List.getElem_inj (h₀ := hk) (h₁ := hc) nd).1 e)), if_pos rfl] at this
  have e : lsm ps (inF F fun u => if u = atF F c then 1 else 0) = lsm ps (fun u => if u = atF F c then 1 else 0) := lsm_congr fun p _ => by
    unfold inF
    by_cases y : p.1 ∈ F
    · rw [if_pos y]
    · rw [if_neg y, if_neg]
      intro e; apply y; rw [e]; unfold atF; rw [List.getElem?_eq_getElem hc]; exact List.getElem_mem hc
  rw [e] at this
  grind
def rowsR (F : List Nat) (x : Nat → Rat) (ps : Nat → Pa) (g : Nat → Rat) : List (List Rat) := F.map fun v => rowR F x (ps v) v (g v)
theorem rowsR_tab {F : List Nat} {x : Nat → Rat} {ps : Nat → Pa} {g : Nat → Rat} : Tabl (rowsR F x ps g) F.length (F.length + 1) := ⟨by unfold rowsR; rw [List.length_map], fun r hr => by
  obtain ⟨v, _, rfl⟩ := List.mem_map.1 hr; exact rowR_len⟩
def solR (F : List Nat) (x : Nat → Rat) (ps : Nat → Pa) (g : Nat → Rat) : List Rat := metL (redQ (rowsR F x ps g) F.length) F.length
/-- the numbers behind a group -/
def nxt (F : List Nat) (x : Nat → Rat) (ps : Nat → Pa) (g : Nat → Rat) (v : Nat) : Rat := if v ∈ F then vq (solR F x ps g) (F.idxOf v) else x v
theorem badQ_nil {m : Nat} : badQ m [] = false := rfl
theorem sol_full {u : Nat} {F : List Nat} {x : Nat → Rat} {ps : Nat → Pa} {g : Nat → Rat} (nd : F.Nodup) (hp : ∀ v ∈ F, PaOk u (ps v)) (L : Leaves F ps) : (redQ (rowsR F x ps g) F.length).2.length = F.length ∧ badQ F.length ((redQ (rowsR F x ps g) F.length).1.drop (redQ (rowsR F x ps g) F.length).2.length) = false := by
  have T := rowsR_tab (F := F) (x := x) (ps := ps) (g := g)
  obtain ⟨id, G⟩ := gau1 T F.length
  have k := G.full fun y hy c hc => by
    have key := tr_zero (x := fun v => y (F.idxOf v)) hp L (fun v hv => by
      obtain ⟨i1, i2⟩ := atF_idx hv
      have l1 : F.idxOf v < (rowsR F x ps g).length := by rw [T.len]; exact i1
      have := hy (F.idxOf v) i1
      rw [sumQ_congr (g := fun c => vq (rowR F x (ps v) v (g v)) c * (fun w => y (F.idxOf w)) (atF F c)) (fun c hc => ?_), rowR_dot (y := fun w => y (F.idxOf w)) hv] at this
      · grind
      · rw [mQ_row l1]
        have e1 : (rowsR F x ps g)[F.idxOf v] = rowR F x (ps v) v (g v) := by
          have : F[F.idxOf v] = v := List.getElem_idxOf i1
          show (F.map fun v => rowR F x (ps v) v (g v))[F.idxOf v]'(by simpa using i1) = _
          rw [List.getElem_map, this]
        have e2 : F.idxOf (atF F c) = c := by
          unfold atF; rw [List.getElem?_eq_getElem hc]
          exact nd.idxOf_getElem c hc
        rw [e1]; simp only [e2]) F[c] (List.getElem_mem hc)
    simp only [nd.idxOf_getElem c hc] at key
    exact key
  refine ⟨k, ?_⟩
  rw [k, List.drop_eq_nil_of_le (by rw [(tab1 T F.length).len]; exact Nat.le_refl _)]; exact badQ_nil
theorem nxt_eqn {u : Nat} {F : List Nat} {x : Nat → Rat} {ps : Nat → Pa} {g : Nat → Rat} (nd : F.Nodup) (hp : ∀ v ∈ F, PaOk u (ps v)) (L : Leaves F ps) {v : Nat} (hv : v ∈ F) : nxt F x ps g v = g v + lsm (ps v) (nxt F x ps g) := by
  have T := rowsR_tab (F := F) (x := x) (ps := ps) (g := g)
  obtain ⟨_, b⟩ := sol_full (x := x) (g := g) nd hp L
  have m : rowR F x (ps v) v (g v) ∈ rowsR F x ps g := List.mem_map.2 ⟨v, hv, rfl⟩
  have e := ans_meets T b m
  rw [show metL (redQ (rowsR F x ps g) F.length) F.length = (List.range F.length).map (vq (solR F x ps g)) from by
    unfold solR metL
    exact List.map_congr_left fun c hc => (vq_range (List.mem_range.1 hc)).symm] at e
  rw [dot_range (by rw [rowR_len]; omega), rowR_last hv] at e
  rw [sumQ_congr (g := fun c => vq (rowR F x (ps v) v (g v)) c * nxt F x ps g (atF F c)) (fun c hc => ?_), rowR_dot hv] at e
  · have s : lsm (ps v) (nxt F x ps g) = lsm (ps v) (inF F (nxt F x ps g)) + lsm (ps v) (offF F x) := by
      rw [← lsm_add]
      refine lsm_congr fun p _ => ?_
      unfold inF offF nxt
      split <;> grind
    rw [s]; grind
  · have m : atF F c ∈ F := by unfold atF; rw [List.getElem?_eq_getElem hc]; exact List.getElem_mem hc
    unfold nxt
    rw [if_pos m]
    have e2 : F.idxOf (atF F c) = c := by
      unfold atF; rw [List.getElem?_eq_getElem hc]
      exact nd.idxOf_getElem c hc
    rw [e2]
end Lt

namespace Lt
open PySem PySem.Spec PyProof.Rows L2
/-! ### sizes of what is settled -/
def isI (x : Rat) : Prop := ∃ i : Int, x = (i : Rat)
theorem isI.add {x y : Rat} (a : isI x) (b : isI y) : isI (x + y) := by obtain ⟨i, rfl⟩ := a; obtain ⟨j, rfl⟩ := b; exact ⟨i + j, (Rat.intCast_add _ _).symm⟩
theorem isI.mul {x y : Rat} (a : isI x) (b : isI y) : isI (x * y) := by obtain ⟨i, rfl⟩ := a; obtain ⟨j, rfl⟩ := b; exact ⟨i * j, (Rat.intCast_mul _ _).symm⟩
theorem isI.zero : isI 0 := ⟨0, rfl⟩
theorem isI.one : isI 1 := ⟨1, rfl⟩
theorem isI.neg {x : Rat} (a : isI x) : isI (-x) := by obtain ⟨i, rfl⟩ := a; exact ⟨-i, (Rat.intCast_neg _).symm⟩
theorem whN_abs {n : Nat} {x : Rat} (h : isI x) (a : -((n : Int) : Rat) ≤ x) (b : x ≤ ((n : Int) : Rat)) : WhN n x := by
  obtain ⟨i, rfl⟩ := h
  rw [← Rat.intCast_neg] at a
  have a := Rat.intCast_le_intCast.1 a
  have b := Rat.intCast_le_intCast.1 b
  exact ⟨i, rfl, by omega⟩
theorem WhN.abs {n : Nat} {x : Rat} (h : WhN n x) : isI x ∧ -((n : Int) : Rat) ≤ x ∧ x ≤ ((n : Int) : Rat) := by
  obtain ⟨i, rfl, b⟩ := h
  refine ⟨⟨i, rfl⟩, ?_, ?_⟩
  · rw [← Rat.intCast_neg]; exact Rat.intCast_le_intCast.2 (by omega)
  · exact Rat.intCast_le_intCast.2 (by omega)
theorem lsm_isI {D Q : Rat} {x : Nat → Rat} : ∀ {ps : Pa}, (∀ p ∈ ps, isI (D * val p.2)) → (∀ p ∈ ps, isI (Q * x p.1)) → isI (D * Q * lsm ps x)
  | [], _, _ => by simp only [lsm, Rat.mul_zero]; exact .zero
  | p :: ps, h, k => by
    have a := lsm_isI (D := D) (Q := Q) (x := x) (fun q hq => h q (List.mem_cons_of_mem _ hq)) fun q hq => k q (List.mem_cons_of_mem _ hq)
    have b := (h p (by simp)).mul (k p (by simp))
    have e : D * Q * lsm (p :: ps) x = D * val p.2 * (Q * x p.1) + D * Q * lsm ps x := by simp only [lsm]; grind
    rw [e]; exact b.add a
structure PaB (u : Nat) (ps : Pa) : Prop where
  pos : ∀ p ∈ ps, 0 < val p.2
  le : lsm ps (fun _ => 1) ≤ 1
  den : ∃ d : Nat, 0 < d ∧ d ≤ 2 ^ u ∧ ∀ p ∈ ps, ∃ k : Int, ((d : Int) : Rat) * val p.2 = (k : Rat)
theorem lsm_app {x : Nat → Rat} {b : Pa} : ∀ {a : Pa}, lsm (a ++ b) x = lsm a x + lsm b x
  | [] => by simp only [List.nil_append, lsm]; grind
  | p :: a => by
    have := lsm_app (x := x) (b := b) (a := a)
    simp only [List.cons_append, lsm]; rw [this]; grind
theorem PaOk.pre {u : Nat} {ps a b : Pa} (h : PaOk u ps) (e : ps = a ++ b) : PaB u a := by
  subst e
  obtain ⟨d, d0, d1, d2⟩ := h.den
  refine ⟨fun p hp => h.pos p (List.mem_append_left _ hp), ?_, d, d0, d1, fun p hp => d2 p (List.mem_append_left _ hp)⟩
  have := h.sum
  rw [lsm_app] at this
  have : 0 ≤ lsm b (fun _ => 1) := lsm_nn fun p hp => ⟨h.pos p (List.mem_append_right _ hp), by decide⟩
  grind
theorem PaOk.pab {u : Nat} {ps : Pa} (h : PaOk u ps) : PaB u ps := h.pre (List.append_nil _).symm
theorem lsm_rg {u : Nat} {ps : Pa} (h : PaB u ps) {B : Rat} {x : Nat → Rat} (B0 : 0 ≤ B) (hx : ∀ p ∈ ps, -B ≤ x p.1 ∧ x p.1 ≤ B) : -B ≤ lsm ps x ∧ lsm ps x ≤ B := by
  have a := lsm_le (ps := ps) (x := x) (y := fun _ => B * 1) fun p hp => ⟨h.pos p hp, by have := (hx p hp).2; grind⟩
  have b := lsm_le (ps := ps) (x := fun _ => -B * 1) (y := x) fun p hp => ⟨h.pos p hp, by have := (hx p hp).1; grind⟩
  rw [lsm_mul (x := fun _ => 1)] at a b
  have c := Rat.mul_le_mul_of_nonneg_left h.le B0
  constructor <;> grind
theorem pw_cast (u : Nat) : (((2 ^ u : Nat) : Int) : Rat) ≥ 1 := by
  have : (1 : Int) ≤ ((2 ^ u : Nat) : Int) := by have := Nat.one_le_two_pow (n := u); omega
  have := Rat.intCast_le_intCast.2 this
  simpa using this
theorem cast_mulN (a b : Nat) : (((a * b : Nat) : Int) : Rat) = ((a : Int) : Rat) * ((b : Int) : Rat) := by rw [Int.natCast_mul, Rat.intCast_mul]
theorem cast_addN (a b : Nat) : (((a + b : Nat) : Int) : Rat) = ((a : Int) : Rat) + ((b : Int) : Rat) := by rw [Int.natCast_add, Rat.intCast_add]
theorem cast_leN {a b : Nat} (h : a ≤ b) : ((a : Int) : Rat) ≤ ((b : Int) : Rat) := Rat.intCast_le_intCast.2 (by omega)
theorem rowR_S {u τ : Nat} {F : List Nat} {x : Nat → Rat} {ps : Pa} {v : Nat} {g Q : Rat} (hv : v ∈ F) (nd : F.Nodup) (P : PaB u ps) (hx : ∀ p ∈ ps, p.1 ∉ F → WhN (2 ^ τ) (Q * x p.1)) (hg : WhN (2 ^ τ) (Q * g)) : RowS Q F.length u u (τ + 1) (rowR F x ps v g) := by
  obtain ⟨d, d0, d1, d2⟩ := P.den
  have D0 : (0 : Rat) < ((d : Int) : Rat) := by
    have := cast_leN (a := 1) (b := d) d0
    have e : (((1 : Nat) : Int) : Rat) = 1 := rfl
    rw [e] at this; grind
  have Du := cast_leN d1
  refine ⟨((d : Int) : Rat), fun z => by rw [z] at D0; exact absurd D0 (by decide), ⟨d, rfl, by simpa using d1⟩, fun c hc => ?_, ?_⟩
  · rw [rowR_at hv nd hc]
    have li := lsm_isI (D := ((d : Int) : Rat)) (Q := 1) (ps := ps) (x := fun u => if u = atF F c then 1 else 0) d2 (fun p _ => by split; exact isI.mul .one .one; exact isI.mul .one .zero)
    have l0 : 0 ≤ lsm ps (fun u => if u = atF F c then 1 else 0) := lsm_nn fun p hp => ⟨P.pos p hp, by split <;> decide⟩
    have l1 : lsm ps (fun u => if u = atF F c then 1 else 0) ≤ lsm ps (fun _ => 1) := lsm_le fun p hp => ⟨P.pos p hp, by split <;> decide⟩
    have l2 := P.le
    generalize lsm ps (fun u => if u = atF F c then 1 else 0) = z at li l0 l1 ⊢
    have hz : z ≤ 1 := by grind
    have m1 := Rat.mul_le_mul_of_nonneg_left hz (Rat.le_of_lt D0)
    have m2 := Rat.mul_nonneg (Rat.le_of_lt D0) l0
    refine whN_abs ?_ ?_ ?_
    · have e : ((d : Int) : Rat) * ((if v = atF F c then 1 else 0) - z) = ((d : Int) : Rat) * (if v = atF F c then 1 else 0) + -(((d : Int) : Rat) * 1 * z) := by grind
      rw [e]
      exact isI.add (by split; exact isI.mul ⟨d, rfl⟩ .one; exact isI.mul ⟨d, rfl⟩ .zero) li.neg
    · split <;> grind
    · split <;> grind
  · rw [rowR_last hv]
    have hx' : ∀ p ∈ ps, isI (Q * offF F x p.1) ∧ -(((2 ^ τ : Nat) : Int) : Rat) ≤ Q * offF F x p.1 ∧ Q * offF F x p.1 ≤ (((2 ^ τ : Nat) : Int) : Rat) := fun p hp => by
      unfold offF
      split
      · have := pw_cast τ; exact ⟨by rw [Rat.mul_zero]; exact .zero, by grind, by grind⟩
      · rename_i m; exact (hx p hp m).abs
    have li := lsm_isI (D := ((d : Int) : Rat)) (Q := Q) (ps := ps) (x := offF F x) d2 fun p hp => (hx' p hp).1
    have lr := lsm_rg P (x := fun u => Q * offF F x u) (B := (((2 ^ τ : Nat) : Int) : Rat)) (by have := pw_cast τ; grind) fun p hp => (hx' p hp).2
    rw [lsm_mul] at lr
    obtain ⟨gi, g1, g2⟩ := hg.abs
    generalize lsm ps (offF F x) = z at li lr ⊢
    have T0 := pw_cast τ
    have e2 : (((2 ^ (u + (τ + 1)) : Nat) : Int) : Rat) = (((2 ^ u : Nat) : Int) : Rat) * (((2 ^ τ : Nat) : Int) : Rat) * 2 := by
      rw [show 2 ^ (u + (τ + 1)) = 2 ^ u * 2 ^ τ * 2 from by rw [Nat.pow_add, Nat.pow_succ, Nat.mul_assoc], cast_mulN, cast_mulN]; rfl
    have e3 : ((d : Int) : Rat) * Q * (g + z) = ((d : Int) : Rat) * (Q * g + Q * z) := by grind
    have m1 : Q * g + Q * z ≤ (((2 ^ τ : Nat) : Int) : Rat) * 2 := by grind
    have m2 : -((((2 ^ τ : Nat) : Int) : Rat) * 2) ≤ Q * g + Q * z := by grind
    have m3 := Rat.mul_le_mul_of_nonneg_left m1 (Rat.le_of_lt D0)
    have m4 := Rat.mul_le_mul_of_nonneg_left m2 (Rat.le_of_lt D0)
    have m5 := Rat.mul_le_mul_of_nonneg_right Du (c := (((2 ^ τ : Nat) : Int) : Rat) * 2) (by grind)
    refine whN_abs ?_ ?_ ?_
    · rw [show ((d : Int) : Rat) * Q * (g + z) = ((d : Int) : Rat) * (Q * g) + ((d : Int) : Rat) * Q * z from by grind]
      exact isI.add (isI.mul ⟨d, rfl⟩ gi) li
    · rw [e2, e3]; grind
    · rw [e2, e3]; grind
/-! ### one bottom for what is settled at once -/
theorem full_hd {A W : Nat → Nat → Rat} {R C : Nat → Rat} {n k : Nat} {hd id : Nat → Nat} (G : Gau A R C n k W hd k id) : ∀ l, l < k → hd l = l := fun l hl => by
  have ub : ∀ d l, l + d + 1 = k → hd l ≤ l := fun d => by
    induction d with
    | zero => intro l e; have := G.hlt l (by omega); omega
    | succ d ih => intro l e; have := ih (l + 1) (by omega); have := G.hinc l (l + 1) (by omega) (by omega); omega
  have := ub (k - l - 1) l (by omega)
  have := hd_ge G.hinc l hl
  omega
theorem sol_sz {rows : List (List Rat)} {n many ρ b t e : Nat} {Cm : Rat} (T : Tabl rows n (many + 1)) (h : ∀ r ∈ rows, RowS Cm many ρ b t r) (c0 : Cm ≠ 0) (ne : many ≤ 2 ^ e) (full : (redQ rows many).2.length = many) : ∃ p : Rat, p ≠ 0 ∧ WhN (2 ^ (many * (b + e))) p ∧ ∀ c, c < many → WhN (2 ^ (many * (b + e) + t)) (p * Cm * vq (metL (redQ rows many) many) c) := by
  obtain ⟨R, R0, hR⟩ := rowS_pick T h
  have C0 : ∀ j, (fun j => if j = many then Cm else 1) j ≠ 0 := fun j => by
    show (if j = many then Cm else 1) ≠ 0
    split; exact c0; decide
  obtain ⟨_, id, G⟩ := red_ok (R := R) (C := fun j => if j = many then Cm else 1) T R0 C0 many
  rw [full] at G
  have hd := full_hd G
  have idk : ∀ r ∈ (List.range many).map id, r < n := fun r hr => by
    obtain ⟨q, hq, rfl⟩ := List.mem_map.1 hr
    rw [List.mem_range] at hq
    exact G.idlt q (by have := G.kn; omega)
  have lk : ((List.range many).map id).length = many := by simp
  have cl : ∀ m, m < many → (fun j => if j = many then Cm else 1) (hq (redQ rows many).2 m) = 1 := fun m hm => by
    show (if _ = many then Cm else 1) = 1
    rw [hd m hm, if_neg (by omega)]
  have s0 : sumN (fun _ => 0) many = 0 := by have := sumN_le (f := fun _ => 0) (b := 0) (n := many) (fun _ _ => Nat.le_refl _); omega
  have bs : ∀ r ∈ (List.range many).map id, ∀ m, m < many → WhN (2 ^ b) (R r * (if hq (redQ rows many).2 m = many then Cm else 1) * mQ rows r (hq (redQ rows many).2 m)) := fun r hr m hm => by
    rw [hd m hm, if_neg (by omega)]
    have := (hR r (idk r hr)).2.1 m hm
    simpa using this
  refine ⟨_, G.dn, ?_, fun c hc => ?_⟩
  · have := det_wh (b := fun _ => b) (e := e) (c := fun _ => 0) (rs := (List.range many).map id) (C := fun m r => R r * (if hq (redQ rows many).2 m = many then Cm else 1) * mQ rows r (hq (redQ rows many).2 m)) (by rw [lk]; exact ne) (fun r hr m hm => by
      rw [lk] at hm; exact bs r hr m hm)
    rw [sum_const, lk, s0, Nat.add_zero] at this
    exact this
  · have x := G.piv C0 hc many
    have xw := det_wh (b := fun _ => b) (e := e) (c := fun q => if q = c then t else 0) (rs := (List.range many).map id) (C := upC (fun m r => R r * (if hq (redQ rows many).2 m = many then Cm else 1) * mQ rows r (hq (redQ rows many).2 m)) c fun r => R r * (if many = many then Cm else 1) * mQ rows r many) (by rw [lk]; exact ne) (fun r hr m hm => by
      rw [lk] at hm
      unfold upC
      by_cases y : m = c
      · simp only [if_pos y, if_true]; exact (hR r (idk r hr)).2.2
      · simp only [if_neg y]; exact bs r hr m hm)
    rw [sum_const, lk] at xw
    replace xw := xw.mono (m := 2 ^ (many * (b + e) + t)) (Nat.pow_le_pow_right (by decide) (by have := sumN_one (p := c) (t := t) (n := many); omega))
    have c1 := cl c hc
    simp only at c1
    simp only [if_true] at x xw
    rw [c1] at x
    rw [x] at xw
    have ev : vq (metL (redQ rows many) many) c = mQ (redQ rows many).1 c many := by
      unfold metL
      rw [vq_range hc]
      unfold metV
      rw [full, sumQ_one hc (fun l hl ne => if_neg (by rw [hd l hl]; exact ne)), if_pos (hd c hc)]
    rw [ev]
    have e4 : ∀ P W : Rat, W * Cm / 1 * P = P * Cm * W := fun P W => by grind
    rw [e4] at xw
    exact xw
end Lt

namespace Lt
open PySem PySem.Spec PyProof.Rows L2
/-! ### shares gathered by things -/
abbrev Sums := List (NestedKey × Fr)
def kvG (ss : Sums) : List (NestedKey × D) := ss.map fun p => (p.1, frD p.2)
theorem lkp_kvG {ss : Sums} {k : NestedKey} : lkp (kvG ss) k = (lkp ss k).map frD := by
  unfold lkp kvG
  rw [List.find?_map]
  simp only [Function.comp_def, Option.map_map]
theorem sto_kvG {ss : Sums} {k : NestedKey} {v : Fr} : stoK (kvG ss) k (frD v) = kvG (stoK ss k v) := by
  unfold stoK kvG
  rw [List.any_map]
  simp only [Function.comp_def]
  split
  · rw [List.map_map, List.map_map]
    refine List.map_congr_left fun p _ => ?_
    simp only [Function.comp_def]
    split <;> rfl
  · rw [List.map_append]; rfl
theorem sto_mem {ss : Sums} {k : NestedKey} {v : Fr} {e : NestedKey × Fr} (h : e ∈ stoK ss k v) : e ∈ ss ∨ e = (k, v) := by
  unfold stoK at h
  split at h
  · obtain ⟨p, hp, e1⟩ := List.mem_map.1 h
    split at e1
    · rename_i z; exact .inr (by rw [← e1, z])
    · exact .inl (e1 ▸ hp)
  · rcases List.mem_append.1 h with z | z
    · exact .inl z
    · exact .inr (List.mem_singleton.1 z)
theorem sto_keys {ss : Sums} {k : NestedKey} {v : Fr} : (stoK ss k v).map (·.1) = if k ∈ ss.map (·.1) then ss.map (·.1) else ss.map (·.1) ++ [k] := by
  unfold stoK
  have e : (ss.any fun p => decide (p.1 = k)) = true ↔ k ∈ ss.map (·.1) := by
    rw [List.any_eq_true, List.mem_map]
    exact ⟨fun ⟨p, hp, z⟩ => ⟨p, hp, of_decide_eq_true z⟩, fun ⟨p, hp, z⟩ => ⟨p, hp, decide_eq_true z⟩⟩
  by_cases c : k ∈ ss.map (·.1)
  · rw [if_pos (e.2 c), if_pos c, List.map_map]
    refine List.map_congr_left fun p _ => ?_
    simp only [Function.comp_def]
    split <;> rfl
  · rw [if_neg (fun z => c (e.1 z)), if_neg c, List.map_append]; rfl
theorem sto_nd {ss : Sums} {k : NestedKey} {v : Fr} (h : (ss.map (·.1)).Nodup) : ((stoK ss k v).map (·.1)).Nodup := by
  rw [sto_keys]
  split
  · exact h
  · rename_i c
    rw [List.nodup_append]
    exact ⟨h, by simp, fun a ha b hb => by rw [List.mem_singleton] at hb; subst hb; exact fun z => c (z ▸ ha)⟩
theorem sto_len {ss : Sums} {k : NestedKey} {v : Fr} : (stoK ss k v).length ≤ ss.length + 1 := by
  have := congrArg List.length (sto_keys (ss := ss) (k := k) (v := v))
  rw [List.length_map] at this
  rw [this]; split <;> simp
theorem lkp_mem {ss : Sums} {k : NestedKey} {v : Fr} (h : lkp ss k = some v) : (k, v) ∈ ss := by
  unfold lkp at h
  obtain ⟨p, hp, e⟩ := Option.map_eq_some_iff.1 h
  have m := List.mem_of_find?_eq_some hp
  have e2 : p.1 = k := by have := List.find?_some hp; simpa using this
  rw [← e, ← e2]; exact m
theorem lkp_of {k : NestedKey} {v : Fr} : ∀ {ss : Sums}, (ss.map (·.1)).Nodup → (k, v) ∈ ss → lkp ss k = some v
  | [], _, h => by cases h
  | p :: ss, nd, h => by
    rw [List.map_cons, List.nodup_cons] at nd
    unfold lkp
    rw [List.find?_cons]
    rcases List.mem_cons.1 h with z | z
    · subst z; simp
    · have ne : p.1 ≠ k := fun y => nd.1 (by rw [y]; exact List.mem_map.2 ⟨_, z, rfl⟩)
      rw [decide_eq_false ne]
      exact lkp_of nd.2 z
/-! ### things -/
inductive ThK : Option Nat → NestedKey → Prop
  | i {n : Int} (h : B 200 n) : ThK none (.num n)
  | t {m : Nat} {is : List Int} (l : is.length = m) (b : ∀ i ∈ is, B 200 i) : ThK (some m) (.tup (is.map .num))
theorem ofKs_num : ∀ is : List Int, ofKs (is.map NestedKey.num) = is.map D.int
  | [] => rfl
  | x :: k => by rw [List.map_cons, ofKs, ofKs_num k]; rfl
theorem keysD_num : ∀ is : List Int, keysD (is.map D.int) = some (is.map NestedKey.num)
  | [] => rfl
  | x :: k => by rw [List.map_cons, keysD, keysD_num k]; rfl
theorem depths_num : ∀ is : List Int, NestedKey.depthAll (is.map NestedKey.num) ≤ 1
  | [] => by simp [NestedKey.depthAll]
  | x :: k => by
    have := depths_num k
    simp only [List.map_cons, NestedKey.depthAll, NestedKey.depth]; omega
theorem datas_num : ∀ is : List Int, NestedKey.datas (is.map NestedKey.num) = is.map PyData.int
  | [] => by simp [NestedKey.datas]
  | x :: k => by rw [List.map_cons, NestedKey.datas, datas_num k]; rfl
theorem keyT_th {o : Option Nat} {k : NestedKey} (h : ThK o k) : keyT (ofK k) = some k := by
  cases h with
  | i h => rfl
  | @t m is l b =>
    rw [ofK, ofKs_num]
    unfold keyT
    rw [keyD, keysD_num]
    have : keyOk (.tup (is.map NestedKey.num)) = true := by
      unfold keyOk
      have := depths_num is
      simp only [NestedKey.depth]
      exact decide_eq_true (by omega)
    show (if keyOk (.tup (is.map NestedKey.num)) = true then some (NestedKey.tup (is.map NestedKey.num)) else none) = _
    rw [if_pos this]
theorem isP_th {o : Option Nat} {k : NestedKey} {h : Hh} (t : ThK o k) : IsP h (ofK k) k.data := by
  cases t with
  | @i n _ => show IsP h (.int n) (.int n); rw [IsP]
  | @t m is l b =>
    rw [ofK, ofKs_num, NestedKey.data, datas_num, IsP]
    exact ⟨_, rfl, isPs_ints is⟩
theorem sm_200 {n : Nat} {i : Int} (h : B 200 i) : Sm 202 n 200 (.int i) := by
  have l := log_lt (by decide) h
  refine ⟨by rw [PyData.showable]; exact decide_eq_true (by omega), rfl, by simp [PyData.depth], rfl, ?_, ?_⟩
  · rw [PyData.weight]; split <;> omega
  · rw [PyData.intsShort]
    refine decide_eq_true ?_
    rw [PyData.shown]
    have := int_text_length_le (k := 200) (by decide) l
    rw [PySem.ofString_length]
    exact Nat.le_trans this (by decide)
theorem Sm.wk {c n m n' m' : Nat} {d : PyData} (h : Sm c n m d) (l : n ≤ n') (k : m ≤ m') : Sm c n' m' d := ⟨h.sh, h.nd, Nat.le_trans h.dp l, h.ly, Nat.le_trans h.wt k, h.it⟩
theorem sm_th {o : Option Nat} {k : NestedKey} (t : ThK o k) (o3 : ∀ m, o = some m → m ≤ 3) : Sm 202 1 610 k.data := by
  cases t with
  | @i n h => exact (sm_200 (n := 0) h).wk (by decide) (by decide)
  | @t m is l b =>
    have l3 := o3 m rfl
    rw [NestedKey.data, datas_num]
    have := (Sms.all (c := 202) (n := 0) (m := 200) (ds := is.map PyData.int) fun d hd => by
      obtain ⟨i, hi, rfl⟩ := List.mem_map.1 hd
      exact sm_200 (b i hi)).tup
    rw [List.length_map] at this
    have e : is.length * (200 + 1) ≤ 3 * 201 := Nat.mul_le_mul_right _ (by omega)
    exact this.wk (by decide) (by omega)
theorem alike_ints : ∀ {a b : List Int}, a.length = b.length → PySem.W.alikeAll (a.map PyData.int) (b.map PyData.int) = true
  | [], [], _ => by simp [PySem.W.alikeAll]
  | x :: a, y :: b, h => by
    rw [List.map_cons, List.map_cons, PySem.W.alikeAll, alike_ints (by simpa using h)]
    simp [PySem.W.alike]
  | [], _ :: _, h => by simp at h
  | _ :: _, [], h => by simp at h
theorem srt_th {o : Option Nat} {ks : List NestedKey} (nd : ks.Nodup) (h : ∀ k ∈ ks, ThK o k) (hl : ks.length ≤ sizeLine) : SrtOk (ks.map NestedKey.data) := by
  refine ⟨fun d hd d' hd' => ?_, ?_, fun d hd => ?_, by rw [List.length_map]; exact hl⟩
  · obtain ⟨k, hk, rfl⟩ := List.mem_map.1 hd
    obtain ⟨k', hk', rfl⟩ := List.mem_map.1 hd'
    have a := h k hk
    have b := h k' hk'
    cases a with
    | i _ => cases b with
      | i _ => simp [NestedKey.data, PySem.W.alike]
    | t l _ => cases b with
      | t l' _ =>
        rw [NestedKey.data, NestedKey.data, datas_num, datas_num]
        simp only [PySem.W.alike]
        exact alike_ints (by omega)
  · cases o with
    | none =>
      refine .inl (.inr fun d hd => ?_)
      obtain ⟨k, hk, rfl⟩ := List.mem_map.1 hd
      have a := h k hk
      cases a with
      | i _ => exact ⟨(fun e => by cases e), fun xs e => by cases e⟩
    | some m =>
      cases m with
      | zero =>
        right
        rw [List.length_map]
        match ks, nd, h with
        | [], _, _ => simp
        | [_], _, _ => simp
        | a :: b :: r, nd, h =>
          have x := h a (by simp)
          have y := h b (by simp)
          have ex : a = .tup [] := by
            cases x with
            | t l _ => rw [List.eq_nil_of_length_eq_zero l]; rfl
          have ey : b = .tup [] := by
            cases y with
            | t l _ => rw [List.eq_nil_of_length_eq_zero l]; rfl
          rw [ex, ey] at nd
          simp at nd
      | succ m =>
        refine .inl (.inl fun d hd => ?_)
        obtain ⟨k, hk, rfl⟩ := List.mem_map.1 hd
        have a := h k hk
        cases a with
        | @t _ is l _ =>
          rw [NestedKey.data, datas_num]
          cases is with
          | nil => simp at l
          | cons i is => exact ⟨_, _, rfl⟩
  · obtain ⟨k, hk, rfl⟩ := List.mem_map.1 hd
    have a := h k hk
    cases a with
    | i _ => simp [NestedKey.data, PyData.depth]
    | @t _ is l b =>
      rw [NestedKey.data, datas_num]
      have e : ∀ is : List Int, PyData.depthAll (is.map PyData.int) ≤ 1 := fun is => by
        induction is with
        | nil => simp [PyData.depthAll]
        | cons x r ih => simp only [List.map_cons, PyData.depthAll, PyData.depth]; omega
      have := e is
      simp only [PyData.depth]; omega
/-! ### what a sum is -/
structure Fok (c : Nat) (q : Fr) : Prop where
  low : Low q
  den : isI (60 * val q)
  lo : -((c : Int) : Rat) ≤ val q
  hi : val q ≤ ((c : Int) : Rat)
theorem Fok.mono {c d : Nat} {q : Fr} (h : Fok c q) (l : c ≤ d) : Fok d q := by
  have := cast_leN l
  exact ⟨h.low, h.den, by have := h.lo; grind, by have := h.hi; grind⟩
theorem Fok.zero {c : Nat} : Fok c (0, 1) := by
  have v : val (0, 1) = 0 := by unfold val; grind
  have := cast_leN (Nat.zero_le c)
  have z : (((0 : Nat) : Int) : Rat) = 0 := rfl
  exact ⟨⟨by decide, by decide⟩, ⟨0, by rw [v]; grind⟩, by rw [v]; grind, by rw [v]; grind⟩
theorem val_plus {p q : Fr} (hp : 0 < p.2) (hq : 0 < q.2) : val (plusF p q) = val p + val q := by
  unfold plusF
  rw [mk_val (Int.mul_pos hp hq)]
  unfold val
  have n1 : (p.2 : Rat) ≠ 0 := by intro z; rw [← Rat.intCast_zero, Rat.intCast_inj] at z; omega
  have n2 : (q.2 : Rat) ≠ 0 := by intro z; rw [← Rat.intCast_zero, Rat.intCast_inj] at z; omega
  rw [Rat.intCast_add, Rat.intCast_mul, Rat.intCast_mul, Rat.intCast_mul]
  grind
theorem Fok.plus {c d : Nat} {p q : Fr} (h : Fok c p) (k : Fok d q) : Fok (c + d) (plusF p q) := by
  have e := val_plus h.low.pos k.low.pos
  have ce : (((c + d : Nat) : Int) : Rat) = ((c : Int) : Rat) + ((d : Int) : Rat) := by rw [← Rat.intCast_add]; rfl
  refine ⟨by unfold plusF; exact mk_low (Int.mul_pos h.low.pos k.low.pos), ?_, ?_, ?_⟩
  · rw [e, Rat.mul_add]; exact h.den.add k.den
  · rw [e, ce]; have := h.lo; have := k.lo; grind
  · rw [e, ce]; have := h.hi; have := k.hi; grind
theorem Fok.neg {c : Nat} {p : Fr} (h : Fok c p) : Fok c (-p.1, p.2) := by
  have e : val (-p.1, p.2) = - val p := by unfold val; rw [Rat.intCast_neg]; grind
  refine ⟨⟨h.low.pos, by have := h.low.cop; rwa [Int.neg_gcd]⟩, ?_, ?_, ?_⟩
  · rw [e, Rat.mul_neg]; exact h.den.neg
  · rw [e]; have := h.hi; grind
  · rw [e]; have := h.lo; grind
theorem Fok.sz {c : Nat} {q : Fr} (h : Fok c q) (l : c ≤ 1000) : Sz 17 7 q := by
  have h9 := h.mono l
  have w : WhN (2 ^ 16) (((60 : Int) : Rat) * val q) := by
    refine WhN.mono (n := 60000) (whN_abs h.den ?_ ?_) (by decide)
    · have := h9.lo
      have e : (((60000 : Nat) : Int) : Rat) = 60 * (((1000 : Nat) : Int) : Rat) := by decide +kernel
      rw [e]; grind
    · have := h9.hi
      have e : (((60000 : Nat) : Int) : Rat) = 60 * (((1000 : Nat) : Int) : Rat) := by decide +kernel
      rw [e]; grind
  have := (WhN.sz (u := 16) (v := 6) (d := ((60 : Int) : Rat)) (by decide) ⟨60, rfl, by decide⟩ w).sz
  rwa [qf_of h.low] at this
/-! ### the sums -/
def stepG (ss : Sums) (p : NestedKey × Fr) : Sums := stoK ss p.1 (plusF ((lkp ss p.1).getD (0, 1)) p.2)
def sumG (ps : List (NestedKey × Fr)) : Sums := ps.foldl stepG []
structure SumOk (o : Option Nat) (c : Nat) (ss : Sums) : Prop where
  nd : (ss.map (·.1)).Nodup
  th : ∀ e ∈ ss, ThK o e.1
  fr : ∀ e ∈ ss, Fok c e.2
theorem SumOk.get {o : Option Nat} {c : Nat} {ss : Sums} (S : SumOk o c ss) (k : NestedKey) : Fok c ((lkp ss k).getD (0, 1)) := by
  cases e : lkp ss k with
  | none => exact .zero
  | some v => exact S.fr _ (lkp_mem e)
theorem SumOk.step {o : Option Nat} {c d : Nat} {ss : Sums} {p : NestedKey × Fr} (S : SumOk o c ss) (hp : ThK o p.1) (hq : Fok d p.2) : SumOk o (c + d) (stepG ss p) := by
  refine ⟨sto_nd S.nd, fun e he => ?_, fun e he => ?_⟩
  · rcases sto_mem he with z | z
    · exact S.th e z
    · rw [z]; exact hp
  · rcases sto_mem he with z | z
    · exact (S.fr e z).mono (by omega)
    · rw [z]; exact (S.get p.1).plus hq
def gpD (e : NestedKey × Fr) : D := .tup [ofK e.1, frD e.2]
def srtS (ss : Sums) : Sums := ss.mergeSort (PySem.W.dataLe false fun e => e.1.data)
theorem srtD_sums (ss : Sums) : srtD (ss.map fun p => ofK p.1) (ss.map fun p => p.1.data) = (srtS ss).map fun e => ofK e.1 := srtD_map (fun e : NestedKey × Fr => ofK e.1) (fun e => e.1.data) ss
theorem srtS_mem {ss : Sums} {e : NestedKey × Fr} : e ∈ srtS ss ↔ e ∈ ss := List.mem_mergeSort
theorem srtS_len {ss : Sums} : (srtS ss).length = ss.length := List.length_mergeSort _
theorem kvG_keys {ss : Sums} : ((kvG ss).map fun p => ofK p.1) = ss.map (fun p => ofK p.1) ∧ ((kvG ss).map fun p => p.1.data) = ss.map (fun p => p.1.data) := by
  unfold kvG; rw [List.map_map, List.map_map]; exact ⟨rfl, rfl⟩
theorem SumOk.srt {o : Option Nat} {c : Nat} {ss : Sums} (S : SumOk o c ss) (hl : ss.length ≤ sizeLine) : SrtOk (ss.map fun p => p.1.data) := by
  have := srt_th S.nd (fun k hk => by obtain ⟨e, he, rfl⟩ := List.mem_map.1 hk; exact S.th e he) (by rw [List.length_map]; exact hl)
  rwa [List.map_map] at this
def gatL (ss : Sums) : Sums := (srtS ss).filter fun e => decide (e.2 ≠ (0, 1))
theorem low_zero {q : Fr} (h : Low q) : q = (0, 1) ↔ q.1 = 0 := by
  constructor
  · rintro rfl; rfl
  · intro z
    have c := h.cop
    rw [z, Int.gcd_zero_left] at c
    have p := h.pos
    have : q.2 = 1 := by omega
    rw [← z, ← this]
/-! ### its text -/
def shP (e : NestedKey × Fr) : PyData := .tuple [e.1.data, .tuple [.int e.2.1, .int e.2.2]]
def shL (es : Sums) : PyData := .list (es.map shP)
theorem isP_pair {o : Option Nat} {e : NestedKey × Fr} {h : Hh} (t : ThK o e.1) : IsP h (gpD e) (shP e) := by
  unfold gpD shP
  rw [IsP]
  refine ⟨_, rfl, ?_⟩
  rw [IsPs]
  refine ⟨_, _, rfl, isP_th t, ?_⟩
  rw [IsPs]
  refine ⟨_, _, rfl, ?_, rfl⟩
  rw [IsP]
  exact ⟨_, rfl, isPs_ints [e.2.1, e.2.2]⟩
theorem isPs_pairs {o : Option Nat} {h : Hh} : ∀ {es : Sums}, (∀ e ∈ es, ThK o e.1) → IsPs h (es.map gpD) (es.map shP)
  | [], _ => rfl
  | e :: es, t => by
    rw [List.map_cons, List.map_cons, IsPs]
    exact ⟨_, _, rfl, isP_pair (t e (by simp)), isPs_pairs fun x hx => t x (List.mem_cons_of_mem _ hx)⟩
theorem sm_pair {o : Option Nat} {c : Nat} {e : NestedKey × Fr} (t : ThK o e.1) (o3 : ∀ m, o = some m → m ≤ 3) (f : Fok c e.2) (l : c ≤ 1000) : Sm 202 2 1020 (shP e) := by
  have s := f.sz l
  have a : Sm 202 0 200 (.int e.2.1) := sm_200 (s.top.mono (by decide))
  have b : Sm 202 0 200 (.int e.2.2) := sm_200 (s.bot.mono (by decide))
  have fr : Sm 202 1 402 (.tuple [.int e.2.1, .int e.2.2]) := (Sms.cons (k := 201) a (Sms.cons (k := 0) b Sms.nil)).tup
  exact (Sms.cons (k := 403) (sm_th t o3) (Sms.cons (k := 0) fr Sms.nil)).tup.wk (by decide) (by decide)
theorem sm_list {o : Option Nat} {c : Nat} {es : Sums} (t : ∀ e ∈ es, ThK o e.1) (o3 : ∀ m, o = some m → m ≤ 3) (f : ∀ e ∈ es, Fok c e.2) (l : c ≤ 1000) (hl : es.length ≤ 63) : (shL es).showable = true ∧ (shL es).hasDict = false ∧ (shL es).depth ≤ 60 ∧ (shL es).shown.length ≤ sizeLine := by
  have := (Sms.all (c := 202) (n := 2) (m := 1020) (ds := es.map shP) fun d hd => by
    obtain ⟨e, he, rfl⟩ := List.mem_map.1 hd
    exact sm_pair (t e he) o3 (f e he) l).lst
  rw [List.length_map] at this
  have w : es.length * (1020 + 1) ≤ 63 * 1021 := Nat.mul_le_mul_right _ hl
  refine ⟨this.sh, this.nd, Nat.le_trans this.dp (by decide), ?_⟩
  have h2 := PyData.shown_le 202 (by decide) (shL es) (PyData.leavesShort_of_canLay0 202 (shL es) this.ly this.it)
  have h3 := this.wt
  have e : (PyData.list (es.map shP)).weight = (shL es).weight := rfl
  rw [e] at h3
  exact Nat.le_trans (by omega : _ ≤ 16000000) (by decide)
section
variable {h : Hh} {Q : QD} {o : Option Nat} {c : Nat} {es : Sums}
theorem rpr_pairs (t : ∀ e ∈ es, ThK o e.1) (o3 : ∀ m, o = some m → m ≤ 3) (f : ∀ e ∈ es, Fok c e.2) (l : c ≤ 1000) (hl : es.length ≤ 63) : pxW .rpr [.lst (es.map gpD)] h Q = Q (.str (shL es).shown) h :=
  q_rpr rfl (by unfold shL; rw [IsP]; exact ⟨_, rfl, isPs_pairs t⟩) (sm_list t o3 f l hl)
theorem rpr_pairsR {p : Addr} (rd : rdL h p = some (es.map gpD)) (t : ∀ e ∈ es, ThK o e.1) (o3 : ∀ m, o = some m → m ≤ 3) (f : ∀ e ∈ es, Fok c e.2) (l : c ≤ 1000) (hl : es.length ≤ 63) : pxW .rpr [.ref p] h Q = Q (.str (shL es).shown) h :=
  q_rpr rfl (by unfold shL; rw [IsP]; exact ⟨_, rd, isPs_pairs t⟩) (sm_list t o3 f l hl)
end
end Lt

set_option maxHeartbeats 0
namespace Xk04
open PySem PySem.Spec PyProof.Rows L2 Lt
def b_divisor_1 : Lt.S := (.seq (.ret (.v 0)) .skip)
def b_divisor_2 : Lt.E := (.cm .gt (.v 1) (.kI 0))
def b_divisor_3 : Lt.S := (.seq (.par 0 1 (.v 1) (.op .mod (.v 0) (.v 1))) .skip)
def b_divisor : Lt.S := (.seq (.as 0 (.bi .abs (.cons (.v 0) .nil))) (.seq (.as 1 (.bi .abs (.cons (.v 1) .nil))) (.seq (.wh b_divisor_2 b_divisor_3) (.seq (.fg [1]) b_divisor_1))))
def f_divisor : Fd := ⟨"divisor", 2, ["one", "other"], b_divisor, true⟩
def b_fraction : Lt.S := (.seq (.ite (.cm .eq (.v 1) (.kI 0)) (.seq (.rs "NoNumber") .skip) .skip) (.seq (.ite (.cm .lt (.v 1) (.kI 0)) (.seq (.as 0 (.neg (.v 0))) (.seq (.as 1 (.neg (.v 1))) .skip)) .skip) (.seq (.as 2 (.call "divisor" (.cons (.v 0) (.cons (.v 1) .nil)))) (.seq (.ret (.tp (.cons (.op .div (.v 0) (.v 2)) (.cons (.op .div (.v 1) (.v 2)) .nil)))) .skip))))
def f_fraction : Fd := ⟨"fraction", 2, ["top", "bottom", "most"], b_fraction, true⟩
def b_plus : Lt.S := (.seq (.ret (.call "fraction" (.cons (.op .add (.op .mul (.ix (.v 0) (.kI 0)) (.ix (.v 1) (.kI 1))) (.op .mul (.ix (.v 1) (.kI 0)) (.ix (.v 0) (.kI 1)))) (.cons (.op .mul (.ix (.v 0) (.kI 1)) (.ix (.v 1) (.kI 1))) .nil)))) .skip)
def f_plus : Fd := ⟨"plus", 2, ["one", "other"], b_plus, true⟩
def b_gathered_1 : Lt.E := (.cm .ne (.ix (.v 1) (.v 2)) (.tp (.cons (.kI 0) (.cons (.kI 1) .nil))))
def b_gathered_2 : Lt.E := (.tp (.cons (.v 2) (.cons (.ix (.v 1) (.v 2)) .nil)))
def b_gathered_3 : Lt.S := (.seq (.fz 1) (.seq (.ret (.lc .val (.cons (.fz (.px .srt (.cons (.v 1) .nil))) .nil) (.nm 2) [("thing", 2)] b_gathered_1 b_gathered_2)) .skip))
def b_gathered_4 : Lt.S := (.seq (.asI (.v 1) (.v 2) (.call "plus" (.cons (.mt .get (.v 1) (.cons (.v 2) (.cons (.tp (.cons (.kI 0) (.cons (.kI 1) .nil))) .nil))) (.cons (.v 3) .nil)))) (.seq (.fg [3]) .skip))
def b_gathered : Lt.S := (.seq (.as 1 (.px .dnew .nil)) (.seq (.fg [3]) (.seq (.fr .val (.cons (.v 0) .nil) (.tp [2, 3]) b_gathered_4) (.seq (.fg [3]) b_gathered_3))))
def f_gathered : Fd := ⟨"gathered", 1, ["pairs", "sums", "thing", "share"], b_gathered, false⟩
def b_law_cell : Lt.S := (.seq (.ite (.cm .lt (.v 1) (.bi .len (.cons (.v 0) .nil))) (.seq (.ret (.ix (.v 0) (.v 1))) .skip) .skip) (.seq (.ret (.kI 0)) .skip))
def f_law_cell : Fd := ⟨"_law_cell", 2, ["_law_script", "_law_k"], b_law_cell, true⟩
def b_law_mix : Lt.S := (.seq (.ret (.op .mod (.op .mod (.op .add (.op .mul (.v 0) (.kI 48271)) (.kI 11)) (.v 1)) (.v 2))) .skip)
def f_law_mix : Fd := ⟨"_law_mix", 3, ["_law_cell_here", "_law_prime", "_law_many"], b_law_mix, true⟩
def b_law_common_1 : Lt.S := (.seq (.ret (.v 0)) .skip)
def b_law_common_2 : Lt.E := (.cm .gt (.v 1) (.kI 0))
def b_law_common_3 : Lt.S := (.seq (.par 0 1 (.v 1) (.op .mod (.v 0) (.v 1))) .skip)
def b_law_common : Lt.S := (.seq (.as 0 (.bi .abs (.cons (.v 0) .nil))) (.seq (.as 1 (.bi .abs (.cons (.v 1) .nil))) (.seq (.wh b_law_common_2 b_law_common_3) (.seq (.fg [1]) b_law_common_1))))
def f_law_common : Fd := ⟨"_law_common", 2, ["_law_one", "_law_other"], b_law_common, true⟩
def b_law_lowest : Lt.S := (.seq (.as 2 (.call "_law_common" (.cons (.v 0) (.cons (.v 1) .nil)))) (.seq (.ret (.tp (.cons (.op .div (.v 0) (.v 2)) (.cons (.op .div (.v 1) (.v 2)) .nil)))) .skip))
def f_law_lowest : Fd := ⟨"_law_lowest", 2, ["_law_top", "_law_bottom", "_law_most"], b_law_lowest, true⟩
def b_law_thing_1 : Lt.S := (.seq (.ite (.and (.cons (.cm .eq (.v 1) (.kI 2)) (.cons (.cm .gt (.v 2) (.kI 0)) .nil))) (.seq (.as 3 (.op .add (.fz (.sl (.v 3) .kN (.neg (.kI 1)))) (.tp (.cons (.op .mod (.v 0) (.op .pow (.kI 10) (.kI 60))) .nil)))) .skip) .skip) (.seq (.ret (.v 3)) .skip))
def b_law_thing_2 : Lt.E := (.call "_law_mix" (.cons (.op .add (.v 0) (.op .mul (.v 4) (.v 4))) (.cons (.kI 10037) (.cons (.kI 3) .nil))))
def b_law_thing : Lt.S := (.seq (.ite (.cm .eq (.v 1) (.kI 0)) (.seq (.ret (.op .sub (.op .mod (.v 0) (.kI 7)) (.kI 3))) .skip) .skip) (.seq (.ite (.cm .eq (.v 1) (.kI 1)) (.seq (.ret (.op .add (.op .sub (.op .mod (.v 0) (.op .sub (.op .mul (.kI 2) (.op .pow (.kI 10) (.kI 60))) (.kI 1))) (.op .pow (.kI 10) (.kI 60))) (.kI 1))) .skip) .skip) (.seq (.as 3 (.bi .tuple (.cons (.fz (.lc .range1 (.cons (.v 2) .nil) (.nm 4) [("_law_k", 4)] (.kB true) b_law_thing_2)) .nil))) b_law_thing_1)))
def f_law_thing : Fd := ⟨"_law_thing", 3, ["_law_cell_here", "_law_way", "_law_size", "_law_thing_here", "_law_k"], b_law_thing, true⟩
def b_law_pairs_1 : Lt.S := (.seq (.ite (.and (.cons (.cm .gt (.bi .len (.cons (.v 3) .nil)) (.kI 0)) (.cons (.cm .eq (.call "_law_mix" (.cons (.call "_law_cell" (.cons (.v 0) (.cons (.kI 2) .nil))) (.cons (.kI 10069) (.cons (.kI 2) .nil)))) (.kI 0)) .nil))) (.seq (.as 6 (.ix (.ix (.v 3) (.call "_law_mix" (.cons (.call "_law_cell" (.cons (.v 0) (.cons (.kI 3) .nil))) (.cons (.kI 10079) (.cons (.bi .len (.cons (.v 3) .nil)) .nil))))) (.kI 0))) (.seq (.asT [7, 8] (.ix (.call "_law_sums" (.cons (.v 3) .nil)) (.v 6))) (.seq (.ex (.mt .append (.v 3) (.cons (.tp (.cons (.v 6) (.cons (.tp (.cons (.neg (.v 7)) (.cons (.v 8) .nil))) .nil))) .nil))) .skip))) .skip) (.seq (.ret (.fz (.v 3))) .skip))
def b_law_pairs_2 : Lt.S := (.seq (.as 5 (.call "_law_lowest" (.cons (.op .sub (.call "_law_mix" (.cons (.v 4) (.cons (.kI 10061) (.cons (.kI 13) .nil)))) (.kI 6)) (.cons (.op .add (.kI 1) (.call "_law_mix" (.cons (.v 4) (.cons (.kI 10067) (.cons (.kI 5) .nil))))) .nil)))) (.seq (.ex (.mt .append (.v 3) (.cons (.tp (.cons (.call "_law_thing" (.cons (.v 4) (.cons (.v 1) (.cons (.v 2) .nil)))) (.cons (.v 5) .nil))) .nil))) (.seq (.fg [4, 5]) .skip)))
def b_law_pairs : Lt.S := (.seq (.as 1 (.call "_law_mix" (.cons (.call "_law_cell" (.cons (.v 0) (.cons (.kI 0) .nil))) (.cons (.kI 10007) (.cons (.kI 5) .nil))))) (.seq (.as 2 (.call "_law_mix" (.cons (.call "_law_cell" (.cons (.v 0) (.cons (.kI 1) .nil))) (.cons (.kI 10009) (.cons (.kI 4) .nil))))) (.seq (.as 3 (.ls .nil)) (.seq (.fg [4, 5]) (.seq (.fr .val (.cons (.fz (.sl (.v 0) .kN (.kI 62))) .nil) (.nm 4) b_law_pairs_2) (.seq (.fg [4, 5]) b_law_pairs_1))))))
def f_law_pairs : Fd := ⟨"_law_pairs", 1, ["_law_script", "_law_way", "_law_size", "_law_pairs_here", "_law_cell_here", "_law_share", "_law_thing_here", "_law_top", "_law_bottom"], b_law_pairs, true⟩
def b_law_sums_1 : Lt.S := (.seq (.ret (.fz (.v 1))) .skip)
def b_law_sums_2 : Lt.S := (.seq (.asT [4, 5] (.mt .get (.v 1) (.cons (.v 2) (.cons (.tp (.cons (.kI 0) (.cons (.kI 1) .nil))) .nil)))) (.seq (.asI (.v 1) (.v 2) (.call "_law_lowest" (.cons (.op .add (.op .mul (.v 4) (.ix (.v 3) (.kI 1))) (.op .mul (.ix (.v 3) (.kI 0)) (.v 5))) (.cons (.op .mul (.v 5) (.ix (.v 3) (.kI 1))) .nil)))) (.seq (.fg [2, 3, 4, 5]) .skip)))
def b_law_sums : Lt.S := (.seq (.as 1 (.px .dnew .nil)) (.seq (.fg [2, 3, 4, 5]) (.seq (.fr .val (.cons (.v 0) .nil) (.tp [2, 3]) b_law_sums_2) (.seq (.fg [2, 3, 4, 5]) b_law_sums_1))))
def f_law_sums : Fd := ⟨"_law_sums", 1, ["_law_pairs_here", "_law_sums_here", "_law_thing_here", "_law_share", "_law_top", "_law_bottom"], b_law_sums, true⟩
def b_law_right_1 : Lt.S := (.seq (.ret (.and (.cons (.isT (.v 0) .list) (.cons (.cm .eq (.px .rpr (.cons (.v 0) .nil)) (.px .rpr (.cons (.v 3) .nil))) .nil)))) .skip)
def b_law_right_2 : Lt.E := (.cm .ne (.ix (.ix (.v 2) (.v 4)) (.kI 0)) (.kI 0))
def b_law_right_3 : Lt.E := (.tp (.cons (.v 4) (.cons (.ix (.v 2) (.v 4)) .nil)))
def b_law_right : Lt.S := (.seq (.as 2 (.call "_law_sums" (.cons (.v 1) .nil))) (.seq (.as 3 (.lc .val (.cons (.fz (.px .srt (.cons (.v 2) .nil))) .nil) (.nm 4) [("_law_thing_here", 4)] b_law_right_2 b_law_right_3)) (.seq (.fz 3) b_law_right_1)))
def f_law_right : Fd := ⟨"_law_right", 2, ["_law_found", "_law_pairs_here", "_law_sums_here", "_law_due", "_law_thing_here"], b_law_right, true⟩
def b_law : Lt.S := (.seq (.as 1 (.call "_law_pairs" (.cons (.v 0) .nil))) (.seq (.as 2 (.fz (.bi .list (.cons (.v 1) .nil)))) (.seq (.as 3 (.call "gathered" (.cons (.v 2) .nil))) (.seq (.ite (.or (.cons (.not (.call "_law_right" (.cons (.v 3) (.cons (.v 1) .nil)))) (.cons (.cm .ne (.v 2) (.v 1)) .nil))) (.seq (.ret (.kB false)) .skip) .skip) (.seq (.ex (.mt .append (.v 3) (.cons (.tp (.cons (.kI 0) (.cons (.tp (.cons (.kI 1) (.cons (.kI 1) .nil))) .nil))) .nil))) (.seq (.ex (.mt .reverse (.v 3) .nil)) (.seq (.ret (.call "_law_right" (.cons (.call "gathered" (.cons (.v 2) .nil)) (.cons (.v 1) .nil)))) .skip)))))))
def f_law : Fd := ⟨"law", 1, ["_law_script", "_law_pairs_here", "_law_handed", "_law_found"], b_law, true⟩
def L : List Fd := [f_divisor, f_fraction, f_plus, f_gathered, f_law_cell, f_law_mix, f_law_common, f_law_lowest, f_law_thing, f_law_pairs, f_law_sums, f_law_right, f_law]
def Ex0 : Ex := ⟨["NoNumber"], fun x c => [].contains (x, c)⟩
def G : Gn := ⟨fun x => none, Ex0⟩
theorem u_divisor {j : Nat} {ds : List D} {h : Hh} {R : QD} {Y : XD} : callL L G (j + 1) "divisor" ds h R Y = (ds.length = 2 ∧ wS ⟨callL L G j, G.glob, G.ex⟩ b_divisor (startE 2 ds) h (edOf true h R Y)) := rfl
theorem u_fraction {j : Nat} {ds : List D} {h : Hh} {R : QD} {Y : XD} : callL L G (j + 1) "fraction" ds h R Y = (ds.length = 2 ∧ wS ⟨callL L G j, G.glob, G.ex⟩ b_fraction (startE 3 ds) h (edOf true h R Y)) := rfl
theorem u_plus {j : Nat} {ds : List D} {h : Hh} {R : QD} {Y : XD} : callL L G (j + 1) "plus" ds h R Y = (ds.length = 2 ∧ wS ⟨callL L G j, G.glob, G.ex⟩ b_plus (startE 2 ds) h (edOf true h R Y)) := rfl
theorem u_gathered {j : Nat} {ds : List D} {h : Hh} {R : QD} {Y : XD} : callL L G (j + 1) "gathered" ds h R Y = (ds.length = 1 ∧ wS ⟨callL L G j, G.glob, G.ex⟩ b_gathered (startE 4 ds) h (edOf false h R Y)) := rfl
theorem u_law_cell {j : Nat} {ds : List D} {h : Hh} {R : QD} {Y : XD} : callL L G (j + 1) "_law_cell" ds h R Y = (ds.length = 2 ∧ wS ⟨callL L G j, G.glob, G.ex⟩ b_law_cell (startE 2 ds) h (edOf true h R Y)) := rfl
theorem u_law_mix {j : Nat} {ds : List D} {h : Hh} {R : QD} {Y : XD} : callL L G (j + 1) "_law_mix" ds h R Y = (ds.length = 3 ∧ wS ⟨callL L G j, G.glob, G.ex⟩ b_law_mix (startE 3 ds) h (edOf true h R Y)) := rfl
theorem u_law_common {j : Nat} {ds : List D} {h : Hh} {R : QD} {Y : XD} : callL L G (j + 1) "_law_common" ds h R Y = (ds.length = 2 ∧ wS ⟨callL L G j, G.glob, G.ex⟩ b_law_common (startE 2 ds) h (edOf true h R Y)) := rfl
theorem u_law_lowest {j : Nat} {ds : List D} {h : Hh} {R : QD} {Y : XD} : callL L G (j + 1) "_law_lowest" ds h R Y = (ds.length = 2 ∧ wS ⟨callL L G j, G.glob, G.ex⟩ b_law_lowest (startE 3 ds) h (edOf true h R Y)) := rfl
theorem u_law_thing {j : Nat} {ds : List D} {h : Hh} {R : QD} {Y : XD} : callL L G (j + 1) "_law_thing" ds h R Y = (ds.length = 3 ∧ wS ⟨callL L G j, G.glob, G.ex⟩ b_law_thing (startE 5 ds) h (edOf true h R Y)) := rfl
theorem u_law_pairs {j : Nat} {ds : List D} {h : Hh} {R : QD} {Y : XD} : callL L G (j + 1) "_law_pairs" ds h R Y = (ds.length = 1 ∧ wS ⟨callL L G j, G.glob, G.ex⟩ b_law_pairs (startE 9 ds) h (edOf true h R Y)) := rfl
theorem u_law_sums {j : Nat} {ds : List D} {h : Hh} {R : QD} {Y : XD} : callL L G (j + 1) "_law_sums" ds h R Y = (ds.length = 1 ∧ wS ⟨callL L G j, G.glob, G.ex⟩ b_law_sums (startE 6 ds) h (edOf true h R Y)) := rfl
theorem u_law_right {j : Nat} {ds : List D} {h : Hh} {R : QD} {Y : XD} : callL L G (j + 1) "_law_right" ds h R Y = (ds.length = 2 ∧ wS ⟨callL L G j, G.glob, G.ex⟩ b_law_right (startE 5 ds) h (edOf true h R Y)) := rfl
theorem u_law {j : Nat} {ds : List D} {h : Hh} {R : QD} {Y : XD} : callL L G (j + 1) "law" ds h R Y = (ds.length = 1 ∧ wS ⟨callL L G j, G.glob, G.ex⟩ b_law (startE 4 ds) h (edOf true h R Y)) := rfl
theorem x_facts : G.ex.excs.contains "NoNumber" = true := by decide +kernel
end Xk04

set_option maxHeartbeats 1000000
namespace Xk04
open PySem PySem.Spec PyProof.Rows L2 Lt
section
variable {j lv : Nat} {h : Hh} {R : QD} {Y : XD}
theorem c_divisor {a b : Int} (hv : 1 ≤ lv) : callL L G lv "divisor" [.int a, .int b] h R Y = R (.int (Int.gcd a b)) h := by
  obtain ⟨j, rfl⟩ : ∃ j, lv = j + 1 := ⟨lv - 1, by omega⟩
  rw [u_divisor]
  simp -implicitDefEqProofs only [b_divisor, abs_if, wS, up_up, exists_eq', Lt.hE, Lt.hA, Lt.hN, Lt.hS, wipeE, Nat.le_add_left, Nat.reduceLeDiff, Lt.wE, wA, wAn, wOr, optW_some, getE, setE, setsE, edOf, startE, new_frz, new_frzN, all_free, q_eqD, q_neD, eqW_dct, frz_non, frz_bl, frz_int, frz_str, frz_tup, frz_lst, wrL_up, rdL_up, era_up, gc_up, atI_0, atI_1, atI_2, List.map_cons, List.map_nil, List.length_cons, List.length_nil, List.length_map, List.replicate, List.cons_append, List.nil_append, List.append_nil, Nat.sub_self, decide_eq_true_eq, decide_eq_false_iff_not, Bool.not_eq_true', Bool.not_eq_true, Bool.not_true, Bool.not_false, not_true_eq_false, not_false_eq_true, if_true, if_false, ite_true, ite_false, true_and, and_true, eq_self, reduceIte, Bool.false_eq_true, gc_self, up_same, Option.some.injEq, reduceCtorEq, List.getElem?_map, Option.map_some, Option.map_none, Nat.zero_add, Nat.reduceAdd, Nat.reduceSub, q_addI, q_addS, q_addT, q_addL, q_addR, q_subI, q_mulI, q_mulR, q_mulL, q_mulT, q_divI, q_modI, q_powI, q_neg, q_lt, q_le, q_gt, q_ge, q_eqI, q_neI, q_eqB, q_eqS, q_eqN, q_eqT, q_eqL, q_eqR, q_neB, q_neS, q_neN, q_neT, q_neL, q_neR, q_in, q_notin, q_ixT, q_ixL, q_ixS, q_ixR, q_slT, q_slL, q_slR, q_slS, q_intW, q_blW, q_lenT, q_lenS, q_lenR, q_lenL, q_int1I, q_int1B, q_abs, q_min2, q_max2, q_sumR, q_sumL, q_sumT, q_anyR, q_anyL, q_allR, q_allL, q_listR, q_listL, q_listT, q_tupR, q_tupL, q_tupT, q_tAp, q_tEx, q_tPop, q_tRev, q_tCl, q_mAp, q_mEx, q_sqT, q_sqL, q_sqR, q_lrev, q_mPop, q_mRev, q_mCl, q_isN1, q_isN2, q_isN3, q_isN4, q_isN5, q_isN6, q_isN7, q_isN8, sel_some, sel_none, wrN_upD, rdL_upD, wrL_upD, wrN_upL, frz_dct, q_ixD, q_lenD, q_rdD, q_rdR, q_rdL, q_inR, q_inD, q_tGet, q_get2, q_get3, q_dnew, q_done, q_sumV, q_srtK, q_srtL, q_dcp, q_ktI, q_ktN, q_ty1, q_ty2, q_ty3, q_ty4, q_ty5, q_ty6, q_ty7, q_ty8, q_ty9, q_ty10, q_ty11, q_ty12, q_ty13, q_ty14, q_ty15, q_ty16, q_ty17, q_ty18, q_ty19, q_ty20, q_ty21, q_ty22, q_ty23, q_ty24, q_ty25, q_ty26, q_itR, q_itT, q_itL, q_rg1, q_rg2, q_rg3, q_enR, q_enL, q_zpR, q_enT, q_zpT, q_tIx, q_tIxR, q_tIn, q_mIx, q_mIxR, q_mIn, q_zpL, q_zpF, q_rvL, q_rvT, q_tgN, q_tgT, q_frS, q_asR, q_lsL, q_lsR, q_pN, q_pV, q_pI, q_pO, q_pG, q_pX, q_pB]
  refine (wh_gcd2 (A := fun g => R (.int g) h) (fun g => ?_) _ _).trans rfl
  simp -implicitDefEqProofs only [b_divisor_1, wS, up_up, exists_eq', Lt.hE, Lt.hA, Lt.hN, Lt.hS, wipeE, Nat.le_add_left, Nat.reduceLeDiff, Lt.wE, wA, wAn, wOr, optW_some, getE, setE, setsE, edOf, startE, new_frz, new_frzN, all_free, q_eqD, q_neD, eqW_dct, frz_non, frz_bl, frz_int, frz_str, frz_tup, frz_lst, wrL_up, rdL_up, era_up, gc_up, atI_0, atI_1, atI_2, List.map_cons, List.map_nil, List.length_cons, List.length_nil, List.length_map, List.replicate, List.cons_append, List.nil_append, List.append_nil, Nat.sub_self, decide_eq_true_eq, decide_eq_false_iff_not, Bool.not_eq_true', Bool.not_eq_true, Bool.not_true, Bool.not_false, not_true_eq_false, not_false_eq_true, if_true, if_false, ite_true, ite_false, true_and, and_true, eq_self, reduceIte, Bool.false_eq_true, gc_self, up_same, Option.some.injEq, reduceCtorEq, List.getElem?_map, Option.map_some, Option.map_none, Nat.zero_add, Nat.reduceAdd, Nat.reduceSub, q_addI, q_addS, q_addT, q_addL, q_addR, q_subI, q_mulI, q_mulR, q_mulL, q_mulT, q_divI, q_modI, q_powI, q_neg, q_lt, q_le, q_gt, q_ge, q_eqI, q_neI, q_eqB, q_eqS, q_eqN, q_eqT, q_eqL, q_eqR, q_neB, q_neS, q_neN, q_neT, q_neL, q_neR, q_in, q_notin, q_ixT, q_ixL, q_ixS, q_ixR, q_slT, q_slL, q_slR, q_slS, q_intW, q_blW, q_lenT, q_lenS, q_lenR, q_lenL, q_int1I, q_int1B, q_abs, q_min2, q_max2, q_sumR, q_sumL, q_sumT, q_anyR, q_anyL, q_allR, q_allL, q_listR, q_listL, q_listT, q_tupR, q_tupL, q_tupT, q_tAp, q_tEx, q_tPop, q_tRev, q_tCl, q_mAp, q_mEx, q_sqT, q_sqL, q_sqR, q_lrev, q_mPop, q_mRev, q_mCl, q_isN1, q_isN2, q_isN3, q_isN4, q_isN5, q_isN6, q_isN7, q_isN8, sel_some, sel_none, wrN_upD, rdL_upD, wrL_upD, wrN_upL, frz_dct, q_ixD, q_lenD, q_rdD, q_rdR, q_rdL, q_inR, q_inD, q_tGet, q_get2, q_get3, q_dnew, q_done, q_sumV, q_srtK, q_srtL, q_dcp, q_ktI, q_ktN, q_ty1, q_ty2, q_ty3, q_ty4, q_ty5, q_ty6, q_ty7, q_ty8, q_ty9, q_ty10, q_ty11, q_ty12, q_ty13, q_ty14, q_ty15, q_ty16, q_ty17, q_ty18, q_ty19, q_ty20, q_ty21, q_ty22, q_ty23, q_ty24, q_ty25, q_ty26, q_itR, q_itT, q_itL, q_rg1, q_rg2, q_rg3, q_enR, q_enL, q_zpR, q_enT, q_zpT, q_tIx, q_tIxR, q_tIn, q_mIx, q_mIxR, q_mIn, q_zpL, q_zpF, q_rvL, q_rvT, q_tgN, q_tgT, q_frS, q_asR, q_lsL, q_lsR, q_pN, q_pV, q_pI, q_pO, q_pG, q_pX, q_pB]
theorem c_fraction {t b : Int} (hb : 0 < b) (h9 : B 9000 b) (hv : 2 ≤ lv) : callL L G lv "fraction" [.int t, .int b] h R Y = R (frD (mk t b)) h := by
  obtain ⟨j, rfl⟩ : ∃ j, lv = j + 2 := ⟨lv - 2, by omega⟩
  rw [u_fraction]
  have e0 : ¬ b = 0 := by omega
  have e1 : ¬ b < 0 := by omega
  have e2 : ¬ (Int.gcd t b : Int) = 0 := by have := gcd_pos (t := t) hb; omega
  have e3 : ∀ x, Builtin.divisionGoesByPylong x (Int.gcd t b) = false := fun x => (h9.gcd hb).noPy
  have e4 : 2 ≤ sizeLine := by decide
  simp -implicitDefEqProofs only [b_fraction, e0, e1, c_divisor, e2, e3, e4, ne_eq, not_false_eq_true, fdiv_gcd hb, frD, mk, wS, up_up, exists_eq', Lt.hE, Lt.hA, Lt.hN, Lt.hS, wipeE, Nat.le_add_left, Nat.reduceLeDiff, Lt.wE, wA, wAn, wOr, optW_some, getE, setE, setsE, edOf, startE, new_frz, new_frzN, all_free, q_eqD, q_neD, eqW_dct, frz_non, frz_bl, frz_int, frz_str, frz_tup, frz_lst, wrL_up, rdL_up, era_up, gc_up, atI_0, atI_1, atI_2, List.map_cons, List.map_nil, List.length_cons, List.length_nil, List.length_map, List.replicate, List.cons_append, List.nil_append, List.append_nil, Nat.sub_self, decide_eq_true_eq, decide_eq_false_iff_not, Bool.not_eq_true', Bool.not_eq_true, Bool.not_true, Bool.not_false, not_true_eq_false, not_false_eq_true, if_true, if_false, ite_true, ite_false, true_and, and_true, eq_self, reduceIte, Bool.false_eq_true, gc_self, up_same, Option.some.injEq, reduceCtorEq, List.getElem?_map, Option.map_some, Option.map_none, Nat.zero_add, Nat.reduceAdd, Nat.reduceSub, q_addI, q_addS, q_addT, q_addL, q_addR, q_subI, q_mulI, q_mulR, q_mulL, q_mulT, q_divI, q_modI, q_powI, q_neg, q_lt, q_le, q_gt, q_ge, q_eqI, q_neI, q_eqB, q_eqS, q_eqN, q_eqT, q_eqL, q_eqR, q_neB, q_neS, q_neN, q_neT, q_neL, q_neR, q_in, q_notin, q_ixT, q_ixL, q_ixS, q_ixR, q_slT, q_slL, q_slR, q_slS, q_intW, q_blW, q_lenT, q_lenS, q_lenR, q_lenL, q_int1I, q_int1B, q_abs, q_min2, q_max2, q_sumR, q_sumL, q_sumT, q_anyR, q_anyL, q_allR, q_allL, q_listR, q_listL, q_listT, q_tupR, q_tupL, q_tupT, q_tAp, q_tEx, q_tPop, q_tRev, q_tCl, q_mAp, q_mEx, q_sqT, q_sqL, q_sqR, q_lrev, q_mPop, q_mRev, q_mCl, q_isN1, q_isN2, q_isN3, q_isN4, q_isN5, q_isN6, q_isN7, q_isN8, sel_some, sel_none, wrN_upD, rdL_upD, wrL_upD, wrN_upL, frz_dct, q_ixD, q_lenD, q_rdD, q_rdR, q_rdL, q_inR, q_inD, q_tGet, q_get2, q_get3, q_dnew, q_done, q_sumV, q_srtK, q_srtL, q_dcp, q_ktI, q_ktN, q_ty1, q_ty2, q_ty3, q_ty4, q_ty5, q_ty6, q_ty7, q_ty8, q_ty9, q_ty10, q_ty11, q_ty12, q_ty13, q_ty14, q_ty15, q_ty16, q_ty17, q_ty18, q_ty19, q_ty20, q_ty21, q_ty22, q_ty23, q_ty24, q_ty25, q_ty26, q_itR, q_itT, q_itL, q_rg1, q_rg2, q_rg3, q_enR, q_enL, q_zpR, q_enT, q_zpT, q_tIx, q_tIxR, q_tIn, q_mIx, q_mIxR, q_mIn, q_zpL, q_zpF, q_rvL, q_rvT, q_tgN, q_tgT, q_frS, q_asR, q_lsL, q_lsR, q_pN, q_pV, q_pI, q_pO, q_pG, q_pX, q_pB]
theorem c_plus {n m k l : Nat} {a b : Fr} (ha : Sz n m a) (hb : Sz k l b) (l1 : m + l ≤ 9000) (l2 : n + l ≤ 900000) (l3 : k + m ≤ 900000) (hv : 3 ≤ lv) : callL L G lv "plus" [frD a, frD b] h R Y = R (frD (plusF a b)) h := by
  obtain ⟨j, rfl⟩ : ∃ j, lv = j + 3 := ⟨lv - 3, by omega⟩
  rw [u_plus]
  have m1 := ha.top.mulOk hb.bot (by omega)
  have m2 := hb.top.mulOk ha.bot (by omega)
  have m3 := ha.bot.mulOk hb.bot (by omega)
  simp -implicitDefEqProofs only [b_plus, frD, m1, m2, m3, c_fraction (Int.mul_pos ha.pos hb.pos) ((ha.bot.mul hb.bot).mono l1), wS, up_up, exists_eq', Lt.hE, Lt.hA, Lt.hN, Lt.hS, wipeE, Nat.le_add_left, Nat.reduceLeDiff, Lt.wE, wA, wAn, wOr, optW_some, getE, setE, setsE, edOf, startE, new_frz, new_frzN, all_free, q_eqD, q_neD, eqW_dct, frz_non, frz_bl, frz_int, frz_str, frz_tup, frz_lst, wrL_up, rdL_up, era_up, gc_up, atI_0, atI_1, atI_2, List.map_cons, List.map_nil, List.length_cons, List.length_nil, List.length_map, List.replicate, List.cons_append, List.nil_append, List.append_nil, Nat.sub_self, decide_eq_true_eq, decide_eq_false_iff_not, Bool.not_eq_true', Bool.not_eq_true, Bool.not_true, Bool.not_false, not_true_eq_false, not_false_eq_true, if_true, if_false, ite_true, ite_false, true_and, and_true, eq_self, reduceIte, Bool.false_eq_true, gc_self, up_same, Option.some.injEq, reduceCtorEq, List.getElem?_map, Option.map_some, Option.map_none, Nat.zero_add, Nat.reduceAdd, Nat.reduceSub, q_addI, q_addS, q_addT, q_addL, q_addR, q_subI, q_mulI, q_mulR, q_mulL, q_mulT, q_divI, q_modI, q_powI, q_neg, q_lt, q_le, q_gt, q_ge, q_eqI, q_neI, q_eqB, q_eqS, q_eqN, q_eqT, q_eqL, q_eqR, q_neB, q_neS, q_neN, q_neT, q_neL, q_neR, q_in, q_notin, q_ixT, q_ixL, q_ixS, q_ixR, q_slT, q_slL, q_slR, q_slS, q_intW, q_blW, q_lenT, q_lenS, q_lenR, q_lenL, q_int1I, q_int1B, q_abs, q_min2, q_max2, q_sumR, q_sumL, q_sumT, q_anyR, q_anyL, q_allR, q_allL, q_listR, q_listL, q_listT, q_tupR, q_tupL, q_tupT, q_tAp, q_tEx, q_tPop, q_tRev, q_tCl, q_mAp, q_mEx, q_sqT, q_sqL, q_sqR, q_lrev, q_mPop, q_mRev, q_mCl, q_isN1, q_isN2, q_isN3, q_isN4, q_isN5, q_isN6, q_isN7, q_isN8, sel_some, sel_none, wrN_upD, rdL_upD, wrL_upD, wrN_upL, frz_dct, q_ixD, q_lenD, q_rdD, q_rdR, q_rdL, q_inR, q_inD, q_tGet, q_get2, q_get3, q_dnew, q_done, q_sumV, q_srtK, q_srtL, q_dcp, q_ktI, q_ktN, q_ty1, q_ty2, q_ty3, q_ty4, q_ty5, q_ty6, q_ty7, q_ty8, q_ty9, q_ty10, q_ty11, q_ty12, q_ty13, q_ty14, q_ty15, q_ty16, q_ty17, q_ty18, q_ty19, q_ty20, q_ty21, q_ty22, q_ty23, q_ty24, q_ty25, q_ty26, q_itR, q_itT, q_itL, q_rg1, q_rg2, q_rg3, q_enR, q_enL, q_zpR, q_enT, q_zpT, q_tIx, q_tIxR, q_tIn, q_mIx, q_mIxR, q_mIn, q_zpL, q_zpF, q_rvL, q_rvT, q_tgN, q_tgT, q_frS, q_asR, q_lsL, q_lsR, q_pN, q_pV, q_pI, q_pO, q_pG, q_pX, q_pB]
  rw [plusF]
theorem c_law_common {a b : Int} (hv : 1 ≤ lv) : callL L G lv "_law_common" [.int a, .int b] h R Y = R (.int (Int.gcd a b)) h := by
  obtain ⟨j, rfl⟩ : ∃ j, lv = j + 1 := ⟨lv - 1, by omega⟩
  rw [u_law_common]
  simp -implicitDefEqProofs only [b_law_common, abs_if, wS, up_up, exists_eq', Lt.hE, Lt.hA, Lt.hN, Lt.hS, wipeE, Nat.le_add_left, Nat.reduceLeDiff, Lt.wE, wA, wAn, wOr, optW_some, getE, setE, setsE, edOf, startE, new_frz, new_frzN, all_free, q_eqD, q_neD, eqW_dct, frz_non, frz_bl, frz_int, frz_str, frz_tup, frz_lst, wrL_up, rdL_up, era_up, gc_up, atI_0, atI_1, atI_2, List.map_cons, List.map_nil, List.length_cons, List.length_nil, List.length_map, List.replicate, List.cons_append, List.nil_append, List.append_nil, Nat.sub_self, decide_eq_true_eq, decide_eq_false_iff_not, Bool.not_eq_true', Bool.not_eq_true, Bool.not_true, Bool.not_false, not_true_eq_false, not_false_eq_true, if_true, if_false, ite_true, ite_false, true_and, and_true, eq_self, reduceIte, Bool.false_eq_true, gc_self, up_same, Option.some.injEq, reduceCtorEq, List.getElem?_map, Option.map_some, Option.map_none, Nat.zero_add, Nat.reduceAdd, Nat.reduceSub, q_addI, q_addS, q_addT, q_addL, q_addR, q_subI, q_mulI, q_mulR, q_mulL, q_mulT, q_divI, q_modI, q_powI, q_neg, q_lt, q_le, q_gt, q_ge, q_eqI, q_neI, q_eqB, q_eqS, q_eqN, q_eqT, q_eqL, q_eqR, q_neB, q_neS, q_neN, q_neT, q_neL, q_neR, q_in, q_notin, q_ixT, q_ixL, q_ixS, q_ixR, q_slT, q_slL, q_slR, q_slS, q_intW, q_blW, q_lenT, q_lenS, q_lenR, q_lenL, q_int1I, q_int1B, q_abs, q_min2, q_max2, q_sumR, q_sumL, q_sumT, q_anyR, q_anyL, q_allR, q_allL, q_listR, q_listL, q_listT, q_tupR, q_tupL, q_tupT, q_tAp, q_tEx, q_tPop, q_tRev, q_tCl, q_mAp, q_mEx, q_sqT, q_sqL, q_sqR, q_lrev, q_mPop, q_mRev, q_mCl, q_isN1, q_isN2, q_isN3, q_isN4, q_isN5, q_isN6, q_isN7, q_isN8, sel_some, sel_none, wrN_upD, rdL_upD, wrL_upD, wrN_upL, frz_dct, q_ixD, q_lenD, q_rdD, q_rdR, q_rdL, q_inR, q_inD, q_tGet, q_get2, q_get3, q_dnew, q_done, q_sumV, q_srtK, q_srtL, q_dcp, q_ktI, q_ktN, q_ty1, q_ty2, q_ty3, q_ty4, q_ty5, q_ty6, q_ty7, q_ty8, q_ty9, q_ty10, q_ty11, q_ty12, q_ty13, q_ty14, q_ty15, q_ty16, q_ty17, q_ty18, q_ty19, q_ty20, q_ty21, q_ty22, q_ty23, q_ty24, q_ty25, q_ty26, q_itR, q_itT, q_itL, q_rg1, q_rg2, q_rg3, q_enR, q_enL, q_zpR, q_enT, q_zpT, q_tIx, q_tIxR, q_tIn, q_mIx, q_mIxR, q_mIn, q_zpL, q_zpF, q_rvL, q_rvT, q_tgN, q_tgT, q_frS, q_asR, q_lsL, q_lsR, q_pN, q_pV, q_pI, q_pO, q_pG, q_pX, q_pB]
  refine (wh_gcd2 (A := fun g => R (.int g) h) (fun g => ?_) _ _).trans rfl
  simp -implicitDefEqProofs only [b_law_common_1, wS, up_up, exists_eq', Lt.hE, Lt.hA, Lt.hN, Lt.hS, wipeE, Nat.le_add_left, Nat.reduceLeDiff, Lt.wE, wA, wAn, wOr, optW_some, getE, setE, setsE, edOf, startE, new_frz, new_frzN, all_free, q_eqD, q_neD, eqW_dct, frz_non, frz_bl, frz_int, frz_str, frz_tup, frz_lst, wrL_up, rdL_up, era_up, gc_up, atI_0, atI_1, atI_2, List.map_cons, List.map_nil, List.length_cons, List.length_nil, List.length_map, List.replicate, List.cons_append, List.nil_append, List.append_nil, Nat.sub_self, decide_eq_true_eq, decide_eq_false_iff_not, Bool.not_eq_true', Bool.not_eq_true, Bool.not_true, Bool.not_false, not_true_eq_false, not_false_eq_true, if_true, if_false, ite_true, ite_false, true_and, and_true, eq_self, reduceIte, Bool.false_eq_true, gc_self, up_same, Option.some.injEq, reduceCtorEq, List.getElem?_map, Option.map_some, Option.map_none, Nat.zero_add, Nat.reduceAdd, Nat.reduceSub, q_addI, q_addS, q_addT, q_addL, q_addR, q_subI, q_mulI, q_mulR, q_mulL, q_mulT, q_divI, q_modI, q_powI, q_neg, q_lt, q_le, q_gt, q_ge, q_eqI, q_neI, q_eqB, q_eqS, q_eqN, q_eqT, q_eqL, q_eqR, q_neB, q_neS, q_neN, q_neT, q_neL, q_neR, q_in, q_notin, q_ixT, q_ixL, q_ixS, q_ixR, q_slT, q_slL, q_slR, q_slS, q_intW, q_blW, q_lenT, q_lenS, q_lenR, q_lenL, q_int1I, q_int1B, q_abs, q_min2, q_max2, q_sumR, q_sumL, q_sumT, q_anyR, q_anyL, q_allR, q_allL, q_listR, q_listL, q_listT, q_tupR, q_tupL, q_tupT, q_tAp, q_tEx, q_tPop, q_tRev, q_tCl, q_mAp, q_mEx, q_sqT, q_sqL, q_sqR, q_lrev, q_mPop, q_mRev, q_mCl, q_isN1, q_isN2, q_isN3, q_isN4, q_isN5, q_isN6, q_isN7, q_isN8, sel_some, sel_none, wrN_upD, rdL_upD, wrL_upD, wrN_upL, frz_dct, q_ixD, q_lenD, q_rdD, q_rdR, q_rdL, q_inR, q_inD, q_tGet, q_get2, q_get3, q_dnew, q_done, q_sumV, q_srtK, q_srtL, q_dcp, q_ktI, q_ktN, q_ty1, q_ty2, q_ty3, q_ty4, q_ty5, q_ty6, q_ty7, q_ty8, q_ty9, q_ty10, q_ty11, q_ty12, q_ty13, q_ty14, q_ty15, q_ty16, q_ty17, q_ty18, q_ty19, q_ty20, q_ty21, q_ty22, q_ty23, q_ty24, q_ty25, q_ty26, q_itR, q_itT, q_itL, q_rg1, q_rg2, q_rg3, q_enR, q_enL, q_zpR, q_enT, q_zpT, q_tIx, q_tIxR, q_tIn, q_mIx, q_mIxR, q_mIn, q_zpL, q_zpF, q_rvL, q_rvT, q_tgN, q_tgT, q_frS, q_asR, q_lsL, q_lsR, q_pN, q_pV, q_pI, q_pO, q_pG, q_pX, q_pB]
theorem c_law_mix {c p m : Int} (hp : 0 < p) (hm : 0 < m) (hv : 1 ≤ lv) : callL L G lv "_law_mix" [.int c, .int p, .int m] h R Y = R (.int (mixF c p m)) h := by
  obtain ⟨j, rfl⟩ : ∃ j, lv = j + 1 := ⟨lv - 1, by omega⟩
  rw [u_law_mix]
  have e1 : IntMulOk c 48271 := mulOk_r (by decide)
  have e2 : ¬ p = 0 := by omega
  have e3 : ¬ m = 0 := by omega
  simp -implicitDefEqProofs only [b_law_mix, e1, e2, e3, ne_eq, not_false_eq_true, fmod_pos (Int.le_of_lt hp), fmod_pos (Int.le_of_lt hm), mixF, wS, up_up, exists_eq', Lt.hE, Lt.hA, Lt.hN, Lt.hS, wipeE, Nat.le_add_left, Nat.reduceLeDiff, Lt.wE, wA, wAn, wOr, optW_some, getE, setE, setsE, edOf, startE, new_frz, new_frzN, all_free, q_eqD, q_neD, eqW_dct, frz_non, frz_bl, frz_int, frz_str, frz_tup, frz_lst, wrL_up, rdL_up, era_up, gc_up, atI_0, atI_1, atI_2, List.map_cons, List.map_nil, List.length_cons, List.length_nil, List.length_map, List.replicate, List.cons_append, List.nil_append, List.append_nil, Nat.sub_self, decide_eq_true_eq, decide_eq_false_iff_not, Bool.not_eq_true', Bool.not_eq_true, Bool.not_true, Bool.not_false, not_true_eq_false, not_false_eq_true, if_true, if_false, ite_true, ite_false, true_and, and_true, eq_self, reduceIte, Bool.false_eq_true, gc_self, up_same, Option.some.injEq, reduceCtorEq, List.getElem?_map, Option.map_some, Option.map_none, Nat.zero_add, Nat.reduceAdd, Nat.reduceSub, q_addI, q_addS, q_addT, q_addL, q_addR, q_subI, q_mulI, q_mulR, q_mulL, q_mulT, q_divI, q_modI, q_powI, q_neg, q_lt, q_le, q_gt, q_ge, q_eqI, q_neI, q_eqB, q_eqS, q_eqN, q_eqT, q_eqL, q_eqR, q_neB, q_neS, q_neN, q_neT, q_neL, q_neR, q_in, q_notin, q_ixT, q_ixL, q_ixS, q_ixR, q_slT, q_slL, q_slR, q_slS, q_intW, q_blW, q_lenT, q_lenS, q_lenR, q_lenL, q_int1I, q_int1B, q_abs, q_min2, q_max2, q_sumR, q_sumL, q_sumT, q_anyR, q_anyL, q_allR, q_allL, q_listR, q_listL, q_listT, q_tupR, q_tupL, q_tupT, q_tAp, q_tEx, q_tPop, q_tRev, q_tCl, q_mAp, q_mEx, q_sqT, q_sqL, q_sqR, q_lrev, q_mPop, q_mRev, q_mCl, q_isN1, q_isN2, q_isN3, q_isN4, q_isN5, q_isN6, q_isN7, q_isN8, sel_some, sel_none, wrN_upD, rdL_upD, wrL_upD, wrN_upL, frz_dct, q_ixD, q_lenD, q_rdD, q_rdR, q_rdL, q_inR, q_inD, q_tGet, q_get2, q_get3, q_dnew, q_done, q_sumV, q_srtK, q_srtL, q_dcp, q_ktI, q_ktN, q_ty1, q_ty2, q_ty3, q_ty4, q_ty5, q_ty6, q_ty7, q_ty8, q_ty9, q_ty10, q_ty11, q_ty12, q_ty13, q_ty14, q_ty15, q_ty16, q_ty17, q_ty18, q_ty19, q_ty20, q_ty21, q_ty22, q_ty23, q_ty24, q_ty25, q_ty26, q_itR, q_itT, q_itL, q_rg1, q_rg2, q_rg3, q_enR, q_enL, q_zpR, q_enT, q_zpT, q_tIx, q_tIxR, q_tIn, q_mIx, q_mIxR, q_mIn, q_zpL, q_zpF, q_rvL, q_rvT, q_tgN, q_tgT, q_frS, q_asR, q_lsL, q_lsR, q_pN, q_pV, q_pI, q_pO, q_pG, q_pX, q_pB]
theorem c_law_cell {ns : List Int} {k : Nat} (hv : 1 ≤ lv) : callL L G lv "_law_cell" [.lst (ns.map D.int), .int k] h R Y = R (.int (ns[k]?.getD 0)) h := by
  obtain ⟨j, rfl⟩ : ∃ j, lv = j + 1 := ⟨lv - 1, by omega⟩
  rw [u_law_cell]
  simp -implicitDefEqProofs only [b_law_cell, atI_map, atI_N, wS, up_up, exists_eq', Lt.hE, Lt.hA, Lt.hN, Lt.hS, wipeE, Nat.le_add_left, Nat.reduceLeDiff, Lt.wE, wA, wAn, wOr, optW_some, getE, setE, setsE, edOf, startE, new_frz, new_frzN, all_free, q_eqD, q_neD, eqW_dct, frz_non, frz_bl, frz_int, frz_str, frz_tup, frz_lst, wrL_up, rdL_up, era_up, gc_up, atI_0, atI_1, atI_2, List.map_cons, List.map_nil, List.length_cons, List.length_nil, List.length_map, List.replicate, List.cons_append, List.nil_append, List.append_nil, Nat.sub_self, decide_eq_true_eq, decide_eq_false_iff_not, Bool.not_eq_true', Bool.not_eq_true, Bool.not_true, Bool.not_false, not_true_eq_false, not_false_eq_true, if_true, if_false, ite_true, ite_false, true_and, and_true, eq_self, reduceIte, Bool.false_eq_true, gc_self, up_same, Option.some.injEq, reduceCtorEq, List.getElem?_map, Option.map_some, Option.map_none, Nat.zero_add, Nat.reduceAdd, Nat.reduceSub, q_addI, q_addS, q_addT, q_addL, q_addR, q_subI, q_mulI, q_mulR, q_mulL, q_mulT, q_divI, q_modI, q_powI, q_neg, q_lt, q_le, q_gt, q_ge, q_eqI, q_neI, q_eqB, q_eqS, q_eqN, q_eqT, q_eqL, q_eqR, q_neB, q_neS, q_neN, q_neT, q_neL, q_neR, q_in, q_notin, q_ixT, q_ixL, q_ixS, q_ixR, q_slT, q_slL, q_slR, q_slS, q_intW, q_blW, q_lenT, q_lenS, q_lenR, q_lenL, q_int1I, q_int1B, q_abs, q_min2, q_max2, q_sumR, q_sumL, q_sumT, q_anyR, q_anyL, q_allR, q_allL, q_listR, q_listL, q_listT, q_tupR, q_tupL, q_tupT, q_tAp, q_tEx, q_tPop, q_tRev, q_tCl, q_mAp, q_mEx, q_sqT, q_sqL, q_sqR, q_lrev, q_mPop, q_mRev, q_mCl, q_isN1, q_isN2, q_isN3, q_isN4, q_isN5, q_isN6, q_isN7, q_isN8, sel_some, sel_none, wrN_upD, rdL_upD, wrL_upD, wrN_upL, frz_dct, q_ixD, q_lenD, q_rdD, q_rdR, q_rdL, q_inR, q_inD, q_tGet, q_get2, q_get3, q_dnew, q_done, q_sumV, q_srtK, q_srtL, q_dcp, q_ktI, q_ktN, q_ty1, q_ty2, q_ty3, q_ty4, q_ty5, q_ty6, q_ty7, q_ty8, q_ty9, q_ty10, q_ty11, q_ty12, q_ty13, q_ty14, q_ty15, q_ty16, q_ty17, q_ty18, q_ty19, q_ty20, q_ty21, q_ty22, q_ty23, q_ty24, q_ty25, q_ty26, q_itR, q_itT, q_itL, q_rg1, q_rg2, q_rg3, q_enR, q_enL, q_zpR, q_enT, q_zpT, q_tIx, q_tIxR, q_tIn, q_mIx, q_mIxR, q_mIn, q_zpL, q_zpF, q_rvL, q_rvT, q_tgN, q_tgT, q_frS, q_asR, q_lsL, q_lsR, q_pN, q_pV, q_pI, q_pO, q_pG, q_pX, q_pB]
  by_cases e : k < ns.length
  · have e1 : (k : Int) < ns.length := by omega
    simp [e1, e, optW_some]
  · have e1 : ¬ (k : Int) < ns.length := by omega
    simp [e1, e, optW_some, gc_self]
abbrev cA (ns : List Int) (k : Nat) : Int := ns[k]?.getD 0
theorem c_law_lowest {t b : Int} (hb : 0 < b) (h9 : B 9000 b) (hv : 2 ≤ lv) : callL L G lv "_law_lowest" [.int t, .int b] h R Y = R (frD (mk t b)) h := by
  obtain ⟨j, rfl⟩ : ∃ j, lv = j + 2 := ⟨lv - 2, by omega⟩
  rw [u_law_lowest]
  have e2 : ¬ (Int.gcd t b : Int) = 0 := by have := gcd_pos (t := t) hb; omega
  have e3 : ∀ x, Builtin.divisionGoesByPylong x (Int.gcd t b) = false := fun x => (h9.gcd hb).noPy
  have e4 : 2 ≤ sizeLine := by decide
  simp -implicitDefEqProofs only [b_law_lowest, c_law_common (a := t) (b := b) (by omega : 1 ≤ j + 1), e2, e3, e4, fdiv_gcd hb, gc_self, ne_eq, not_false_eq_true, wS, up_up, exists_eq', Lt.hE, Lt.hA, Lt.hN, Lt.hS, wipeE, Nat.le_add_left, Nat.reduceLeDiff, Lt.wE, wA, wAn, wOr, optW_some, getE, setE, setsE, edOf, startE, new_frz, new_frzN, all_free, q_eqD, q_neD, eqW_dct, frz_non, frz_bl, frz_int, frz_str, frz_tup, frz_lst, wrL_up, rdL_up, era_up, gc_up, atI_0, atI_1, atI_2, List.map_cons, List.map_nil, List.length_cons, List.length_nil, List.length_map, List.replicate, List.cons_append, List.nil_append, List.append_nil, Nat.sub_self, decide_eq_true_eq, decide_eq_false_iff_not, Bool.not_eq_true', Bool.not_eq_true, Bool.not_true, Bool.not_false, not_true_eq_false, not_false_eq_true, if_true, if_false, ite_true, ite_false, true_and, and_true, eq_self, reduceIte, Bool.false_eq_true, gc_self, up_same, Option.some.injEq, reduceCtorEq, List.getElem?_map, Option.map_some, Option.map_none, Nat.zero_add, Nat.reduceAdd, Nat.reduceSub, q_addI, q_addS, q_addT, q_addL, q_addR, q_subI, q_mulI, q_mulR, q_mulL, q_mulT, q_divI, q_modI, q_powI, q_neg, q_lt, q_le, q_gt, q_ge, q_eqI, q_neI, q_eqB, q_eqS, q_eqN, q_eqT, q_eqL, q_eqR, q_neB, q_neS, q_neN, q_neT, q_neL, q_neR, q_in, q_notin, q_ixT, q_ixL, q_ixS, q_ixR, q_slT, q_slL, q_slR, q_slS, q_intW, q_blW, q_lenT, q_lenS, q_lenR, q_lenL, q_int1I, q_int1B, q_abs, q_min2, q_max2, q_sumR, q_sumL, q_sumT, q_anyR, q_anyL, q_allR, q_allL, q_listR, q_listL, q_listT, q_tupR, q_tupL, q_tupT, q_tAp, q_tEx, q_tPop, q_tRev, q_tCl, q_mAp, q_mEx, q_sqT, q_sqL, q_sqR, q_lrev, q_mPop, q_mRev, q_mCl, q_isN1, q_isN2, q_isN3, q_isN4, q_isN5, q_isN6, q_isN7, q_isN8, sel_some, sel_none, wrN_upD, rdL_upD, wrL_upD, wrN_upL, frz_dct, q_ixD, q_lenD, q_rdD, q_rdR, q_rdL, q_inR, q_inD, q_tGet, q_get2, q_get3, q_dnew, q_done, q_sumV, q_srtK, q_srtL, q_dcp, q_ktI, q_ktN, q_ty1, q_ty2, q_ty3, q_ty4, q_ty5, q_ty6, q_ty7, q_ty8, q_ty9, q_ty10, q_ty11, q_ty12, q_ty13, q_ty14, q_ty15, q_ty16, q_ty17, q_ty18, q_ty19, q_ty20, q_ty21, q_ty22, q_ty23, q_ty24, q_ty25, q_ty26, q_itR, q_itT, q_itL, q_rg1, q_rg2, q_rg3, q_enR, q_enL, q_zpR, q_enT, q_zpT, q_tIx, q_tIxR, q_tIn, q_mIx, q_mIxR, q_mIn, q_zpL, q_zpF, q_rvL, q_rvT, q_tgN, q_tgT, q_frS, q_asR, q_lsL, q_lsR, q_pN, q_pV, q_pI, q_pO, q_pG, q_pX, q_pB]
  simp only [frD, mk]
def PsOk (o : Option Nat) : Nat → List (NestedKey × Fr) → Prop
  | c, [] => c ≤ 1000
  | c, p :: ps => ThK o p.1 ∧ ∃ d, Fok d p.2 ∧ PsOk o (c + d) ps
theorem PsOk.le {o : Option Nat} : ∀ {ps : List (NestedKey × Fr)} {c : Nat}, PsOk o c ps → c ≤ 1000
  | [], _, h => h
  | _ :: _, _, ⟨_, _, _, h⟩ => by have := h.le; omega
theorem get_kvG {ss : Sums} {k : NestedKey} : (lkp (kvG ss) k).getD (.tup [.int 0, .int 1]) = frD ((lkp ss k).getD (0, 1)) := by
  rw [lkp_kvG]; cases lkp ss k <;> rfl
theorem kvG_len {ss : Sums} : (kvG ss).length = ss.length := by unfold kvG; rw [List.length_map]
theorem q_srtN {d : D} {kvs : List (NestedKey × D)} {h : Hh} {Q : QD} (e : rdN h d = some kvs) : pxW .srt [d] h Q = (SrtOk (kvs.map fun p => p.1.data) ∧ ∀ p, h p = none → Q (.ref p) (up h p (.lst (srtD (kvs.map fun p => ofK p.1) (kvs.map fun p => p.1.data))))) := by
  simp only [pxW, e]
abbrev dG (ss : Sums) : D := .dct ((kvG ss).map (·.1)) ((kvG ss).map (·.2))
theorem fm_gp (p : NestedKey × Fr → Bool) : ∀ l : Sums, (l.filterMap fun e => if p e = true then some (gpD e) else none) = (l.filter p).map gpD
  | [] => rfl
  | x :: l => by cases c : p x <;> simp [c, fm_gp p l]
theorem c_gathered {o : Option Nat} {ps : List (NestedKey × Fr)} (P : PsOk o 0 ps) (hl : ps.length ≤ 63) (hR : ∀ q, SumOk o 1000 (sumG ps) → (sumG ps).length ≤ 63 → h q = none → R (.ref q) (up h q (.lst ((gatL (sumG ps)).map gpD)))) (hv : 4 ≤ lv) :
    callL L G lv "gathered" [.lst (ps.map gpD)] h R Y := by
  obtain ⟨j, rfl⟩ : ∃ j, lv = j + 4 := ⟨lv - 4, by omega⟩
  rw [u_gathered]
  have s2 : 2 ≤ sizeLine := by decide
  simp -implicitDefEqProofs only [b_gathered, wS, up_up, exists_eq', Lt.hE, Lt.hA, Lt.hN, Lt.hS, wipeE, Nat.le_add_left, Nat.reduceLeDiff, Lt.wE, wA, wAn, wOr, optW_some, getE, setE, setsE, edOf, startE, new_frz, new_frzN, all_free, q_eqD, q_neD, eqW_dct, frz_non, frz_bl, frz_int, frz_str, frz_tup, frz_lst, wrL_up, rdL_up, era_up, gc_up, atI_0, atI_1, atI_2, List.map_cons, List.map_nil, List.length_cons, List.length_nil, List.length_map, List.replicate, List.cons_append, List.nil_append, List.append_nil, Nat.sub_self, decide_eq_true_eq, decide_eq_false_iff_not, Bool.not_eq_true', Bool.not_eq_true, Bool.not_true, Bool.not_false, not_true_eq_false, not_false_eq_true, if_true, if_false, ite_true, ite_false, true_and, and_true, eq_self, reduceIte, Bool.false_eq_true, gc_self, up_same, Option.some.injEq, reduceCtorEq, List.getElem?_map, Option.map_some, Option.map_none, Nat.zero_add, Nat.reduceAdd, Nat.reduceSub, q_addI, q_addS, q_addT, q_addL, q_addR, q_subI, q_mulI, q_mulR, q_mulL, q_mulT, q_divI, q_modI, q_powI, q_neg, q_lt, q_le, q_gt, q_ge, q_eqI, q_neI, q_eqB, q_eqS, q_eqN, q_eqT, q_eqL, q_eqR, q_neB, q_neS, q_neN, q_neT, q_neL, q_neR, q_in, q_notin, q_ixT, q_ixL, q_ixS, q_ixR, q_slT, q_slL, q_slR, q_slS, q_intW, q_blW, q_lenT, q_lenS, q_lenR, q_lenL, q_int1I, q_int1B, q_abs, q_min2, q_max2, q_sumR, q_sumL, q_sumT, q_anyR, q_anyL, q_allR, q_allL, q_listR, q_listL, q_listT, q_tupR, q_tupL, q_tupT, q_tAp, q_tEx, q_tPop, q_tRev, q_tCl, q_mAp, q_mEx, q_sqT, q_sqL, q_sqR, q_lrev, q_mPop, q_mRev, q_mCl, q_isN1, q_isN2, q_isN3, q_isN4, q_isN5, q_isN6, q_isN7, q_isN8, sel_some, sel_none, wrN_upD, rdL_upD, wrL_upD, wrN_upL, frz_dct, q_ixD, q_lenD, q_rdD, q_rdR, q_rdL, q_inR, q_inD, q_tGet, q_get2, q_get3, q_dnew, q_done, q_sumV, q_srtK, q_srtL, q_dcp, q_ktI, q_ktN, q_ty1, q_ty2, q_ty3, q_ty4, q_ty5, q_ty6, q_ty7, q_ty8, q_ty9, q_ty10, q_ty11, q_ty12, q_ty13, q_ty14, q_ty15, q_ty16, q_ty17, q_ty18, q_ty19, q_ty20, q_ty21, q_ty22, q_ty23, q_ty24, q_ty25, q_ty26, q_itR, q_itT, q_itL, q_rg1, q_rg2, q_rg3, q_enR, q_enL, q_zpR, q_enT, q_zpT, q_tIx, q_tIxR, q_tIn, q_mIx, q_mIxR, q_mIn, q_zpL, q_zpF, q_rvL, q_rvT, q_tgN, q_tgT, q_frS, q_asR, q_lsL, q_lsR, q_pN, q_pV, q_pI, q_pO, q_pG, q_pX, q_pB]
  intro p hp
  refine fr_go (σ := Sums × Option D) (fun s => [some (.lst (ps.map gpD)), some (.ref p), s.2, none]) (fun s => up h p (.dN (kvG s.1))) gpD (fun as s => ∃ c, SumOk o c s.1 ∧ PsOk o c as ∧ s.1.length + as.length ≤ 63 ∧ as.foldl stepG s.1 = sumG ps) (fun s I => ?nil9) (fun e as s I W hW => ?turn9) ps ([], none) ⟨0, ⟨by simp, by simp, by simp⟩, P, by simpa using hl, rfl⟩
  case nil9 =>
    obtain ⟨ss, so⟩ := s
    obtain ⟨c, S, c9, l9, ef⟩ := I
    simp only at S l9 ef
    have ef : ss = sumG ps := ef
    have c9 : c ≤ 1000 := c9
    have l9 : ss.length ≤ 63 := by simpa using l9
    have S9 : SumOk o 1000 ss := ⟨S.nd, S.th, fun e he => (S.fr e he).mono c9⟩
    rw [← ef] at hR
    simp -implicitDefEqProofs only [b_gathered_3, frz_upN, era_up hp, q_srtN (rdN_dct (kvs := kvG ss) (h := h)), new_frz, wS, up_up, exists_eq', Lt.hE, Lt.hA, Lt.hN, Lt.hS, wipeE, Nat.le_add_left, Nat.reduceLeDiff, Lt.wE, wA, wAn, wOr, optW_some, getE, setE, setsE, edOf, startE, new_frz, new_frzN, all_free, q_eqD, q_neD, eqW_dct, frz_non, frz_bl, frz_int, frz_str, frz_tup, frz_lst, wrL_up, rdL_up, era_up, gc_up, atI_0, atI_1, atI_2, List.map_cons, List.map_nil, List.length_cons, List.length_nil, List.length_map, List.replicate, List.cons_append, List.nil_append, List.append_nil, Nat.sub_self, decide_eq_true_eq, decide_eq_false_iff_not, Bool.not_eq_true', Bool.not_eq_true, Bool.not_true, Bool.not_false, not_true_eq_false, not_false_eq_true, if_true, if_false, ite_true, ite_false, true_and, and_true, eq_self, reduceIte, Bool.false_eq_true, gc_self, up_same, Option.some.injEq, reduceCtorEq, List.getElem?_map, Option.map_some, Option.map_none, Nat.zero_add, Nat.reduceAdd, Nat.reduceSub, q_addI, q_addS, q_addT, q_addL, q_addR, q_subI, q_mulI, q_mulR, q_mulL, q_mulT, q_divI, q_modI, q_powI, q_neg, q_lt, q_le, q_gt, q_ge, q_eqI, q_neI, q_eqB, q_eqS, q_eqN, q_eqT, q_eqL, q_eqR, q_neB, q_neS, q_neN, q_neT, q_neL, q_neR, q_in, q_notin, q_ixT, q_ixL, q_ixS, q_ixR, q_slT, q_slL, q_slR, q_slS, q_intW, q_blW, q_lenT, q_lenS, q_lenR, q_lenL, q_int1I, q_int1B, q_abs, q_min2, q_max2, q_sumR, q_sumL, q_sumT, q_anyR, q_anyL, q_allR, q_allL, q_listR, q_listL, q_listT, q_tupR, q_tupL, q_tupT, q_tAp, q_tEx, q_tPop, q_tRev, q_tCl, q_mAp, q_mEx, q_sqT, q_sqL, q_sqR, q_lrev, q_mPop, q_mRev, q_mCl, q_isN1, q_isN2, q_isN3, q_isN4, q_isN5, q_isN6, q_isN7, q_isN8, sel_some, sel_none, wrN_upD, rdL_upD, wrL_upD, wrN_upL, frz_dct, q_ixD, q_lenD, q_rdD, q_rdR, q_rdL, q_inR, q_inD, q_tGet, q_get2, q_get3, q_dnew, q_done, q_sumV, q_srtK, q_srtL, q_dcp, q_ktI, q_ktN, q_ty1, q_ty2, q_ty3, q_ty4, q_ty5, q_ty6, q_ty7, q_ty8, q_ty9, q_ty10, q_ty11, q_ty12, q_ty13, q_ty14, q_ty15, q_ty16, q_ty17, q_ty18, q_ty19, q_ty20, q_ty21, q_ty22, q_ty23, q_ty24, q_ty25, q_ty26, q_itR, q_itT, q_itL, q_rg1, q_rg2, q_rg3, q_enR, q_enL, q_zpR, q_enT, q_zpT, q_tIx, q_tIxR, q_tIn, q_mIx, q_mIxR, q_mIn, q_zpL, q_zpF, q_rvL, q_rvT, q_tgN, q_tgT, q_frS, q_asR, q_lsL, q_lsR, q_pN, q_pV, q_pI, q_pO, q_pG, q_pX, q_pB]
    rw [kvG_keys.1, kvG_keys.2, srtD_sums]
    refine ⟨S.srt (Nat.le_trans l9 (by decide)), ?_⟩
    rw [lc_all (fun e : NestedKey × Fr => ofK e.1) (fun e => e ∈ ss) (fun e => if decide (e.2 ≠ (0, 1)) = true then some (gpD e) else none) (fun e he h' N' Y' => ?step) (srtS ss) (fun e he => srtS_mem.1 he) (by rw [srtS_len]; exact Nat.le_trans l9 (by decide))]
    case step =>
      have lk : lkp (kvG ss) e.1 = some (frD e.2) := by rw [lkp_kvG, lkp_of S.nd he]; rfl
      have e01 : ∀ {K : Bool → Prop} {h : Hh}, eqW (frD e.2) (.tup [.int 0, .int 1]) h K = K (decide (e.2 = (0, 1))) := eqW_fr (b := (0, 1))
      simp -implicitDefEqProofs only [b_gathered_1, b_gathered_2, wipeE, rdN_dct, zip_fs, keyT_th (S.th e he), lk, e01, s2, wS, up_up, exists_eq', Lt.hE, Lt.hA, Lt.hN, Lt.hS, wipeE, Nat.le_add_left, Nat.reduceLeDiff, Lt.wE, wA, wAn, wOr, optW_some, getE, setE, setsE, edOf, startE, new_frz, new_frzN, all_free, q_eqD, q_neD, eqW_dct, frz_non, frz_bl, frz_int, frz_str, frz_tup, frz_lst, wrL_up, rdL_up, era_up, gc_up, atI_0, atI_1, atI_2, List.map_cons, List.map_nil, List.length_cons, List.length_nil, List.length_map, List.replicate, List.cons_append, List.nil_append, List.append_nil, Nat.sub_self, decide_eq_true_eq, decide_eq_false_iff_not, Bool.not_eq_true', Bool.not_eq_true, Bool.not_true, Bool.not_false, not_true_eq_false, not_false_eq_true, if_true, if_false, ite_true, ite_false, true_and, and_true, eq_self, reduceIte, Bool.false_eq_true, gc_self, up_same, Option.some.injEq, reduceCtorEq, List.getElem?_map, Option.map_some, Option.map_none, Nat.zero_add, Nat.reduceAdd, Nat.reduceSub, q_addI, q_addS, q_addT, q_addL, q_addR, q_subI, q_mulI, q_mulR, q_mulL, q_mulT, q_divI, q_modI, q_powI, q_neg, q_lt, q_le, q_gt, q_ge, q_eqI, q_neI, q_eqB, q_eqS, q_eqN, q_eqT, q_eqL, q_eqR, q_neB, q_neS, q_neN, q_neT, q_neL, q_neR, q_in, q_notin, q_ixT, q_ixL, q_ixS, q_ixR, q_slT, q_slL, q_slR, q_slS, q_intW, q_blW, q_lenT, q_lenS, q_lenR, q_lenL, q_int1I, q_int1B, q_abs, q_min2, q_max2, q_sumR, q_sumL, q_sumT, q_anyR, q_anyL, q_allR, q_allL, q_listR, q_listL, q_listT, q_tupR, q_tupL, q_tupT, q_tAp, q_tEx, q_tPop, q_tRev, q_tCl, q_mAp, q_mEx, q_sqT, q_sqL, q_sqR, q_lrev, q_mPop, q_mRev, q_mCl, q_isN1, q_isN2, q_isN3, q_isN4, q_isN5, q_isN6, q_isN7, q_isN8, sel_some, sel_none, wrN_upD, rdL_upD, wrL_upD, wrN_upL, frz_dct, q_ixD, q_lenD, q_rdD, q_rdR, q_rdL, q_inR, q_inD, q_tGet, q_get2, q_get3, q_dnew, q_done, q_sumV, q_srtK, q_srtL, q_dcp, q_ktI, q_ktN, q_ty1, q_ty2, q_ty3, q_ty4, q_ty5, q_ty6, q_ty7, q_ty8, q_ty9, q_ty10, q_ty11, q_ty12, q_ty13, q_ty14, q_ty15, q_ty16, q_ty17, q_ty18, q_ty19, q_ty20, q_ty21, q_ty22, q_ty23, q_ty24, q_ty25, q_ty26, q_itR, q_itT, q_itL, q_rg1, q_rg2, q_rg3, q_enR, q_enL, q_zpR, q_enT, q_zpT, q_tIx, q_tIxR, q_tIn, q_mIx, q_mIxR, q_mIn, q_zpL, q_zpF, q_rvL, q_rvT, q_tgN, q_tgT, q_frS, q_asR, q_lsL, q_lsR, q_pN, q_pV, q_pI, q_pO, q_pG, q_pX, q_pB]
      by_cases z : e.2 = (0, 1)
      · simp [z]
      · simp [z]; rfl
    rw [fm_gp (fun e => decide (e.2 ≠ (0, 1)))]
    intro q hq
    exact hR q S9 l9 hq
  case turn9 =>
    obtain ⟨ss, so⟩ := s
    obtain ⟨c, S, ⟨t, d, f, P'⟩, l9, ef⟩ := I
    simp only at S l9 ef
    rw [List.length_cons] at l9
    have c9 := P'.le
    have ln : (kvG ss).length < sizeLine := by rw [kvG_len]; exact Nat.lt_of_le_of_lt (by omega : _ ≤ 63) (by decide)
    have s1 := (S.get e.1).sz (by omega)
    have s3 := f.sz (by omega)
    have sl := sto_len (ss := ss) (k := e.1) (v := plusF ((lkp ss e.1).getD (0, 1)) e.2)
    have go := hW (stepG ss e, some (ofK e.1)) ⟨c + d, S.step t f, P', by show (stoK _ _ _).length + _ ≤ _; omega, ef⟩
    simp -implicitDefEqProofs only [b_gathered_4, gpD, s2, keyT_th t, wrN_upD, wrL_upD, get_kvG, c_plus s1 s3 (by omega) (by omega) (by omega) (by omega : 3 ≤ j + 3), ln, sto_kvG, wS, up_up, exists_eq', Lt.hE, Lt.hA, Lt.hN, Lt.hS, wipeE, Nat.le_add_left, Nat.reduceLeDiff, Lt.wE, wA, wAn, wOr, optW_some, getE, setE, setsE, edOf, startE, new_frz, new_frzN, all_free, q_eqD, q_neD, eqW_dct, frz_non, frz_bl, frz_int, frz_str, frz_tup, frz_lst, wrL_up, rdL_up, era_up, gc_up, atI_0, atI_1, atI_2, List.map_cons, List.map_nil, List.length_cons, List.length_nil, List.length_map, List.replicate, List.cons_append, List.nil_append, List.append_nil, Nat.sub_self, decide_eq_true_eq, decide_eq_false_iff_not, Bool.not_eq_true', Bool.not_eq_true, Bool.not_true, Bool.not_false, not_true_eq_false, not_false_eq_true, if_true, if_false, ite_true, ite_false, true_and, and_true, eq_self, reduceIte, Bool.false_eq_true, gc_self, up_same, Option.some.injEq, reduceCtorEq, List.getElem?_map, Option.map_some, Option.map_none, Nat.zero_add, Nat.reduceAdd, Nat.reduceSub, q_addI, q_addS, q_addT, q_addL, q_addR, q_subI, q_mulI, q_mulR, q_mulL, q_mulT, q_divI, q_modI, q_powI, q_neg, q_lt, q_le, q_gt, q_ge, q_eqI, q_neI, q_eqB, q_eqS, q_eqN, q_eqT, q_eqL, q_eqR, q_neB, q_neS, q_neN, q_neT, q_neL, q_neR, q_in, q_notin, q_ixT, q_ixL, q_ixS, q_ixR, q_slT, q_slL, q_slR, q_slS, q_intW, q_blW, q_lenT, q_lenS, q_lenR, q_lenL, q_int1I, q_int1B, q_abs, q_min2, q_max2, q_sumR, q_sumL, q_sumT, q_anyR, q_anyL, q_allR, q_allL, q_listR, q_listL, q_listT, q_tupR, q_tupL, q_tupT, q_tAp, q_tEx, q_tPop, q_tRev, q_tCl, q_mAp, q_mEx, q_sqT, q_sqL, q_sqR, q_lrev, q_mPop, q_mRev, q_mCl, q_isN1, q_isN2, q_isN3, q_isN4, q_isN5, q_isN6, q_isN7, q_isN8, sel_some, sel_none, wrN_upD, rdL_upD, wrL_upD, wrN_upL, frz_dct, q_ixD, q_lenD, q_rdD, q_rdR, q_rdL, q_inR, q_inD, q_tGet, q_get2, q_get3, q_dnew, q_done, q_sumV, q_srtK, q_srtL, q_dcp, q_ktI, q_ktN, q_ty1, q_ty2, q_ty3, q_ty4, q_ty5, q_ty6, q_ty7, q_ty8, q_ty9, q_ty10, q_ty11, q_ty12, q_ty13, q_ty14, q_ty15, q_ty16, q_ty17, q_ty18, q_ty19, q_ty20, q_ty21, q_ty22, q_ty23, q_ty24, q_ty25, q_ty26, q_itR, q_itT, q_itL, q_rg1, q_rg2, q_rg3, q_enR, q_enL, q_zpR, q_enT, q_zpT, q_tIx, q_tIxR, q_tIn, q_mIx, q_mIxR, q_mIn, q_zpL, q_zpF, q_rvL, q_rvT, q_tgN, q_tgT, q_frS, q_asR, q_lsL, q_lsR, q_pN, q_pV, q_pI, q_pO, q_pG, q_pX, q_pB]
    exact go
theorem c_law_sums {o : Option Nat} {ps : List (NestedKey × Fr)} (P : PsOk o 0 ps) (hl : ps.length ≤ 63) (hR : SumOk o 1000 (sumG ps) → (sumG ps).length ≤ 63 → R (dG (sumG ps)) h) (hv : 4 ≤ lv) :
    callL L G lv "_law_sums" [.lst (ps.map gpD)] h R Y := by
  obtain ⟨j, rfl⟩ : ∃ j, lv = j + 4 := ⟨lv - 4, by omega⟩
  rw [u_law_sums]
  have s2 : 2 ≤ sizeLine := by decide
  simp -implicitDefEqProofs only [b_law_sums, wS, up_up, exists_eq', Lt.hE, Lt.hA, Lt.hN, Lt.hS, wipeE, Nat.le_add_left, Nat.reduceLeDiff, Lt.wE, wA, wAn, wOr, optW_some, getE, setE, setsE, edOf, startE, new_frz, new_frzN, all_free, q_eqD, q_neD, eqW_dct, frz_non, frz_bl, frz_int, frz_str, frz_tup, frz_lst, wrL_up, rdL_up, era_up, gc_up, atI_0, atI_1, atI_2, List.map_cons, List.map_nil, List.length_cons, List.length_nil, List.length_map, List.replicate, List.cons_append, List.nil_append, List.append_nil, Nat.sub_self, decide_eq_true_eq, decide_eq_false_iff_not, Bool.not_eq_true', Bool.not_eq_true, Bool.not_true, Bool.not_false, not_true_eq_false, not_false_eq_true, if_true, if_false, ite_true, ite_false, true_and, and_true, eq_self, reduceIte, Bool.false_eq_true, gc_self, up_same, Option.some.injEq, reduceCtorEq, List.getElem?_map, Option.map_some, Option.map_none, Nat.zero_add, Nat.reduceAdd, Nat.reduceSub, q_addI, q_addS, q_addT, q_addL, q_addR, q_subI, q_mulI, q_mulR, q_mulL, q_mulT, q_divI, q_modI, q_powI, q_neg, q_lt, q_le, q_gt, q_ge, q_eqI, q_neI, q_eqB, q_eqS, q_eqN, q_eqT, q_eqL, q_eqR, q_neB, q_neS, q_neN, q_neT, q_neL, q_neR, q_in, q_notin, q_ixT, q_ixL, q_ixS, q_ixR, q_slT, q_slL, q_slR, q_slS, q_intW, q_blW, q_lenT, q_lenS, q_lenR, q_lenL, q_int1I, q_int1B, q_abs, q_min2, q_max2, q_sumR, q_sumL, q_sumT, q_anyR, q_anyL, q_allR, q_allL, q_listR, q_listL, q_listT, q_tupR, q_tupL, q_tupT, q_tAp, q_tEx, q_tPop, q_tRev, q_tCl, q_mAp, q_mEx, q_sqT, q_sqL, q_sqR, q_lrev, q_mPop, q_mRev, q_mCl, q_isN1, q_isN2, q_isN3, q_isN4, q_isN5, q_isN6, q_isN7, q_isN8, sel_some, sel_none, wrN_upD, rdL_upD, wrL_upD, wrN_upL, frz_dct, q_ixD, q_lenD, q_rdD, q_rdR, q_rdL, q_inR, q_inD, q_tGet, q_get2, q_get3, q_dnew, q_done, q_sumV, q_srtK, q_srtL, q_dcp, q_ktI, q_ktN, q_ty1, q_ty2, q_ty3, q_ty4, q_ty5, q_ty6, q_ty7, q_ty8, q_ty9, q_ty10, q_ty11, q_ty12, q_ty13, q_ty14, q_ty15, q_ty16, q_ty17, q_ty18, q_ty19, q_ty20, q_ty21, q_ty22, q_ty23, q_ty24, q_ty25, q_ty26, q_itR, q_itT, q_itL, q_rg1, q_rg2, q_rg3, q_enR, q_enL, q_zpR, q_enT, q_zpT, q_tIx, q_tIxR, q_tIn, q_mIx, q_mIxR, q_mIn, q_zpL, q_zpF, q_rvL, q_rvT, q_tgN, q_tgT, q_frS, q_asR, q_lsL, q_lsR, q_pN, q_pV, q_pI, q_pO, q_pG, q_pX, q_pB]
  intro p hp
  refine fr_go (σ := Sums) (fun _ => [some (.lst (ps.map gpD)), some (.ref p), none, none, none, none]) (fun s => up h p (.dN (kvG s))) gpD (fun as s => ∃ c, SumOk o c s ∧ PsOk o c as ∧ s.length + as.length ≤ 63 ∧ as.foldl stepG s = sumG ps) (fun ss I => ?nil9) (fun e as ss I W hW => ?turn9) ps [] ⟨0, ⟨by simp, by simp, by simp⟩, P, by simpa using hl, rfl⟩
  case nil9 =>
    obtain ⟨c, S, c9, l9, ef⟩ := I
    have ef : ss = sumG ps := ef
    have c9 : c ≤ 1000 := c9
    have l9 : ss.length ≤ 63 := by simpa using l9
    have S9 : SumOk o 1000 ss := ⟨S.nd, S.th, fun e he => (S.fr e he).mono c9⟩
    rw [← ef] at hR
    simp -implicitDefEqProofs only [b_law_sums_1, frz_upN, era_up hp, gc_self, wS, up_up, exists_eq', Lt.hE, Lt.hA, Lt.hN, Lt.hS, wipeE, Nat.le_add_left, Nat.reduceLeDiff, Lt.wE, wA, wAn, wOr, optW_some, getE, setE, setsE, edOf, startE, new_frz, new_frzN, all_free, q_eqD, q_neD, eqW_dct, frz_non, frz_bl, frz_int, frz_str, frz_tup, frz_lst, wrL_up, rdL_up, era_up, gc_up, atI_0, atI_1, atI_2, List.map_cons, List.map_nil, List.length_cons, List.length_nil, List.length_map, List.replicate, List.cons_append, List.nil_append, List.append_nil, Nat.sub_self, decide_eq_true_eq, decide_eq_false_iff_not, Bool.not_eq_true', Bool.not_eq_true, Bool.not_true, Bool.not_false, not_true_eq_false, not_false_eq_true, if_true, if_false, ite_true, ite_false, true_and, and_true, eq_self, reduceIte, Bool.false_eq_true, gc_self, up_same, Option.some.injEq, reduceCtorEq, List.getElem?_map, Option.map_some, Option.map_none, Nat.zero_add, Nat.reduceAdd, Nat.reduceSub, q_addI, q_addS, q_addT, q_addL, q_addR, q_subI, q_mulI, q_mulR, q_mulL, q_mulT, q_divI, q_modI, q_powI, q_neg, q_lt, q_le, q_gt, q_ge, q_eqI, q_neI, q_eqB, q_eqS, q_eqN, q_eqT, q_eqL, q_eqR, q_neB, q_neS, q_neN, q_neT, q_neL, q_neR, q_in, q_notin, q_ixT, q_ixL, q_ixS, q_ixR, q_slT, q_slL, q_slR, q_slS, q_intW, q_blW, q_lenT, q_lenS, q_lenR, q_lenL, q_int1I, q_int1B, q_abs, q_min2, q_max2, q_sumR, q_sumL, q_sumT, q_anyR, q_anyL, q_allR, q_allL, q_listR, q_listL, q_listT, q_tupR, q_tupL, q_tupT, q_tAp, q_tEx, q_tPop, q_tRev, q_tCl, q_mAp, q_mEx, q_sqT, q_sqL, q_sqR, q_lrev, q_mPop, q_mRev, q_mCl, q_isN1, q_isN2, q_isN3, q_isN4, q_isN5, q_isN6, q_isN7, q_isN8, sel_some, sel_none, wrN_upD, rdL_upD, wrL_upD, wrN_upL, frz_dct, q_ixD, q_lenD, q_rdD, q_rdR, q_rdL, q_inR, q_inD, q_tGet, q_get2, q_get3, q_dnew, q_done, q_sumV, q_srtK, q_srtL, q_dcp, q_ktI, q_ktN, q_ty1, q_ty2, q_ty3, q_ty4, q_ty5, q_ty6, q_ty7, q_ty8, q_ty9, q_ty10, q_ty11, q_ty12, q_ty13, q_ty14, q_ty15, q_ty16, q_ty17, q_ty18, q_ty19, q_ty20, q_ty21, q_ty22, q_ty23, q_ty24, q_ty25, q_ty26, q_itR, q_itT, q_itL, q_rg1, q_rg2, q_rg3, q_enR, q_enL, q_zpR, q_enT, q_zpT, q_tIx, q_tIxR, q_tIn, q_mIx, q_mIxR, q_mIn, q_zpL, q_zpF, q_rvL, q_rvT, q_tgN, q_tgT, q_frS, q_asR, q_lsL, q_lsR, q_pN, q_pV, q_pI, q_pO, q_pG, q_pX, q_pB]
    exact hR S9 l9
  case turn9 =>
    obtain ⟨c, S, ⟨t, d, f, P'⟩, l9, ef⟩ := I
    rw [List.length_cons] at l9
    have c9 := P'.le
    have ln : (kvG ss).length < sizeLine := by rw [kvG_len]; exact Nat.lt_of_le_of_lt (by omega : _ ≤ 63) (by decide)
    have f1 := S.get e.1
    have s1 := f1.sz (by omega)
    have s3 := f.sz (by omega)
    have sl := sto_len (ss := ss) (k := e.1) (v := plusF ((lkp ss e.1).getD (0, 1)) e.2)
    have go := hW (stepG ss e) ⟨c + d, S.step t f, P', by show (stoK _ _ _).length + _ ≤ _; omega, ef⟩
    unfold stepG plusF at go
    have m1 : IntMulOk ((lkp ss e.1).getD (0, 1)).1 e.2.2 := s1.top.mulOk s3.bot (by omega)
    have m2 : IntMulOk e.2.1 ((lkp ss e.1).getD (0, 1)).2 := s3.top.mulOk s1.bot (by omega)
    have m3 : IntMulOk ((lkp ss e.1).getD (0, 1)).2 e.2.2 := s1.bot.mulOk s3.bot (by omega)
    have b9 : B 9000 (((lkp ss e.1).getD (0, 1)).2 * e.2.2) := (s1.bot.mul s3.bot).mono (by decide)
    have pos : 0 < ((lkp ss e.1).getD (0, 1)).2 * e.2.2 := Int.mul_pos s1.pos s3.pos
    simp -implicitDefEqProofs only [b_law_sums_2, gpD, s2, keyT_th t, wrN_upD, wrL_upD, get_kvG, m1, m2, m3, c_law_lowest pos b9 (by omega : 2 ≤ j + 3), ln, sto_kvG, wS, up_up, exists_eq', Lt.hE, Lt.hA, Lt.hN, Lt.hS, wipeE, Nat.le_add_left, Nat.reduceLeDiff, Lt.wE, wA, wAn, wOr, optW_some, getE, setE, setsE, edOf, startE, new_frz, new_frzN, all_free, q_eqD, q_neD, eqW_dct, frz_non, frz_bl, frz_int, frz_str, frz_tup, frz_lst, wrL_up, rdL_up, era_up, gc_up, atI_0, atI_1, atI_2, List.map_cons, List.map_nil, List.length_cons, List.length_nil, List.length_map, List.replicate, List.cons_append, List.nil_append, List.append_nil, Nat.sub_self, decide_eq_true_eq, decide_eq_false_iff_not, Bool.not_eq_true', Bool.not_eq_true, Bool.not_true, Bool.not_false, not_true_eq_false, not_false_eq_true, if_true, if_false, ite_true, ite_false, true_and, and_true, eq_self, reduceIte, Bool.false_eq_true, gc_self, up_same, Option.some.injEq, reduceCtorEq, List.getElem?_map, Option.map_some, Option.map_none, Nat.zero_add, Nat.reduceAdd, Nat.reduceSub, q_addI, q_addS, q_addT, q_addL, q_addR, q_subI, q_mulI, q_mulR, q_mulL, q_mulT, q_divI, q_modI, q_powI, q_neg, q_lt, q_le, q_gt, q_ge, q_eqI, q_neI, q_eqB, q_eqS, q_eqN, q_eqT, q_eqL, q_eqR, q_neB, q_neS, q_neN, q_neT, q_neL, q_neR, q_in, q_notin, q_ixT, q_ixL, q_ixS, q_ixR, q_slT, q_slL, q_slR, q_slS, q_intW, q_blW, q_lenT, q_lenS, q_lenR, q_lenL, q_int1I, q_int1B, q_abs, q_min2, q_max2, q_sumR, q_sumL, q_sumT, q_anyR, q_anyL, q_allR, q_allL, q_listR, q_listL, q_listT, q_tupR, q_tupL, q_tupT, q_tAp, q_tEx, q_tPop, q_tRev, q_tCl, q_mAp, q_mEx, q_sqT, q_sqL, q_sqR, q_lrev, q_mPop, q_mRev, q_mCl, q_isN1, q_isN2, q_isN3, q_isN4, q_isN5, q_isN6, q_isN7, q_isN8, sel_some, sel_none, wrN_upD, rdL_upD, wrL_upD, wrN_upL, frz_dct, q_ixD, q_lenD, q_rdD, q_rdR, q_rdL, q_inR, q_inD, q_tGet, q_get2, q_get3, q_dnew, q_done, q_sumV, q_srtK, q_srtL, q_dcp, q_ktI, q_ktN, q_ty1, q_ty2, q_ty3, q_ty4, q_ty5, q_ty6, q_ty7, q_ty8, q_ty9, q_ty10, q_ty11, q_ty12, q_ty13, q_ty14, q_ty15, q_ty16, q_ty17, q_ty18, q_ty19, q_ty20, q_ty21, q_ty22, q_ty23, q_ty24, q_ty25, q_ty26, q_itR, q_itT, q_itL, q_rg1, q_rg2, q_rg3, q_enR, q_enL, q_zpR, q_enT, q_zpT, q_tIx, q_tIxR, q_tIn, q_mIx, q_mIxR, q_mIn, q_zpL, q_zpF, q_rvL, q_rvT, q_tgN, q_tgT, q_frS, q_asR, q_lsL, q_lsR, q_pN, q_pV, q_pI, q_pO, q_pG, q_pX, q_pB]
    exact go
theorem c_law_sumsR {o : Option Nat} {ps : List (NestedKey × Fr)} {a : Addr} (rd : rdL h a = some (ps.map gpD)) (P : PsOk o 0 ps) (hl : ps.length ≤ 63) (hR : SumOk o 1000 (sumG ps) → (sumG ps).length ≤ 63 → R (dG (sumG ps)) h) (hv : 4 ≤ lv) :
    callL L G lv "_law_sums" [.ref a] h R Y := by
  obtain ⟨j, rfl⟩ : ∃ j, lv = j + 4 := ⟨lv - 4, by omega⟩
  rw [u_law_sums]
  have s2 : 2 ≤ sizeLine := by decide
  simp -implicitDefEqProofs only [b_law_sums, wS, up_up, exists_eq', Lt.hE, Lt.hA, Lt.hN, Lt.hS, wipeE, Nat.le_add_left, Nat.reduceLeDiff, Lt.wE, wA, wAn, wOr, optW_some, getE, setE, setsE, edOf, startE, new_frz, new_frzN, all_free, q_eqD, q_neD, eqW_dct, frz_non, frz_bl, frz_int, frz_str, frz_tup, frz_lst, wrL_up, rdL_up, era_up, gc_up, atI_0, atI_1, atI_2, List.map_cons, List.map_nil, List.length_cons, List.length_nil, List.length_map, List.replicate, List.cons_append, List.nil_append, List.append_nil, Nat.sub_self, decide_eq_true_eq, decide_eq_false_iff_not, Bool.not_eq_true', Bool.not_eq_true, Bool.not_true, Bool.not_false, not_true_eq_false, not_false_eq_true, if_true, if_false, ite_true, ite_false, true_and, and_true, eq_self, reduceIte, Bool.false_eq_true, gc_self, up_same, Option.some.injEq, reduceCtorEq, List.getElem?_map, Option.map_some, Option.map_none, Nat.zero_add, Nat.reduceAdd, Nat.reduceSub, q_addI, q_addS, q_addT, q_addL, q_addR, q_subI, q_mulI, q_mulR, q_mulL, q_mulT, q_divI, q_modI, q_powI, q_neg, q_lt, q_le, q_gt, q_ge, q_eqI, q_neI, q_eqB, q_eqS, q_eqN, q_eqT, q_eqL, q_eqR, q_neB, q_neS, q_neN, q_neT, q_neL, q_neR, q_in, q_notin, q_ixT, q_ixL, q_ixS, q_ixR, q_slT, q_slL, q_slR, q_slS, q_intW, q_blW, q_lenT, q_lenS, q_lenR, q_lenL, q_int1I, q_int1B, q_abs, q_min2, q_max2, q_sumR, q_sumL, q_sumT, q_anyR, q_anyL, q_allR, q_allL, q_listR, q_listL, q_listT, q_tupR, q_tupL, q_tupT, q_tAp, q_tEx, q_tPop, q_tRev, q_tCl, q_mAp, q_mEx, q_sqT, q_sqL, q_sqR, q_lrev, q_mPop, q_mRev, q_mCl, q_isN1, q_isN2, q_isN3, q_isN4, q_isN5, q_isN6, q_isN7, q_isN8, sel_some, sel_none, wrN_upD, rdL_upD, wrL_upD, wrN_upL, frz_dct, q_ixD, q_lenD, q_rdD, q_rdR, q_rdL, q_inR, q_inD, q_tGet, q_get2, q_get3, q_dnew, q_done, q_sumV, q_srtK, q_srtL, q_dcp, q_ktI, q_ktN, q_ty1, q_ty2, q_ty3, q_ty4, q_ty5, q_ty6, q_ty7, q_ty8, q_ty9, q_ty10, q_ty11, q_ty12, q_ty13, q_ty14, q_ty15, q_ty16, q_ty17, q_ty18, q_ty19, q_ty20, q_ty21, q_ty22, q_ty23, q_ty24, q_ty25, q_ty26, q_itR, q_itT, q_itL, q_rg1, q_rg2, q_rg3, q_enR, q_enL, q_zpR, q_enT, q_zpT, q_tIx, q_tIxR, q_tIn, q_mIx, q_mIxR, q_mIn, q_zpL, q_zpF, q_rvL, q_rvT, q_tgN, q_tgT, q_frS, q_asR, q_lsL, q_lsR, q_pN, q_pV, q_pI, q_pO, q_pG, q_pX, q_pB]
  intro p hp
  have rdu : ∀ {o : O}, rdL (up h p o) a = some (ps.map gpD) := fun {o} => by rw [rdL_upN (fun z => by subst z; unfold rdL at rd; rw [hp] at rd; cases rd)]; exact rd
  simp -implicitDefEqProofs only [rdu, wS, up_up, exists_eq', Lt.hE, Lt.hA, Lt.hN, Lt.hS, wipeE, Nat.le_add_left, Nat.reduceLeDiff, Lt.wE, wA, wAn, wOr, optW_some, getE, setE, setsE, edOf, startE, new_frz, new_frzN, all_free, q_eqD, q_neD, eqW_dct, frz_non, frz_bl, frz_int, frz_str, frz_tup, frz_lst, wrL_up, rdL_up, era_up, gc_up, atI_0, atI_1, atI_2, List.map_cons, List.map_nil, List.length_cons, List.length_nil, List.length_map, List.replicate, List.cons_append, List.nil_append, List.append_nil, Nat.sub_self, decide_eq_true_eq, decide_eq_false_iff_not, Bool.not_eq_true', Bool.not_eq_true, Bool.not_true, Bool.not_false, not_true_eq_false, not_false_eq_true, if_true, if_false, ite_true, ite_false, true_and, and_true, eq_self, reduceIte, Bool.false_eq_true, gc_self, up_same, Option.some.injEq, reduceCtorEq, List.getElem?_map, Option.map_some, Option.map_none, Nat.zero_add, Nat.reduceAdd, Nat.reduceSub, q_addI, q_addS, q_addT, q_addL, q_addR, q_subI, q_mulI, q_mulR, q_mulL, q_mulT, q_divI, q_modI, q_powI, q_neg, q_lt, q_le, q_gt, q_ge, q_eqI, q_neI, q_eqB, q_eqS, q_eqN, q_eqT, q_eqL, q_eqR, q_neB, q_neS, q_neN, q_neT, q_neL, q_neR, q_in, q_notin, q_ixT, q_ixL, q_ixS, q_ixR, q_slT, q_slL, q_slR, q_slS, q_intW, q_blW, q_lenT, q_lenS, q_lenR, q_lenL, q_int1I, q_int1B, q_abs, q_min2, q_max2, q_sumR, q_sumL, q_sumT, q_anyR, q_anyL, q_allR, q_allL, q_listR, q_listL, q_listT, q_tupR, q_tupL, q_tupT, q_tAp, q_tEx, q_tPop, q_tRev, q_tCl, q_mAp, q_mEx, q_sqT, q_sqL, q_sqR, q_lrev, q_mPop, q_mRev, q_mCl, q_isN1, q_isN2, q_isN3, q_isN4, q_isN5, q_isN6, q_isN7, q_isN8, sel_some, sel_none, wrN_upD, rdL_upD, wrL_upD, wrN_upL, frz_dct, q_ixD, q_lenD, q_rdD, q_rdR, q_rdL, q_inR, q_inD, q_tGet, q_get2, q_get3, q_dnew, q_done, q_sumV, q_srtK, q_srtL, q_dcp, q_ktI, q_ktN, q_ty1, q_ty2, q_ty3, q_ty4, q_ty5, q_ty6, q_ty7, q_ty8, q_ty9, q_ty10, q_ty11, q_ty12, q_ty13, q_ty14, q_ty15, q_ty16, q_ty17, q_ty18, q_ty19, q_ty20, q_ty21, q_ty22, q_ty23, q_ty24, q_ty25, q_ty26, q_itR, q_itT, q_itL, q_rg1, q_rg2, q_rg3, q_enR, q_enL, q_zpR, q_enT, q_zpT, q_tIx, q_tIxR, q_tIn, q_mIx, q_mIxR, q_mIn, q_zpL, q_zpF, q_rvL, q_rvT, q_tgN, q_tgT, q_frS, q_asR, q_lsL, q_lsR, q_pN, q_pV, q_pI, q_pO, q_pG, q_pX, q_pB]
  refine fr_ref (σ := Sums) (fun _ => [some (.ref a), some (.ref p), none, none, none, none]) (fun s => up h p (.dN (kvG s))) gpD a ps (fun as s => ∃ c, SumOk o c s ∧ PsOk o c as ∧ s.length + as.length ≤ 63 ∧ as.foldl stepG s = sumG ps) (fun _ _ _ => by rw [rdL_upN (fun z => by subst z; unfold rdL at rd; rw [hp] at rd; cases rd)]; exact rd) (fun ss I => ?nil9) (fun e as ss I W hW => ?turn9) [] ⟨0, ⟨by simp, by simp, by simp⟩, P, by simpa using hl, rfl⟩
  case nil9 =>
    obtain ⟨c, S, c9, l9, ef⟩ := I
    have ef : ss = sumG ps := ef
    have c9 : c ≤ 1000 := c9
    have l9 : ss.length ≤ 63 := by simpa using l9
    have S9 : SumOk o 1000 ss := ⟨S.nd, S.th, fun e he => (S.fr e he).mono c9⟩
    rw [← ef] at hR
    simp -implicitDefEqProofs only [b_law_sums_1, frz_upN, era_up hp, gc_self, wS, up_up, exists_eq', Lt.hE, Lt.hA, Lt.hN, Lt.hS, wipeE, Nat.le_add_left, Nat.reduceLeDiff, Lt.wE, wA, wAn, wOr, optW_some, getE, setE, setsE, edOf, startE, new_frz, new_frzN, all_free, q_eqD, q_neD, eqW_dct, frz_non, frz_bl, frz_int, frz_str, frz_tup, frz_lst, wrL_up, rdL_up, era_up, gc_up, atI_0, atI_1, atI_2, List.map_cons, List.map_nil, List.length_cons, List.length_nil, List.length_map, List.replicate, List.cons_append, List.nil_append, List.append_nil, Nat.sub_self, decide_eq_true_eq, decide_eq_false_iff_not, Bool.not_eq_true', Bool.not_eq_true, Bool.not_true, Bool.not_false, not_true_eq_false, not_false_eq_true, if_true, if_false, ite_true, ite_false, true_and, and_true, eq_self, reduceIte, Bool.false_eq_true, gc_self, up_same, Option.some.injEq, reduceCtorEq, List.getElem?_map, Option.map_some, Option.map_none, Nat.zero_add, Nat.reduceAdd, Nat.reduceSub, q_addI, q_addS, q_addT, q_addL, q_addR, q_subI, q_mulI, q_mulR, q_mulL, q_mulT, q_divI, q_modI, q_powI, q_neg, q_lt, q_le, q_gt, q_ge, q_eqI, q_neI, q_eqB, q_eqS, q_eqN, q_eqT, q_eqL, q_eqR, q_neB, q_neS, q_neN, q_neT, q_neL, q_neR, q_in, q_notin, q_ixT, q_ixL, q_ixS, q_ixR, q_slT, q_slL, q_slR, q_slS, q_intW, q_blW, q_lenT, q_lenS, q_lenR, q_lenL, q_int1I, q_int1B, q_abs, q_min2, q_max2, q_sumR, q_sumL, q_sumT, q_anyR, q_anyL, q_allR, q_allL, q_listR, q_listL, q_listT, q_tupR, q_tupL, q_tupT, q_tAp, q_tEx, q_tPop, q_tRev, q_tCl, q_mAp, q_mEx, q_sqT, q_sqL, q_sqR, q_lrev, q_mPop, q_mRev, q_mCl, q_isN1, q_isN2, q_isN3, q_isN4, q_isN5, q_isN6, q_isN7, q_isN8, sel_some, sel_none, wrN_upD, rdL_upD, wrL_upD, wrN_upL, frz_dct, q_ixD, q_lenD, q_rdD, q_rdR, q_rdL, q_inR, q_inD, q_tGet, q_get2, q_get3, q_dnew, q_done, q_sumV, q_srtK, q_srtL, q_dcp, q_ktI, q_ktN, q_ty1, q_ty2, q_ty3, q_ty4, q_ty5, q_ty6, q_ty7, q_ty8, q_ty9, q_ty10, q_ty11, q_ty12, q_ty13, q_ty14, q_ty15, q_ty16, q_ty17, q_ty18, q_ty19, q_ty20, q_ty21, q_ty22, q_ty23, q_ty24, q_ty25, q_ty26, q_itR, q_itT, q_itL, q_rg1, q_rg2, q_rg3, q_enR, q_enL, q_zpR, q_enT, q_zpT, q_tIx, q_tIxR, q_tIn, q_mIx, q_mIxR, q_mIn, q_zpL, q_zpF, q_rvL, q_rvT, q_tgN, q_tgT, q_frS, q_asR, q_lsL, q_lsR, q_pN, q_pV, q_pI, q_pO, q_pG, q_pX, q_pB]
    exact hR S9 l9
  case turn9 =>
    obtain ⟨c, S, ⟨t, d, f, P'⟩, l9, ef⟩ := I
    rw [List.length_cons] at l9
    have c9 := P'.le
    have ln : (kvG ss).length < sizeLine := by rw [kvG_len]; exact Nat.lt_of_le_of_lt (by omega : _ ≤ 63) (by decide)
    have f1 := S.get e.1
    have s1 := f1.sz (by omega)
    have s3 := f.sz (by omega)
    have sl := sto_len (ss := ss) (k := e.1) (v := plusF ((lkp ss e.1).getD (0, 1)) e.2)
    have go := hW (stepG ss e) ⟨c + d, S.step t f, P', by show (stoK _ _ _).length + _ ≤ _; omega, ef⟩
    unfold stepG plusF at go
    have m1 : IntMulOk ((lkp ss e.1).getD (0, 1)).1 e.2.2 := s1.top.mulOk s3.bot (by omega)
    have m2 : IntMulOk e.2.1 ((lkp ss e.1).getD (0, 1)).2 := s3.top.mulOk s1.bot (by omega)
    have m3 : IntMulOk ((lkp ss e.1).getD (0, 1)).2 e.2.2 := s1.bot.mulOk s3.bot (by omega)
    have b9 : B 9000 (((lkp ss e.1).getD (0, 1)).2 * e.2.2) := (s1.bot.mul s3.bot).mono (by decide)
    have pos : 0 < ((lkp ss e.1).getD (0, 1)).2 * e.2.2 := Int.mul_pos s1.pos s3.pos
    simp -implicitDefEqProofs only [b_law_sums_2, gpD, s2, keyT_th t, wrN_upD, wrL_upD, get_kvG, m1, m2, m3, c_law_lowest pos b9 (by omega : 2 ≤ j + 3), ln, sto_kvG, wS, up_up, exists_eq', Lt.hE, Lt.hA, Lt.hN, Lt.hS, wipeE, Nat.le_add_left, Nat.reduceLeDiff, Lt.wE, wA, wAn, wOr, optW_some, getE, setE, setsE, edOf, startE, new_frz, new_frzN, all_free, q_eqD, q_neD, eqW_dct, frz_non, frz_bl, frz_int, frz_str, frz_tup, frz_lst, wrL_up, rdL_up, era_up, gc_up, atI_0, atI_1, atI_2, List.map_cons, List.map_nil, List.length_cons, List.length_nil, List.length_map, List.replicate, List.cons_append, List.nil_append, List.append_nil, Nat.sub_self, decide_eq_true_eq, decide_eq_false_iff_not, Bool.not_eq_true', Bool.not_eq_true, Bool.not_true, Bool.not_false, not_true_eq_false, not_false_eq_true, if_true, if_false, ite_true, ite_false, true_and, and_true, eq_self, reduceIte, Bool.false_eq_true, gc_self, up_same, Option.some.injEq, reduceCtorEq, List.getElem?_map, Option.map_some, Option.map_none, Nat.zero_add, Nat.reduceAdd, Nat.reduceSub, q_addI, q_addS, q_addT, q_addL, q_addR, q_subI, q_mulI, q_mulR, q_mulL, q_mulT, q_divI, q_modI, q_powI, q_neg, q_lt, q_le, q_gt, q_ge, q_eqI, q_neI, q_eqB, q_eqS, q_eqN, q_eqT, q_eqL, q_eqR, q_neB, q_neS, q_neN, q_neT, q_neL, q_neR, q_in, q_notin, q_ixT, q_ixL, q_ixS, q_ixR, q_slT, q_slL, q_slR, q_slS, q_intW, q_blW, q_lenT, q_lenS, q_lenR, q_lenL, q_int1I, q_int1B, q_abs, q_min2, q_max2, q_sumR, q_sumL, q_sumT, q_anyR, q_anyL, q_allR, q_allL, q_listR, q_listL, q_listT, q_tupR, q_tupL, q_tupT, q_tAp, q_tEx, q_tPop, q_tRev, q_tCl, q_mAp, q_mEx, q_sqT, q_sqL, q_sqR, q_lrev, q_mPop, q_mRev, q_mCl, q_isN1, q_isN2, q_isN3, q_isN4, q_isN5, q_isN6, q_isN7, q_isN8, sel_some, sel_none, wrN_upD, rdL_upD, wrL_upD, wrN_upL, frz_dct, q_ixD, q_lenD, q_rdD, q_rdR, q_rdL, q_inR, q_inD, q_tGet, q_get2, q_get3, q_dnew, q_done, q_sumV, q_srtK, q_srtL, q_dcp, q_ktI, q_ktN, q_ty1, q_ty2, q_ty3, q_ty4, q_ty5, q_ty6, q_ty7, q_ty8, q_ty9, q_ty10, q_ty11, q_ty12, q_ty13, q_ty14, q_ty15, q_ty16, q_ty17, q_ty18, q_ty19, q_ty20, q_ty21, q_ty22, q_ty23, q_ty24, q_ty25, q_ty26, q_itR, q_itT, q_itL, q_rg1, q_rg2, q_rg3, q_enR, q_enL, q_zpR, q_enT, q_zpT, q_tIx, q_tIxR, q_tIn, q_mIx, q_mIxR, q_mIn, q_zpL, q_zpF, q_rvL, q_rvT, q_tgN, q_tgT, q_frS, q_asR, q_lsL, q_lsR, q_pN, q_pV, q_pI, q_pO, q_pG, q_pX, q_pB]
    exact go
theorem c_law_right {o : Option Nat} {ps : List (NestedKey × Fr)} {a : Addr} (o3 : ∀ m, o = some m → m ≤ 3) (P : PsOk o 0 ps) (hl : ps.length ≤ 63) (rd : rdL h a = some ((gatL (sumG ps)).map gpD)) (hv : 5 ≤ lv) (hR : R (.bl true) h) : callL L G lv "_law_right" [.ref a, .lst (ps.map gpD)] h R Y := by
  obtain ⟨j, rfl⟩ : ∃ j, lv = j + 5 := ⟨lv - 5, by omega⟩
  rw [u_law_right]
  have s2 : 2 ≤ sizeLine := by decide
  simp -implicitDefEqProofs only [b_law_right, wS, up_up, exists_eq', Lt.hE, Lt.hA, Lt.hN, Lt.hS, wipeE, Nat.le_add_left, Nat.reduceLeDiff, Lt.wE, wA, wAn, wOr, optW_some, getE, setE, setsE, edOf, startE, new_frz, new_frzN, all_free, q_eqD, q_neD, eqW_dct, frz_non, frz_bl, frz_int, frz_str, frz_tup, frz_lst, wrL_up, rdL_up, era_up, gc_up, atI_0, atI_1, atI_2, List.map_cons, List.map_nil, List.length_cons, List.length_nil, List.length_map, List.replicate, List.cons_append, List.nil_append, List.append_nil, Nat.sub_self, decide_eq_true_eq, decide_eq_false_iff_not, Bool.not_eq_true', Bool.not_eq_true, Bool.not_true, Bool.not_false, not_true_eq_false, not_false_eq_true, if_true, if_false, ite_true, ite_false, true_and, and_true, eq_self, reduceIte, Bool.false_eq_true, gc_self, up_same, Option.some.injEq, reduceCtorEq, List.getElem?_map, Option.map_some, Option.map_none, Nat.zero_add, Nat.reduceAdd, Nat.reduceSub, q_addI, q_addS, q_addT, q_addL, q_addR, q_subI, q_mulI, q_mulR, q_mulL, q_mulT, q_divI, q_modI, q_powI, q_neg, q_lt, q_le, q_gt, q_ge, q_eqI, q_neI, q_eqB, q_eqS, q_eqN, q_eqT, q_eqL, q_eqR, q_neB, q_neS, q_neN, q_neT, q_neL, q_neR, q_in, q_notin, q_ixT, q_ixL, q_ixS, q_ixR, q_slT, q_slL, q_slR, q_slS, q_intW, q_blW, q_lenT, q_lenS, q_lenR, q_lenL, q_int1I, q_int1B, q_abs, q_min2, q_max2, q_sumR, q_sumL, q_sumT, q_anyR, q_anyL, q_allR, q_allL, q_listR, q_listL, q_listT, q_tupR, q_tupL, q_tupT, q_tAp, q_tEx, q_tPop, q_tRev, q_tCl, q_mAp, q_mEx, q_sqT, q_sqL, q_sqR, q_lrev, q_mPop, q_mRev, q_mCl, q_isN1, q_isN2, q_isN3, q_isN4, q_isN5, q_isN6, q_isN7, q_isN8, sel_some, sel_none, wrN_upD, rdL_upD, wrL_upD, wrN_upL, frz_dct, q_ixD, q_lenD, q_rdD, q_rdR, q_rdL, q_inR, q_inD, q_tGet, q_get2, q_get3, q_dnew, q_done, q_sumV, q_srtK, q_srtL, q_dcp, q_ktI, q_ktN, q_ty1, q_ty2, q_ty3, q_ty4, q_ty5, q_ty6, q_ty7, q_ty8, q_ty9, q_ty10, q_ty11, q_ty12, q_ty13, q_ty14, q_ty15, q_ty16, q_ty17, q_ty18, q_ty19, q_ty20, q_ty21, q_ty22, q_ty23, q_ty24, q_ty25, q_ty26, q_itR, q_itT, q_itL, q_rg1, q_rg2, q_rg3, q_enR, q_enL, q_zpR, q_enT, q_zpT, q_tIx, q_tIxR, q_tIn, q_mIx, q_mIxR, q_mIn, q_zpL, q_zpF, q_rvL, q_rvT, q_tgN, q_tgT, q_frS, q_asR, q_lsL, q_lsR, q_pN, q_pV, q_pI, q_pO, q_pG, q_pX, q_pB]
  refine c_law_sums P hl (fun S l9 => ?_) (by omega)
  simp -implicitDefEqProofs only [q_srtN (rdN_dct (kvs := kvG (sumG ps)) (h := h)), new_frz, wS, up_up, exists_eq', Lt.hE, Lt.hA, Lt.hN, Lt.hS, wipeE, Nat.le_add_left, Nat.reduceLeDiff, Lt.wE, wA, wAn, wOr, optW_some, getE, setE, setsE, edOf, startE, new_frz, new_frzN, all_free, q_eqD, q_neD, eqW_dct, frz_non, frz_bl, frz_int, frz_str, frz_tup, frz_lst, wrL_up, rdL_up, era_up, gc_up, atI_0, atI_1, atI_2, List.map_cons, List.map_nil, List.length_cons, List.length_nil, List.length_map, List.replicate, List.cons_append, List.nil_append, List.append_nil, Nat.sub_self, decide_eq_true_eq, decide_eq_false_iff_not, Bool.not_eq_true', Bool.not_eq_true, Bool.not_true, Bool.not_false, not_true_eq_false, not_false_eq_true, if_true, if_false, ite_true, ite_false, true_and, and_true, eq_self, reduceIte, Bool.false_eq_true, gc_self, up_same, Option.some.injEq, reduceCtorEq, List.getElem?_map, Option.map_some, Option.map_none, Nat.zero_add, Nat.reduceAdd, Nat.reduceSub, q_addI, q_addS, q_addT, q_addL, q_addR, q_subI, q_mulI, q_mulR, q_mulL, q_mulT, q_divI, q_modI, q_powI, q_neg, q_lt, q_le, q_gt, q_ge, q_eqI, q_neI, q_eqB, q_eqS, q_eqN, q_eqT, q_eqL, q_eqR, q_neB, q_neS, q_neN, q_neT, q_neL, q_neR, q_in, q_notin, q_ixT, q_ixL, q_ixS, q_ixR, q_slT, q_slL, q_slR, q_slS, q_intW, q_blW, q_lenT, q_lenS, q_lenR, q_lenL, q_int1I, q_int1B, q_abs, q_min2, q_max2, q_sumR, q_sumL, q_sumT, q_anyR, q_anyL, q_allR, q_allL, q_listR, q_listL, q_listT, q_tupR, q_tupL, q_tupT, q_tAp, q_tEx, q_tPop, q_tRev, q_tCl, q_mAp, q_mEx, q_sqT, q_sqL, q_sqR, q_lrev, q_mPop, q_mRev, q_mCl, q_isN1, q_isN2, q_isN3, q_isN4, q_isN5, q_isN6, q_isN7, q_isN8, sel_some, sel_none, wrN_upD, rdL_upD, wrL_upD, wrN_upL, frz_dct, q_ixD, q_lenD, q_rdD, q_rdR, q_rdL, q_inR, q_inD, q_tGet, q_get2, q_get3, q_dnew, q_done, q_sumV, q_srtK, q_srtL, q_dcp, q_ktI, q_ktN, q_ty1, q_ty2, q_ty3, q_ty4, q_ty5, q_ty6, q_ty7, q_ty8, q_ty9, q_ty10, q_ty11, q_ty12, q_ty13, q_ty14, q_ty15, q_ty16, q_ty17, q_ty18, q_ty19, q_ty20, q_ty21, q_ty22, q_ty23, q_ty24, q_ty25, q_ty26, q_itR, q_itT, q_itL, q_rg1, q_rg2, q_rg3, q_enR, q_enL, q_zpR, q_enT, q_zpT, q_tIx, q_tIxR, q_tIn, q_mIx, q_mIxR, q_mIn, q_zpL, q_zpF, q_rvL, q_rvT, q_tgN, q_tgT, q_frS, q_asR, q_lsL, q_lsR, q_pN, q_pV, q_pI, q_pO, q_pG, q_pX, q_pB]
  rw [kvG_keys.1, kvG_keys.2, srtD_sums]
  refine ⟨S.srt (Nat.le_trans l9 (by decide)), ?_⟩
  rw [lc_all (fun e : NestedKey × Fr => ofK e.1) (fun e => e ∈ sumG ps) (fun e => if decide (e.2 ≠ (0, 1)) = true then some (gpD e) else none) (fun e he h' N' Y' => ?step) (srtS (sumG ps)) (fun e he => srtS_mem.1 he) (by rw [srtS_len]; exact Nat.le_trans l9 (by decide))]
  case step =>
    have lk : lkp (kvG (sumG ps)) e.1 = some (frD e.2) := by rw [lkp_kvG, lkp_of S.nd he]; rfl
    have lz := low_zero (S.fr e he).low
    simp -implicitDefEqProofs only [b_law_right_2, b_law_right_3, wipeE, rdN_dct, zip_fs, keyT_th (S.th e he), lk, s2, wS, up_up, exists_eq', Lt.hE, Lt.hA, Lt.hN, Lt.hS, wipeE, Nat.le_add_left, Nat.reduceLeDiff, Lt.wE, wA, wAn, wOr, optW_some, getE, setE, setsE, edOf, startE, new_frz, new_frzN, all_free, q_eqD, q_neD, eqW_dct, frz_non, frz_bl, frz_int, frz_str, frz_tup, frz_lst, wrL_up, rdL_up, era_up, gc_up, atI_0, atI_1, atI_2, List.map_cons, List.map_nil, List.length_cons, List.length_nil, List.length_map, List.replicate, List.cons_append, List.nil_append, List.append_nil, Nat.sub_self, decide_eq_true_eq, decide_eq_false_iff_not, Bool.not_eq_true', Bool.not_eq_true, Bool.not_true, Bool.not_false, not_true_eq_false, not_false_eq_true, if_true, if_false, ite_true, ite_false, true_and, and_true, eq_self, reduceIte, Bool.false_eq_true, gc_self, up_same, Option.some.injEq, reduceCtorEq, List.getElem?_map, Option.map_some, Option.map_none, Nat.zero_add, Nat.reduceAdd, Nat.reduceSub, q_addI, q_addS, q_addT, q_addL, q_addR, q_subI, q_mulI, q_mulR, q_mulL, q_mulT, q_divI, q_modI, q_powI, q_neg, q_lt, q_le, q_gt, q_ge, q_eqI, q_neI, q_eqB, q_eqS, q_eqN, q_eqT, q_eqL, q_eqR, q_neB, q_neS, q_neN, q_neT, q_neL, q_neR, q_in, q_notin, q_ixT, q_ixL, q_ixS, q_ixR, q_slT, q_slL, q_slR, q_slS, q_intW, q_blW, q_lenT, q_lenS, q_lenR, q_lenL, q_int1I, q_int1B, q_abs, q_min2, q_max2, q_sumR, q_sumL, q_sumT, q_anyR, q_anyL, q_allR, q_allL, q_listR, q_listL, q_listT, q_tupR, q_tupL, q_tupT, q_tAp, q_tEx, q_tPop, q_tRev, q_tCl, q_mAp, q_mEx, q_sqT, q_sqL, q_sqR, q_lrev, q_mPop, q_mRev, q_mCl, q_isN1, q_isN2, q_isN3, q_isN4, q_isN5, q_isN6, q_isN7, q_isN8, sel_some, sel_none, wrN_upD, rdL_upD, wrL_upD, wrN_upL, frz_dct, q_ixD, q_lenD, q_rdD, q_rdR, q_rdL, q_inR, q_inD, q_tGet, q_get2, q_get3, q_dnew, q_done, q_sumV, q_srtK, q_srtL, q_dcp, q_ktI, q_ktN, q_ty1, q_ty2, q_ty3, q_ty4, q_ty5, q_ty6, q_ty7, q_ty8, q_ty9, q_ty10, q_ty11, q_ty12, q_ty13, q_ty14, q_ty15, q_ty16, q_ty17, q_ty18, q_ty19, q_ty20, q_ty21, q_ty22, q_ty23, q_ty24, q_ty25, q_ty26, q_itR, q_itT, q_itL, q_rg1, q_rg2, q_rg3, q_enR, q_enL, q_zpR, q_enT, q_zpT, q_tIx, q_tIxR, q_tIn, q_mIx, q_mIxR, q_mIn, q_zpL, q_zpF, q_rvL, q_rvT, q_tgN, q_tgT, q_frS, q_asR, q_lsL, q_lsR, q_pN, q_pV, q_pI, q_pO, q_pG, q_pX, q_pB]
    by_cases z : e.2 = (0, 1)
    · have z1 := lz.1 z
      simp [z, z1]
    · have z1 : ¬ e.2.1 = 0 := fun y => z (lz.2 y)
      simp [z, z1]; rfl
  rw [fm_gp (fun e => decide (e.2 ≠ (0, 1)))]
  simp -implicitDefEqProofs only [new_frz, wS, up_up, exists_eq', Lt.hE, Lt.hA, Lt.hN, Lt.hS, wipeE, Nat.le_add_left, Nat.reduceLeDiff, Lt.wE, wA, wAn, wOr, optW_some, getE, setE, setsE, edOf, startE, new_frz, new_frzN, all_free, q_eqD, q_neD, eqW_dct, frz_non, frz_bl, frz_int, frz_str, frz_tup, frz_lst, wrL_up, rdL_up, era_up, gc_up, atI_0, atI_1, atI_2, List.map_cons, List.map_nil, List.length_cons, List.length_nil, List.length_map, List.replicate, List.cons_append, List.nil_append, List.append_nil, Nat.sub_self, decide_eq_true_eq, decide_eq_false_iff_not, Bool.not_eq_true', Bool.not_eq_true, Bool.not_true, Bool.not_false, not_true_eq_false, not_false_eq_true, if_true, if_false, ite_true, ite_false, true_and, and_true, eq_self, reduceIte, Bool.false_eq_true, gc_self, up_same, Option.some.injEq, reduceCtorEq, List.getElem?_map, Option.map_some, Option.map_none, Nat.zero_add, Nat.reduceAdd, Nat.reduceSub, q_addI, q_addS, q_addT, q_addL, q_addR, q_subI, q_mulI, q_mulR, q_mulL, q_mulT, q_divI, q_modI, q_powI, q_neg, q_lt, q_le, q_gt, q_ge, q_eqI, q_neI, q_eqB, q_eqS, q_eqN, q_eqT, q_eqL, q_eqR, q_neB, q_neS, q_neN, q_neT, q_neL, q_neR, q_in, q_notin, q_ixT, q_ixL, q_ixS, q_ixR, q_slT, q_slL, q_slR, q_slS, q_intW, q_blW, q_lenT, q_lenS, q_lenR, q_lenL, q_int1I, q_int1B, q_abs, q_min2, q_max2, q_sumR, q_sumL, q_sumT, q_anyR, q_anyL, q_allR, q_allL, q_listR, q_listL, q_listT, q_tupR, q_tupL, q_tupT, q_tAp, q_tEx, q_tPop, q_tRev, q_tCl, q_mAp, q_mEx, q_sqT, q_sqL, q_sqR, q_lrev, q_mPop, q_mRev, q_mCl, q_isN1, q_isN2, q_isN3, q_isN4, q_isN5, q_isN6, q_isN7, q_isN8, sel_some, sel_none, wrN_upD, rdL_upD, wrL_upD, wrN_upL, frz_dct, q_ixD, q_lenD, q_rdD, q_rdR, q_rdL, q_inR, q_inD, q_tGet, q_get2, q_get3, q_dnew, q_done, q_sumV, q_srtK, q_srtL, q_dcp, q_ktI, q_ktN, q_ty1, q_ty2, q_ty3, q_ty4, q_ty5, q_ty6, q_ty7, q_ty8, q_ty9, q_ty10, q_ty11, q_ty12, q_ty13, q_ty14, q_ty15, q_ty16, q_ty17, q_ty18, q_ty19, q_ty20, q_ty21, q_ty22, q_ty23, q_ty24, q_ty25, q_ty26, q_itR, q_itT, q_itL, q_rg1, q_rg2, q_rg3, q_enR, q_enL, q_zpR, q_enT, q_zpT, q_tIx, q_tIxR, q_tIn, q_mIx, q_mIxR, q_mIn, q_zpL, q_zpF, q_rvL, q_rvT, q_tgN, q_tgT, q_frS, q_asR, q_lsL, q_lsR, q_pN, q_pV, q_pI, q_pO, q_pG, q_pX, q_pB]
  have gm : ∀ e ∈ gatL (sumG ps), e ∈ sumG ps := fun e he => srtS_mem.1 (List.mem_filter.1 he).1
  have gl : (gatL (sumG ps)).length ≤ 63 := Nat.le_trans (List.length_filter_le _ _) (by rw [srtS_len]; exact l9)
  have r1 := fun {h : Hh} {Q : QD} {p : Addr} (rd : rdL h p = some ((gatL (sumG ps)).map gpD)) => rpr_pairsR (h := h) (Q := Q) (c := 1000) rd (fun e he => S.th e (gm e he)) o3 (fun e he => S.fr e (gm e he)) (by decide) gl
  have r2 := fun {h : Hh} {Q : QD} => rpr_pairs (h := h) (Q := Q) (c := 1000) (es := gatL (sumG ps)) (fun e he => S.th e (gm e he)) o3 (fun e he => S.fr e (gm e he)) (by decide) gl
  have eg : ((srtS (sumG ps)).filter fun e => decide (e.2 ≠ (0, 1))) = gatL (sumG ps) := rfl
  rw [eg]
  simp -implicitDefEqProofs only [b_law_right_1, isTy_ref rd, r1 rd, r2, wS, up_up, exists_eq', Lt.hE, Lt.hA, Lt.hN, Lt.hS, wipeE, Nat.le_add_left, Nat.reduceLeDiff, Lt.wE, wA, wAn, wOr, optW_some, getE, setE, setsE, edOf, startE, new_frz, new_frzN, all_free, q_eqD, q_neD, eqW_dct, frz_non, frz_bl, frz_int, frz_str, frz_tup, frz_lst, wrL_up, rdL_up, era_up, gc_up, atI_0, atI_1, atI_2, List.map_cons, List.map_nil, List.length_cons, List.length_nil, List.length_map, List.replicate, List.cons_append, List.nil_append, List.append_nil, Nat.sub_self, decide_eq_true_eq, decide_eq_false_iff_not, Bool.not_eq_true', Bool.not_eq_true, Bool.not_true, Bool.not_false, not_true_eq_false, not_false_eq_true, if_true, if_false, ite_true, ite_false, true_and, and_true, eq_self, reduceIte, Bool.false_eq_true, gc_self, up_same, Option.some.injEq, reduceCtorEq, List.getElem?_map, Option.map_some, Option.map_none, Nat.zero_add, Nat.reduceAdd, Nat.reduceSub, q_addI, q_addS, q_addT, q_addL, q_addR, q_subI, q_mulI, q_mulR, q_mulL, q_mulT, q_divI, q_modI, q_powI, q_neg, q_lt, q_le, q_gt, q_ge, q_eqI, q_neI, q_eqB, q_eqS, q_eqN, q_eqT, q_eqL, q_eqR, q_neB, q_neS, q_neN, q_neT, q_neL, q_neR, q_in, q_notin, q_ixT, q_ixL, q_ixS, q_ixR, q_slT, q_slL, q_slR, q_slS, q_intW, q_blW, q_lenT, q_lenS, q_lenR, q_lenL, q_int1I, q_int1B, q_abs, q_min2, q_max2, q_sumR, q_sumL, q_sumT, q_anyR, q_anyL, q_allR, q_allL, q_listR, q_listL, q_listT, q_tupR, q_tupL, q_tupT, q_tAp, q_tEx, q_tPop, q_tRev, q_tCl, q_mAp, q_mEx, q_sqT, q_sqL, q_sqR, q_lrev, q_mPop, q_mRev, q_mCl, q_isN1, q_isN2, q_isN3, q_isN4, q_isN5, q_isN6, q_isN7, q_isN8, sel_some, sel_none, wrN_upD, rdL_upD, wrL_upD, wrN_upL, frz_dct, q_ixD, q_lenD, q_rdD, q_rdR, q_rdL, q_inR, q_inD, q_tGet, q_get2, q_get3, q_dnew, q_done, q_sumV, q_srtK, q_srtL, q_dcp, q_ktI, q_ktN, q_ty1, q_ty2, q_ty3, q_ty4, q_ty5, q_ty6, q_ty7, q_ty8, q_ty9, q_ty10, q_ty11, q_ty12, q_ty13, q_ty14, q_ty15, q_ty16, q_ty17, q_ty18, q_ty19, q_ty20, q_ty21, q_ty22, q_ty23, q_ty24, q_ty25, q_ty26, q_itR, q_itT, q_itL, q_rg1, q_rg2, q_rg3, q_enR, q_enL, q_zpR, q_enT, q_zpT, q_tIx, q_tIxR, q_tIn, q_mIx, q_mIxR, q_mIn, q_zpL, q_zpF, q_rvL, q_rvT, q_tgN, q_tgT, q_frS, q_asR, q_lsL, q_lsR, q_pN, q_pV, q_pI, q_pO, q_pG, q_pX, q_pB]
  exact hR
def oW (way : Int) (size : Nat) : Option Nat := if way = 0 ∨ way = 1 then none else some size
theorem c_law_thing {x way : Int} {size : Nat} (h3 : size ≤ 3) (w0 : 0 ≤ way) (w4 : way < 5) (hv : 2 ≤ lv) (hR : ∀ k, ThK (oW way size) k → R (ofK k) h) : callL L G lv "_law_thing" [.int x, .int way, .int (size : Int)] h R Y := by
  obtain ⟨j, rfl⟩ : ∃ j, lv = j + 2 := ⟨lv - 2, by omega⟩
  rw [u_law_thing]
  have z1 : CPow 10 60 := ⟨by decide, by decide, by decide⟩
  have z2 : ¬ (10 : Int) ^ (60 : Int).toNat = 0 := by decide
  have z3 : IntMulOk 2 ((10 : Int) ^ (60 : Int).toNat) := mulOk_l (by decide)
  have z4 : ¬ 2 * (10 : Int) ^ (60 : Int).toNat - 1 = 0 := by decide
  have f60 : x.fmod (10 ^ (60 : Int).toNat) = x % 10 ^ 60 := fmod_pos (by decide)
  have g60 : 0 ≤ x % (10 : Int) ^ 60 ∧ x % (10 : Int) ^ 60 < 10 ^ 60 := ⟨Int.emod_nonneg _ (by decide), Int.emod_lt_of_pos _ (by decide)⟩
  have s1 : 1 ≤ sizeLine := by decide
  have n1 : (-(2 ^ 62) ≤ (size : Int)) = True := eq_true (by omega)
  have n2 : ((size : Int) < 2 ^ 62) = True := eq_true (by omega)
  by_cases c0 : way = 0
  · have f7 : x.fmod 7 = x % 7 := fmod_pos (by decide)
    have g7 := Int.emod_lt_of_pos x (b := 7) (by decide)
    have g8 := Int.emod_nonneg x (b := 7) (by decide)
    have := hR (.num (x % 7 - 3)) (by unfold oW; rw [if_pos (.inl c0)]; exact .i (B.mono (m := 8) (by unfold B; omega) (by decide)))
    subst c0
    simp -implicitDefEqProofs only [b_law_thing, f7, gc_self, Int.reduceEq, ne_eq, not_false_eq_true, z1, wS, up_up, exists_eq', Lt.hE, Lt.hA, Lt.hN, Lt.hS, wipeE, Nat.le_add_left, Nat.reduceLeDiff, Lt.wE, wA, wAn, wOr, optW_some, getE, setE, setsE, edOf, startE, new_frz, new_frzN, all_free, q_eqD, q_neD, eqW_dct, frz_non, frz_bl, frz_int, frz_str, frz_tup, frz_lst, wrL_up, rdL_up, era_up, gc_up, atI_0, atI_1, atI_2, List.map_cons, List.map_nil, List.length_cons, List.length_nil, List.length_map, List.replicate, List.cons_append, List.nil_append, List.append_nil, Nat.sub_self, decide_eq_true_eq, decide_eq_false_iff_not, Bool.not_eq_true', Bool.not_eq_true, Bool.not_true, Bool.not_false, not_true_eq_false, not_false_eq_true, if_true, if_false, ite_true, ite_false, true_and, and_true, eq_self, reduceIte, Bool.false_eq_true, gc_self, up_same, Option.some.injEq, reduceCtorEq, List.getElem?_map, Option.map_some, Option.map_none, Nat.zero_add, Nat.reduceAdd, Nat.reduceSub, q_addI, q_addS, q_addT, q_addL, q_addR, q_subI, q_mulI, q_mulR, q_mulL, q_mulT, q_divI, q_modI, q_powI, q_neg, q_lt, q_le, q_gt, q_ge, q_eqI, q_neI, q_eqB, q_eqS, q_eqN, q_eqT, q_eqL, q_eqR, q_neB, q_neS, q_neN, q_neT, q_neL, q_neR, q_in, q_notin, q_ixT, q_ixL, q_ixS, q_ixR, q_slT, q_slL, q_slR, q_slS, q_intW, q_blW, q_lenT, q_lenS, q_lenR, q_lenL, q_int1I, q_int1B, q_abs, q_min2, q_max2, q_sumR, q_sumL, q_sumT, q_anyR, q_anyL, q_allR, q_allL, q_listR, q_listL, q_listT, q_tupR, q_tupL, q_tupT, q_tAp, q_tEx, q_tPop, q_tRev, q_tCl, q_mAp, q_mEx, q_sqT, q_sqL, q_sqR, q_lrev, q_mPop, q_mRev, q_mCl, q_isN1, q_isN2, q_isN3, q_isN4, q_isN5, q_isN6, q_isN7, q_isN8, sel_some, sel_none, wrN_upD, rdL_upD, wrL_upD, wrN_upL, frz_dct, q_ixD, q_lenD, q_rdD, q_rdR, q_rdL, q_inR, q_inD, q_tGet, q_get2, q_get3, q_dnew, q_done, q_sumV, q_srtK, q_srtL, q_dcp, q_ktI, q_ktN, q_ty1, q_ty2, q_ty3, q_ty4, q_ty5, q_ty6, q_ty7, q_ty8, q_ty9, q_ty10, q_ty11, q_ty12, q_ty13, q_ty14, q_ty15, q_ty16, q_ty17, q_ty18, q_ty19, q_ty20, q_ty21, q_ty22, q_ty23, q_ty24, q_ty25, q_ty26, q_itR, q_itT, q_itL, q_rg1, q_rg2, q_rg3, q_enR, q_enL, q_zpR, q_enT, q_zpT, q_tIx, q_tIxR, q_tIn, q_mIx, q_mIxR, q_mIn, q_zpL, q_zpF, q_rvL, q_rvT, q_tgN, q_tgT, q_frS, q_asR, q_lsL, q_lsR, q_pN, q_pV, q_pI, q_pO, q_pG, q_pX, q_pB]
    first | exact this | exact ⟨by decide, this⟩
  · by_cases c1 : way = 1
    · have fM : x.fmod (2 * 10 ^ (60 : Int).toNat - 1) = x % (2 * 10 ^ 60 - 1) := fmod_pos (by decide)
      have g7 := Int.emod_lt_of_pos x (b := 2 * 10 ^ 60 - 1) (by decide)
      have g8 := Int.emod_nonneg x (b := 2 * 10 ^ 60 - 1) (by decide)
      have := hR (.num (x % (2 * 10 ^ 60 - 1) - 10 ^ 60 + 1)) (by unfold oW; rw [if_pos (.inr c1)]; exact .i (by unfold B; omega))
      subst c1
      simp -implicitDefEqProofs only [b_law_thing, z1, z2, z3, z4, fM, gc_self, Int.reduceEq, ne_eq, not_false_eq_true, wS, up_up, exists_eq', Lt.hE, Lt.hA, Lt.hN, Lt.hS, wipeE, Nat.le_add_left, Nat.reduceLeDiff, Lt.wE, wA, wAn, wOr, optW_some, getE, setE, setsE, edOf, startE, new_frz, new_frzN, all_free, q_eqD, q_neD, eqW_dct, frz_non, frz_bl, frz_int, frz_str, frz_tup, frz_lst, wrL_up, rdL_up, era_up, gc_up, atI_0, atI_1, atI_2, List.map_cons, List.map_nil, List.length_cons, List.length_nil, List.length_map, List.replicate, List.cons_append, List.nil_append, List.append_nil, Nat.sub_self, decide_eq_true_eq, decide_eq_false_iff_not, Bool.not_eq_true', Bool.not_eq_true, Bool.not_true, Bool.not_false, not_true_eq_false, not_false_eq_true, if_true, if_false, ite_true, ite_false, true_and, and_true, eq_self, reduceIte, Bool.false_eq_true, gc_self, up_same, Option.some.injEq, reduceCtorEq, List.getElem?_map, Option.map_some, Option.map_none, Nat.zero_add, Nat.reduceAdd, Nat.reduceSub, q_addI, q_addS, q_addT, q_addL, q_addR, q_subI, q_mulI, q_mulR, q_mulL, q_mulT, q_divI, q_modI, q_powI, q_neg, q_lt, q_le, q_gt, q_ge, q_eqI, q_neI, q_eqB, q_eqS, q_eqN, q_eqT, q_eqL, q_eqR, q_neB, q_neS, q_neN, q_neT, q_neL, q_neR, q_in, q_notin, q_ixT, q_ixL, q_ixS, q_ixR, q_slT, q_slL, q_slR, q_slS, q_intW, q_blW, q_lenT, q_lenS, q_lenR, q_lenL, q_int1I, q_int1B, q_abs, q_min2, q_max2, q_sumR, q_sumL, q_sumT, q_anyR, q_anyL, q_allR, q_allL, q_listR, q_listL, q_listT, q_tupR, q_tupL, q_tupT, q_tAp, q_tEx, q_tPop, q_tRev, q_tCl, q_mAp, q_mEx, q_sqT, q_sqL, q_sqR, q_lrev, q_mPop, q_mRev, q_mCl, q_isN1, q_isN2, q_isN3, q_isN4, q_isN5, q_isN6, q_isN7, q_isN8, sel_some, sel_none, wrN_upD, rdL_upD, wrL_upD, wrN_upL, frz_dct, q_ixD, q_lenD, q_rdD, q_rdR, q_rdL, q_inR, q_inD, q_tGet, q_get2, q_get3, q_dnew, q_done, q_sumV, q_srtK, q_srtL, q_dcp, q_ktI, q_ktN, q_ty1, q_ty2, q_ty3, q_ty4, q_ty5, q_ty6, q_ty7, q_ty8, q_ty9, q_ty10, q_ty11, q_ty12, q_ty13, q_ty14, q_ty15, q_ty16, q_ty17, q_ty18, q_ty19, q_ty20, q_ty21, q_ty22, q_ty23, q_ty24, q_ty25, q_ty26, q_itR, q_itT, q_itL, q_rg1, q_rg2, q_rg3, q_enR, q_enL, q_zpR, q_enT, q_zpT, q_tIx, q_tIxR, q_tIn, q_mIx, q_mIxR, q_mIn, q_zpL, q_zpF, q_rvL, q_rvT, q_tgN, q_tgT, q_frS, q_asR, q_lsL, q_lsR, q_pN, q_pV, q_pI, q_pO, q_pG, q_pX, q_pB]
      exact this
    · have eo : oW way size = some size := by unfold oW; rw [if_neg (by omega)]
      rw [eo] at hR
      have c0' := eq_false c0
      have c1' := eq_false c1
      simp -implicitDefEqProofs only [b_law_thing, c0', c1', n1, n2, Int.toNat_natCast, rngD_0, wS, up_up, exists_eq', Lt.hE, Lt.hA, Lt.hN, Lt.hS, wipeE, Nat.le_add_left, Nat.reduceLeDiff, Lt.wE, wA, wAn, wOr, optW_some, getE, setE, setsE, edOf, startE, new_frz, new_frzN, all_free, q_eqD, q_neD, eqW_dct, frz_non, frz_bl, frz_int, frz_str, frz_tup, frz_lst, wrL_up, rdL_up, era_up, gc_up, atI_0, atI_1, atI_2, List.map_cons, List.map_nil, List.length_cons, List.length_nil, List.length_map, List.replicate, List.cons_append, List.nil_append, List.append_nil, Nat.sub_self, decide_eq_true_eq, decide_eq_false_iff_not, Bool.not_eq_true', Bool.not_eq_true, Bool.not_true, Bool.not_false, not_true_eq_false, not_false_eq_true, if_true, if_false, ite_true, ite_false, true_and, and_true, eq_self, reduceIte, Bool.false_eq_true, gc_self, up_same, Option.some.injEq, reduceCtorEq, List.getElem?_map, Option.map_some, Option.map_none, Nat.zero_add, Nat.reduceAdd, Nat.reduceSub, q_addI, q_addS, q_addT, q_addL, q_addR, q_subI, q_mulI, q_mulR, q_mulL, q_mulT, q_divI, q_modI, q_powI, q_neg, q_lt, q_le, q_gt, q_ge, q_eqI, q_neI, q_eqB, q_eqS, q_eqN, q_eqT, q_eqL, q_eqR, q_neB, q_neS, q_neN, q_neT, q_neL, q_neR, q_in, q_notin, q_ixT, q_ixL, q_ixS, q_ixR, q_slT, q_slL, q_slR, q_slS, q_intW, q_blW, q_lenT, q_lenS, q_lenR, q_lenL, q_int1I, q_int1B, q_abs, q_min2, q_max2, q_sumR, q_sumL, q_sumT, q_anyR, q_anyL, q_allR, q_allL, q_listR, q_listL, q_listT, q_tupR, q_tupL, q_tupT, q_tAp, q_tEx, q_tPop, q_tRev, q_tCl, q_mAp, q_mEx, q_sqT, q_sqL, q_sqR, q_lrev, q_mPop, q_mRev, q_mCl, q_isN1, q_isN2, q_isN3, q_isN4, q_isN5, q_isN6, q_isN7, q_isN8, sel_some, sel_none, wrN_upD, rdL_upD, wrL_upD, wrN_upL, frz_dct, q_ixD, q_lenD, q_rdD, q_rdR, q_rdL, q_inR, q_inD, q_tGet, q_get2, q_get3, q_dnew, q_done, q_sumV, q_srtK, q_srtL, q_dcp, q_ktI, q_ktN, q_ty1, q_ty2, q_ty3, q_ty4, q_ty5, q_ty6, q_ty7, q_ty8, q_ty9, q_ty10, q_ty11, q_ty12, q_ty13, q_ty14, q_ty15, q_ty16, q_ty17, q_ty18, q_ty19, q_ty20, q_ty21, q_ty22, q_ty23, q_ty24, q_ty25, q_ty26, q_itR, q_itT, q_itL, q_rg1, q_rg2, q_rg3, q_enR, q_enL, q_zpR, q_enT, q_zpT, q_tIx, q_tIxR, q_tIn, q_mIx, q_mIxR, q_mIn, q_zpL, q_zpF, q_rvL, q_rvT, q_tgN, q_tgT, q_frS, q_asR, q_lsL, q_lsR, q_pN, q_pV, q_pI, q_pO, q_pG, q_pX, q_pB]
      rw [lc_map (fun k : Nat => .int (k : Int)) (fun k => k < size) (fun k => .int (mixF (x + (k : Int) * (k : Int)) 10037 3)) (fun k hk h' Y' => ?step) (List.range size) (fun k hk => List.mem_range.1 hk) (by rw [List.length_range]; exact Nat.le_trans h3 (by decide))]
      case step =>
        have m1 : IntMulOk (k : Int) (k : Int) := mulOk_r (by unfold B; omega)
        simp -implicitDefEqProofs only [b_law_thing_2, wipeE, m1, c_law_mix (p := 10037) (m := 3) (by decide) (by decide) (by omega : 1 ≤ j + 1), wS, up_up, exists_eq', Lt.hE, Lt.hA, Lt.hN, Lt.hS, wipeE, Nat.le_add_left, Nat.reduceLeDiff, Lt.wE, wA, wAn, wOr, optW_some, getE, setE, setsE, edOf, startE, new_frz, new_frzN, all_free, q_eqD, q_neD, eqW_dct, frz_non, frz_bl, frz_int, frz_str, frz_tup, frz_lst, wrL_up, rdL_up, era_up, gc_up, atI_0, atI_1, atI_2, List.map_cons, List.map_nil, List.length_cons, List.length_nil, List.length_map, List.replicate, List.cons_append, List.nil_append, List.append_nil, Nat.sub_self, decide_eq_true_eq, decide_eq_false_iff_not, Bool.not_eq_true', Bool.not_eq_true, Bool.not_true, Bool.not_false, not_true_eq_false, not_false_eq_true, if_true, if_false, ite_true, ite_false, true_and, and_true, eq_self, reduceIte, Bool.false_eq_true, gc_self, up_same, Option.some.injEq, reduceCtorEq, List.getElem?_map, Option.map_some, Option.map_none, Nat.zero_add, Nat.reduceAdd, Nat.reduceSub, q_addI, q_addS, q_addT, q_addL, q_addR, q_subI, q_mulI, q_mulR, q_mulL, q_mulT, q_divI, q_modI, q_powI, q_neg, q_lt, q_le, q_gt, q_ge, q_eqI, q_neI, q_eqB, q_eqS, q_eqN, q_eqT, q_eqL, q_eqR, q_neB, q_neS, q_neN, q_neT, q_neL, q_neR, q_in, q_notin, q_ixT, q_ixL, q_ixS, q_ixR, q_slT, q_slL, q_slR, q_slS, q_intW, q_blW, q_lenT, q_lenS, q_lenR, q_lenL, q_int1I, q_int1B, q_abs, q_min2, q_max2, q_sumR, q_sumL, q_sumT, q_anyR, q_anyL, q_allR, q_allL, q_listR, q_listL, q_listT, q_tupR, q_tupL, q_tupT, q_tAp, q_tEx, q_tPop, q_tRev, q_tCl, q_mAp, q_mEx, q_sqT, q_sqL, q_sqR, q_lrev, q_mPop, q_mRev, q_mCl, q_isN1, q_isN2, q_isN3, q_isN4, q_isN5, q_isN6, q_isN7, q_isN8, sel_some, sel_none, wrN_upD, rdL_upD, wrL_upD, wrN_upL, frz_dct, q_ixD, q_lenD, q_rdD, q_rdR, q_rdL, q_inR, q_inD, q_tGet, q_get2, q_get3, q_dnew, q_done, q_sumV, q_srtK, q_srtL, q_dcp, q_ktI, q_ktN, q_ty1, q_ty2, q_ty3, q_ty4, q_ty5, q_ty6, q_ty7, q_ty8, q_ty9, q_ty10, q_ty11, q_ty12, q_ty13, q_ty14, q_ty15, q_ty16, q_ty17, q_ty18, q_ty19, q_ty20, q_ty21, q_ty22, q_ty23, q_ty24, q_ty25, q_ty26, q_itR, q_itT, q_itL, q_rg1, q_rg2, q_rg3, q_enR, q_enL, q_zpR, q_enT, q_zpT, q_tIx, q_tIxR, q_tIn, q_mIx, q_mIxR, q_mIn, q_zpL, q_zpF, q_rvL, q_rvT, q_tgN, q_tgT, q_frS, q_asR, q_lsL, q_lsR, q_pN, q_pV, q_pI, q_pO, q_pG, q_pX, q_pB]
      obtain ⟨is, eis⟩ : ∃ is : List Int, (List.range size).map (fun k : Nat => mixF (x + (k : Int) * (k : Int)) 10037 3) = is := ⟨_, rfl⟩
      have em : ((List.range size).map fun k : Nat => D.int (mixF (x + (k : Int) * (k : Int)) 10037 3)) = is.map D.int := by rw [← eis, List.map_map]; rfl
      have il : is.length = size := by rw [← eis]; simp
      have ib : ∀ i ∈ is, B 200 i := fun i hi => by
        rw [← eis] at hi
        obtain ⟨k, _, rfl⟩ := List.mem_map.1 hi
        have := mixF_pos (c := x + (k : Int) * (k : Int)) (p := 10037) (m := 3) (by decide)
        exact B.mono (m := 8) (by unfold B; omega) (by decide)
      rw [em]
      have r1 := hR (.tup (is.map .num)) (.t il ib)
      rw [ofK, ofKs_num] at r1
      have r2 := hR (.tup ((is.dropLast ++ [x % 10 ^ 60]).map .num))
      rw [ofK, ofKs_num] at r2
      have cl : cutD (is.map D.int) none (some (-1)) = is.dropLast.map D.int := by rw [cutD_map]; exact congrArg _ cut_last
      have ll : (is.dropLast.length + 1) ≤ sizeLine := Nat.le_trans (by rw [List.length_dropLast]; omega : _ ≤ 3) (by decide)
      simp -implicitDefEqProofs only [new_frz, wS, up_up, exists_eq', Lt.hE, Lt.hA, Lt.hN, Lt.hS, wipeE, Nat.le_add_left, Nat.reduceLeDiff, Lt.wE, wA, wAn, wOr, optW_some, getE, setE, setsE, edOf, startE, new_frz, new_frzN, all_free, q_eqD, q_neD, eqW_dct, frz_non, frz_bl, frz_int, frz_str, frz_tup, frz_lst, wrL_up, rdL_up, era_up, gc_up, atI_0, atI_1, atI_2, List.map_cons, List.map_nil, List.length_cons, List.length_nil, List.length_map, List.replicate, List.cons_append, List.nil_append, List.append_nil, Nat.sub_self, decide_eq_true_eq, decide_eq_false_iff_not, Bool.not_eq_true', Bool.not_eq_true, Bool.not_true, Bool.not_false, not_true_eq_false, not_false_eq_true, if_true, if_false, ite_true, ite_false, true_and, and_true, eq_self, reduceIte, Bool.false_eq_true, gc_self, up_same, Option.some.injEq, reduceCtorEq, List.getElem?_map, Option.map_some, Option.map_none, Nat.zero_add, Nat.reduceAdd, Nat.reduceSub, q_addI, q_addS, q_addT, q_addL, q_addR, q_subI, q_mulI, q_mulR, q_mulL, q_mulT, q_divI, q_modI, q_powI, q_neg, q_lt, q_le, q_gt, q_ge, q_eqI, q_neI, q_eqB, q_eqS, q_eqN, q_eqT, q_eqL, q_eqR, q_neB, q_neS, q_neN, q_neT, q_neL, q_neR, q_in, q_notin, q_ixT, q_ixL, q_ixS, q_ixR, q_slT, q_slL, q_slR, q_slS, q_intW, q_blW, q_lenT, q_lenS, q_lenR, q_lenL, q_int1I, q_int1B, q_abs, q_min2, q_max2, q_sumR, q_sumL, q_sumT, q_anyR, q_anyL, q_allR, q_allL, q_listR, q_listL, q_listT, q_tupR, q_tupL, q_tupT, q_tAp, q_tEx, q_tPop, q_tRev, q_tCl, q_mAp, q_mEx, q_sqT, q_sqL, q_sqR, q_lrev, q_mPop, q_mRev, q_mCl, q_isN1, q_isN2, q_isN3, q_isN4, q_isN5, q_isN6, q_isN7, q_isN8, sel_some, sel_none, wrN_upD, rdL_upD, wrL_upD, wrN_upL, frz_dct, q_ixD, q_lenD, q_rdD, q_rdR, q_rdL, q_inR, q_inD, q_tGet, q_get2, q_get3, q_dnew, q_done, q_sumV, q_srtK, q_srtL, q_dcp, q_ktI, q_ktN, q_ty1, q_ty2, q_ty3, q_ty4, q_ty5, q_ty6, q_ty7, q_ty8, q_ty9, q_ty10, q_ty11, q_ty12, q_ty13, q_ty14, q_ty15, q_ty16, q_ty17, q_ty18, q_ty19, q_ty20, q_ty21, q_ty22, q_ty23, q_ty24, q_ty25, q_ty26, q_itR, q_itT, q_itL, q_rg1, q_rg2, q_rg3, q_enR, q_enL, q_zpR, q_enT, q_zpT, q_tIx, q_tIxR, q_tIn, q_mIx, q_mIxR, q_mIn, q_zpL, q_zpF, q_rvL, q_rvT, q_tgN, q_tgT, q_frS, q_asR, q_lsL, q_lsR, q_pN, q_pV, q_pI, q_pO, q_pG, q_pX, q_pB]
      by_cases c2 : way = 2 ∧ 0 < size
      · have g1 := eq_true c2.1
        have g2 : (0 < (size : Int)) = True := eq_true (by omega)
        have r2 := r2 (.t (by rw [List.length_append, List.length_dropLast, List.length_singleton]; omega) (fun i hi => by
          rcases List.mem_append.1 hi with m | m
          · exact ib i ((List.dropLast_sublist is).subset m)
          · rw [List.mem_singleton.1 m]; unfold B; omega))
        rw [List.map_append] at r2
        simp -implicitDefEqProofs only [b_law_thing_1, c2.1, gt_iff_lt, g2, Int.reduceNeg, cl, z1, z2, f60, s1, List.length_map, List.length_singleton, ll, frz_tup, gc_self, ne_eq, not_false_eq_true, wS, up_up, exists_eq', Lt.hE, Lt.hA, Lt.hN, Lt.hS, wipeE, Nat.le_add_left, Nat.reduceLeDiff, Lt.wE, wA, wAn, wOr, optW_some, getE, setE, setsE, edOf, startE, new_frz, new_frzN, all_free, q_eqD, q_neD, eqW_dct, frz_non, frz_bl, frz_int, frz_str, frz_tup, frz_lst, wrL_up, rdL_up, era_up, gc_up, atI_0, atI_1, atI_2, List.map_cons, List.map_nil, List.length_cons, List.length_nil, List.length_map, List.replicate, List.cons_append, List.nil_append, List.append_nil, Nat.sub_self, decide_eq_true_eq, decide_eq_false_iff_not, Bool.not_eq_true', Bool.not_eq_true, Bool.not_true, Bool.not_false, not_true_eq_false, not_false_eq_true, if_true, if_false, ite_true, ite_false, true_and, and_true, eq_self, reduceIte, Bool.false_eq_true, gc_self, up_same, Option.some.injEq, reduceCtorEq, List.getElem?_map, Option.map_some, Option.map_none, Nat.zero_add, Nat.reduceAdd, Nat.reduceSub, q_addI, q_addS, q_addT, q_addL, q_addR, q_subI, q_mulI, q_mulR, q_mulL, q_mulT, q_divI, q_modI, q_powI, q_neg, q_lt, q_le, q_gt, q_ge, q_eqI, q_neI, q_eqB, q_eqS, q_eqN, q_eqT, q_eqL, q_eqR, q_neB, q_neS, q_neN, q_neT, q_neL, q_neR, q_in, q_notin, q_ixT, q_ixL, q_ixS, q_ixR, q_slT, q_slL, q_slR, q_slS, q_intW, q_blW, q_lenT, q_lenS, q_lenR, q_lenL, q_int1I, q_int1B, q_abs, q_min2, q_max2, q_sumR, q_sumL, q_sumT, q_anyR, q_anyL, q_allR, q_allL, q_listR, q_listL, q_listT, q_tupR, q_tupL, q_tupT, q_tAp, q_tEx, q_tPop, q_tRev, q_tCl, q_mAp, q_mEx, q_sqT, q_sqL, q_sqR, q_lrev, q_mPop, q_mRev, q_mCl, q_isN1, q_isN2, q_isN3, q_isN4, q_isN5, q_isN6, q_isN7, q_isN8, sel_some, sel_none, wrN_upD, rdL_upD, wrL_upD, wrN_upL, frz_dct, q_ixD, q_lenD, q_rdD, q_rdR, q_rdL, q_inR, q_inD, q_tGet, q_get2, q_get3, q_dnew, q_done, q_sumV, q_srtK, q_srtL, q_dcp, q_ktI, q_ktN, q_ty1, q_ty2, q_ty3, q_ty4, q_ty5, q_ty6, q_ty7, q_ty8, q_ty9, q_ty10, q_ty11, q_ty12, q_ty13, q_ty14, q_ty15, q_ty16, q_ty17, q_ty18, q_ty19, q_ty20, q_ty21, q_ty22, q_ty23, q_ty24, q_ty25, q_ty26, q_itR, q_itT, q_itL, q_rg1, q_rg2, q_rg3, q_enR, q_enL, q_zpR, q_enT, q_zpT, q_tIx, q_tIxR, q_tIn, q_mIx, q_mIxR, q_mIn, q_zpL, q_zpF, q_rvL, q_rvT, q_tgN, q_tgT, q_frS, q_asR, q_lsL, q_lsR, q_pN, q_pV, q_pI, q_pO, q_pG, q_pX, q_pB]
        exact r2
      · by_cases w2 : way = 2
        · have g2 : (0 < (size : Int)) = False := eq_false (fun z => c2 ⟨w2, by omega⟩)
          simp -implicitDefEqProofs only [b_law_thing_1, w2, gt_iff_lt, g2, gc_self, wS, up_up, exists_eq', Lt.hE, Lt.hA, Lt.hN, Lt.hS, wipeE, Nat.le_add_left, Nat.reduceLeDiff, Lt.wE, wA, wAn, wOr, optW_some, getE, setE, setsE, edOf, startE, new_frz, new_frzN, all_free, q_eqD, q_neD, eqW_dct, frz_non, frz_bl, frz_int, frz_str, frz_tup, frz_lst, wrL_up, rdL_up, era_up, gc_up, atI_0, atI_1, atI_2, List.map_cons, List.map_nil, List.length_cons, List.length_nil, List.length_map, List.replicate, List.cons_append, List.nil_append, List.append_nil, Nat.sub_self, decide_eq_true_eq, decide_eq_false_iff_not, Bool.not_eq_true', Bool.not_eq_true, Bool.not_true, Bool.not_false, not_true_eq_false, not_false_eq_true, if_true, if_false, ite_true, ite_false, true_and, and_true, eq_self, reduceIte, Bool.false_eq_true, gc_self, up_same, Option.some.injEq, reduceCtorEq, List.getElem?_map, Option.map_some, Option.map_none, Nat.zero_add, Nat.reduceAdd, Nat.reduceSub, q_addI, q_addS, q_addT, q_addL, q_addR, q_subI, q_mulI, q_mulR, q_mulL, q_mulT, q_divI, q_modI, q_powI, q_neg, q_lt, q_le, q_gt, q_ge, q_eqI, q_neI, q_eqB, q_eqS, q_eqN, q_eqT, q_eqL, q_eqR, q_neB, q_neS, q_neN, q_neT, q_neL, q_neR, q_in, q_notin, q_ixT, q_ixL, q_ixS, q_ixR, q_slT, q_slL, q_slR, q_slS, q_intW, q_blW, q_lenT, q_lenS, q_lenR, q_lenL, q_int1I, q_int1B, q_abs, q_min2, q_max2, q_sumR, q_sumL, q_sumT, q_anyR, q_anyL, q_allR, q_allL, q_listR, q_listL, q_listT, q_tupR, q_tupL, q_tupT, q_tAp, q_tEx, q_tPop, q_tRev, q_tCl, q_mAp, q_mEx, q_sqT, q_sqL, q_sqR, q_lrev, q_mPop, q_mRev, q_mCl, q_isN1, q_isN2, q_isN3, q_isN4, q_isN5, q_isN6, q_isN7, q_isN8, sel_some, sel_none, wrN_upD, rdL_upD, wrL_upD, wrN_upL, frz_dct, q_ixD, q_lenD, q_rdD, q_rdR, q_rdL, q_inR, q_inD, q_tGet, q_get2, q_get3, q_dnew, q_done, q_sumV, q_srtK, q_srtL, q_dcp, q_ktI, q_ktN, q_ty1, q_ty2, q_ty3, q_ty4, q_ty5, q_ty6, q_ty7, q_ty8, q_ty9, q_ty10, q_ty11, q_ty12, q_ty13, q_ty14, q_ty15, q_ty16, q_ty17, q_ty18, q_ty19, q_ty20, q_ty21, q_ty22, q_ty23, q_ty24, q_ty25, q_ty26, q_itR, q_itT, q_itL, q_rg1, q_rg2, q_rg3, q_enR, q_enL, q_zpR, q_enT, q_zpT, q_tIx, q_tIxR, q_tIn, q_mIx, q_mIxR, q_mIn, q_zpL, q_zpF, q_rvL, q_rvT, q_tgN, q_tgT, q_frS, q_asR, q_lsL, q_lsR, q_pN, q_pV, q_pI, q_pO, q_pG, q_pX, q_pB]
          exact r1
        · have g1 := eq_false w2
          simp -implicitDefEqProofs only [b_law_thing_1, g1, gc_self, wS, up_up, exists_eq', Lt.hE, Lt.hA, Lt.hN, Lt.hS, wipeE, Nat.le_add_left, Nat.reduceLeDiff, Lt.wE, wA, wAn, wOr, optW_some, getE, setE, setsE, edOf, startE, new_frz, new_frzN, all_free, q_eqD, q_neD, eqW_dct, frz_non, frz_bl, frz_int, frz_str, frz_tup, frz_lst, wrL_up, rdL_up, era_up, gc_up, atI_0, atI_1, atI_2, List.map_cons, List.map_nil, List.length_cons, List.length_nil, List.length_map, List.replicate, List.cons_append, List.nil_append, List.append_nil, Nat.sub_self, decide_eq_true_eq, decide_eq_false_iff_not, Bool.not_eq_true', Bool.not_eq_true, Bool.not_true, Bool.not_false, not_true_eq_false, not_false_eq_true, if_true, if_false, ite_true, ite_false, true_and, and_true, eq_self, reduceIte, Bool.false_eq_true, gc_self, up_same, Option.some.injEq, reduceCtorEq, List.getElem?_map, Option.map_some, Option.map_none, Nat.zero_add, Nat.reduceAdd, Nat.reduceSub, q_addI, q_addS, q_addT, q_addL, q_addR, q_subI, q_mulI, q_mulR, q_mulL, q_mulT, q_divI, q_modI, q_powI, q_neg, q_lt, q_le, q_gt, q_ge, q_eqI, q_neI, q_eqB, q_eqS, q_eqN, q_eqT, q_eqL, q_eqR, q_neB, q_neS, q_neN, q_neT, q_neL, q_neR, q_in, q_notin, q_ixT, q_ixL, q_ixS, q_ixR, q_slT, q_slL, q_slR, q_slS, q_intW, q_blW, q_lenT, q_lenS, q_lenR, q_lenL, q_int1I, q_int1B, q_abs, q_min2, q_max2, q_sumR, q_sumL, q_sumT, q_anyR, q_anyL, q_allR, q_allL, q_listR, q_listL, q_listT, q_tupR, q_tupL, q_tupT, q_tAp, q_tEx, q_tPop, q_tRev, q_tCl, q_mAp, q_mEx, q_sqT, q_sqL, q_sqR, q_lrev, q_mPop, q_mRev, q_mCl, q_isN1, q_isN2, q_isN3, q_isN4, q_isN5, q_isN6, q_isN7, q_isN8, sel_some, sel_none, wrN_upD, rdL_upD, wrL_upD, wrN_upL, frz_dct, q_ixD, q_lenD, q_rdD, q_rdR, q_rdL, q_inR, q_inD, q_tGet, q_get2, q_get3, q_dnew, q_done, q_sumV, q_srtK, q_srtL, q_dcp, q_ktI, q_ktN, q_ty1, q_ty2, q_ty3, q_ty4, q_ty5, q_ty6, q_ty7, q_ty8, q_ty9, q_ty10, q_ty11, q_ty12, q_ty13, q_ty14, q_ty15, q_ty16, q_ty17, q_ty18, q_ty19, q_ty20, q_ty21, q_ty22, q_ty23, q_ty24, q_ty25, q_ty26, q_itR, q_itT, q_itL, q_rg1, q_rg2, q_rg3, q_enR, q_enL, q_zpR, q_enT, q_zpT, q_tIx, q_tIxR, q_tIn, q_mIx, q_mIxR, q_mIn, q_zpL, q_zpF, q_rvL, q_rvT, q_tgN, q_tgT, q_frS, q_asR, q_lsL, q_lsR, q_pN, q_pV, q_pI, q_pO, q_pG, q_pX, q_pB]
          exact r1
theorem fok_share {t b : Int} (h0 : -6 ≤ t) (h1 : t ≤ 6) (b0 : 1 ≤ b) (b5 : b ≤ 5) : Fok 6 (mk t b) := by
  have v : val (mk t b) = (t : Rat) / (b : Rat) := mk_val (by omega)
  have c6 : (((6 : Nat) : Int) : Rat) = 6 := rfl
  have t0 : (-6 : Rat) ≤ (t : Rat) := by have := Rat.intCast_le_intCast.2 h0; exact this
  have t1 : (t : Rat) ≤ 6 := by have := Rat.intCast_le_intCast.2 h1; exact this
  have bc : b = 1 ∨ b = 2 ∨ b = 3 ∨ b = 4 ∨ b = 5 := by omega
  refine ⟨mk_low (by omega), ?_, ?_, ?_⟩
  · rw [v]
    rcases bc with rfl | rfl | rfl | rfl | rfl
    · exact ⟨60 * t, by rw [Rat.intCast_mul, show ((60 : Int) : Rat) = 60 from rfl, show ((1 : Int) : Rat) = 1 from rfl]; grind⟩
    · exact ⟨30 * t, by rw [Rat.intCast_mul, show ((30 : Int) : Rat) = 30 from rfl, show ((2 : Int) : Rat) = 2 from rfl]; grind⟩
    · exact ⟨20 * t, by rw [Rat.intCast_mul, show ((20 : Int) : Rat) = 20 from rfl, show ((3 : Int) : Rat) = 3 from rfl]; grind⟩
    · exact ⟨15 * t, by rw [Rat.intCast_mul, show ((15 : Int) : Rat) = 15 from rfl, show ((4 : Int) : Rat) = 4 from rfl]; grind⟩
    · exact ⟨12 * t, by rw [Rat.intCast_mul, show ((12 : Int) : Rat) = 12 from rfl, show ((5 : Int) : Rat) = 5 from rfl]; grind⟩
  · rw [v, c6]
    rcases bc with rfl | rfl | rfl | rfl | rfl
    · rw [show ((1 : Int) : Rat) = 1 from rfl]; grind
    · rw [show ((2 : Int) : Rat) = 2 from rfl]; grind
    · rw [show ((3 : Int) : Rat) = 3 from rfl]; grind
    · rw [show ((4 : Int) : Rat) = 4 from rfl]; grind
    · rw [show ((5 : Int) : Rat) = 5 from rfl]; grind
  · rw [v, c6]
    rcases bc with rfl | rfl | rfl | rfl | rfl
    · rw [show ((1 : Int) : Rat) = 1 from rfl]; grind
    · rw [show ((2 : Int) : Rat) = 2 from rfl]; grind
    · rw [show ((3 : Int) : Rat) = 3 from rfl]; grind
    · rw [show ((4 : Int) : Rat) = 4 from rfl]; grind
    · rw [show ((5 : Int) : Rat) = 5 from rfl]; grind
theorem psOk_app {o : Option Nat} {l : List (NestedKey × Fr)} : ∀ {ps : List (NestedKey × Fr)} {c : Nat}, (∀ p ∈ ps, ThK o p.1 ∧ Fok 6 p.2) → PsOk o (c + 6 * ps.length) l → PsOk o c (ps ++ l)
  | [], c, _, h => by simpa using h
  | p :: ps, c, a, h => by
    obtain ⟨t, f⟩ := a p (by simp)
    refine ⟨t, 6, f, psOk_app (ps := ps) (c := c + 6) (fun q hq => a q (List.mem_cons_of_mem _ hq)) ?_⟩
    rw [List.length_cons] at h
    rwa [show c + 6 + 6 * ps.length = c + 6 * (ps.length + 1) by omega]
theorem sumOk_of {o : Option Nat} : ∀ {ps : List (NestedKey × Fr)} {c : Nat} {ss : Sums}, (∀ p ∈ ps, ThK o p.1 ∧ Fok 6 p.2) → SumOk o c ss → SumOk o (c + 6 * ps.length) (ps.foldl stepG ss)
  | [], c, ss, _, S => by simpa using S
  | p :: ps, c, ss, a, S => by
    obtain ⟨t, f⟩ := a p (by simp)
    have := sumOk_of (ps := ps) (fun q hq => a q (List.mem_cons_of_mem _ hq)) (S.step t f)
    rw [List.length_cons, show c + 6 * (ps.length + 1) = c + 6 + 6 * ps.length by omega]
    exact this
theorem keys_in {k : NestedKey} : ∀ {ps : List (NestedKey × Fr)} {ss : Sums}, k ∈ ss.map (·.1) ∨ k ∈ ps.map (·.1) → k ∈ (ps.foldl stepG ss).map (·.1)
  | [], ss, h => by simpa using h
  | p :: ps, ss, h => by
    rw [List.foldl_cons]
    refine keys_in ?_
    unfold stepG
    rw [sto_keys]
    rcases h with h | h
    · left; split
      · exact h
      · exact List.mem_append_left _ h
    · rw [List.map_cons] at h
      rcases List.mem_cons.1 h with z | z
      · left; split
        · rename_i m; rw [z]; exact m
        · rw [z]; exact List.mem_append_right _ (by simp)
      · exact .inr z
theorem lkp_has {ss : Sums} {k : NestedKey} (h : k ∈ ss.map (·.1)) : ∃ v, lkp ss k = some v := by
  obtain ⟨p, hp, rfl⟩ := List.mem_map.1 h
  unfold lkp
  cases e : ss.find? (fun q => decide (q.1 = p.1)) with
  | none => exact absurd (List.find?_eq_none.1 e p hp) (by simp)
  | some q => exact ⟨q.2, rfl⟩
theorem c_law_pairs {ns : List Int} (hl : ns.length ≤ 63) (hv : 6 ≤ lv) (hR : ∀ o ps, (∀ m, o = some m → m ≤ 3) → PsOk o 0 ps → ps.length ≤ 63 → R (.lst (ps.map gpD)) h) : callL L G lv "_law_pairs" [.lst (ns.map D.int)] h R Y := by
  obtain ⟨j, rfl⟩ : ∃ j, lv = j + 6 := ⟨lv - 6, by omega⟩
  rw [u_law_pairs]
  have s2 : 2 ≤ sizeLine := by decide
  have cc : ∀ (k : Nat) {lv : Nat} {h : Hh} {R : QD} {Y : XD} (hv : 1 ≤ lv), callL L G lv "_law_cell" [.lst (ns.map D.int), .int (k : Int)] h R Y = R (.int (cA ns k)) h := fun k => fun hv => c_law_cell (k := k) hv
  have c0 := fun {h : Hh} {R : QD} {Y : XD} => cc 0 (lv := j + 5) (h := h) (R := R) (Y := Y) (by omega)
  have c1 := fun {h : Hh} {R : QD} {Y : XD} => cc 1 (lv := j + 5) (h := h) (R := R) (Y := Y) (by omega)
  have c2 := fun {h : Hh} {R : QD} {Y : XD} => cc 2 (lv := j + 5) (h := h) (R := R) (Y := Y) (by omega)
  have c3 := fun {h : Hh} {R : QD} {Y : XD} => cc 3 (lv := j + 5) (h := h) (R := R) (Y := Y) (by omega)
  simp only [Int.cast_ofNat_Int] at c0 c1 c2 c3
  have w := mixF_pos (c := cA ns 0) (p := 10007) (m := 5) (by decide)
  have sz := mixF_pos (c := cA ns 1) (p := 10009) (m := 4) (by decide)
  obtain ⟨way, ew⟩ : ∃ way : Int, mixF (cA ns 0) 10007 5 = way := ⟨_, rfl⟩
  obtain ⟨size, es⟩ : ∃ size : Nat, mixF (cA ns 1) 10009 4 = size := ⟨(mixF (cA ns 1) 10009 4).toNat, by omega⟩
  rw [ew] at w
  have o3 : ∀ m, oW way size = some m → m ≤ 3 := fun m e => by
    unfold oW at e
    split at e
    · cases e
    · cases e; omega
  have ct : cutD (ns.map D.int) none (some 62) = (ns.take 62).map D.int := by rw [cutD_map]; exact congrArg _ (cut_to (k := 62))
  simp -implicitDefEqProofs only [b_law_pairs, c0, c1, c_law_mix (p := 10007) (m := 5) (by decide) (by decide) (by omega : 1 ≤ j + 5), c_law_mix (p := 10009) (m := 4) (by decide) (by decide) (by omega : 1 ≤ j + 5), ew, es, ct, new_frz, wS, up_up, exists_eq', Lt.hE, Lt.hA, Lt.hN, Lt.hS, wipeE, Nat.le_add_left, Nat.reduceLeDiff, Lt.wE, wA, wAn, wOr, optW_some, getE, setE, setsE, edOf, startE, new_frz, new_frzN, all_free, q_eqD, q_neD, eqW_dct, frz_non, frz_bl, frz_int, frz_str, frz_tup, frz_lst, wrL_up, rdL_up, era_up, gc_up, atI_0, atI_1, atI_2, List.map_cons, List.map_nil, List.length_cons, List.length_nil, List.length_map, List.replicate, List.cons_append, List.nil_append, List.append_nil, Nat.sub_self, decide_eq_true_eq, decide_eq_false_iff_not, Bool.not_eq_true', Bool.not_eq_true, Bool.not_true, Bool.not_false, not_true_eq_false, not_false_eq_true, if_true, if_false, ite_true, ite_false, true_and, and_true, eq_self, reduceIte, Bool.false_eq_true, gc_self, up_same, Option.some.injEq, reduceCtorEq, List.getElem?_map, Option.map_some, Option.map_none, Nat.zero_add, Nat.reduceAdd, Nat.reduceSub, q_addI, q_addS, q_addT, q_addL, q_addR, q_subI, q_mulI, q_mulR, q_mulL, q_mulT, q_divI, q_modI, q_powI, q_neg, q_lt, q_le, q_gt, q_ge, q_eqI, q_neI, q_eqB, q_eqS, q_eqN, q_eqT, q_eqL, q_eqR, q_neB, q_neS, q_neN, q_neT, q_neL, q_neR, q_in, q_notin, q_ixT, q_ixL, q_ixS, q_ixR, q_slT, q_slL, q_slR, q_slS, q_intW, q_blW, q_lenT, q_lenS, q_lenR, q_lenL, q_int1I, q_int1B, q_abs, q_min2, q_max2, q_sumR, q_sumL, q_sumT, q_anyR, q_anyL, q_allR, q_allL, q_listR, q_listL, q_listT, q_tupR, q_tupL, q_tupT, q_tAp, q_tEx, q_tPop, q_tRev, q_tCl, q_mAp, q_mEx, q_sqT, q_sqL, q_sqR, q_lrev, q_mPop, q_mRev, q_mCl, q_isN1, q_isN2, q_isN3, q_isN4, q_isN5, q_isN6, q_isN7, q_isN8, sel_some, sel_none, wrN_upD, rdL_upD, wrL_upD, wrN_upL, frz_dct, q_ixD, q_lenD, q_rdD, q_rdR, q_rdL, q_inR, q_inD, q_tGet, q_get2, q_get3, q_dnew, q_done, q_sumV, q_srtK, q_srtL, q_dcp, q_ktI, q_ktN, q_ty1, q_ty2, q_ty3, q_ty4, q_ty5, q_ty6, q_ty7, q_ty8, q_ty9, q_ty10, q_ty11, q_ty12, q_ty13, q_ty14, q_ty15, q_ty16, q_ty17, q_ty18, q_ty19, q_ty20, q_ty21, q_ty22, q_ty23, q_ty24, q_ty25, q_ty26, q_itR, q_itT, q_itL, q_rg1, q_rg2, q_rg3, q_enR, q_enL, q_zpR, q_enT, q_zpT, q_tIx, q_tIxR, q_tIn, q_mIx, q_mIxR, q_mIn, q_zpL, q_zpF, q_rvL, q_rvT, q_tgN, q_tgT, q_frS, q_asR, q_lsL, q_lsR, q_pN, q_pV, q_pI, q_pO, q_pG, q_pX, q_pB]
  refine ⟨by decide, fun p hp => ?_⟩
  refine fr_go (σ := List (NestedKey × Fr)) (fun _ => [some (.lst (ns.map D.int)), some (.int way), some (.int (size : Int)), some (.ref p), none, none, none, none, none]) (fun s => up h p (.lst (s.map gpD))) D.int (fun as s => (∀ q ∈ s, ThK (oW way size) q.1 ∧ Fok 6 q.2) ∧ s.length + as.length ≤ 62) (fun ps I => ?nil9) (fun x as ps I W hW => ?turn9) (ns.take 62) [] ⟨by simp, by rw [List.length_take]; simp; omega⟩
  case turn9 =>
    obtain ⟨i1, i2⟩ := I
    rw [List.length_cons] at i2
    have q1 := mixF_pos (c := x) (p := 10061) (m := 13) (by decide)
    have q2 := mixF_pos (c := x) (p := 10067) (m := 5) (by decide)
    have sl : ps.length < sizeLine := Nat.lt_of_le_of_lt (by omega : _ ≤ 62) (by decide)
    have lo : ∀ {h : Hh} {R : QD} {Y : XD}, callL L G (j + 5) "_law_lowest" [.int (mixF x 10061 13 - 6), .int (1 + mixF x 10067 5)] h R Y = R (frD (mk (mixF x 10061 13 - 6) (1 + mixF x 10067 5))) h := fun {h R Y} => c_law_lowest (by omega) (B.mono (m := 8) (by unfold B; omega) (by decide)) (by omega)
    simp -implicitDefEqProofs only [b_law_pairs_2, c_law_mix (p := 10061) (m := 13) (by decide) (by decide) (by omega : 1 ≤ j + 5), c_law_mix (p := 10067) (m := 5) (by decide) (by decide) (by omega : 1 ≤ j + 5), lo, rdL_up, wS, up_up, exists_eq', Lt.hE, Lt.hA, Lt.hN, Lt.hS, wipeE, Nat.le_add_left, Nat.reduceLeDiff, Lt.wE, wA, wAn, wOr, optW_some, getE, setE, setsE, edOf, startE, new_frz, new_frzN, all_free, q_eqD, q_neD, eqW_dct, frz_non, frz_bl, frz_int, frz_str, frz_tup, frz_lst, wrL_up, rdL_up, era_up, gc_up, atI_0, atI_1, atI_2, List.map_cons, List.map_nil, List.length_cons, List.length_nil, List.length_map, List.replicate, List.cons_append, List.nil_append, List.append_nil, Nat.sub_self, decide_eq_true_eq, decide_eq_false_iff_not, Bool.not_eq_true', Bool.not_eq_true, Bool.not_true, Bool.not_false, not_true_eq_false, not_false_eq_true, if_true, if_false, ite_true, ite_false, true_and, and_true, eq_self, reduceIte, Bool.false_eq_true, gc_self, up_same, Option.some.injEq, reduceCtorEq, List.getElem?_map, Option.map_some, Option.map_none, Nat.zero_add, Nat.reduceAdd, Nat.reduceSub, q_addI, q_addS, q_addT, q_addL, q_addR, q_subI, q_mulI, q_mulR, q_mulL, q_mulT, q_divI, q_modI, q_powI, q_neg, q_lt, q_le, q_gt, q_ge, q_eqI, q_neI, q_eqB, q_eqS, q_eqN, q_eqT, q_eqL, q_eqR, q_neB, q_neS, q_neN, q_neT, q_neL, q_neR, q_in, q_notin, q_ixT, q_ixL, q_ixS, q_ixR, q_slT, q_slL, q_slR, q_slS, q_intW, q_blW, q_lenT, q_lenS, q_lenR, q_lenL, q_int1I, q_int1B, q_abs, q_min2, q_max2, q_sumR, q_sumL, q_sumT, q_anyR, q_anyL, q_allR, q_allL, q_listR, q_listL, q_listT, q_tupR, q_tupL, q_tupT, q_tAp, q_tEx, q_tPop, q_tRev, q_tCl, q_mAp, q_mEx, q_sqT, q_sqL, q_sqR, q_lrev, q_mPop, q_mRev, q_mCl, q_isN1, q_isN2, q_isN3, q_isN4, q_isN5, q_isN6, q_isN7, q_isN8, sel_some, sel_none, wrN_upD, rdL_upD, wrL_upD, wrN_upL, frz_dct, q_ixD, q_lenD, q_rdD, q_rdR, q_rdL, q_inR, q_inD, q_tGet, q_get2, q_get3, q_dnew, q_done, q_sumV, q_srtK, q_srtL, q_dcp, q_ktI, q_ktN, q_ty1, q_ty2, q_ty3, q_ty4, q_ty5, q_ty6, q_ty7, q_ty8, q_ty9, q_ty10, q_ty11, q_ty12, q_ty13, q_ty14, q_ty15, q_ty16, q_ty17, q_ty18, q_ty19, q_ty20, q_ty21, q_ty22, q_ty23, q_ty24, q_ty25, q_ty26, q_itR, q_itT, q_itL, q_rg1, q_rg2, q_rg3, q_enR, q_enL, q_zpR, q_enT, q_zpT, q_tIx, q_tIxR, q_tIn, q_mIx, q_mIxR, q_mIn, q_zpL, q_zpF, q_rvL, q_rvT, q_tgN, q_tgT, q_frS, q_asR, q_lsL, q_lsR, q_pN, q_pV, q_pI, q_pO, q_pG, q_pX, q_pB]
    refine c_law_thing (by omega) w.1 w.2 (by omega) fun k tk => ?_
    have f6 : Fok 6 (mk (mixF x 10061 13 - 6) (1 + mixF x 10067 5)) := fok_share (by omega) (by omega) (by omega) (by omega)
    have go := hW (ps ++ [(k, mk (mixF x 10061 13 - 6) (1 + mixF x 10067 5))]) ⟨fun q hq => by
      rcases List.mem_append.1 hq with m | m
      · exact i1 q m
      · rw [List.mem_singleton.1 m]; exact ⟨tk, f6⟩, by rw [List.length_append, List.length_singleton]; omega⟩
    rw [List.map_append] at go
    simp -implicitDefEqProofs only [s2, wrL_up, rdL_up, List.length_map, sl, wS, up_up, exists_eq', Lt.hE, Lt.hA, Lt.hN, Lt.hS, wipeE, Nat.le_add_left, Nat.reduceLeDiff, Lt.wE, wA, wAn, wOr, optW_some, getE, setE, setsE, edOf, startE, new_frz, new_frzN, all_free, q_eqD, q_neD, eqW_dct, frz_non, frz_bl, frz_int, frz_str, frz_tup, frz_lst, wrL_up, rdL_up, era_up, gc_up, atI_0, atI_1, atI_2, List.map_cons, List.map_nil, List.length_cons, List.length_nil, List.length_map, List.replicate, List.cons_append, List.nil_append, List.append_nil, Nat.sub_self, decide_eq_true_eq, decide_eq_false_iff_not, Bool.not_eq_true', Bool.not_eq_true, Bool.not_true, Bool.not_false, not_true_eq_false, not_false_eq_true, if_true, if_false, ite_true, ite_false, true_and, and_true, eq_self, reduceIte, Bool.false_eq_true, gc_self, up_same, Option.some.injEq, reduceCtorEq, List.getElem?_map, Option.map_some, Option.map_none, Nat.zero_add, Nat.reduceAdd, Nat.reduceSub, q_addI, q_addS, q_addT, q_addL, q_addR, q_subI, q_mulI, q_mulR, q_mulL, q_mulT, q_divI, q_modI, q_powI, q_neg, q_lt, q_le, q_gt, q_ge, q_eqI, q_neI, q_eqB, q_eqS, q_eqN, q_eqT, q_eqL, q_eqR, q_neB, q_neS, q_neN, q_neT, q_neL, q_neR, q_in, q_notin, q_ixT, q_ixL, q_ixS, q_ixR, q_slT, q_slL, q_slR, q_slS, q_intW, q_blW, q_lenT, q_lenS, q_lenR, q_lenL, q_int1I, q_int1B, q_abs, q_min2, q_max2, q_sumR, q_sumL, q_sumT, q_anyR, q_anyL, q_allR, q_allL, q_listR, q_listL, q_listT, q_tupR, q_tupL, q_tupT, q_tAp, q_tEx, q_tPop, q_tRev, q_tCl, q_mAp, q_mEx, q_sqT, q_sqL, q_sqR, q_lrev, q_mPop, q_mRev, q_mCl, q_isN1, q_isN2, q_isN3, q_isN4, q_isN5, q_isN6, q_isN7, q_isN8, sel_some, sel_none, wrN_upD, rdL_upD, wrL_upD, wrN_upL, frz_dct, q_ixD, q_lenD, q_rdD, q_rdR, q_rdL, q_inR, q_inD, q_tGet, q_get2, q_get3, q_dnew, q_done, q_sumV, q_srtK, q_srtL, q_dcp, q_ktI, q_ktN, q_ty1, q_ty2, q_ty3, q_ty4, q_ty5, q_ty6, q_ty7, q_ty8, q_ty9, q_ty10, q_ty11, q_ty12, q_ty13, q_ty14, q_ty15, q_ty16, q_ty17, q_ty18, q_ty19, q_ty20, q_ty21, q_ty22, q_ty23, q_ty24, q_ty25, q_ty26, q_itR, q_itT, q_itL, q_rg1, q_rg2, q_rg3, q_enR, q_enL, q_zpR, q_enT, q_zpT, q_tIx, q_tIxR, q_tIn, q_mIx, q_mIxR, q_mIn, q_zpL, q_zpF, q_rvL, q_rvT, q_tgN, q_tgT, q_frS, q_asR, q_lsL, q_lsR, q_pN, q_pV, q_pI, q_pO, q_pG, q_pX, q_pB]
    exact go
  case nil9 =>
    obtain ⟨i1, i2⟩ := I
    have l62 : ps.length ≤ 62 := i2
    have P0 : PsOk (oW way size) 0 ps := by
      have := psOk_app (o := oW way size) (l := []) (c := 0) i1 (show _ ≤ 1000 by omega)
      rwa [List.append_nil] at this
    have keep := hR (oW way size) ps o3 P0 (by omega)
    have q2 := mixF_pos (c := cA ns 2) (p := 10069) (m := 2) (by decide)
    have rdp : ∀ {o : O}, rdL (up h p (.lst (ps.map gpD))) p = some (ps.map gpD) := rdL_up
    by_cases c : 0 < ps.length ∧ mixF (cA ns 2) 10069 2 = 0
    · have g1 : (0 < (ps.length : Int)) = True := eq_true (by omega)
      have q3 := mixF_pos (c := cA ns 3) (p := 10079) (m := (ps.length : Int)) (by omega)
      obtain ⟨i, ei⟩ : ∃ i : Nat, mixF (cA ns 3) 10079 (ps.length : Int) = i := ⟨(mixF (cA ns 3) 10079 (ps.length : Int)).toNat, by omega⟩
      have hi : i < ps.length := by omega
      have em := List.getElem_mem hi
      have ea : atI (ps.map gpD) (i : Int) = some (gpD ps[i]) := by rw [atI_N, List.getElem?_map, List.getElem?_eq_getElem hi]; rfl
      generalize ps[i] = e at em ea
      obtain ⟨q, eq⟩ := lkp_has (keys_in (ps := ps) (ss := []) (.inr (List.mem_map.2 ⟨e, em, rfl⟩)))
      have Sm : SumOk (oW way size) (0 + 6 * ps.length) (sumG ps) := sumOk_of i1 ⟨by simp, by simp, by simp⟩
      have eq : lkp (sumG ps) e.1 = some q := eq
      have fq := (Sm.fr _ (lkp_mem eq)).mono (show _ ≤ 372 by omega)
      have lk : lkp (kvG (sumG ps)) e.1 = some (frD q) := by rw [lkp_kvG, eq]; rfl
      have te := (i1 e em).1
      have sl : ps.length < sizeLine := Nat.lt_of_le_of_lt l62 (by decide)
      have ea : atI (ps.map gpD) (i : Int) = some (.tup [ofK e.1, frD e.2]) := ea
      simp -implicitDefEqProofs only [b_law_pairs_1, ea, rdL_up, List.length_map, gt_iff_lt, g1, c2, c3, c_law_mix (p := 10069) (m := 2) (by decide) (by decide) (by omega : 1 ≤ j + 5), c.2, c_law_mix (p := 10079) (m := (ps.length : Int)) (by decide) (by omega : (0 : Int) < (ps.length : Int)) (by omega : 1 ≤ j + 5), ei, wS, up_up, exists_eq', Lt.hE, Lt.hA, Lt.hN, Lt.hS, wipeE, Nat.le_add_left, Nat.reduceLeDiff, Lt.wE, wA, wAn, wOr, optW_some, getE, setE, setsE, edOf, startE, new_frz, new_frzN, all_free, q_eqD, q_neD, eqW_dct, frz_non, frz_bl, frz_int, frz_str, frz_tup, frz_lst, wrL_up, rdL_up, era_up, gc_up, atI_0, atI_1, atI_2, List.map_cons, List.map_nil, List.length_cons, List.length_nil, List.length_map, List.replicate, List.cons_append, List.nil_append, List.append_nil, Nat.sub_self, decide_eq_true_eq, decide_eq_false_iff_not, Bool.not_eq_true', Bool.not_eq_true, Bool.not_true, Bool.not_false, not_true_eq_false, not_false_eq_true, if_true, if_false, ite_true, ite_false, true_and, and_true, eq_self, reduceIte, Bool.false_eq_true, gc_self, up_same, Option.some.injEq, reduceCtorEq, List.getElem?_map, Option.map_some, Option.map_none, Nat.zero_add, Nat.reduceAdd, Nat.reduceSub, q_addI, q_addS, q_addT, q_addL, q_addR, q_subI, q_mulI, q_mulR, q_mulL, q_mulT, q_divI, q_modI, q_powI, q_neg, q_lt, q_le, q_gt, q_ge, q_eqI, q_neI, q_eqB, q_eqS, q_eqN, q_eqT, q_eqL, q_eqR, q_neB, q_neS, q_neN, q_neT, q_neL, q_neR, q_in, q_notin, q_ixT, q_ixL, q_ixS, q_ixR, q_slT, q_slL, q_slR, q_slS, q_intW, q_blW, q_lenT, q_lenS, q_lenR, q_lenL, q_int1I, q_int1B, q_abs, q_min2, q_max2, q_sumR, q_sumL, q_sumT, q_anyR, q_anyL, q_allR, q_allL, q_listR, q_listL, q_listT, q_tupR, q_tupL, q_tupT, q_tAp, q_tEx, q_tPop, q_tRev, q_tCl, q_mAp, q_mEx, q_sqT, q_sqL, q_sqR, q_lrev, q_mPop, q_mRev, q_mCl, q_isN1, q_isN2, q_isN3, q_isN4, q_isN5, q_isN6, q_isN7, q_isN8, sel_some, sel_none, wrN_upD, rdL_upD, wrL_upD, wrN_upL, frz_dct, q_ixD, q_lenD, q_rdD, q_rdR, q_rdL, q_inR, q_inD, q_tGet, q_get2, q_get3, q_dnew, q_done, q_sumV, q_srtK, q_srtL, q_dcp, q_ktI, q_ktN, q_ty1, q_ty2, q_ty3, q_ty4, q_ty5, q_ty6, q_ty7, q_ty8, q_ty9, q_ty10, q_ty11, q_ty12, q_ty13, q_ty14, q_ty15, q_ty16, q_ty17, q_ty18, q_ty19, q_ty20, q_ty21, q_ty22, q_ty23, q_ty24, q_ty25, q_ty26, q_itR, q_itT, q_itL, q_rg1, q_rg2, q_rg3, q_enR, q_enL, q_zpR, q_enT, q_zpT, q_tIx, q_tIxR, q_tIn, q_mIx, q_mIxR, q_mIn, q_zpL, q_zpF, q_rvL, q_rvT, q_tgN, q_tgT, q_frS, q_asR, q_lsL, q_lsR, q_pN, q_pV, q_pI, q_pO, q_pG, q_pX, q_pB]
      refine c_law_sumsR rdL_up P0 (by omega) (fun _ _ => ?_) (by omega)
      have r2 := hR (oW way size) (ps ++ [(e.1, (-q.1, q.2))]) o3 (psOk_app i1 ⟨te, 372, fq.neg, show _ ≤ 1000 by omega⟩) (by rw [List.length_append, List.length_singleton]; omega)
      rw [List.map_append] at r2
      simp -implicitDefEqProofs only [zip_fs, keyT_th te, lk, rdL_up, wrL_up, List.length_map, sl, s2, frz_at hp, gc_self, wS, up_up, exists_eq', Lt.hE, Lt.hA, Lt.hN, Lt.hS, wipeE, Nat.le_add_left, Nat.reduceLeDiff, Lt.wE, wA, wAn, wOr, optW_some, getE, setE, setsE, edOf, startE, new_frz, new_frzN, all_free, q_eqD, q_neD, eqW_dct, frz_non, frz_bl, frz_int, frz_str, frz_tup, frz_lst, wrL_up, rdL_up, era_up, gc_up, atI_0, atI_1, atI_2, List.map_cons, List.map_nil, List.length_cons, List.length_nil, List.length_map, List.replicate, List.cons_append, List.nil_append, List.append_nil, Nat.sub_self, decide_eq_true_eq, decide_eq_false_iff_not, Bool.not_eq_true', Bool.not_eq_true, Bool.not_true, Bool.not_false, not_true_eq_false, not_false_eq_true, if_true, if_false, ite_true, ite_false, true_and, and_true, eq_self, reduceIte, Bool.false_eq_true, gc_self, up_same, Option.some.injEq, reduceCtorEq, List.getElem?_map, Option.map_some, Option.map_none, Nat.zero_add, Nat.reduceAdd, Nat.reduceSub, q_addI, q_addS, q_addT, q_addL, q_addR, q_subI, q_mulI, q_mulR, q_mulL, q_mulT, q_divI, q_modI, q_powI, q_neg, q_lt, q_le, q_gt, q_ge, q_eqI, q_neI, q_eqB, q_eqS, q_eqN, q_eqT, q_eqL, q_eqR, q_neB, q_neS, q_neN, q_neT, q_neL, q_neR, q_in, q_notin, q_ixT, q_ixL, q_ixS, q_ixR, q_slT, q_slL, q_slR, q_slS, q_intW, q_blW, q_lenT, q_lenS, q_lenR, q_lenL, q_int1I, q_int1B, q_abs, q_min2, q_max2, q_sumR, q_sumL, q_sumT, q_anyR, q_anyL, q_allR, q_allL, q_listR, q_listL, q_listT, q_tupR, q_tupL, q_tupT, q_tAp, q_tEx, q_tPop, q_tRev, q_tCl, q_mAp, q_mEx, q_sqT, q_sqL, q_sqR, q_lrev, q_mPop, q_mRev, q_mCl, q_isN1, q_isN2, q_isN3, q_isN4, q_isN5, q_isN6, q_isN7, q_isN8, sel_some, sel_none, wrN_upD, rdL_upD, wrL_upD, wrN_upL, frz_dct, q_ixD, q_lenD, q_rdD, q_rdR, q_rdL, q_inR, q_inD, q_tGet, q_get2, q_get3, q_dnew, q_done, q_sumV, q_srtK, q_srtL, q_dcp, q_ktI, q_ktN, q_ty1, q_ty2, q_ty3, q_ty4, q_ty5, q_ty6, q_ty7, q_ty8, q_ty9, q_ty10, q_ty11, q_ty12, q_ty13, q_ty14, q_ty15, q_ty16, q_ty17, q_ty18, q_ty19, q_ty20, q_ty21, q_ty22, q_ty23, q_ty24, q_ty25, q_ty26, q_itR, q_itT, q_itL, q_rg1, q_rg2, q_rg3, q_enR, q_enL, q_zpR, q_enT, q_zpT, q_tIx, q_tIxR, q_tIn, q_mIx, q_mIxR, q_mIn, q_zpL, q_zpF, q_rvL, q_rvT, q_tgN, q_tgT, q_frS, q_asR, q_lsL, q_lsR, q_pN, q_pV, q_pI, q_pO, q_pG, q_pX, q_pB]
      exact r2
    · have fin : wS ⟨callL L G (j + 5), G.glob, G.ex⟩ b_law_pairs_1 [some (.lst (ns.map D.int)), some (.int way), some (.int (size : Int)), some (.ref p), none, none, none, none, none] (up h p (.lst (ps.map gpD))) (edOf true h R Y) := by
        by_cases g : 0 < ps.length
        · have g1 : (0 < (ps.length : Int)) = True := eq_true (by omega)
          have g2 : (mixF (cA ns 2) 10069 2 = 0) = False := eq_false (fun z => c ⟨g, z⟩)
          simp -implicitDefEqProofs only [b_law_pairs_1, rdL_up, List.length_map, gt_iff_lt, g1, c2, c_law_mix (p := 10069) (m := 2) (by decide) (by decide) (by omega : 1 ≤ j + 5), g2, frz_at hp, gc_self, wS, up_up, exists_eq', Lt.hE, Lt.hA, Lt.hN, Lt.hS, wipeE, Nat.le_add_left, Nat.reduceLeDiff, Lt.wE, wA, wAn, wOr, optW_some, getE, setE, setsE, edOf, startE, new_frz, new_frzN, all_free, q_eqD, q_neD, eqW_dct, frz_non, frz_bl, frz_int, frz_str, frz_tup, frz_lst, wrL_up, rdL_up, era_up, gc_up, atI_0, atI_1, atI_2, List.map_cons, List.map_nil, List.length_cons, List.length_nil, List.length_map, List.replicate, List.cons_append, List.nil_append, List.append_nil, Nat.sub_self, decide_eq_true_eq, decide_eq_false_iff_not, Bool.not_eq_true', Bool.not_eq_true, Bool.not_true, Bool.not_false, not_true_eq_false, not_false_eq_true, if_true, if_false, ite_true, ite_false, true_and, and_true, eq_self, reduceIte, Bool.false_eq_true, gc_self, up_same, Option.some.injEq, reduceCtorEq, List.getElem?_map, Option.map_some, Option.map_none, Nat.zero_add, Nat.reduceAdd, Nat.reduceSub, q_addI, q_addS, q_addT, q_addL, q_addR, q_subI, q_mulI, q_mulR, q_mulL, q_mulT, q_divI, q_modI, q_powI, q_neg, q_lt, q_le, q_gt, q_ge, q_eqI, q_neI, q_eqB, q_eqS, q_eqN, q_eqT, q_eqL, q_eqR, q_neB, q_neS, q_neN, q_neT, q_neL, q_neR, q_in, q_notin, q_ixT, q_ixL, q_ixS, q_ixR, q_slT, q_slL, q_slR, q_slS, q_intW, q_blW, q_lenT, q_lenS, q_lenR, q_lenL, q_int1I, q_int1B, q_abs, q_min2, q_max2, q_sumR, q_sumL, q_sumT, q_anyR, q_anyL, q_allR, q_allL, q_listR, q_listL, q_listT, q_tupR, q_tupL, q_tupT, q_tAp, q_tEx, q_tPop, q_tRev, q_tCl, q_mAp, q_mEx, q_sqT, q_sqL, q_sqR, q_lrev, q_mPop, q_mRev, q_mCl, q_isN1, q_isN2, q_isN3, q_isN4, q_isN5, q_isN6, q_isN7, q_isN8, sel_some, sel_none, wrN_upD, rdL_upD, wrL_upD, wrN_upL, frz_dct, q_ixD, q_lenD, q_rdD, q_rdR, q_rdL, q_inR, q_inD, q_tGet, q_get2, q_get3, q_dnew, q_done, q_sumV, q_srtK, q_srtL, q_dcp, q_ktI, q_ktN, q_ty1, q_ty2, q_ty3, q_ty4, q_ty5, q_ty6, q_ty7, q_ty8, q_ty9, q_ty10, q_ty11, q_ty12, q_ty13, q_ty14, q_ty15, q_ty16, q_ty17, q_ty18, q_ty19, q_ty20, q_ty21, q_ty22, q_ty23, q_ty24, q_ty25, q_ty26, q_itR, q_itT, q_itL, q_rg1, q_rg2, q_rg3, q_enR, q_enL, q_zpR, q_enT, q_zpT, q_tIx, q_tIxR, q_tIn, q_mIx, q_mIxR, q_mIn, q_zpL, q_zpF, q_rvL, q_rvT, q_tgN, q_tgT, q_frS, q_asR, q_lsL, q_lsR, q_pN, q_pV, q_pI, q_pO, q_pG, q_pX, q_pB]
          exact keep
        · have g1 : (0 < (ps.length : Int)) = False := eq_false (by omega)
          simp -implicitDefEqProofs only [b_law_pairs_1, rdL_up, List.length_map, gt_iff_lt, g1, frz_at hp, gc_self, wS, up_up, exists_eq', Lt.hE, Lt.hA, Lt.hN, Lt.hS, wipeE, Nat.le_add_left, Nat.reduceLeDiff, Lt.wE, wA, wAn, wOr, optW_some, getE, setE, setsE, edOf, startE, new_frz, new_frzN, all_free, q_eqD, q_neD, eqW_dct, frz_non, frz_bl, frz_int, frz_str, frz_tup, frz_lst, wrL_up, rdL_up, era_up, gc_up, atI_0, atI_1, atI_2, List.map_cons, List.map_nil, List.length_cons, List.length_nil, List.length_map, List.replicate, List.cons_append, List.nil_append, List.append_nil, Nat.sub_self, decide_eq_true_eq, decide_eq_false_iff_not, Bool.not_eq_true', Bool.not_eq_true, Bool.not_true, Bool.not_false, not_true_eq_false, not_false_eq_true, if_true, if_false, ite_true, ite_false, true_and, and_true, eq_self, reduceIte, Bool.false_eq_true, gc_self, up_same, Option.some.injEq, reduceCtorEq, List.getElem?_map, Option.map_some, Option.map_none, Nat.zero_add, Nat.reduceAdd, Nat.reduceSub, q_addI, q_addS, q_addT, q_addL, q_addR, q_subI, q_mulI, q_mulR, q_mulL, q_mulT, q_divI, q_modI, q_powI, q_neg, q_lt, q_le, q_gt, q_ge, q_eqI, q_neI, q_eqB, q_eqS, q_eqN, q_eqT, q_eqL, q_eqR, q_neB, q_neS, q_neN, q_neT, q_neL, q_neR, q_in, q_notin, q_ixT, q_ixL, q_ixS, q_ixR, q_slT, q_slL, q_slR, q_slS, q_intW, q_blW, q_lenT, q_lenS, q_lenR, q_lenL, q_int1I, q_int1B, q_abs, q_min2, q_max2, q_sumR, q_sumL, q_sumT, q_anyR, q_anyL, q_allR, q_allL, q_listR, q_listL, q_listT, q_tupR, q_tupL, q_tupT, q_tAp, q_tEx, q_tPop, q_tRev, q_tCl, q_mAp, q_mEx, q_sqT, q_sqL, q_sqR, q_lrev, q_mPop, q_mRev, q_mCl, q_isN1, q_isN2, q_isN3, q_isN4, q_isN5, q_isN6, q_isN7, q_isN8, sel_some, sel_none, wrN_upD, rdL_upD, wrL_upD, wrN_upL, frz_dct, q_ixD, q_lenD, q_rdD, q_rdR, q_rdL, q_inR, q_inD, q_tGet, q_get2, q_get3, q_dnew, q_done, q_sumV, q_srtK, q_srtL, q_dcp, q_ktI, q_ktN, q_ty1, q_ty2, q_ty3, q_ty4, q_ty5, q_ty6, q_ty7, q_ty8, q_ty9, q_ty10, q_ty11, q_ty12, q_ty13, q_ty14, q_ty15, q_ty16, q_ty17, q_ty18, q_ty19, q_ty20, q_ty21, q_ty22, q_ty23, q_ty24, q_ty25, q_ty26, q_itR, q_itT, q_itL, q_rg1, q_rg2, q_rg3, q_enR, q_enL, q_zpR, q_enT, q_zpT, q_tIx, q_tIxR, q_tIn, q_mIx, q_mIxR, q_mIn, q_zpL, q_zpF, q_rvL, q_rvT, q_tgN, q_tgT, q_frS, q_asR, q_lsL, q_lsR, q_pN, q_pV, q_pI, q_pO, q_pG, q_pX, q_pB]
          exact keep
      exact fin
theorem psOk_all {o : Option Nat} : ∀ {ps : List (NestedKey × Fr)} {c : Nat}, PsOk o c ps → ∀ p ∈ ps, ThK o p.1 ∧ Fok 1000 p.2
  | [], _, _, p, hp => by cases hp
  | q :: ps, c, ⟨t, d, f, P⟩, p, hp => by
    rcases List.mem_cons.1 hp with z | z
    · rw [z]; exact ⟨t, f.mono (by have := P.le; omega)⟩
    · exact psOk_all P p z
theorem eqW_pairs {o : Option Nat} {es : Sums} {K : Bool → Prop} (o3 : ∀ m, o = some m → m ≤ 3) (t : ∀ e ∈ es, ThK o e.1 ∧ Fok 1000 e.2) : eqW (.lst (es.map gpD)) (.lst (es.map gpD)) h K = K true := by
  have p1 : IsP h (.lst (es.map gpD)) (shL es) := by
    unfold shL
    rw [IsP]
    exact ⟨_, rfl, isPs_pairs fun e he => (t e he).1⟩
  have sm := (Sms.all (c := 202) (n := 2) (m := 1020) (ds := es.map shP) fun d hd => by
    obtain ⟨e, he, rfl⟩ := List.mem_map.1 hd
    exact sm_pair (t e he).1 o3 (t e he).2 (by decide)).lst
  have sh : SeqAt.shaped (shL es) = true := by
    unfold SeqAt.shaped
    rw [show (shL es).canLay0 = true from sm.ly, Bool.true_and]
    simp only [decide_eq_true_eq]
    exact Nat.le_trans sm.dp (by decide)
  rw [eqW_P p1 p1 sh sh, SeqAt.eqv_refl _ (by unfold SeqAt.shaped at sh; rw [Bool.and_eq_true] at sh; exact sh.1)]
theorem LAW (ns : List Int) (hl : ns.length ≤ 63) : callL L G 40 "law" [.lst (ns.map D.int)] emp (fun d _ => d = .bl true) (fun _ _ => False) := by
  rw [show (40 : Nat) = 39 + 1 from rfl, u_law]
  simp -implicitDefEqProofs only [b_law, wS, up_up, exists_eq', Lt.hE, Lt.hA, Lt.hN, Lt.hS, wipeE, Nat.le_add_left, Nat.reduceLeDiff, Lt.wE, wA, wAn, wOr, optW_some, getE, setE, setsE, edOf, startE, new_frz, new_frzN, all_free, q_eqD, q_neD, eqW_dct, frz_non, frz_bl, frz_int, frz_str, frz_tup, frz_lst, wrL_up, rdL_up, era_up, gc_up, atI_0, atI_1, atI_2, List.map_cons, List.map_nil, List.length_cons, List.length_nil, List.length_map, List.replicate, List.cons_append, List.nil_append, List.append_nil, Nat.sub_self, decide_eq_true_eq, decide_eq_false_iff_not, Bool.not_eq_true', Bool.not_eq_true, Bool.not_true, Bool.not_false, not_true_eq_false, not_false_eq_true, if_true, if_false, ite_true, ite_false, true_and, and_true, eq_self, reduceIte, Bool.false_eq_true, gc_self, up_same, Option.some.injEq, reduceCtorEq, List.getElem?_map, Option.map_some, Option.map_none, Nat.zero_add, Nat.reduceAdd, Nat.reduceSub, q_addI, q_addS, q_addT, q_addL, q_addR, q_subI, q_mulI, q_mulR, q_mulL, q_mulT, q_divI, q_modI, q_powI, q_neg, q_lt, q_le, q_gt, q_ge, q_eqI, q_neI, q_eqB, q_eqS, q_eqN, q_eqT, q_eqL, q_eqR, q_neB, q_neS, q_neN, q_neT, q_neL, q_neR, q_in, q_notin, q_ixT, q_ixL, q_ixS, q_ixR, q_slT, q_slL, q_slR, q_slS, q_intW, q_blW, q_lenT, q_lenS, q_lenR, q_lenL, q_int1I, q_int1B, q_abs, q_min2, q_max2, q_sumR, q_sumL, q_sumT, q_anyR, q_anyL, q_allR, q_allL, q_listR, q_listL, q_listT, q_tupR, q_tupL, q_tupT, q_tAp, q_tEx, q_tPop, q_tRev, q_tCl, q_mAp, q_mEx, q_sqT, q_sqL, q_sqR, q_lrev, q_mPop, q_mRev, q_mCl, q_isN1, q_isN2, q_isN3, q_isN4, q_isN5, q_isN6, q_isN7, q_isN8, sel_some, sel_none, wrN_upD, rdL_upD, wrL_upD, wrN_upL, frz_dct, q_ixD, q_lenD, q_rdD, q_rdR, q_rdL, q_inR, q_inD, q_tGet, q_get2, q_get3, q_dnew, q_done, q_sumV, q_srtK, q_srtL, q_dcp, q_ktI, q_ktN, q_ty1, q_ty2, q_ty3, q_ty4, q_ty5, q_ty6, q_ty7, q_ty8, q_ty9, q_ty10, q_ty11, q_ty12, q_ty13, q_ty14, q_ty15, q_ty16, q_ty17, q_ty18, q_ty19, q_ty20, q_ty21, q_ty22, q_ty23, q_ty24, q_ty25, q_ty26, q_itR, q_itT, q_itL, q_rg1, q_rg2, q_rg3, q_enR, q_enL, q_zpR, q_enT, q_zpT, q_tIx, q_tIxR, q_tIn, q_mIx, q_mIxR, q_mIn, q_zpL, q_zpF, q_rvL, q_rvT, q_tgN, q_tgT, q_frS, q_asR, q_lsL, q_lsR, q_pN, q_pV, q_pI, q_pO, q_pG, q_pX, q_pB]
  refine c_law_pairs hl (by omega) fun o ps o3 P l63 => ?_
  have lz : ps.length ≤ sizeLine := Nat.le_trans l63 (by decide)
  have tt : (true = false) = False := by simp
  have s2 : 2 ≤ sizeLine := by decide
  simp -implicitDefEqProofs only [new_frz, wS, up_up, exists_eq', Lt.hE, Lt.hA, Lt.hN, Lt.hS, wipeE, Nat.le_add_left, Nat.reduceLeDiff, Lt.wE, wA, wAn, wOr, optW_some, getE, setE, setsE, edOf, startE, new_frz, new_frzN, all_free, q_eqD, q_neD, eqW_dct, frz_non, frz_bl, frz_int, frz_str, frz_tup, frz_lst, wrL_up, rdL_up, era_up, gc_up, atI_0, atI_1, atI_2, List.map_cons, List.map_nil, List.length_cons, List.length_nil, List.length_map, List.replicate, List.cons_append, List.nil_append, List.append_nil, Nat.sub_self, decide_eq_true_eq, decide_eq_false_iff_not, Bool.not_eq_true', Bool.not_eq_true, Bool.not_true, Bool.not_false, not_true_eq_false, not_false_eq_true, if_true, if_false, ite_true, ite_false, true_and, and_true, eq_self, reduceIte, Bool.false_eq_true, gc_self, up_same, Option.some.injEq, reduceCtorEq, List.getElem?_map, Option.map_some, Option.map_none, Nat.zero_add, Nat.reduceAdd, Nat.reduceSub, q_addI, q_addS, q_addT, q_addL, q_addR, q_subI, q_mulI, q_mulR, q_mulL, q_mulT, q_divI, q_modI, q_powI, q_neg, q_lt, q_le, q_gt, q_ge, q_eqI, q_neI, q_eqB, q_eqS, q_eqN, q_eqT, q_eqL, q_eqR, q_neB, q_neS, q_neN, q_neT, q_neL, q_neR, q_in, q_notin, q_ixT, q_ixL, q_ixS, q_ixR, q_slT, q_slL, q_slR, q_slS, q_intW, q_blW, q_lenT, q_lenS, q_lenR, q_lenL, q_int1I, q_int1B, q_abs, q_min2, q_max2, q_sumR, q_sumL, q_sumT, q_anyR, q_anyL, q_allR, q_allL, q_listR, q_listL, q_listT, q_tupR, q_tupL, q_tupT, q_tAp, q_tEx, q_tPop, q_tRev, q_tCl, q_mAp, q_mEx, q_sqT, q_sqL, q_sqR, q_lrev, q_mPop, q_mRev, q_mCl, q_isN1, q_isN2, q_isN3, q_isN4, q_isN5, q_isN6, q_isN7, q_isN8, sel_some, sel_none, wrN_upD, rdL_upD, wrL_upD, wrN_upL, frz_dct, q_ixD, q_lenD, q_rdD, q_rdR, q_rdL, q_inR, q_inD, q_tGet, q_get2, q_get3, q_dnew, q_done, q_sumV, q_srtK, q_srtL, q_dcp, q_ktI, q_ktN, q_ty1, q_ty2, q_ty3, q_ty4, q_ty5, q_ty6, q_ty7, q_ty8, q_ty9, q_ty10, q_ty11, q_ty12, q_ty13, q_ty14, q_ty15, q_ty16, q_ty17, q_ty18, q_ty19, q_ty20, q_ty21, q_ty22, q_ty23, q_ty24, q_ty25, q_ty26, q_itR, q_itT, q_itL, q_rg1, q_rg2, q_rg3, q_enR, q_enL, q_zpR, q_enT, q_zpT, q_tIx, q_tIxR, q_tIn, q_mIx, q_mIxR, q_mIn, q_zpL, q_zpF, q_rvL, q_rvT, q_tgN, q_tgT, q_frS, q_asR, q_lsL, q_lsR, q_pN, q_pV, q_pI, q_pO, q_pG, q_pX, q_pB]
  refine c_gathered P l63 (fun q S l9 hq => ?_) (by omega)
  have gl : (gatL (sumG ps)).length ≤ 63 := Nat.le_trans (List.length_filter_le _ _) (by rw [srtS_len]; exact l9)
  have gs : (gatL (sumG ps)).length < sizeLine := Nat.lt_of_le_of_lt gl (by decide)
  have rd : rdL (up emp q (.lst ((gatL (sumG ps)).map gpD))) q = some ((gatL (sumG ps)).map gpD) := rdL_up
  simp -implicitDefEqProofs only [eq_self, wS, up_up, exists_eq', Lt.hE, Lt.hA, Lt.hN, Lt.hS, wipeE, Nat.le_add_left, Nat.reduceLeDiff, Lt.wE, wA, wAn, wOr, optW_some, getE, setE, setsE, edOf, startE, new_frz, new_frzN, all_free, q_eqD, q_neD, eqW_dct, frz_non, frz_bl, frz_int, frz_str, frz_tup, frz_lst, wrL_up, rdL_up, era_up, gc_up, atI_0, atI_1, atI_2, List.map_cons, List.map_nil, List.length_cons, List.length_nil, List.length_map, List.replicate, List.cons_append, List.nil_append, List.append_nil, Nat.sub_self, decide_eq_true_eq, decide_eq_false_iff_not, Bool.not_eq_true', Bool.not_eq_true, Bool.not_true, Bool.not_false, not_true_eq_false, not_false_eq_true, if_true, if_false, ite_true, ite_false, true_and, and_true, eq_self, reduceIte, Bool.false_eq_true, gc_self, up_same, Option.some.injEq, reduceCtorEq, List.getElem?_map, Option.map_some, Option.map_none, Nat.zero_add, Nat.reduceAdd, Nat.reduceSub, q_addI, q_addS, q_addT, q_addL, q_addR, q_subI, q_mulI, q_mulR, q_mulL, q_mulT, q_divI, q_modI, q_powI, q_neg, q_lt, q_le, q_gt, q_ge, q_eqI, q_neI, q_eqB, q_eqS, q_eqN, q_eqT, q_eqL, q_eqR, q_neB, q_neS, q_neN, q_neT, q_neL, q_neR, q_in, q_notin, q_ixT, q_ixL, q_ixS, q_ixR, q_slT, q_slL, q_slR, q_slS, q_intW, q_blW, q_lenT, q_lenS, q_lenR, q_lenL, q_int1I, q_int1B, q_abs, q_min2, q_max2, q_sumR, q_sumL, q_sumT, q_anyR, q_anyL, q_allR, q_allL, q_listR, q_listL, q_listT, q_tupR, q_tupL, q_tupT, q_tAp, q_tEx, q_tPop, q_tRev, q_tCl, q_mAp, q_mEx, q_sqT, q_sqL, q_sqR, q_lrev, q_mPop, q_mRev, q_mCl, q_isN1, q_isN2, q_isN3, q_isN4, q_isN5, q_isN6, q_isN7, q_isN8, sel_some, sel_none, wrN_upD, rdL_upD, wrL_upD, wrN_upL, frz_dct, q_ixD, q_lenD, q_rdD, q_rdR, q_rdL, q_inR, q_inD, q_tGet, q_get2, q_get3, q_dnew, q_done, q_sumV, q_srtK, q_srtL, q_dcp, q_ktI, q_ktN, q_ty1, q_ty2, q_ty3, q_ty4, q_ty5, q_ty6, q_ty7, q_ty8, q_ty9, q_ty10, q_ty11, q_ty12, q_ty13, q_ty14, q_ty15, q_ty16, q_ty17, q_ty18, q_ty19, q_ty20, q_ty21, q_ty22, q_ty23, q_ty24, q_ty25, q_ty26, q_itR, q_itT, q_itL, q_rg1, q_rg2, q_rg3, q_enR, q_enL, q_zpR, q_enT, q_zpT, q_tIx, q_tIxR, q_tIn, q_mIx, q_mIxR, q_mIn, q_zpL, q_zpF, q_rvL, q_rvT, q_tgN, q_tgT, q_frS, q_asR, q_lsL, q_lsR, q_pN, q_pV, q_pI, q_pO, q_pG, q_pX, q_pB]
  refine c_law_right o3 P l63 rd (by omega) ?_
  simp -implicitDefEqProofs only [tt, eqW_pairs o3 (psOk_all P), s2, rdL_up, wrL_up, List.length_map, gs, wS, up_up, exists_eq', Lt.hE, Lt.hA, Lt.hN, Lt.hS, wipeE, Nat.le_add_left, Nat.reduceLeDiff, Lt.wE, wA, wAn, wOr, optW_some, getE, setE, setsE, edOf, startE, new_frz, new_frzN, all_free, q_eqD, q_neD, eqW_dct, frz_non, frz_bl, frz_int, frz_str, frz_tup, frz_lst, wrL_up, rdL_up, era_up, gc_up, atI_0, atI_1, atI_2, List.map_cons, List.map_nil, List.length_cons, List.length_nil, List.length_map, List.replicate, List.cons_append, List.nil_append, List.append_nil, Nat.sub_self, decide_eq_true_eq, decide_eq_false_iff_not, Bool.not_eq_true', Bool.not_eq_true, Bool.not_true, Bool.not_false, not_true_eq_false, not_false_eq_true, if_true, if_false, ite_true, ite_false, true_and, and_true, eq_self, reduceIte, Bool.false_eq_true, gc_self, up_same, Option.some.injEq, reduceCtorEq, List.getElem?_map, Option.map_some, Option.map_none, Nat.zero_add, Nat.reduceAdd, Nat.reduceSub, q_addI, q_addS, q_addT, q_addL, q_addR, q_subI, q_mulI, q_mulR, q_mulL, q_mulT, q_divI, q_modI, q_powI, q_neg, q_lt, q_le, q_gt, q_ge, q_eqI, q_neI, q_eqB, q_eqS, q_eqN, q_eqT, q_eqL, q_eqR, q_neB, q_neS, q_neN, q_neT, q_neL, q_neR, q_in, q_notin, q_ixT, q_ixL, q_ixS, q_ixR, q_slT, q_slL, q_slR, q_slS, q_intW, q_blW, q_lenT, q_lenS, q_lenR, q_lenL, q_int1I, q_int1B, q_abs, q_min2, q_max2, q_sumR, q_sumL, q_sumT, q_anyR, q_anyL, q_allR, q_allL, q_listR, q_listL, q_listT, q_tupR, q_tupL, q_tupT, q_tAp, q_tEx, q_tPop, q_tRev, q_tCl, q_mAp, q_mEx, q_sqT, q_sqL, q_sqR, q_lrev, q_mPop, q_mRev, q_mCl, q_isN1, q_isN2, q_isN3, q_isN4, q_isN5, q_isN6, q_isN7, q_isN8, sel_some, sel_none, wrN_upD, rdL_upD, wrL_upD, wrN_upL, frz_dct, q_ixD, q_lenD, q_rdD, q_rdR, q_rdL, q_inR, q_inD, q_tGet, q_get2, q_get3, q_dnew, q_done, q_sumV, q_srtK, q_srtL, q_dcp, q_ktI, q_ktN, q_ty1, q_ty2, q_ty3, q_ty4, q_ty5, q_ty6, q_ty7, q_ty8, q_ty9, q_ty10, q_ty11, q_ty12, q_ty13, q_ty14, q_ty15, q_ty16, q_ty17, q_ty18, q_ty19, q_ty20, q_ty21, q_ty22, q_ty23, q_ty24, q_ty25, q_ty26, q_itR, q_itT, q_itL, q_rg1, q_rg2, q_rg3, q_enR, q_enL, q_zpR, q_enT, q_zpT, q_tIx, q_tIxR, q_tIn, q_mIx, q_mIxR, q_mIn, q_zpL, q_zpF, q_rvL, q_rvT, q_tgN, q_tgT, q_frS, q_asR, q_lsL, q_lsR, q_pN, q_pV, q_pI, q_pO, q_pG, q_pX, q_pB]
  refine c_gathered P l63 (fun q2 _ _ hq2 => ?_) (by omega)
  exact c_law_right o3 P l63 rdL_up (by omega) rfl
end
end Xk04

set_option maxHeartbeats 0
namespace Xk04
open PySem PySem.Spec PyProof.Rows L2 Lt
def T : Tab := ⟨L.map (fun d => (d.name, d.np)), ["NoNumber"], []⟩
def top (i : Nat) : Stmt := PySem.Challenge.pw_lots_k04_gathered.main.body.getD i (.Pass ⟨0, 0, 0, 0⟩)
theorem k_divisor : DefOk T f_divisor (top 4) := ⟨⟨rfl, rfl, rfl, by decide +kernel, rfl, by decide +kernel, by decide +kernel⟩, by decide, by decide +kernel⟩
theorem k_fraction : DefOk T f_fraction (top 5) := ⟨⟨rfl, rfl, rfl, by decide +kernel, rfl, by decide +kernel, by decide +kernel⟩, by decide, by decide +kernel⟩
theorem k_plus : DefOk T f_plus (top 6) := ⟨⟨rfl, rfl, rfl, by decide +kernel, rfl, by decide +kernel, by decide +kernel⟩, by decide, by decide +kernel⟩
theorem k_gathered : DefOk T f_gathered (top 7) := ⟨⟨rfl, rfl, rfl, by decide +kernel, rfl, by decide +kernel, by decide +kernel⟩, by decide, by decide +kernel⟩
theorem k_law_cell : DefOk T f_law_cell (top 9) := ⟨⟨rfl, rfl, rfl, by decide +kernel, rfl, by decide +kernel, by decide +kernel⟩, by decide, by decide +kernel⟩
theorem k_law_mix : DefOk T f_law_mix (top 10) := ⟨⟨rfl, rfl, rfl, by decide +kernel, rfl, by decide +kernel, by decide +kernel⟩, by decide, by decide +kernel⟩
theorem k_law_common : DefOk T f_law_common (top 11) := ⟨⟨rfl, rfl, rfl, by decide +kernel, rfl, by decide +kernel, by decide +kernel⟩, by decide, by decide +kernel⟩
theorem k_law_lowest : DefOk T f_law_lowest (top 12) := ⟨⟨rfl, rfl, rfl, by decide +kernel, rfl, by decide +kernel, by decide +kernel⟩, by decide, by decide +kernel⟩
theorem k_law_thing : DefOk T f_law_thing (top 13) := ⟨⟨rfl, rfl, rfl, by decide +kernel, rfl, by decide +kernel, by decide +kernel⟩, by decide, by decide +kernel⟩
theorem k_law_pairs : DefOk T f_law_pairs (top 14) := ⟨⟨rfl, rfl, rfl, by decide +kernel, rfl, by decide +kernel, by decide +kernel⟩, by decide, by decide +kernel⟩
theorem k_law_sums : DefOk T f_law_sums (top 15) := ⟨⟨rfl, rfl, rfl, by decide +kernel, rfl, by decide +kernel, by decide +kernel⟩, by decide, by decide +kernel⟩
theorem k_law_right : DefOk T f_law_right (top 16) := ⟨⟨rfl, rfl, rfl, by decide +kernel, rfl, by decide +kernel, by decide +kernel⟩, by decide, by decide +kernel⟩
theorem k_law : DefOk T f_law (top 17) := ⟨⟨rfl, rfl, rfl, by decide +kernel, rfl, by decide +kernel, by decide +kernel⟩, by decide, by decide +kernel⟩
def fn : List He.DefD := [⟨("divisor", none), "divisor", "divisor", defArgs (top 4), defBody (top 4), defScope (top 4), [], []⟩, ⟨("fraction", none), "fraction", "fraction", defArgs (top 5), defBody (top 5), defScope (top 5), [], []⟩, ⟨("plus", none), "plus", "plus", defArgs (top 6), defBody (top 6), defScope (top 6), [], []⟩, ⟨("gathered", none), "gathered", "gathered", defArgs (top 7), defBody (top 7), defScope (top 7), [], []⟩, ⟨("_law_cell", none), "_law_cell", "_law_cell", defArgs (top 9), defBody (top 9), defScope (top 9), [], []⟩, ⟨("_law_mix", none), "_law_mix", "_law_mix", defArgs (top 10), defBody (top 10), defScope (top 10), [], []⟩, ⟨("_law_common", none), "_law_common", "_law_common", defArgs (top 11), defBody (top 11), defScope (top 11), [], []⟩, ⟨("_law_lowest", none), "_law_lowest", "_law_lowest", defArgs (top 12), defBody (top 12), defScope (top 12), [], []⟩, ⟨("_law_thing", none), "_law_thing", "_law_thing", defArgs (top 13), defBody (top 13), defScope (top 13), [], []⟩, ⟨("_law_pairs", none), "_law_pairs", "_law_pairs", defArgs (top 14), defBody (top 14), defScope (top 14), [], []⟩, ⟨("_law_sums", none), "_law_sums", "_law_sums", defArgs (top 15), defBody (top 15), defScope (top 15), [], []⟩, ⟨("_law_right", none), "_law_right", "_law_right", defArgs (top 16), defBody (top 16), defScope (top 16), [], []⟩, ⟨("law", none), "law", "law", defArgs (top 17), defBody (top 17), defScope (top 17), [], []⟩]
def fa : List He.Fa := [.glo "divisor", .glo "fraction", .glo "plus", .glo "gathered", .glo "_law_cell", .glo "_law_mix", .glo "_law_common", .glo "_law_lowest", .glo "_law_thing", .glo "_law_pairs", .glo "_law_sums", .glo "_law_right", .glo "law", .free "len", .free "abs", .free "min", .free "max", .free "sum", .free "any", .free "all", .free "list", .free "tuple", .free "int", .free "bool", .free "str", .free "isinstance", .free "range", .free "enumerate", .free "zip", .free "reversed", .free "repr", .free "sorted", .free "dict", .exc "NoNumber", .glo "NoNumber", .free "ValueError"]
def ex (K : PySem.W.Frag) : Bool := exB K Ex0 []
abbrev RowL : PySem.W.OpenRow := PySem.W.OpenLaw.row PySem.Challenge.rw_lots_k04_gathered
def hk : PySem.W.Hook := hookL 4 fa fn ex
def ob (s : PySem.W.SharedT) : Bool × He.AlD := obsLG 4 fa fn ex (HandSHeadRun.getT s)
theorem ob_eq (s : PySem.W.SharedT) : ob s = hk.obs s.abs := obsLG_eq (HandSHeadRun.getT_eq s)
def names0 : List Str := ["LotsError", "NoNumber", "divisor", "fraction", "plus", "gathered", "_law_cell", "_law_mix", "_law_common", "_law_lowest", "_law_thing", "_law_pairs", "_law_sums", "_law_right"]
def loose : List Str := names0
theorem run (w : World) : HandSHeadRun.RunEq RowL (PySem.W.view RowL.prog [17]) hk ob 3000 loose w := by
  intro os
  kernel_rfl
theorem facts {K : PySem.W.Frag} {h : Heap} {mg : Str → Option Value} {f : Addr} (X : K.In h) (G1 : h.Ns mainGlobals mg) (hfa : mg ("law" : Str) = some (.ref f)) (c : SaysL fa fn ex K) (LAW : ∀ ns : List Int, ns.length ≤ 63 → callL L G 40 "law" [.lst (ns.map D.int)] emp (fun d _ => d = .bl true) fun _ _ => False) {P : Program} {w : World} :
    ∃ (fd : FuncData) (sp : Sp), (∀ (s : Shared) (v : Value), BindsTo s fd ⟨[v], []⟩ [("_law_script", v)]) ∧ (∀ (H : Hp) (a : Addr) (ns : List Int), ns.length ≤ 63 → Only H → SqL K H a (ns.map V.int) → sp [.ref a] H (fun v _ => v = .bl true) fun _ _ _ => False) ∧
      ∀ base : Heap, K.In base → base.Ns mainGlobals mg → LtG.FnG P w K mg base CX0 40 f fd ["_law_script"] sp := by
  letI : Lt.Wd := ⟨w⟩
  have D0 : ∃ f fd, DefIn K mg f_divisor (top 4) f fd := by
    obtain ⟨fd, F⟩ := c.s.def_ 0 rfl
    exact ⟨_, fd, He.glo_ok X G1 (c.s.fact 0 (f := .glo "divisor") rfl), F, F.bindsN fun _ _ _ _ _ _ us hl => match us, hl with | [_, _], _ => rfl⟩
  have D1 : ∃ f fd, DefIn K mg f_fraction (top 5) f fd := by
    obtain ⟨fd, F⟩ := c.s.def_ 1 rfl
    exact ⟨_, fd, He.glo_ok X G1 (c.s.fact 1 (f := .glo "fraction") rfl), F, F.bindsN fun _ _ _ _ _ _ us hl => match us, hl with | [_, _], _ => rfl⟩
  have D2 : ∃ f fd, DefIn K mg f_plus (top 6) f fd := by
    obtain ⟨fd, F⟩ := c.s.def_ 2 rfl
    exact ⟨_, fd, He.glo_ok X G1 (c.s.fact 2 (f := .glo "plus") rfl), F, F.bindsN fun _ _ _ _ _ _ us hl => match us, hl with | [_, _], _ => rfl⟩
  have D3 : ∃ f fd, DefIn K mg f_gathered (top 7) f fd := by
    obtain ⟨fd, F⟩ := c.s.def_ 3 rfl
    exact ⟨_, fd, He.glo_ok X G1 (c.s.fact 3 (f := .glo "gathered") rfl), F, F.bindsN fun _ _ _ _ _ _ us hl => match us, hl with | [_], _ => rfl⟩
  have D4 : ∃ f fd, DefIn K mg f_law_cell (top 9) f fd := by
    obtain ⟨fd, F⟩ := c.s.def_ 4 rfl
    exact ⟨_, fd, He.glo_ok X G1 (c.s.fact 4 (f := .glo "_law_cell") rfl), F, F.bindsN fun _ _ _ _ _ _ us hl => match us, hl with | [_, _], _ => rfl⟩
  have D5 : ∃ f fd, DefIn K mg f_law_mix (top 10) f fd := by
    obtain ⟨fd, F⟩ := c.s.def_ 5 rfl
    exact ⟨_, fd, He.glo_ok X G1 (c.s.fact 5 (f := .glo "_law_mix") rfl), F, F.bindsN fun _ _ _ _ _ _ us hl => match us, hl with | [_, _, _], _ => rfl⟩
  have D6 : ∃ f fd, DefIn K mg f_law_common (top 11) f fd := by
    obtain ⟨fd, F⟩ := c.s.def_ 6 rfl
    exact ⟨_, fd, He.glo_ok X G1 (c.s.fact 6 (f := .glo "_law_common") rfl), F, F.bindsN fun _ _ _ _ _ _ us hl => match us, hl with | [_, _], _ => rfl⟩
  have D7 : ∃ f fd, DefIn K mg f_law_lowest (top 12) f fd := by
    obtain ⟨fd, F⟩ := c.s.def_ 7 rfl
    exact ⟨_, fd, He.glo_ok X G1 (c.s.fact 7 (f := .glo "_law_lowest") rfl), F, F.bindsN fun _ _ _ _ _ _ us hl => match us, hl with | [_, _], _ => rfl⟩
  have D8 : ∃ f fd, DefIn K mg f_law_thing (top 13) f fd := by
    obtain ⟨fd, F⟩ := c.s.def_ 8 rfl
    exact ⟨_, fd, He.glo_ok X G1 (c.s.fact 8 (f := .glo "_law_thing") rfl), F, F.bindsN fun _ _ _ _ _ _ us hl => match us, hl with | [_, _, _], _ => rfl⟩
  have D9 : ∃ f fd, DefIn K mg f_law_pairs (top 14) f fd := by
    obtain ⟨fd, F⟩ := c.s.def_ 9 rfl
    exact ⟨_, fd, He.glo_ok X G1 (c.s.fact 9 (f := .glo "_law_pairs") rfl), F, F.bindsN fun _ _ _ _ _ _ us hl => match us, hl with | [_], _ => rfl⟩
  have D10 : ∃ f fd, DefIn K mg f_law_sums (top 15) f fd := by
    obtain ⟨fd, F⟩ := c.s.def_ 10 rfl
    exact ⟨_, fd, He.glo_ok X G1 (c.s.fact 10 (f := .glo "_law_sums") rfl), F, F.bindsN fun _ _ _ _ _ _ us hl => match us, hl with | [_], _ => rfl⟩
  have D11 : ∃ f fd, DefIn K mg f_law_right (top 16) f fd := by
    obtain ⟨fd, F⟩ := c.s.def_ 11 rfl
    exact ⟨_, fd, He.glo_ok X G1 (c.s.fact 11 (f := .glo "_law_right") rfl), F, F.bindsN fun _ _ _ _ _ _ us hl => match us, hl with | [_, _], _ => rfl⟩
  have D12 : ∃ f fd, DefIn K mg f_law (top 17) f fd := by
    obtain ⟨fd, F⟩ := c.s.def_ 12 rfl
    exact ⟨_, fd, He.glo_ok X G1 (c.s.fact 12 (f := .glo "law") rfl), F, F.bindsN fun _ _ _ _ _ _ us hl => match us, hl with | [_], _ => rfl⟩
  have Kn : Known K mg T G := by
    refine ⟨fun x hx => ?_, exFacts_of (by have e := c.e; unfold ex at e; first | exact e | (simp only [Bool.and_eq_true] at e; first | exact e.1 | exact e.1.1 | exact e.1.1.1)) (fun x hx => ?_) (fun x hx => ?_), fun x d e => ?_, fun x hx => ?_⟩
    · revert x
      intro x hx
      simp only [bltN, List.mem_cons, List.not_mem_nil, or_false] at hx
      rcases hx with rfl | rfl | rfl | rfl | rfl | rfl | rfl | rfl | rfl | rfl | rfl | rfl | rfl | rfl | rfl | rfl | rfl | rfl | rfl | rfl
      · exact He.free_ok X G1 (c.s.fact 13 (f := .free "len") rfl)
      · exact He.free_ok X G1 (c.s.fact 14 (f := .free "abs") rfl)
      · exact He.free_ok X G1 (c.s.fact 15 (f := .free "min") rfl)
      · exact He.free_ok X G1 (c.s.fact 16 (f := .free "max") rfl)
      · exact He.free_ok X G1 (c.s.fact 17 (f := .free "sum") rfl)
      · exact He.free_ok X G1 (c.s.fact 18 (f := .free "any") rfl)
      · exact He.free_ok X G1 (c.s.fact 19 (f := .free "all") rfl)
      · exact He.free_ok X G1 (c.s.fact 20 (f := .free "list") rfl)
      · exact He.free_ok X G1 (c.s.fact 21 (f := .free "tuple") rfl)
      · exact He.free_ok X G1 (c.s.fact 22 (f := .free "int") rfl)
      · exact He.free_ok X G1 (c.s.fact 23 (f := .free "bool") rfl)
      · exact He.free_ok X G1 (c.s.fact 24 (f := .free "str") rfl)
      · exact He.free_ok X G1 (c.s.fact 25 (f := .free "isinstance") rfl)
      · exact He.free_ok X G1 (c.s.fact 26 (f := .free "range") rfl)
      · exact He.free_ok X G1 (c.s.fact 27 (f := .free "enumerate") rfl)
      · exact He.free_ok X G1 (c.s.fact 28 (f := .free "zip") rfl)
      · exact He.free_ok X G1 (c.s.fact 29 (f := .free "reversed") rfl)
      · exact He.free_ok X G1 (c.s.fact 30 (f := .free "repr") rfl)
      · exact He.free_ok X G1 (c.s.fact 31 (f := .free "sorted") rfl)
      · exact He.free_ok X G1 (c.s.fact 32 (f := .free "dict") rfl)
    · simp only [G, Ex0, List.mem_cons, List.not_mem_nil, or_false] at hx
      subst hx
      · exact He.glo_ok X G1 (c.s.fact 34 (f := .glo "NoNumber") rfl)
    · exact nomatch hx
    · change (none) = some d at e
      cases e
    · simp only [T, List.mem_cons, List.not_mem_nil, or_false] at hx
      subst hx
      · exact excOk_of X G1 (c.s.fact 33 (f := .exc "NoNumber") rfl) (c.s.fact 34 (f := .glo "NoNumber") rfl)
  have DD : ∀ d ∈ L, ∃ st f fd, DefOk T d st ∧ DefIn K mg d st f fd := by
    intro d hd
    simp only [L, List.mem_cons, List.not_mem_nil, or_false] at hd
    rcases hd with rfl | rfl | rfl | rfl | rfl | rfl | rfl | rfl | rfl | rfl | rfl | rfl | rfl
    · obtain ⟨f, fd, q⟩ := D0; exact ⟨_, f, fd, k_divisor, q⟩
    · obtain ⟨f, fd, q⟩ := D1; exact ⟨_, f, fd, k_fraction, q⟩
    · obtain ⟨f, fd, q⟩ := D2; exact ⟨_, f, fd, k_plus, q⟩
    · obtain ⟨f, fd, q⟩ := D3; exact ⟨_, f, fd, k_gathered, q⟩
    · obtain ⟨f, fd, q⟩ := D4; exact ⟨_, f, fd, k_law_cell, q⟩
    · obtain ⟨f, fd, q⟩ := D5; exact ⟨_, f, fd, k_law_mix, q⟩
    · obtain ⟨f, fd, q⟩ := D6; exact ⟨_, f, fd, k_law_common, q⟩
    · obtain ⟨f, fd, q⟩ := D7; exact ⟨_, f, fd, k_law_lowest, q⟩
    · obtain ⟨f, fd, q⟩ := D8; exact ⟨_, f, fd, k_law_thing, q⟩
    · obtain ⟨f, fd, q⟩ := D9; exact ⟨_, f, fd, k_law_pairs, q⟩
    · obtain ⟨f, fd, q⟩ := D10; exact ⟨_, f, fd, k_law_sums, q⟩
    · obtain ⟨f, fd, q⟩ := D11; exact ⟨_, f, fd, k_law_right, q⟩
    · obtain ⟨f, fd, q⟩ := D12; exact ⟨_, f, fd, k_law, q⟩
  have hT : ∀ p ∈ T.fns, ∃ d ∈ L, p = (d.name, d.np) ∧ L.find? (fun e => e.name == d.name) = some d := by
    intro p hp
    simp only [T, L, List.map_cons, List.map_nil, List.mem_cons, List.not_mem_nil, or_false] at hp
    rcases hp with rfl | rfl | rfl | rfl | rfl | rfl | rfl | rfl | rfl | rfl | rfl | rfl | rfl
    · exact ⟨f_divisor, by simp [L], rfl, rfl⟩
    · exact ⟨f_fraction, by simp [L], rfl, rfl⟩
    · exact ⟨f_plus, by simp [L], rfl, rfl⟩
    · exact ⟨f_gathered, by simp [L], rfl, rfl⟩
    · exact ⟨f_law_cell, by simp [L], rfl, rfl⟩
    · exact ⟨f_law_mix, by simp [L], rfl, rfl⟩
    · exact ⟨f_law_common, by simp [L], rfl, rfl⟩
    · exact ⟨f_law_lowest, by simp [L], rfl, rfl⟩
    · exact ⟨f_law_thing, by simp [L], rfl, rfl⟩
    · exact ⟨f_law_pairs, by simp [L], rfl, rfl⟩
    · exact ⟨f_law_sums, by simp [L], rfl, rfl⟩
    · exact ⟨f_law_right, by simp [L], rfl, rfl⟩
    · exact ⟨f_law, by simp [L], rfl, rfl⟩
  obtain ⟨fd, F⟩ := c.s.def_ 12 rfl
  have I : DefIn K mg f_law (top 17) f fd := by
    have e := hfa.symm.trans (He.glo_ok X G1 (c.s.fact 12 (f := .glo "law") rfl))
    cases e
    exact ⟨hfa, F, F.bindsN fun _ _ _ _ _ _ us hl => match us, hl with | [_], _ => rfl⟩
  have b := FunD.bindsA (ps := ["_law_script"]) F fun _ _ _ _ _ _ us hl => match us, hl with | [_], _ => rfl
  obtain ⟨sp, h1, h2⟩ := law_end (P := P) (w := w) rfl hT Kn DD (by simp [L]) rfl rfl I rfl LAW
  exact ⟨fd, sp, fun s v => b s [v] rfl, h1, h2⟩
end Xk04
open PySem PySem.W PySem.Calls PyProof.Rows
theorem PySem.Challenge.cw_lots_k04_gathered_holds : PySem.Challenge.rw_lots_k04_gathered.Holds := by
  w_on; o_law
  refine HandSHeadRun.head_any (r := OpenLaw.row PySem.Challenge.rw_lots_k04_gathered) (q := view (OpenLaw.row PySem.Challenge.rw_lots_k04_gathered).prog [17]) (H := Xk04.hk) (ob := Xk04.ob) (M := 3000) (loose := Xk04.loose) (d := HandSHeadRun.topDef (OpenLaw.row PySem.Challenge.rw_lots_k04_gathered).prog 17) (kwd := []) Xk04.ob_eq
    (by kernel_rfl) (fun s => by kernel_rfl) Xk04.run (by kernel_rfl) (by kernel_rfl) (by kernel_rfl) (by rfl) (by first | assumption | decide +kernel) (by decide +kernel) ⟨rfl, rfl, rfl, rfl, rfl, by decide +kernel⟩ ?hw ?hc
  case hw => w_witness2
  case hc =>
    refine LtG.walk_ofEG (l := PySem.Challenge.rw_lots_k04_gathered) (n := 63) (k := 40) (x := "_law_script") (CX := L2.CX0) rfl (by decide) (by kernel_rfl) ⟨rfl, by decide, by decide⟩ ?F (fun _ _ _ _ z => z)
    intro w mg fa h Y G hmg0
    obtain ⟨K, KX, c⟩ := Y
    have hmg : mg ("law" : PySem.Str) = some (.ref fa) := by
      have e : (HandSHeadRun.topDef (OpenLaw.row PySem.Challenge.rw_lots_k04_gathered).prog 17).name = ("law" : PySem.Str) := by kernel_rfl
      rw [← e]
      exact hmg0
    obtain ⟨fd, sp, hb, hs, hF⟩ := Xk04.facts KX G hmg c Xk04.LAW
    exact ⟨K, fd, sp, KX, hb, hs, hF⟩
