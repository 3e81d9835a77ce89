import PyProof.Rows.All
import Wide.All
import OpenK.AllK
import Wide.FinOn
import HandS.ForMost
import HandS.ForExc
import HandS.Defaults
import HandS.Head0
import HandS.Head1
import HandS.Head2
import HandS.HeadEnd
import HandS.HeadHook1
import HandS.HeadHook2
import HandS.Wide
import HandS.TupAny
import HandS.CallSlots
import HandS.Deep
import HandS.IsInst
import HandS.Flow
import HandS.Rev
import HandS.More
import HandS.ExcIs
import HandS.SortInts
import HandS.RaiseMore
import HandS.RevTup
import HandS.DictTup
import HandS.TupMul
import HandS.Head3
import HandS.ExcOwn
import KE.GoesEnum
import KE.GoesMore
import HandS.Zip
import KE.DataMinMax
import PyProof.Rows.SumAny
import HandS.Conv
import PyProof.ReprRoads
import PyProof.Rows.RegFStrParts
import PySem.Challenge.RW_lots_k13_put_and_drawn
set_option Elab.async false
set_option linter.all false
set_option maxRecDepth 100000
/-! Lt: a small language of values over an abstract heap, and what its texts come to (weakest preconditions). -/
namespace Lt
open PySem PySem.Spec PyProof.Rows L2

/-! ### values, heaps -/
inductive D where
  | non | bl (b : Bool) | int (i : Int) | str (x : Str) | tup (xs : List D) | lst (xs : List D) | ref (a : Addr)
  deriving Inhabited
inductive O where
  | lst (xs : List D) | rol (xs : List D) | dK (kvs : List (Key × D)) | dT (kvs : List (List Key × D))
/-- the heap of what may still change: finitely many objects -/
structure Hh where
  f : Addr → Option O
  fin : ∃ n, ∀ a, n ≤ a → f a = none
instance : CoeFun Hh (fun _ => Addr → Option O) := ⟨Hh.f⟩
theorem Hh.ext {h k : Hh} (e : ∀ a, h a = k a) : h = k := by
  cases h; cases k
  have e' := funext e
  simp only at e'
  subst e'; rfl
theorem Hh.free (h : Hh) : ∃ p, h p = none := let ⟨n, e⟩ := h.fin; ⟨n, e n (Nat.le_refl _)⟩
def emp : Hh := ⟨fun _ => none, 0, fun _ _ => rfl⟩
def up (h : Hh) (a : Addr) (o : O) : Hh := ⟨fun b => if b = a then some o else h b, let ⟨n, e⟩ := h.fin; ⟨max n (a + 1), fun b l => by
  have l1 : n ≤ b := Nat.le_trans (Nat.le_max_left _ _) l
  have l2 : a + 1 ≤ b := Nat.le_trans (Nat.le_max_right _ _) l
  show (if b = a then some o else h b) = none
  rw [if_neg (fun z => by subst z; exact absurd l2 (Nat.not_succ_le_self _))]; exact e b l1⟩⟩
theorem up_same {h : Hh} {a : Addr} {o : O} : up h a o a = some o := if_pos rfl
theorem up_ne {h : Hh} {a b : Addr} {o : O} (e : b ≠ a) : up h a o b = h b := if_neg e
/-- an object is let go -/
def era (h : Hh) (a : Addr) : Hh := ⟨fun b => if b = a then none else h b, let ⟨n, e⟩ := h.fin; ⟨n, fun b l => by
  by_cases z : b = a
  · rw [if_pos z]
  · rw [if_neg z]; exact e b l⟩⟩
theorem era_same {h : Hh} {a : Addr} : era h a a = none := if_pos rfl
theorem era_ne {h : Hh} {a b : Addr} (e : b ≠ a) : era h a b = h b := if_neg e
/-- what was not there at first is let go -/
def gcH (h0 h : Hh) : Hh := ⟨fun a => if h0 a = none then none else h a, let ⟨n, e⟩ := h.fin; ⟨n, fun b l => by
  by_cases z : h0 b = none
  · rw [if_pos z]
  · rw [if_neg z]; exact e b l⟩⟩
theorem gc_new {h0 h : Hh} {a : Addr} (e : h0 a = none) : gcH h0 h a = none := if_pos e
theorem gc_old {h0 h : Hh} {a : Addr} (e : h0 a ≠ none) : gcH h0 h a = h a := if_neg e
theorem era_up {h : Hh} {a : Addr} {o : O} (e : h a = none) : era (up h a o) a = h := Hh.ext fun b => by
  by_cases z : b = a
  · subst z; rw [era_same, e]
  · rw [era_ne z, up_ne z]
theorem gc_self {h : Hh} : gcH h h = h := Hh.ext fun b => by
  by_cases z : h b = none
  · rw [gc_new z, z]
  · rw [gc_old z]
theorem gc_up {h h' : Hh} {a : Addr} {o : O} (e : h a = none) : gcH h (up h' a o) = gcH h h' := Hh.ext fun b => by
  by_cases z : h b = none
  · rw [gc_new z, gc_new z]
  · rw [gc_old z, gc_old z, up_ne]
    intro y; subst y; exact z e
theorem gc_era {h h' : Hh} {a : Addr} (e : h a = none) : gcH h (era h' a) = gcH h h' := Hh.ext fun b => by
  by_cases z : h b = none
  · rw [gc_new z, gc_new z]
  · rw [gc_old z, gc_old z, era_ne]
    intro y; subst y; exact z e
theorem up_up {h : Hh} {a : Addr} {o u : O} : up (up h a o) a u = up h a u := Hh.ext fun b => by
  by_cases z : b = a
  · subst z; rw [up_same, up_same]
  · rw [up_ne z, up_ne z, up_ne z]
/-- the items of a list that is read -/
def rdL (h : Hh) (a : Addr) : Option (List D) := match h a with
  | some (.lst xs) => some xs
  | some (.rol xs) => some xs
  | _ => none
/-- of a list that may be changed -/
def wrL (h : Hh) (a : Addr) : Option (List D) := match h a with
  | some (.lst xs) => some xs
  | _ => none
/-- the items of a list, frozen or not -/
def lsD (h : Hh) : D → Option (List D)
  | .lst xs => some xs
  | .ref a => rdL h a
  | _ => none
/-- of a list or a tuple -/
def sqD (h : Hh) : D → Option (List D)
  | .tup xs => some xs
  | d => lsD h d
def optW {α : Type} (o : Option α) (f : α → Prop) : Prop := match o with
  | some v => f v
  | none => False
theorem optW_some {α : Type} {v : α} {f : α → Prop} : optW (some v) f = f v := rfl
theorem optW_none {α : Type} {f : α → Prop} : optW none f = False := rfl
theorem optW_iff {α : Type} {o : Option α} {f : α → Prop} : optW o f ↔ ∃ v, o = some v ∧ f v := by
  cases o with
  | none => exact ⟨fun h => h.elim, fun ⟨_, e, _⟩ => nomatch e⟩
  | some v => exact ⟨fun h => ⟨v, rfl, h⟩, fun ⟨_, e, h⟩ => by cases e; exact h⟩

mutual
/-- at h, x is the data d -/
def IsP (h : Hh) (x : D) : PyData → Prop
  | .none => x = .non
  | .bool b => x = .bl b
  | .int i => x = .int i
  | .str z => x = .str z
  | .tuple ds => ∃ xs, x = .tup xs ∧ IsPs h xs ds
  | .list ds => ∃ xs, lsD h x = some xs ∧ IsPs h xs ds
  | .dict _ => False
def IsPs (h : Hh) (xs : List D) : List PyData → Prop
  | [] => xs = []
  | d :: ds => ∃ x r, xs = x :: r ∧ IsP h x d ∧ IsPs h r ds
end

abbrev QD := D → Hh → Prop
abbrev XD := Str → Hh → Prop
abbrev En := List (Option D)
def getE : En → Nat → Option D
  | [], _ => none
  | v :: _, 0 => v
  | _ :: r, n + 1 => getE r n
def setE : En → Nat → Option D → En
  | [], _, _ => []
  | _ :: r, 0, x => x :: r
  | v :: r, n + 1, x => v :: setE r n x
def wipeE (ρ : En) : List Nat → En
  | [] => ρ
  | v :: vs => setE (wipeE ρ vs) v none

/-! ### the text -/
inductive Bo where | add | sub | mul | div | mod | pow
inductive Co where | eq | ne | lt | le | gt | ge | isin | notin
inductive Bi where | len | abs | min2 | max2 | sum | any | all | list | tuple | int1 | str1
inductive Mt where | append | extend | pop | reverse | clear | index | insert
inductive Ty where | int | bool | str | tuple | list
inductive Ik where | val | range1 | range2 | range3 | enum | zip | rev
  deriving DecidableEq
/-- patterns of calls -/
inductive Px where | lrev | rpr
  deriving DecidableEq
inductive Tg where | nm (i : Nat) | tp (is : List Nat)
mutual
inductive E where
  | kN | kB (b : Bool) | kI (i : Int) | kS (x : Str)
  | v (i : Nat) | g (x : Str)
  | op (o : Bo) (a b : E) | neg (a : E)
  | cm (o : Co) (a b : E) | cm2 (o p : Co) (a b c : E) | isN (a : E) | notN (a : E)
  | and (as : Es) | or (as : Es) | not (a : E) | ite (c a b : E)
  | tp (as : Es) | ls (as : Es)
  | ix (a i : E) | sl (a lo hi : E)
  | call (f : Str) (as : Es) | bi (f : Bi) (as : Es) | mt (m : Mt) (a : E) (as : Es)
  | isT (a : E) (t : Ty)
  | lc (k : Ik) (as : Es) (t : Tg) (own : List (Str × Nat)) (c : E) (e : E)
  | fz (e : E)
  | px (k : Px) (as : Es)
inductive Es where
  | nil | cons (a : E) (r : Es)
end
mutual
/-- what an except suite reckons: e's class is under one of cs .. -/
inductive HE where
  | kB (b : Bool) | isE (c : Str) | isT (cs : List Str) | not (a : HE) | and (as : HEs) | v (i : Nat) | tp (as : HEs) | ls (as : HEs)
inductive HEs where
  | nil | cons (a : HE) (r : HEs)
end
inductive HS where
  | set (j : Nat) (e : HE) | app (j : Nat) (e : HE)
inductive S where
  | skip | seq (a r : S)
  | tr (b : S) (c : Str) (i : Nat) (hs : List HS)
  | fg (is : List Nat)
  | pass | ex (e : E) | as (i : Nat) (e : E) | asT (is : List Nat) (e : E) | par (i j : Nat) (a b : E) | asI (a i e : E)
  | ret (e : E) | retN | ite (c : E) (a b : S) | wh (c : E) (b : S) | fr (k : Ik) (as : Es) (t : Tg) (b : S)
  | rs (c : Str)
  | fz (i : Nat)

/-! ### what it comes to -/
/-- what is known of the classes of errors: those that are raised, and which is under which -/
structure Ex where
  excs : List Str := []
  sub : Str → Str → Bool := fun _ _ => false
/-- the constants of the top, the classes of errors -/
structure Gn where
  glob : Str → Option D
  ex : Ex := {}
structure Cn where
  call : Str → List D → Hh → QD → XD → Prop
  glob : Str → Option D
  ex : Ex := {}

def binW : Bo → D → D → Hh → QD → Prop
  | .add, .int i, .int j, h, Q => Q (.int (i + j)) h
  | .add, .str x, .str y, h, Q => x.length + y.length ≤ sizeLine ∧ Q (.str (x ++ y)) h
  | .add, .tup x, .tup y, h, Q => x.length + y.length ≤ sizeLine ∧ Q (.tup (x ++ y)) h
  | .sub, .int i, .int j, h, Q => Q (.int (i - j)) h
  | .mul, .int i, .int j, h, Q => IntMulOk i j ∧ Q (.int (i * j)) h
  | .add, .lst xs, y, h, Q => optW (lsD h y) fun ys => xs.length + ys.length ≤ sizeLine ∧ ∀ p, h p = none → Q (.ref p) (up h p (.lst (xs ++ ys)))
  | .add, .ref a, y, h, Q => optW (rdL h a) fun xs => optW (lsD h y) fun ys => xs.length + ys.length ≤ sizeLine ∧ ∀ p, h p = none → Q (.ref p) (up h p (.lst (xs ++ ys)))
  | .mul, .ref a, .int k, h, Q => optW (rdL h a) fun xs => -(2 ^ 63) ≤ k ∧ k < 2 ^ 63 ∧ xs.length * k.toNat ≤ sizeLine ∧ ∀ p, h p = none → Q (.ref p) (up h p (.lst (List.replicate k.toNat xs).flatten))
  | .mul, .lst xs, .int k, h, Q => -(2 ^ 63) ≤ k ∧ k < 2 ^ 63 ∧ xs.length * k.toNat ≤ sizeLine ∧ ∀ p, h p = none → Q (.ref p) (up h p (.lst (List.replicate k.toNat xs).flatten))
  | .mul, .tup xs, .int k, h, Q => (-(2 ^ 63) ≤ k ∧ k ≤ 1000 ∧ xs.length ≤ 1000) ∧ Q (.tup (List.replicate k.toNat xs).flatten) h
  | .div, .int i, .int j, h, Q => j ≠ 0 ∧ Builtin.divisionGoesByPylong i j = false ∧ Q (.int (i.fdiv j)) h
  | .mod, .int i, .int j, h, Q => j ≠ 0 ∧ Q (.int (i.fmod j)) h
  | .pow, .int i, .int j, h, Q => CPow i j ∧ Q (.int (i ^ j.toNat)) h
  | _, _, _, _, _ => False
def negW : D → Hh → QD → Prop
  | .int i, h, Q => Q (.int (-i)) h
  | _, _, _ => False
def flatD : D → Bool
  | .non => true
  | .bl _ => true
  | .int _ => true
  | .str _ => true
  | _ => false
def eqD : D → D → Bool
  | .non, .non => true
  | .bl a, .bl b => a == b
  | .bl a, .int b => (if a then 1 else 0) == b
  | .int a, .bl b => a == (if b then 1 else 0)
  | .int a, .int b => a == b
  | .str a, .str b => a == b
  | _, _ => false
def inD (x : D) (xs : List D) : Bool := xs.any fun y => eqD y x
/-- == of data -/
def eqW (x y : D) (h : Hh) (K : Bool → Prop) : Prop := ∃ d e, IsP h x d ∧ IsP h y e ∧ SeqAt.shaped d = true ∧ SeqAt.shaped e = true ∧ K (PyData.eqv d e)
def inW (x y : D) (h : Hh) (K : Bool → Prop) : Prop := match y with
  | .tup xs => flatD x = true ∧ xs.all flatD = true ∧ K (inD x xs)
  | .ref _ => ∃ d ds, IsP h x d ∧ IsP h y (.list ds) ∧ SeqAt.shaped d = true ∧ SeqAt.shaped (.list ds) = true ∧ K (ds.any fun z => PyData.eqv z d)
  | .lst _ => ∃ d ds, IsP h x d ∧ IsP h y (.list ds) ∧ SeqAt.shaped d = true ∧ SeqAt.shaped (.list ds) = true ∧ K (ds.any fun z => PyData.eqv z d)
  | .str z => (match x with
    | .str w => ∃ c, w = ⟨#[c]⟩ ∧ K (decide (c ∈ z.cps.toList))
    | _ => False)
  | _ => False
def cmW : Co → D → D → Hh → QD → Prop
  | .lt, .int i, .int j, h, Q => Q (.bl (decide (i < j))) h
  | .le, .int i, .int j, h, Q => Q (.bl (decide (i ≤ j))) h
  | .gt, .int i, .int j, h, Q => Q (.bl (decide (j < i))) h
  | .ge, .int i, .int j, h, Q => Q (.bl (decide (j ≤ i))) h
  | .eq, .int i, .int j, h, Q => Q (.bl (decide (i = j))) h
  | .ne, .int i, .int j, h, Q => Q (.bl (!decide (i = j))) h
  | .eq, .str i, .str j, h, Q => Q (.bl (decide (i = j))) h
  | .ne, .str i, .str j, h, Q => Q (.bl (!decide (i = j))) h
  | .eq, x, y, h, Q => eqW x y h fun b => Q (.bl b) h
  | .ne, x, y, h, Q => eqW x y h fun b => Q (.bl (!b)) h
  | .isin, x, y, h, Q => inW x y h fun b => Q (.bl b) h
  | .notin, x, y, h, Q => inW x y h fun b => Q (.bl (!b)) h
  | _, _, _, _, _ => False
def isNon : D → Bool
  | .non => true
  | _ => false
def ixW : D → D → Hh → QD → Prop
  | .tup xs, .int i, h, Q => optW (atI xs i) fun v => Q v h
  | .lst xs, .int i, h, Q => optW (atI xs i) fun v => Q v h
  | .str z, .int i, h, Q => z.length ≤ sizeLine ∧ optW (atI z.cps.toList i) fun c => Q (.str ⟨#[c]⟩) h
  | .ref a, .int i, h, Q => optW (rdL h a) fun xs => optW (atI xs i) fun v => Q v h
  | _, _, _, _ => False
def cutD (xs : List D) (lo hi : Option Int) : List D := (xs.drop (HT.sIx xs.length 0 lo)).take (HT.sIx xs.length xs.length hi - HT.sIx xs.length 0 lo)
def slW : D → Option Int → Option Int → Hh → QD → Prop
  | .tup xs, lo, hi, h, Q => Q (.tup (cutD xs lo hi)) h
  | .lst xs, lo, hi, h, Q => ∀ p, h p = none → Q (.ref p) (up h p (.lst (cutD xs lo hi)))
  | .ref a, lo, hi, h, Q => optW (rdL h a) fun xs => ∀ p, h p = none → Q (.ref p) (up h p (.lst (cutD xs lo hi)))
  | .str z, lo, hi, h, Q => z.length ≤ sizeLine ∧ Q (.str (cutS z lo hi)) h
  | _, _, _, _, _ => False
def intW (d : D) (f : Int → Prop) : Prop := match d with
  | .int i => f i
  | _ => False
def blW (d : D) (f : Bool → Prop) : Prop := match d with
  | .bl b => f b
  | _ => False
def intsD : List D → Option (List Int)
  | [] => some []
  | .int i :: r => (intsD r).map (i :: ·)
  | _ :: _ => none
def blsD : List D → Option (List Bool)
  | [] => some []
  | .bl i :: r => (blsD r).map (i :: ·)
  | _ :: _ => none
def biW : Bi → List D → Hh → QD → Prop
  | .len, [.tup xs], h, Q => Q (.int (xs.length : Nat)) h
  | .len, [.str x], h, Q => x.length ≤ sizeLine ∧ Q (.int (x.length : Nat)) h
  | .len, [.ref a], h, Q => optW (rdL h a) fun xs => Q (.int (xs.length : Nat)) h
  | .len, [.lst xs], h, Q => Q (.int (xs.length : Nat)) h
  | .abs, [.int i], h, Q => Q (.int (if i < 0 then -i else i)) h
  | .min2, [.int i, .int j], h, Q => Q (.int (if j < i then j else i)) h
  | .max2, [.int i, .int j], h, Q => Q (.int (if j > i then j else i)) h
  | .sum, [.ref a], h, Q => optW (rdL h a) fun xs => optW (intsD xs) fun ns => Q (.int ns.sum) h
  | .sum, [.lst xs], h, Q => optW (intsD xs) fun ns => Q (.int ns.sum) h
  | .sum, [.tup xs], h, Q => optW (intsD xs) fun ns => Q (.int ns.sum) h
  | .any, [.ref a], h, Q => optW (rdL h a) fun xs => optW (blsD xs) fun bs => Q (.bl (bs.any id)) h
  | .any, [.lst xs], h, Q => optW (blsD xs) fun bs => Q (.bl (bs.any id)) h
  | .all, [.ref a], h, Q => optW (rdL h a) fun xs => optW (blsD xs) fun bs => Q (.bl (bs.all id)) h
  | .all, [.lst xs], h, Q => optW (blsD xs) fun bs => Q (.bl (bs.all id)) h
  | .list, [.ref a], h, Q => optW (rdL h a) fun xs => ∀ p, h p = none → Q (.ref p) (up h p (.lst xs))
  | .list, [.lst xs], h, Q => ∀ p, h p = none → Q (.ref p) (up h p (.lst xs))
  | .list, [.tup xs], h, Q => ∀ p, h p = none → Q (.ref p) (up h p (.lst xs))
  | .tuple, [.ref a], h, Q => optW (rdL h a) fun xs => Q (.tup xs) h
  | .tuple, [.lst xs], h, Q => Q (.tup xs) h
  | .tuple, [.tup xs], h, Q => Q (.tup xs) h
  | _, _, _, _ => False
def mtT : Mt → D → Hh → Prop
  | .index, .ref a, h => ∃ xs, rdL h a = some xs
  | .index, .lst _, _ => True
  | .insert, .ref a, h => ∃ xs, rdL h a = some xs
  | .append, .ref a, h => ∃ xs, rdL h a = some xs
  | .extend, .ref a, h => ∃ xs, rdL h a = some xs
  | .pop, .ref a, h => ∃ xs, rdL h a = some xs
  | .reverse, .ref a, h => ∃ xs, rdL h a = some xs
  | .clear, .ref a, h => ∃ xs, rdL h a = some xs
  | _, _, _ => False
/-- a tuple or a list -/
def seqD : D → Bool
  | .tup _ => true
  | .lst _ => true
  | .ref _ => true
  | _ => false
def pxW : Px → List D → Hh → QD → Prop
  | .lrev, [x], h, Q => optW (lsD h x) fun xs => ∀ p, h p = none → Q (.ref p) (up h p (.lst xs.reverse))
  | .rpr, [x], h, Q => ∃ d, seqD x = true ∧ IsP h x d ∧ (d.showable = true ∧ d.hasDict = false ∧ d.depth ≤ 60 ∧ d.shown.length ≤ sizeLine) ∧ Q (.str d.shown) h
  | _, _, _, _ => False
def idxD (x : D) (xs : List D) : Option Nat := xs.findIdx? fun y => eqD y x
def mtW : Mt → D → List D → Hh → QD → Prop
  | .index, x, [y], h, Q => optW (lsD h x) fun xs => flatD y = true ∧ xs.all flatD = true ∧ optW (idxD y xs) fun j => Q (.int (j : Nat)) h
  | .insert, .ref a, [.int i, y], h, Q => optW (wrL h a) fun xs => xs.length < sizeLine ∧ 0 ≤ i ∧ i < 2 ^ 63 ∧ Q .non (up h a (.lst (xs.take i.toNat ++ [y] ++ xs.drop i.toNat)))
  | .append, .ref a, [x], h, Q => optW (wrL h a) fun xs => xs.length < sizeLine ∧ Q .non (up h a (.lst (xs ++ [x])))
  | .extend, .ref a, [y], h, Q => optW (wrL h a) fun xs => optW (sqD h y) fun ys => xs.length + ys.length ≤ sizeLine ∧ Q .non (up h a (.lst (xs ++ ys)))
  | .pop, .ref a, [], h, Q => optW (wrL h a) fun xs => optW xs[xs.length - 1]? fun y => Q y (up h a (.lst xs.dropLast))
  | .reverse, .ref a, [], h, Q => optW (wrL h a) fun xs => Q .non (up h a (.lst xs.reverse))
  | .clear, .ref a, [], h, Q => optW (wrL h a) fun xs => Q .non (up h a (.lst []))
  | _, _, _, _, _ => False
def isTy (h : Hh) : D → Ty → Option Bool
  | .non, _ => some false
  | .bl _, .int => some true
  | .bl _, .bool => some true
  | .bl _, _ => some false
  | .int _, .int => some true
  | .int _, _ => some false
  | .str _, .str => some true
  | .str _, _ => some false
  | .tup _, .tuple => some true
  | .tup _, _ => some false
  | .lst _, .list => some true
  | .lst _, _ => some false
  | .ref a, t => match rdL h a, t with
    | some _, .list => some true
    | some _, _ => some false
    | none, _ => none

/-! ### walks -/
inductive IT where
  | lst (a : Addr) | seq (xs : List D) | enu (a : Addr) | zip (a b : Addr)
inductive Nx where | stuck | stop | go (d : D)
def nxL (o : Option (List D)) (i : Nat) : Nx := match o with
  | some xs => (match xs[i]? with
    | some d => .go d
    | none => .stop)
  | none => .stuck
def nxE (o : Option (List D)) (i : Nat) : Nx := match o with
  | some xs => (match xs[i]? with
    | some d => .go (.tup [.int i, d])
    | none => .stop)
  | none => .stuck
def nxZ (o p : Option (List D)) (i : Nat) : Nx := match o with
  | some xs => (match p with
    | some ys => (match xs[i]? with
      | some x => (match ys[i]? with
        | some y => .go (.tup [x, y])
        | none => .stop)
      | none => .stop)
    | none => .stuck)
  | none => .stuck
def IT.nx : IT → Nat → Hh → Nx
  | .lst a, i, h => nxL (rdL h a) i
  | .seq xs, i, _ => nxL (some xs) i
  | .enu a, i, h => nxE (rdL h a) i
  | .zip a b, i, h => nxZ (rdL h a) (rdL h b) i
/-- lo, lo + 1, .., n of them -/
def rngD (lo : Int) : Nat → List D
  | 0 => []
  | n + 1 => .int lo :: rngD (lo + 1) n
def rng3 (lo c : Int) : Nat → List D
  | 0 => []
  | n + 1 => .int lo :: rng3 (lo + c) c n
def enuD (k : Nat) : List D → List D
  | [] => []
  | x :: r => .tup [.int k, x] :: enuD (k + 1) r
def zipD : List D → List D → List D
  | x :: r, y :: q => .tup [x, y] :: zipD r q
  | _, _ => []
def itW : Ik → List D → Hh → (IT → Hh → Prop) → Prop
  | .val, [.ref a], h, R => optW (rdL h a) fun _ => R (.lst a) h
  | .val, [.tup xs], h, R => R (.seq xs) h
  | .val, [.lst xs], h, R => R (.seq xs) h
  | .range1, [.int j], h, R => -(2 ^ 62) ≤ j ∧ j < 2 ^ 62 ∧ R (.seq (rngD 0 j.toNat)) h
  | .range2, [.int i, .int j], h, R => (-(2 ^ 62) ≤ i ∧ i < 2 ^ 62 ∧ -(2 ^ 62) ≤ j ∧ j < 2 ^ 62) ∧ R (.seq (rngD i (j - i).toNat)) h
  | .range3, [.int i, .int j, .int c], h, R => (c ≠ 0 ∧ c.natAbs < 1073741824 ∧ Builtin.Range.small i j c = true ∧ 0 ≤ Builtin.Range.rangeSize i j c) ∧ R (.seq (rng3 i c (Builtin.Range.rangeSize i j c).toNat)) h
  | .enum, [.ref a], h, R => optW (rdL h a) fun _ => R (.enu a) h
  | .enum, [.lst xs], h, R => R (.seq (enuD 0 xs)) h
  | .enum, [.tup xs], h, R => R (.seq (enuD 0 xs)) h
  | .zip, [.ref a, .ref b], h, R => optW (rdL h a) fun _ => optW (rdL h b) fun _ => R (.zip a b) h
  | .zip, [.lst xs, .lst ys], h, R => R (.seq (zipD xs ys)) h
  | .zip, [.tup xs, .tup ys], h, R => R (.seq (zipD xs ys)) h
  | .rev, [.lst xs], h, R => R (.seq xs.reverse) h
  | .rev, [.tup xs], h, R => R (.seq xs.reverse) h
  | _, _, _, _ => False
def setsE : En → List Nat → List D → Option En
  | ρ, [], [] => some ρ
  | ρ, i :: is, d :: ds => setsE (setE ρ i (some d)) is ds
  | _, _, _ => none
def tgW (t : Tg) (d : D) (ρ : En) (R : En → Prop) : Prop := match t with
  | .nm i => R (setE ρ i (some d))
  | .tp is => (match d with
    | .tup ds => optW (setsE ρ is ds) R
    | _ => False)
/-- a comprehension's turns -/
def lcW (it : IT) (t : Tg) (c e : En → Hh → QD → Prop) (p : Addr) (ρ : En) (K : Hh → Prop) : Nat → Nat → Hh → Prop
  | 0, _, _ => False
  | n + 1, i, h => match it.nx i h with
    | .stuck => False
    | .stop => K h
    | .go d => tgW t d ρ fun ρ1 => c ρ1 h fun b h1 => blW b fun b => if b = true then e ρ1 h1 fun y h2 => optW (wrL h2 p) fun acc => acc.length < sizeLine ∧ lcW it t c e p ρ K n (i + 1) (up h2 p (.lst (acc ++ [y])))
        else lcW it t c e p ρ K n (i + 1) h1
/-- over items that are known -/
def lcL (t : Tg) (c e : En → Hh → QD → Prop) (p : Addr) (ρ : En) (K : Hh → Prop) : List D → Hh → Prop
  | [], h => K h
  | d :: ds, h => tgW t d ρ fun ρ1 => c ρ1 h fun b h1 => blW b fun b => if b = true then e ρ1 h1 fun y h2 => optW (wrL h2 p) fun acc => acc.length < sizeLine ∧ lcL t c e p ρ K ds (up h2 p (.lst (acc ++ [y])))
      else lcL t c e p ρ K ds h1
def lcI (it : IT) (t : Tg) (c e : En → Hh → QD → Prop) (p : Addr) (ρ : En) (K : Hh → Prop) (h : Hh) : Prop := match it with
  | .seq xs => lcL t c e p ρ K xs h
  | it => ∃ n, lcW it t c e p ρ K n 0 h
structure Ed where
  nx : En → Hh → Prop
  rt : D → Hh → Prop
  ex : Str → En → Hh → Prop
def frW (it : IT) (t : Tg) (b : En → Hh → Ed → Prop) (K : Ed) : Nat → Nat → En → Hh → Prop
  | 0, _, _, _ => False
  | n + 1, i, ρ, h => match it.nx i h with
    | .stuck => False
    | .stop => K.nx ρ h
    | .go d => tgW t d ρ fun ρ1 => b ρ1 h { K with nx := frW it t b K n (i + 1) }
def frL (t : Tg) (b : En → Hh → Ed → Prop) (K : Ed) : List D → En → Hh → Prop
  | [], ρ, h => K.nx ρ h
  | d :: ds, ρ, h => tgW t d ρ fun ρ1 => b ρ1 h { K with nx := frL t b K ds }
def frI (it : IT) (t : Tg) (b : En → Hh → Ed → Prop) (K : Ed) (ρ : En) (h : Hh) : Prop := match it with
  | .seq xs => frL t b K xs ρ h
  | it => ∃ n, frW it t b K n 0 ρ h
/-- a list is made a value -/
def frzW (d : D) (h : Hh) (Q : QD) : Prop := match d with
  | .ref a => optW (wrL h a) fun xs => Q (.lst xs) (era h a)
  | d => Q d h
def whW (c : En → Hh → QD → Prop) (b : En → Hh → Ed → Prop) (K : Ed) : Nat → En → Hh → Prop
  | 0, _, _ => False
  | n + 1, ρ, h => c ρ h fun d h1 => blW d fun d => if d = true then b ρ h1 { K with nx := whW c b K n } else K.nx ρ h1

def whI (c : En → Hh → QD → XD → Prop) (b : En → Hh → Ed → Prop) (K : Ed) (ρ : En) (h : Hh) : Prop := ∃ n, whW (fun ρ h Q => c ρ h Q fun c h1 => K.ex c ρ h1) b K n ρ h
def partW (lo : E) (f : En → Hh → QD → XD → Prop) : En → Hh → (Option Int → Hh → Prop) → XD → Prop := match lo with
  | .kN => fun _ h K _ => K none h
  | _ => fun ρ h K X => f ρ h (fun y h2 => intW y fun i => K (some i) h2) X
mutual
def wE (C : Cn) : E → En → Hh → QD → XD → Prop
  | .kN => fun _ h Q _ => Q .non h
  | .kB b => fun _ h Q _ => Q (.bl b) h
  | .kI i => fun _ h Q _ => Q (.int i) h
  | .kS x => fun _ h Q _ => Q (.str x) h
  | .v i => fun ρ h Q _ => optW (getE ρ i) fun d => Q d h
  | .g x => fun _ h Q _ => optW (C.glob x) fun d => Q d h
  | .op o a b => fun ρ h Q X => wE C a ρ h (fun x h1 => wE C b ρ h1 (fun y h2 => binW o x y h2 Q) X) X
  | .neg a => fun ρ h Q X => wE C a ρ h (fun x h1 => negW x h1 Q) X
  | .cm o a b => fun ρ h Q X => wE C a ρ h (fun x h1 => wE C b ρ h1 (fun y h2 => cmW o x y h2 Q) X) X
  | .cm2 o p a b c => fun ρ h Q X => wE C a ρ h (fun x h1 => wE C b ρ h1 (fun y h2 => cmW o x y h2 fun d h3 => blW d fun d => if d = true then wE C c ρ h3 (fun z h4 => cmW p y z h4 Q) X else Q (.bl false) h3) X) X
  | .isN a => fun ρ h Q X => wE C a ρ h (fun x h1 => Q (.bl (isNon x)) h1) X
  | .notN a => fun ρ h Q X => wE C a ρ h (fun x h1 => Q (.bl (!isNon x)) h1) X
  | .and as => fun ρ h Q X => wAn C as ρ h (fun b h1 => Q (.bl b) h1) X
  | .or as => fun ρ h Q X => wOr C as ρ h (fun b h1 => Q (.bl b) h1) X
  | .not a => fun ρ h Q X => wE C a ρ h (fun x h1 => blW x fun d => Q (.bl (!d)) h1) X
  | .ite c a b => fun ρ h Q X => wE C c ρ h (fun x h1 => blW x fun d => if d = true then wE C a ρ h1 Q X else wE C b ρ h1 Q X) X
  | .tp as => fun ρ h Q X => wA C as ρ h (fun xs h1 => xs.length ≤ sizeLine ∧ Q (.tup xs) h1) X
  | .ls as => fun ρ h Q X => wA C as ρ h (fun xs h1 => xs.length ≤ sizeLine ∧ ∀ p, h1 p = none → Q (.ref p) (up h1 p (.lst xs))) X
  | .ix a i => fun ρ h Q X => wE C a ρ h (fun x h1 => wE C i ρ h1 (fun y h2 => ixW x y h2 Q) X) X
  | .sl a lo hi => fun ρ h Q X => wE C a ρ h (fun x h1 => partW lo (wE C lo) ρ h1 (fun l h2 => partW hi (wE C hi) ρ h2 (fun u h3 => slW x l u h3 Q) X) X) X
  | .call f as => fun ρ h Q X => wA C as ρ h (fun xs h1 => C.call f xs h1 Q X) X
  | .bi f as => fun ρ h Q X => wA C as ρ h (fun xs h1 => biW f xs h1 Q) X
  | .mt m a as => fun ρ h Q X => wE C a ρ h (fun x h1 => mtT m x h1 ∧ wA C as ρ h1 (fun xs h2 => mtW m x xs h2 Q) X) X
  | .isT a t => fun ρ h Q X => wE C a ρ h (fun x h1 => optW (isTy h1 x t) fun b => Q (.bl b) h1) X
  | .lc k as t own c e => fun ρ h Q X => wA C as ρ h (fun xs h1 => itW k xs h1 fun it h2 => ∀ p, h2 p = none → lcI it t (fun ρ h Q => wE C c ρ h Q fun _ _ => False) (fun ρ h Q => wE C e ρ h Q fun _ _ => False) p (wipeE ρ (own.map (·.2))) (Q (.ref p)) (up h2 p (.lst []))) X
  | .fz e => fun ρ h Q X => wE C e ρ h (fun d h1 => frzW d h1 Q) X
  | .px k as => fun ρ h Q X => wA C as ρ h (fun xs h1 => pxW k xs h1 Q) X
def wA (C : Cn) : Es → En → Hh → (List D → Hh → Prop) → XD → Prop
  | .nil => fun _ h Q _ => Q [] h
  | .cons a r => fun ρ h Q X => wE C a ρ h (fun x h1 => wA C r ρ h1 (fun xs h2 => Q (x :: xs) h2) X) X
def wAn (C : Cn) : Es → En → Hh → (Bool → Hh → Prop) → XD → Prop
  | .nil => fun _ h Q _ => Q true h
  | .cons a r => fun ρ h Q X => wE C a ρ h (fun x h1 => blW x fun d => if d = true then wAn C r ρ h1 Q X else Q false h1) X
def wOr (C : Cn) : Es → En → Hh → (Bool → Hh → Prop) → XD → Prop
  | .nil => fun _ h Q _ => Q false h
  | .cons a r => fun ρ h Q X => wE C a ρ h (fun x h1 => blW x fun d => if d = true then Q true h1 else wOr C r ρ h1 Q X) X
end
mutual
def hE (f : Str → Bool) : HE → En → Hh → QD → Prop
  | .kB b => fun _ h Q => Q (.bl b) h
  | .isE c => fun _ h Q => Q (.bl (f c)) h
  | .isT cs => fun _ h Q => cs.length ≤ sizeLine ∧ Q (.bl (cs.any f)) h
  | .not a => fun ρ h Q => hE f a ρ h fun d h1 => blW d fun b => Q (.bl (!b)) h1
  | .and as => fun ρ h Q => hN f as ρ h fun b h1 => Q (.bl b) h1
  | .v i => fun ρ h Q => optW (getE ρ i) fun d => Q d h
  | .tp as => fun ρ h Q => hA f as ρ h fun xs h1 => xs.length ≤ sizeLine ∧ Q (.tup xs) h1
  | .ls as => fun ρ h Q => hA f as ρ h fun xs h1 => xs.length ≤ sizeLine ∧ ∀ p, h1 p = none → Q (.ref p) (up h1 p (.lst xs))
def hA (f : Str → Bool) : HEs → En → Hh → (List D → Hh → Prop) → Prop
  | .nil => fun _ h Q => Q [] h
  | .cons a r => fun ρ h Q => hE f a ρ h fun x h1 => hA f r ρ h1 fun xs h2 => Q (x :: xs) h2
def hN (f : Str → Bool) : HEs → En → Hh → (Bool → Hh → Prop) → Prop
  | .nil => fun _ h Q => Q true h
  | .cons a r => fun ρ h Q => hE f a ρ h fun x h1 => blW x fun d => if d = true then hN f r ρ h1 Q else Q false h1
end
def hS (f : Str → Bool) : List HS → En → Hh → (En → Hh → Prop) → Prop
  | [], ρ, h, K => K ρ h
  | .set j e :: r, ρ, h, K => hE f e ρ h fun d h1 => hS f r (setE ρ j (some d)) h1 K
  | .app j e :: r, ρ, h, K => optW (getE ρ j) fun x => mtT .append x h ∧ hE f e ρ h fun d h1 => mtW .append x [d] h1 fun _ h2 => hS f r ρ h2 K
def asW (x y z : D) (h : Hh) (R : Hh → Prop) : Prop := match x, y with
  | .ref a, .int i => optW (wrL h a) fun xs => optW (ixN xs.length i) fun j => R (up h a (.lst (xs.set j z)))
  | _, _ => False
def wS (C : Cn) : S → En → Hh → Ed → Prop
  | .skip => fun ρ h K => K.nx ρ h
  | .tr b c i hs => fun ρ h K => wS C b ρ h { K with ex := fun x ρ1 h1 => (C.ex.excs.contains x = true ∧ i < ρ1.length) ∧ if C.ex.sub x c = true then hS (C.ex.sub x) hs (setE ρ1 i none) h1 (fun ρ2 h2 => K.nx (setE ρ2 i none) h2) else K.ex x ρ1 h1 }
  | .fg is => fun ρ h K => K.nx (wipeE ρ is) h
  | .seq a r => fun ρ h K => wS C a ρ h { K with nx := fun ρ1 h1 => wS C r ρ1 h1 K }
  | .pass => fun ρ h K => K.nx ρ h
  | .ex e => fun ρ h K => wE C e ρ h (fun _ h1 => K.nx ρ h1) fun c h1 => K.ex c ρ h1
  | .as i e => fun ρ h K => wE C e ρ h (fun d h1 => K.nx (setE ρ i (some d)) h1) fun c h1 => K.ex c ρ h1
  | .asT is e => fun ρ h K => wE C e ρ h (fun d h1 => tgW (.tp is) d ρ fun ρ1 => K.nx ρ1 h1) fun c h1 => K.ex c ρ h1
  | .par i j a b => fun ρ h K => wE C a ρ h (fun x h1 => wE C b ρ h1 (fun y h2 => K.nx (setE (setE ρ i (some x)) j (some y)) h2) fun c h2 => K.ex c ρ h2) fun c h1 => K.ex c ρ h1
  | .asI a i e => fun ρ h K => wE C e ρ h (fun z h1 => wE C a ρ h1 (fun x h2 => wE C i ρ h2 (fun y h3 => asW x y z h3 fun h4 => K.nx ρ h4) fun c h1 => K.ex c ρ h1) fun c h1 => K.ex c ρ h1) fun c h1 => K.ex c ρ h1
  | .ret e => fun ρ h K => wE C e ρ h K.rt fun c h1 => K.ex c ρ h1
  | .retN => fun ρ h K => K.rt .non h
  | .ite c a b => fun ρ h K => wE C c ρ h (fun d h1 => blW d fun d => if d = true then wS C a ρ h1 K else wS C b ρ h1 K) fun c h1 => K.ex c ρ h1
  | .wh c b => fun ρ h K => whI (wE C c) (wS C b) K ρ h
  | .fr k as t b => fun ρ h K => wA C as ρ h (fun xs h1 => itW k xs h1 fun it h2 => frI it t (wS C b) K ρ h2) fun c h1 => K.ex c ρ h1
  | .rs c => fun ρ h K => K.ex c ρ h
  | .fz i => fun ρ h K => optW (getE ρ i) fun d => frzW d h fun d1 h1 => K.nx (setE ρ i (some d1)) h1
end Lt

set_option maxHeartbeats 4000000
/-! xs.extend(a list or a tuple), frozen or not -/
namespace LtR
open PySem PySem.Spec PyProof.Rows L2
theorem ext_any {T : String} (hT : T = "list" ∨ T = "tuple") (l b : Addr) (xs ys : Array Value) (n m : Nat) (od : Option Addr) (sl : Array (Option Value)) (c1 : ¬(!xs.isEmpty && Builtin.List.listTooLong (xs.size + ys.size)) = true) (c2 : xs.size ≤ sizeLine) (c3 : xs.size + ys.size ≤ sizeLine) :
    Meets (Builtin.«list.extend» ⟨[.ref l, .ref b], []⟩) fun _ R s => s.heap.get? l = some { cls := .type "list", data := .seq xs n } ∧ s.heap.get? b = some { cls := .type T, dict := od, data := .seq ys m, slots := sl } ∧ R (.ok (.ret Value.none)) { s with heap := s.heap.update l (Obj.mapSeq fun x => x ++ ys), toks := s.toks } := by
  rcases hT with rfl | rfl
  · exact .of_wp fun P W A R s q => by
      obtain ⟨H, g, dr, tk, os⟩ := s
      obtain ⟨e1, e2, q⟩ := q
      have i1 := AutoSeq1.idx_int; have i2 := AutoSeq1.sub_tuple_tuple; have i3 := AutoSeq1.sub_list_list; have i4 := AutoSeq1.sub_tuple_list; have i5 := AutoSeq1.sub_list_tuple
      have z : (xs ++ ys).size ≤ sizeLine + 1 := by rw [Array.size_append]; omega
      wp_walk using (wpAny_updateSeq e1 rfl (hz := c2) (_hz' := z)), wpAny_loadPart' e1, wpAny_loadPart' e2
      exact ⟨_, rfl, q⟩
  · exact .of_wp fun P W A R s q => by
      obtain ⟨H, g, dr, tk, os⟩ := s
      obtain ⟨e1, e2, q⟩ := q
      have i1 := AutoSeq1.idx_int; have i2 := AutoSeq1.sub_tuple_tuple; have i3 := AutoSeq1.sub_list_list; have i4 := AutoSeq1.sub_tuple_list; have i5 := AutoSeq1.sub_list_tuple
      have z : (xs ++ ys).size ≤ sizeLine + 1 := by rw [Array.size_append]; omega
      wp_walk using (wpAny_updateSeq e1 rfl (hz := c2) (_hz' := z)), wpAny_loadPart' e1, wpAny_loadPart' e2
      exact ⟨_, rfl, q⟩
def rExtA (K : PySem.W.Frag) : V → List V → Hp → VK → Prop := fun x vs H Q => ∃ l b xs zs, x = .ref l ∧ vs = [.ref b] ∧ H l = some (.lst xs) ∧ (SqL K H b zs ∨ SqT K H b zs) ∧ xs.length + zs.length ≤ sizeLine ∧ Q .non (upd H l (.lst (xs ++ zs)))
theorem mt_extA {X : Cx} : MtR X "list.extend" (rExtA X.K) := by
  intro pins s σ H x vs v us Q I rx rv h
  obtain ⟨l, b, xs, zs, rfl, rfl, hH, hB, hz, q⟩ := h
  cases rx
  obtain ⟨u, rfl, ru⟩ := rv.one
  cases ru
  obtain ⟨z, its, n, r, hl, e⟩ := I.lstM hH
  have fin : ∀ {T : String} {its2 : List Value} {o : Obj} {m : Nat}, (T = "list" ∨ T = "tuple") → Vals zs its2 → s.heap.get? b = some o → o.cls = .type T → o.data = .seq its2.toArray m → wpAny (model X.prog X.w) X.A (call (.builtin "list.extend") [.ref l, .ref b]) (EP X pins σ Q) X.xe s := fun {T its2 o m} hT r2 e2 c2 d2 => by
    obtain ⟨oc, od, oda, os⟩ := o
    cases c2; cases d2
    have l2 := r2.length
    have sz : its.toArray.size + its2.toArray.size ≤ sizeLine := by rw [List.size_toArray, List.size_toArray]; omega
    have lo : ¬ (!its.toArray.isEmpty && Builtin.List.listTooLong (its.toArray.size + its2.toArray.size)) = true := by
      rw [notLongL sz, Bool.and_false]; exact Bool.false_ne_true
    refine call_meets F.slot_list_extend ⟨_, e, rfl⟩ F.entry_list_extend (F.args_list_extend_2 _ _) (ext_any hT l b its.toArray its2.toArray n m od os lo (by rw [List.size_toArray]; omega) sz) ⟨e, e2, ?_⟩
    refine ⟨.non, _, I.lset (its' := its ++ its2) hH e (by simp) (r.append r2) ?_, rfl, q⟩
    rw [List.length_append]; exact hz
  rcases hB with hB | hB
  · obtain ⟨its2, r2, ⟨o, m, e2, c, _, d⟩, _⟩ := I.list hB
    exact fin (.inl rfl) r2 e2 c d
  · obtain ⟨its2, r2, ⟨o, e2, c, m, d⟩, _⟩ := I.tuple hB
    exact fin (.inr rfl) r2 e2 c d
end LtR

set_option maxHeartbeats 4000000
/-! list * int, tuple * int of any kind -/
namespace LtR
open PySem PySem.Spec PyProof.Rows L2
theorem rmul_any (a : Int) (t : Tok) (l : Addr) (xs : Array Value) (n : Nat) (od : Option Addr) (sl : Array (Option Value)) :
    Meets (Builtin.«int.__rmul__» ⟨[.int a t, .ref l], []⟩) fun _ R s => s.heap.get? l = some { cls := .type "list", dict := od, data := .seq xs n, slots := sl } ∧ R (.ok (.ret Value.notImplemented)) s :=
  .of_wp fun P W A R s q => by
    obtain ⟨H, g, dr, tk, os⟩ := s
    obtain ⟨e, q⟩ := q
    wp_walk using wpAny_loadPart' e
    exact ⟨_, rfl, q⟩
theorem mul_any (l : Addr) (xs : Array Value) (n : Nat) (od : Option Addr) (sl : Array (Option Value)) (k : Int) (t : Tok) (c0 : ¬(!Builtin.List.listFitsIndex k) = true) (c1 : ¬xs.size * k.toNat > (2 ^ 63 - 1) / 8) (c2 : ¬Builtin.List.listTooLong (xs.size * k.toNat) = true) (z : (List.foldl (fun x1 x2 => x1 ++ x2) #[] (List.replicate (if xs.isEmpty = true then 0 else k.toNat) xs)).size ≤ sizeLine) :
    Meets (Builtin.«list.__mul__» ⟨[.ref l, .int k t], []⟩) fun _ R s => s.heap.get? l = some { cls := .type "list", dict := od, data := .seq xs n, slots := sl } ∧
      R (.ok (.ret (Value.ref s.heap.objs.size))) { s with heap := s.heap.push { cls := Value.type "list", data := Data.seq (List.foldl (fun x1 x2 => x1 ++ x2) #[] (List.replicate (if xs.isEmpty = true then 0 else k.toNat) xs)) }, toks := s.toks } :=
  .of_wp fun P W A R s q => by
    obtain ⟨H, g, dr, tk, os⟩ := s
    obtain ⟨e, q⟩ := q
    wp_walk using wpAny_loadPart' e
    refine wpAny_ite_false (decide_eq_false (Nat.not_lt.mpr z)) ?_
    wp_walk using wpAny_loadPart' e
    exact ⟨_, rfl, q⟩
theorem tmul_same (l : Addr) (xs : Array Value) (n : Nat) (od : Option Addr) (sl : Array (Option Value)) (k : Int) (t : Tok) (c0 : (decide (k < -(2 ^ 63)) || decide (k ≥ 2 ^ 63)) = false) (c1 : (xs.isEmpty || k == 1) = true) :
    Meets (Builtin.«tuple.__mul__» ⟨[.ref l, .int k t], []⟩) fun _ R s => s.heap.get? l = some { cls := .type "tuple", dict := od, data := .seq xs n, slots := sl } ∧ R (.ok (.ret (.ref l))) s :=
  .of_wp fun P W A R s q => by
    obtain ⟨H, g, dr, tk, os⟩ := s
    obtain ⟨e, q⟩ := q
    have i1 := AutoSeq1.idx_int
    wp_walk using wpAny_loadPart' e
    repeat (first
      | (refine wpAny_ite_false (decide_eq_false (by rw [c0]; exact Bool.false_ne_true)) ?_; wp_walk using wpAny_loadPart' e)
      | (refine wpAny_ite_true (decide_eq_true c1) ?_; wp_walk using wpAny_loadPart' e))
    exact ⟨_, rfl, q⟩
theorem tmul_none (l : Addr) (xs : Array Value) (n : Nat) (od : Option Addr) (sl : Array (Option Value)) (k : Int) (t : Tok) (c0 : (decide (k < -(2 ^ 63)) || decide (k ≥ 2 ^ 63)) = false) (c1 : (xs.isEmpty || k == 1) = false) (c2 : (decide (k ≤ 0) || xs.isEmpty) = true) :
    Meets (Builtin.«tuple.__mul__» ⟨[.ref l, .int k t], []⟩) fun _ R s => s.heap.get? l = some { cls := .type "tuple", dict := od, data := .seq xs n, slots := sl } ∧ R (.ok (.ret (Value.ref s.heap.objs.size))) { s with heap := s.heap.push { cls := Value.type "tuple", data := Data.seq #[] }, toks := s.toks } :=
  .of_wp fun P W A R s q => by
    obtain ⟨H, g, dr, tk, os⟩ := s
    obtain ⟨e, q⟩ := q
    have i1 := AutoSeq1.idx_int
    wp_walk using wpAny_loadPart' e
    repeat (first
      | (refine wpAny_ite_false (decide_eq_false (by rw [c0]; exact Bool.false_ne_true)) ?_; wp_walk using wpAny_loadPart' e)
      | (refine wpAny_ite_false (decide_eq_false (by rw [c1]; exact Bool.false_ne_true)) ?_; wp_walk using wpAny_loadPart' e)
      | (refine wpAny_ite_true (decide_eq_true c2) ?_; wp_walk using wpAny_loadPart' e))
    exact ⟨_, rfl, q⟩
section
variable {X : Cx}
/-- list * int, frozen or not -/
def rMulL (K : PySem.W.Frag) : R2 := fun x y H Q => ∃ l k xs, x = .ref l ∧ y = .int k ∧ SqL K H l xs ∧ -(2 ^ 63) ≤ k ∧ k < 2 ^ 63 ∧ xs.length * k.toNat ≤ sizeLine ∧ ∀ p, H p = none → Q (.ref p) (L2.upd H p (.lst (List.replicate k.toNat xs).flatten))
theorem op_mulL : OpR X (binaryOp .Mult) (rMulL X.K) := by
  intro pins s σ H x y v u Q I rx ry h
  obtain ⟨l, k, xs, rfl, rfl, hL, h1, h2, hz, q⟩ := h
  cases rx
  obtain ⟨t, rfl⟩ := ry
  obtain ⟨its, r, ⟨⟨cls, dd, data, sl⟩, n, ho, hc, _, hd⟩, hs⟩ := I.list hL
  simp only at hc hd
  subst hc hd
  have hl := r.length
  have len : its.toArray.size * k.toNat ≤ sizeLine := by rw [List.size_toArray, ← hl]; exact hz
  have cap : ¬ its.toArray.size * k.toNat > (2 ^ 63 - 1) / 8 := by
    have : (sizeLine : Nat) ≤ (2 ^ 63 - 1) / 8 := by decide
    omega
  have fit : ¬ (!Builtin.List.listFitsIndex k) = true := by
    rw [fitsIndex_both h1 h2]; exact Bool.false_ne_true
  have long : ¬ Builtin.List.listTooLong (its.toArray.size * k.toNat) = true := by
    rw [notLongL len]; exact Bool.false_ne_true
  have new : List.foldl (fun x1 x2 => x1 ++ x2) #[] (List.replicate (if its.toArray.isEmpty = true then 0 else k.toNat) its.toArray) = (List.replicate k.toNat its).flatten.toArray := by
    rw [size_rep]
    cases its with
    | nil => simp
    | cons a r' => rw [if_neg (by simp)]
  have fl : (List.replicate k.toNat its).flatten.length ≤ sizeLine := by
    rw [PyProof.Rows.lm_len_rep_flat, Nat.mul_comm]
    rw [List.size_toArray] at len; exact len
  refine wpAny_binaryOp_repeat_ref (T := "list") (U := "int") (by decide) ⟨_, ho, rfl⟩ (fun s' => typeIs_int s' k t) noFill_list_mul PySem.F.fills_int_mul PySem.F.slot_int_rmul repeat_list PySem.F.slot_int_index.lookup
    (call_meets PySem.F.slot_int_rmul (typeIs_int s k t) PySem.F.entry_int_rmul (PySem.F.args_int_rmul_2 _ _) (rmul_any k t l its.toArray n dd sl)
      ⟨ho, rfl, ⟨_, ho, rfl⟩, call_meets PySem.F.slot_list_mul ⟨_, ho, rfl⟩ PySem.F.entry_list_mul (PySem.F.args_list_mul_2 _ _) (mul_any l its.toArray n dd sl k t fit cap long (by rw [new, List.size_toArray]; exact fl)) ⟨ho, ?_⟩⟩)
  rw [new]
  exact ⟨.ref _, _, I.lnew (t' := s.toks) (r.rep k.toNat) (by rw [PyProof.Rows.lm_len_rep_flat, Nat.mul_comm]; exact hz), rfl, q _ I.fresh⟩
/-- tuple * int: the tuple itself, a new one -/
def rMulT (K : PySem.W.Frag) : R2 := fun x y H Q => ∃ l k xs, x = .ref l ∧ y = .int k ∧ SqT K H l xs ∧ -(2 ^ 63) ≤ k ∧ k ≤ 1000 ∧ xs.length ≤ 1000 ∧ ((xs = [] ∨ k = 1) → Q (.ref l) H) ∧ ∀ p, H p = none → Q (.ref p) (upd H p (.tup (List.replicate k.toNat xs).flatten))
theorem op_mulT : OpR X (binaryOp .Mult) (rMulT X.K) := by
  intro pins s σ H x y v u Q I rx ry h
  obtain ⟨l, k, xs, rfl, rfl, hT, h1, h2, hz, q1, q⟩ := h
  by_cases big : xs ≠ [] ∧ 2 ≤ k
  · exact op_repT pins s σ H _ _ v u Q I rx ry ⟨l, k, xs, rfl, rfl, hT, big.1, big.2, h2, hz, q⟩
  · cases rx
    obtain ⟨t, rfl⟩ := ry
    obtain ⟨its, r, ⟨⟨cls, dd, data, sl⟩, ho, hc, n, hd⟩, hs⟩ := I.tuple hT
    simp only at hc hd
    subst hc hd
    have hl := r.length
    have c0 : (decide (k < -(2 ^ 63)) || decide (k ≥ 2 ^ 63)) = false := by rw [decide_eq_false (by omega), decide_eq_false (by omega)]; rfl
    have em : its.toArray.isEmpty = decide (xs = []) := by
      cases its with
      | nil => rw [List.eq_nil_of_length_eq_zero hl]; rfl
      | cons a b =>
        rw [decide_eq_false (fun e => by rw [e] at hl; cases hl)]; rfl
    have both : ∀ {Q' : Value → Shared → Prop}, wpAny (model X.prog X.w) X.A (call (.builtin "tuple.__mul__") [.ref l, .int k t]) Q' X.xe s → wpAny (model X.prog X.w) X.A (binaryOp .Mult (.ref l) (.int k t)) Q' X.xe s := fun w =>
      wpAny_binaryOp_repeat_ref (T := "tuple") (U := "int") (by decide) ⟨_, ho, rfl⟩ (fun s' => typeIs_int s' k t) noFill_tuple_mul F.fills_int_mul F.slot_int_rmul repeat_tuple F.slot_int_index.lookup
        (call_meets F.slot_int_rmul (typeIs_int s k t) F.entry_int_rmul (F.args_int_rmul_2 _ _) (int_rmul_tuple k t l its.toArray n dd sl) ⟨ho, rfl, ⟨_, ho, rfl⟩, w⟩)
    refine both ?_
    by_cases c : xs = [] ∨ k = 1
    · have c1 : (its.toArray.isEmpty || k == 1) = true := by
        rw [em, Bool.or_eq_true, decide_eq_true_eq, beq_iff_eq]; exact c
      exact call_meets F.slot_tuple_mul ⟨_, ho, rfl⟩ F.entry_tuple_mul (F.args_tuple_mul_2 _ _) (tmul_same l its.toArray n dd sl k t c0 c1) ⟨ho, .ref l, H, I, rfl, q1 c⟩
    · have n1 : xs ≠ [] := fun e => c (.inl e)
      have n2 : k ≠ 1 := fun e => c (.inr e)
      have n3 : k ≤ 0 := by
        have : ¬ 2 ≤ k := fun z => big ⟨n1, z⟩
        omega
      have c1 : (its.toArray.isEmpty || k == 1) = false := by
        rw [em, decide_eq_false n1, Bool.false_or]; exact beq_eq_false_iff_ne.mpr n2
      have c2 : (decide (k ≤ 0) || its.toArray.isEmpty) = true := by rw [decide_eq_true n3]; rfl
      have e0 : (List.replicate k.toNat xs).flatten = [] := by rw [show k.toNat = 0 by omega]; rfl
      refine call_meets F.slot_tuple_mul ⟨_, ho, rfl⟩ F.entry_tuple_mul (F.args_tuple_mul_2 _ _) (tmul_none l its.toArray n dd sl k t c0 c1 c2) ⟨ho, ?_⟩
      refine ⟨.ref s.heap.objs.size, _, I.laid (t' := s.toks) (o := .tup (List.replicate k.toNat xs).flatten) (fun b ob q => Heap.get?_push_of_some _ q) (Nat.le_refl _) ?_, rfl, q _ (I.hok.fresh (Nat.le_refl _))⟩
      rw [e0]
      exact ⟨Nat.zero_le _, [], .nil, IsTup.new _ _⟩
end
end LtR

set_option maxHeartbeats 4000000
namespace LtG
open PySem PySem.Spec PyProof.Rows L2
/-! ### defs that run where nothing is being shown: a promise with that one premise more -/
structure FnG (P : Program) (w : World) (K : PySem.W.Frag) (mg : Str → Option Value) (base : Heap) (CX : CXT) (k : Nat) (f : Addr) (fd : FuncData) (ps : List Str) (sp : Sp) : Prop where
  len : ∀ vs H Q E, sp vs H Q E → vs.length = ps.length
  run : ∀ (A : Around) (outer : List Env) (s : Shared) (H : Hp) (args : Args) (us : List Value) (vs : List V) (Q : VK) (E : XK), A.guards = some [] → Room k A → Env0 P w K mg base A outer s H → BindsTo s fd args (ps.zip us) → Vals vs us → sp vs H Q E →
    codeAny (model P w) A (.call (.ref f) args) (CR CX outer P w H s Q E) s
section
variable {X : Cx} {CX : CXT} {k : Nat} {f : Addr} {fd : FuncData} {ps : List Str} {sp : Sp} {E : L2.St → XK} {x : Str} {p pos : Pos} {e : Expr} {es : List Expr} {t : TA}
theorem pe_callG (F : FnG X.prog X.w X.K X.mg X.base CX k f fd ps sp) (gd : X.A.guards = some []) (hr : Room k X.A) (hg : Gl X x) (hm : X.mg x = some (.ref f)) (hk : PySem.W.keepIn X.K (.ref f) = true) (hb : Binds X.K fd ps []) (hx : ∀ σ, PassesAt CX X σ (E σ))
    (ha : PA X (e :: es) t) (hdb : (x == ("__debug__" : Str)) = false := by decide) (he : starEach (e :: es) X.env = (false, eval e X.env) :: starEach es X.env := by rfl) (hpl : (backTo pos (starEach es X.env)).any (·.1) = false := by rfl) :
    PE X (.Call (.Name x p) (e :: es) [] pos) (tCallS sp E t) := by
  constructor
  intro pins s σ H Q I h
  refine wpAny_Call_Name_kw (ld_glob I hg hm ?_ hdb)
  refine PySem.W.callWith_K (h₀ := X.base) I.ok.mod.kin hk (thn (ha.run pos pins s σ H _ I h) ?_) he hpl
  rintro us s1 ⟨vs, H1, I1, r, q⟩
  refine ⟨I1.kIn, ?_⟩
  have nl : us.length = ps.length := r.length.symm.trans (F.len _ _ _ _ q)
  have bd := hb s1 us I1.kIn (by simpa using nl)
  simp only [List.append_nil] at bd
  refine wpAny_call (codeAny_mono (F.run X.A X.stack s1 H1 ⟨us, []⟩ us vs Q (E σ) gd hr I1.env0 bd r q) ?_)
  rintro (_ | fl) s' hq
  · exact hx σ pins H1 s1 _ s' I1 hq
  · cases fl with
    | ret u => exact I1.after hq
    | next => exact hq.elim
    | brk => exact hq.elim
    | cont => exact hq.elim
end
section
variable {P : Program} {w : World} {K : PySem.W.Frag} {mg : Str → Option Value} {base : Heap} {x qual : Str} {params : Arguments} {body : List Stmt} {scope : Scope} {f : Addr} {fd : FuncData}
theorem fn_ofG {CX : CXT} {N ps : List Str} {k : Nat} {sp : Sp} (F : FunD K x qual params body scope [] [] f fd) (S : FnScope N ps scope) (len : ∀ vs H Q E, sp vs H Q E → vs.length = ps.length)
    (hbody : ∀ (cdv : Value) (A : Around) (outer : List Env) (s : Shared) (H : Hp) (vs : List V) (Q : VK) (E : XK), A.guards = some [] → Room k (A.deeper (envOfC qual scope s.heap.objs.size f cdv)) → sp vs H Q E →
      ∃ t, PSs (cxOf CX P w K mg base N qual scope f cdv A outer s H E) body t ∧ t { nx := fun _ H' => Q .non H', rt := Q } (start N vs) H) : FnG P w K mg base CX (k + 1) f fd ps sp := by
  obtain ⟨oc, od, dV, kV, doc, pm, an, cdv, ct, osl, rfl, lk, hcd, _, _⟩ := F.ex
  refine ⟨len, ?_⟩
  intro A outer s H args us vs Q E gd hr e0 hb r hsp
  have bs1 : ∀ b o, base.get? b = some o → s.heap.get? b = some o := fun b o e => (e0.bs b o e).1
  have KX : K.In s.heap := e0.mod.kin.keeps bs1
  have lim : s.heap.NoLimit := e0.mod.nolimit.keeps bs1
  have hkind : ∀ y ∈ ps.zip us, scope.names.lookup y.1 = some .local ∨ (scope.names.lookup y.1 = some .cell ∧ ((cellsFrom (s.heap.objs.size + 1) scope.names []).lookup y.1).isSome = true) := by
    rintro ⟨n, v⟩ hy
    exact (S.par n (List.of_mem_zip hy).1).imp id fun q => ⟨q, PySem.W.cellsFrom_some _ _ _ (.inl q)⟩
  refine codeAny_call_function hr.depth (KX _ _ lk) rfl S.co S.gen rfl (PySem.W.codeRec_of KX hcd) (hb _ _ _ _ ?_)
  refine wpAny_newFunctionEnv_cells S.kind hkind ?_
  rintro env rfl s1 x
  refine ⟨lim.keeps x.toInCall.keep, codeAny_func ?_⟩
  obtain ⟨t, ht, hq⟩ := hbody cdv A outer s H vs Q E gd (hr.deeper _) hsp
  refine wpAny_mono (ht.run [] s1 (start N vs) H _ (inv_start S hr.hd e0 (len _ _ _ _ hsp) r x) hq) ?_ fun e s' hs => hs
  intro fl s' hs
  cases fl with
  | ret u => obtain ⟨v, σ', H', J, rv, q⟩ := hs; exact ⟨v, H', J.os, J.bare, J.base, J.hok, rv, q⟩
  | next => obtain ⟨σ', H', J, q⟩ := hs; exact ⟨.non, H', J.os, J.bare, J.base, J.hok, rfl, q⟩
  | brk => obtain ⟨_, _, _, q⟩ := hs; exact q.elim
  | cont => obtain ⟨_, _, _, q⟩ := hs; exact q.elim
end

section
variable {P : Program} {w : World} {K : PySem.W.Frag} {mg mb : Str → Option Value} {CX : CXT} {k : Nat} {fa a : Addr} {fd : FuncData} {x : Str} {sp : Sp} {s1 : Shared} {vs : List Value} {ns : List Int}
/-- what a law's call has to end in -/
abbrev Told (s1 : Shared) : Result → Shared → Prop := fun r s' => r = .ok (.ret (.bool true)) ∧ OldK s1.heap s'.heap ∧ s'.os = s1.os ∧ AllBare s'.gens
/-- from a heap in which nothing but the script may be tracked -/
theorem told_of (KX : K.In s1.heap) (hns : s1.heap.Ns mainGlobals mg) (hb : s1.heap.Ns builtinsNs mb) (hbb : ∀ x : Str, x ≠ "__name__" → mb x = bootBuiltins x) (hlim : s1.heap.NoLimit) (hg : s1.gens = #[])
    (ha : s1.heap.get? a = some { cls := .type "list", data := .seq vs.toArray }) (hr : Room k callerA)
    (F : ∀ base : Heap, K.In base → base.Ns mainGlobals mg → FnG P w K mg base CX k fa fd [x] sp) (hbind : ∀ (s : Shared) (u : Value), BindsTo s fd ⟨[u], []⟩ [(x, u)])
    (hCX : ∀ H e s', CX [] H s1 (fun _ _ _ => False) e s' → False) {H : Hp} (hO : Only H) (hsp : sp [.ref a] H (fun v _ => v = .bl true) fun _ _ _ => False)
    (hok : HOk P w H s1.heap) (hA : ∀ b, H b ≠ none → b = a) (hK : H a ≠ none → K.lookup a = none) :
    codeAny (model P w) callerA (.call (.ref fa) ⟨[.ref a], []⟩) (Told s1) s1 := by
  have only : ∀ {b : Addr}, b ≠ a → H b = none := fun {b} n => by
    cases q : H b with
    | none => rfl
    | some u => exact absurd (hA b (by rw [q]; simp)) n
  have nsK : ∀ {b : Addr} {m : Str → Option Value}, s1.heap.Ns b m → (hidT s1.heap H).Ns b m := by
    rintro b m ⟨o, es, ep, e, d, r⟩
    refine ⟨o, es, ep, hidT_get e (only ?_), d, r⟩
    rintro rfl
    rw [ha] at e; cases e
    cases d
  have hKb : K.In (hidT s1.heap H) := fun b o e => hidT_get (KX b o e) (by
    cases q : H b with
    | none => rfl
    | some u =>
      have e' : b = a := hA b (by rw [q]; simp)
      subst e'
      rw [hK (by rw [q]; simp)] at e; cases e)
  have hM : Mod K mg (hidT s1.heap H) := ⟨hKb, nsK hns, ⟨mb, nsK hb, hbb⟩, let ⟨mc, h1, h2⟩ := hlim; ⟨mc, nsK h1, h2⟩⟩
  have e0 : Env0 P w K mg (hidT s1.heap H) callerA [] s1 H := ⟨rfl, hM, fun b o e => of_hidT e, Nat.le_of_eq (hidT_size _ _), trivial, fun b hb => absurd (show b ∈ ([] : List Addr) from hb) (by simp), hok, .of_eq hg⟩
  refine codeAny_mono ((F _ hKb (nsK hns)).run callerA [] s1 H ⟨[.ref a], []⟩ [.ref a] [.ref a] _ _ rfl hr e0 (hbind s1 (.ref a)) (.cons rfl .nil) hsp) ?_
  rintro (e | fl) s' h
  · exact (hCX H e s' h).elim
  · cases fl with
    | next => exact h.elim
    | brk => exact h.elim
    | cont => exact h.elim
    | ret u =>
      obtain ⟨v, H', os, bare, un, hok', r', rfl⟩ := h
      obtain rfl : u = Value.bool true := r'
      refine ⟨rfl, OldK.of_keep fun b o e => ?_, os, bare⟩
      cases q : H b with
      | none => exact un.keep b o e q (by intro z; exact absurd (show b ∈ ([] : List Addr) from z) (by simp)) (by simp)
      | some u =>
        rcases hO b with z | ⟨ob, xs, z⟩
        · rw [q] at z; cases z
        · obtain ⟨e1, _⟩ := hok b _ z
          rw [e] at e1; cases e1
          exact (hok' b _ (un.frzs b o _ z)).1
theorem law_callG (KX : K.In s1.heap) (hns : s1.heap.Ns mainGlobals mg) (hb : s1.heap.Ns builtinsNs mb) (hbb : ∀ x : Str, x ≠ "__name__" → mb x = bootBuiltins x) (hlim : s1.heap.NoLimit) (hg : s1.gens = #[])
    (ha : s1.heap.get? a = some { cls := .type "list", data := .seq vs.toArray }) (hi : IntsAre vs ns) (hl : ns.length ≤ sizeLine) (hr : Room k callerA)
    (F : ∀ base : Heap, K.In base → base.Ns mainGlobals mg → FnG P w K mg base CX k fa fd [x] sp) (hbind : ∀ (s : Shared) (u : Value), BindsTo s fd ⟨[u], []⟩ [(x, u)])
    (hsp : ∀ H : Hp, Only H → SqL K H a (ns.map V.int) → sp [.ref a] H (fun v _ => v = .bl true) fun _ _ _ => False)
    (hCX : ∀ H e s', CX [] H s1 (fun _ _ _ => False) e s' → False) :
    codeAny (model P w) callerA (.call (.ref fa) ⟨[.ref a], []⟩) (Told s1) s1 := by
  have rv := vals_ints hi
  have go := fun {H : Hp} (hO : Only H) (hS : SqL K H a (ns.map V.int)) => told_of KX hns hb hbb hlim hg ha hr F hbind hCX hO (hsp H hO hS)
  cases hk : K.lookup a with
  | some o =>
    have e := KX a o hk
    rw [ha] at e
    cases e
    exact go (H := fun _ => none) (fun _ => .inl rfl) (.inr ⟨_, vs.toArray, _, hk, rfl, rfl, rfl, by rw [List.size_toArray, hi.length]; exact hl, by simpa using rv⟩) (fun b u z => nomatch (show (none : Option HO) = some u from z)) (fun b z => absurd rfl z) fun z => absurd rfl z
  | none =>
    have at' : ∀ b, (if b = a then some (HO.frz { cls := .type "list", data := .seq vs.toArray } (.lst (ns.map V.int))) else none) ≠ none → b = a := fun b z => by
      by_cases hb : b = a
      · exact hb
      · exact absurd (if_neg hb) z
    refine go (H := fun b => if b = a then some (.frz { cls := .type "list", data := .seq vs.toArray } (.lst (ns.map V.int))) else none) (fun b => ?_) (.inl (.inr ⟨{ cls := .type "list", data := .seq vs.toArray }, if_pos rfl⟩)) (fun b u z => ?_) at' fun _ => hk
    · by_cases hb : b = a
      · exact .inr ⟨_, _, if_pos hb⟩
      · exact .inl (if_neg hb)
    · have z0 : (if b = a then some (HO.frz { cls := .type "list", data := .seq vs.toArray } (.lst (ns.map V.int))) else none) = some u := z
      have hb := at' b (by rw [z0]; simp)
      subst hb
      rw [if_pos rfl] at z0
      cases z0
      exact ⟨ha, by rw [List.length_map]; exact hl, vs, _, rv, ha⟩
end
theorem walk_ofEG {l : PySem.W.OpenLaw} {n k : Nat} {q : Program} {loose : List Str} {XP : (Str → Option Value) → Heap → Prop} {YP : World → Heap → Prop} {d : DefRec} {CX : CXT} {x : Str}
    (hn : l.most = some n) (hn2 : n ≤ sizeLine) (hdf : d.params.defaults = []) (hr : Room k callerA)
    (F : ∀ (w : World) (mg : Str → Option Value) (fa : Addr) (h : Heap), YP w h → h.Ns mainGlobals mg → mg d.name = some (.ref fa) →
      ∃ (K : PySem.W.Frag) (fd : FuncData) (sp : Sp), K.In h ∧ (∀ (s : Shared) (u : Value), BindsTo s fd ⟨[u], []⟩ [(x, u)]) ∧
        (∀ (H : Hp) (a : Addr) (ns : List Int), ns.length ≤ n → Only H → SqL K H a (ns.map V.int) → sp [.ref a] H (fun v _ => v = .bl true) fun _ _ _ => False) ∧
        ∀ base : Heap, K.In base → base.Ns mainGlobals mg → FnG l.prog w K mg base CX k fa fd [x] sp)
    (hCX : ∀ (H : Hp) (s : Shared) (e : Value) (s' : Shared), CX [] H s (fun _ _ _ => False) e s' → False) :
    PySem.W.WalkO q loose XP YP l.row.toRowW d [] (fun f vs => PySem.call f vs) := by
  refine Att.attach_call hn hdf ?_
  intro w s₀ s₁ mg mb fa o pm cd doc a vs ns G Y ho hd hcd hmg hobj hints hlen hg
  obtain ⟨K, fd, sp, KX, hb, hsp, hF⟩ := F w mg fa _ Y G.T.g hmg
  exact law_callG KX G.T.g G.T.b G.T.builtins G.T.nolimit hg hobj hints (Nat.le_trans hlen hn2) hr hF hb (fun H hO hS => hsp H a ns hlen hO hS) fun H e s' => hCX H s₁ e s'
end LtG

set_option maxHeartbeats 4000000
/-! enumerate over a tuple -/
namespace Lt
open PySem PySem.Spec PyProof.Rows L2
open PySem.AutoSeq1 (wpAny_loadPart')
theorem sub_enum1 : isSubtype (.type "enumerate") (.type "enumerate") = pure true := sub_enumerate
theorem meets_enumV {v : Value} {o : Obj} {Hh0 : Heap → Prop} (B : Begins v o Hh0) :
    Meets (Builtin.«enumerate.__new__» ⟨[.type "enumerate", v], []⟩) (fun _ R s => Hh0 s.heap ∧
      R (.ok (.ret (.ref (s.heap.push o).objs.size))) { s with heap := (s.heap.push o).push { cls := .type "enumerate", data := .fields #[.none, .bool false, .ref s.heap.objs.size, rawInt 0, .none, .none] } }) :=
  .of_wp fun prog w A R s h => by
    obtain ⟨hp, g, d, tk, os⟩ := s
    obtain ⟨h1, h2⟩ := h
    have hsub := sub_enumerate
    have go : ∀ {A' : Around} {E' : Value → Shared → Prop} {Q' : Value → Shared → Prop}, Q' (.ref hp.objs.size) ⟨hp.push o, g, d, tk, os⟩ → wpAny (model prog w) A' (pyIter v) Q' E' ⟨hp, g, d, tk, os⟩ := fun z =>
      B.iter prog w _ _ ⟨hp, g, d, tk, os⟩ _ h1 z
    wp_walk using go
    refine wpAny_stack_any fun st => wpAny_pure ?_
    split
    · rename_i c _ _ _ _ _
      cases (c == Value.type "enumerate") <;> (wp_walk using go; exact ⟨_, rfl, h2⟩)
    · wp_walk using go
      exact ⟨_, rfl, h2⟩
section
variable {prog : Program} {w : World} {A : Around} {E : Value → Shared → Prop} {s : Shared}
theorem call_enumV {v : Value} {o : Obj} {Hh0 : Heap → Prop} {Q : Value → Shared → Prop} (B : Begins v o Hh0) (h1 : Hh0 s.heap)
    (h : ∀ h', IsEnum h' (s.heap.objs.size + 1) s.heap.objs.size 0 .none → h'.get? s.heap.objs.size = some o → h'.objs.size = s.heap.objs.size + 2 →
      (∀ b ob, s.heap.get? b = some ob → h'.get? b = some ob) → Q (.ref (s.heap.objs.size + 1)) { s with heap := h' }) :
    wpAny (model prog w) A (call (.type "enumerate") [v]) Q E s := by
  refine callType_new F.called_enumerate (by decide) (F.typeCall_enumerate_1 _) (F.newCall_enumerate_1 _) (fun obj => F.args_object_init_2 obj _) F.entry_enumerate_new (meets_enumV B) ⟨h1, ?_⟩
  have hz : (s.heap.push o).objs.size = s.heap.objs.size + 1 := Heap.size_push ..
  show _ ∧ _
  rw [hz]
  have he : IsEnum ((s.heap.push o).push { cls := .type "enumerate", data := .fields #[.none, .bool false, .ref s.heap.objs.size, rawInt 0, .none, .none] }) (s.heap.objs.size + 1) s.heap.objs.size 0 .none := by
    have z := Heap.get?_push_size (s.heap.push o) (o := { cls := .type "enumerate", data := .fields #[.none, .bool false, .ref s.heap.objs.size, rawInt 0, .none, .none] }) rfl
    rw [hz] at z; exact z
  exact ⟨⟨_, he, rfl⟩, h _ he (Heap.get?_push_of_some _ (Heap.get?_push_size _ B.free)) (by rw [Heap.size_push, hz]) fun b ob z => Heap.get?_push_of_some _ (Heap.get?_push_of_some _ z)⟩
end
/-- the tuple at a, each item with its place -/
def IteT (K : PySem.W.Frag) (a : Addr) : It :=
  ⟨fun i H => ∃ (xs : List V) (x : V), SqT K H a xs ∧ xs[i]? = some x, fun i H v H' => ∃ T x, v = .ref T ∧ H T = none ∧ H' = L2.upd H T (.tup [.int (i : Nat), x]) ∧ ∀ xs, SqT K H a xs → xs[i]? = some x, fun i H => ∃ xs : List V, SqT K H a xs ∧ xs.length ≤ i⟩
theorem turn_enumT {P : Program} {w : World} {K : PySem.W.Frag} {elts : List Expr} {kk : Nat} {tpos : Pos} (a e it : Addr) :
    Turn P w K (.Tuple elts kk tpos) (IteT K a) [e, it] e (fun i h => (∃ old, IsEnum h e it ((i : Nat) : Int) old) ∧ h.IsTupleIter it a i ∧ (e ≠ it ∧ a ≠ it ∧ a ≠ e)) where
  mem := by simp
  obj := fun i h st b hb => by
    obtain ⟨⟨old, he⟩, ⟨o, ho, hc, hd⟩, _⟩ := st
    rcases (show b = e ∨ b = it by simpa using hb) with z | z
    · subst z; exact ⟨_, he, fun v q => nomatch q⟩
    · subst z; exact ⟨o, ho, fun v q => by rw [hd] at q; cases q⟩
  keep := fun i h h' st k => ⟨let ⟨old, he⟩ := st.1; ⟨old, k e (by simp) _ he⟩, st.2.1.at fun o q => k it (by simp) o q, st.2.2⟩
  item := by
    intro X hP hw hK hc i pins s σ H E I hf st hg
    subst hP hw hK
    obtain ⟨⟨old, he⟩, hit, hne, hna, hae⟩ := st
    obtain ⟨xs, x, hq, hx⟩ := hg
    obtain ⟨its, rv, p, hz⟩ := I.tuple hq
    obtain ⟨u, hu, ru⟩ := rv.get hx
    have hel : e < s.heap.objs.size := Heap.lt_size he
    have hil : it < s.heap.objs.size := by obtain ⟨_, q, _⟩ := hit; exact Heap.lt_size q
    have hlt : i < its.toArray.size := by
      have l := List.getElem?_eq_some_iff.mp hu
      obtain ⟨l, _⟩ := l
      simpa using l
    have hh : X.A.handled = none := I.ok.hd hc
    refine wpAny_pyNext_enum_itemD (Draws.tuple (A := X.A.in1) hh it a hna its.toArray) he ⟨hit, p⟩ hlt hne (by simp [hne, Ne.symm hae]) fun u' h' tk hP' ho hst' hT hsz hk => ?_
    have eu : u' = u := by
      have e1 : its.toArray[i]? = some u := by simpa using hu
      rw [e1] at hP'; cases hP'; rfl
    subst eu
    refine ⟨_, rfl, wpAny_letOwnedTupleGo_enum (s := { s with heap := h', toks := tk + 1 }) ho fun h'' he' sb => ?_⟩
    have hT2 : h''.get? s.heap.objs.size = some { cls := .type "tuple", data := .seq #[.int i tk, u'] } := (sb.2 _ (Nat.ne_of_gt hel)).trans hT
    have new : ObjOk X.prog X.w (L2.upd H s.heap.objs.size (.tup [.int (i : Nat), x])) h'' s.heap.objs.size (.tup [.int (i : Nat), x]) :=
      ⟨by show 2 ≤ sizeLine; decide, [.int i tk, u'], .cons ⟨_, rfl⟩ (.cons ru .nil), ⟨_, hT2, rfl, _, rfl⟩⟩
    have I1 : L2.Inv X pins σ (L2.upd H s.heap.objs.size (.tup [.int (i : Nat), x])) { s with heap := h'', toks := tk + 1 } :=
      I.turnedNew (t' := tk + 1) (ch := [e, it]) (fun b ob hb q => (sb.2 b (fun z => hb (by simp [z]))).trans (hk b ob (fun z => hb (by simp [z])) (fun z => hb (by simp [z])) q)) hf (Nat.le_refl _) new
    refine ⟨.ref s.heap.objs.size, _, I1, rfl, ⟨_, x, rfl, I.hok.fresh (Nat.le_refl _), rfl, fun ys hy => by rw [I.tuple_inj hy hq]; exact hx⟩, ⟨⟨u', ?_⟩, hst'.1.at fun o q => (sb.2 it (Ne.symm hne)).trans q, hne, hna, hae⟩, fun b hb => ?_⟩
    · rw [show ((i + 1 : Nat) : Int) = (i : Int) + 1 by omega]; exact he'
    · have hb' : b < s.heap.objs.size := by
        rcases (show b = e ∨ b = it by simpa using hb) with z | z
        · subst z; exact hel
        · subst z; exact hil
      rw [L2.upd_ne (Nat.ne_of_lt hb')]
      exact (hf b hb).1
  done := by
    intro X hP hw hK hc i pins s σ H E I hf st hg
    subst hP hw hK
    obtain ⟨⟨old, he⟩, hit, hne, hna, hae⟩ := st
    obtain ⟨xs, hq, hx⟩ := hg
    obtain ⟨its, rv, p, hz⟩ := I.tuple hq
    obtain ⟨f0, f1, f2, f3, f4, f5⟩ := hf it (by simp)
    have hl := rv.length
    have hh : X.A.handled = none := I.ok.hd hc
    have D := Draws.tuple (prog := X.prog) (w := X.w) (A := X.A.in1) hh it a hna its.toArray
    unfold pyNext
    have hT : s.TypeIs (.ref e) "enumerate" := ⟨_, he, rfl⟩
    refine wpAny_bind (wpAny_attempt (wpAny_callSpecial?_slot (name := Str.ofString "__next__") hT F.slot_enumerate_next (wpAny_call_entry F.slot_enumerate_next hT F.entry_enumerate_next ?_ (F.args_enumerate_next_1 _))))
    show wpAny _ _ (field (.ref e) 2 >>= _) _ _ _
    refine wpAny_bind (wpAny_field he rfl (x := .ref it) rfl ?_)
    refine wpAny_bind (wpAny_nextOf_tuple_end (A := X.A.in1) hh hit p (by simp; omega) fun h' x he' hx' => ?_)
    obtain ⟨o, ho, hc'⟩ := hx'
    refine wpAny_bind (wpAny_isInstance (T := "StopIteration") (b := true) ⟨o, ho, hc'⟩ isSubtype_stop ?_)
    exact wpAny_pure ⟨rfl, I.turned (t' := s.toks) (fun b o hb q => he' b o hb q) f0 f1 f3 f4 f5⟩
  self := fun A i s Q E st h => let ⟨⟨_, he⟩, _⟩ := st; wpAny_pyIter_enum he h
def iEnumA (K : PySem.W.Frag) (ta : TA) : TI := fun σ H R => ta σ H fun vs H1 => ∃ a xs, vs = [.ref a] ∧ ((SqL K H1 a xs ∧ R (Ite K a) H1) ∨ (SqT K H1 a xs ∧ R (IteT K a) H1))
theorem pi_enumA {X : Cx} {e : Expr} {ta : TA} {p pos tpos : Pos} {elts : List Expr} {kk : Nat} (hg : Gl X "enumerate") (hm : X.mg "enumerate" = none) (ha : PA X [e] ta) (hs : starEach [e] X.env = [(false, eval e X.env)]) :
    PI X (.Tuple elts kk tpos) (.Call (.Name "enumerate" p) [e] [] pos) (iEnumA X.K ta) := by
  refine ⟨fun pins s σ H R I h => ?_⟩
  refine Call_ (ld_blt I hg hm boot_enumerate (PyProof.Rows.callWith_type1 (thn (ha.run pos pins s σ H _ I h) fun us s1 ⟨vs, H1, I1, r1, q1⟩ => ?_) hs rfl))
  obtain ⟨a, xs, ex, q1⟩ := q1
  subst ex
  cases r1 with
  | cons r rr =>
    cases rr
    cases r
    have fin : ∀ {h' : Heap}, (∀ b ob, s1.heap.get? b = some ob → h'.get? b = some ob) → L2.Inv X pins σ H1 { s1 with heap := h' } := fun hk => I1.kept (t' := s1.toks) hk
    have fr : ∀ b, b ∈ [s1.heap.objs.size + 1, s1.heap.objs.size] → s1.heap.objs.size ≤ b := fun b hb => by
      rcases (show b = s1.heap.objs.size + 1 ∨ b = s1.heap.objs.size by simpa using hb) with z | z <;> omega
    rcases q1 with ⟨hq, q⟩ | ⟨hq, q⟩
    · obtain ⟨its, rv, p', hz⟩ := I1.list hq
      refine call_enumerate_list p'.isList fun h' he hit hsz hk => wpAny_pyIter_enum he ?_
      exact ⟨s1.heap.objs.size + 1, [s1.heap.objs.size + 1, s1.heap.objs.size], _, _, H1, rfl, fin hk, turn_enum a (s1.heap.objs.size + 1) s1.heap.objs.size, ⟨⟨.none, he⟩, hit, Nat.succ_ne_self _⟩, fun b hb => I1.fpOk (fr b hb) (I1.hok.fresh (fr b hb)), q⟩
    · obtain ⟨its, rv, p', hz⟩ := I1.tuple hq
      have hal : a < s1.heap.objs.size := by obtain ⟨o, ho, _⟩ := p'; exact Heap.lt_size ho
      refine call_enumV (begins_tuple a its.toArray) p' fun h' he hit hsz hk => wpAny_pyIter_enum he ?_
      exact ⟨s1.heap.objs.size + 1, [s1.heap.objs.size + 1, s1.heap.objs.size], _, _, H1, rfl, fin hk, turn_enumT a (s1.heap.objs.size + 1) s1.heap.objs.size, ⟨⟨.none, he⟩, ⟨_, hit, rfl, rfl⟩, Nat.succ_ne_self _, Nat.ne_of_lt hal, Nat.ne_of_lt (Nat.lt_succ_of_lt hal)⟩, fun b hb => I1.fpOk (fr b hb) (I1.hok.fresh (fr b hb)), q⟩
end Lt

namespace LtR
open PySem PySem.Spec PyProof.Rows L2
section
variable {prog : Program} {w : World} {A : Around} {E : Value → Shared → Prop} {s : Shared} {l : Addr} {xs : Array (Int × Tok)}
theorem sum_tup {Q : Value → Shared → Prop} (hh : A.handled = none) (hl : s.heap.IsTuple l (intItems xs))
    (h : ∀ h' tk t', (∀ b o, s.heap.get? b = some o → h'.get? b = some o) → Q (.int (preSum (numAt xs) xs.size) t') { s with heap := h', toks := tk }) :
    wpAny (model prog w) A (call (.builtin "sum") [.ref l]) Q E s := by
  have hlt : l < s.heap.objs.size := by obtain ⟨_, e, _⟩ := hl; exact Heap.lt_size e
  refine call_sum_walkG (PySem.W.iter_tupleW (A := A.in1) hh hl fun s2 e W st hfp _ keep => ?_)
  subst e
  refine ⟨_, _, _, _, _, _, numAt xs, rfl, Walks.tuple (A := A.in1) hh _ l (Nat.ne_of_lt hlt) (intItems xs), st, hfp, (fun _ _ => intItems_at), fun h' tk t' hk => ?_⟩
  have := h h' tk t' fun b o e => hk b o (fun hb => absurd (Heap.lt_size e) ((List.mem_singleton.mp hb) ▸ Nat.lt_irrefl _)) (keep b o e)
  simpa [intItems] using this
end
section
variable {X : Cx}
theorem call_sumT (hc : X.calm = true) : CallR X (.builtin "sum") (fun vs H Q => ∃ (a : Addr) (ns : List Int), vs = [V.ref a] ∧ SqT X.K H a (ns.map V.int) ∧ Q (.int ns.sum) H) := by
  intro pins s σ H vs us Q I r h
  obtain ⟨a, ns, rfl, hs, q⟩ := h
  obtain ⟨its, rv, hl, _⟩ := I.tuple hs
  rw [Vals.ref1 r]
  have hi := rv.ints
  obtain ⟨xs, e⟩ := hi.allInts.items
  have hn : numsOf (intItems xs).toList = ns := by rw [← e]; exact hi.numsOf
  rw [nums_intItems] at hn
  rw [e] at hl
  refine sum_tup (I.ok.hd hc) hl fun h' tk t' hk => ?_
  rw [preSum_eq, List.take_of_length_le (by simp), hn]
  exact ⟨.int _, H, I.kept (t' := tk) hk, ⟨_, rfl⟩, q⟩
end
end LtR

set_option maxHeartbeats 4000000
namespace Lt
open PySem PySem.Spec PyProof.Rows L2

/-! ### what stands for what -/
structure TKeep (H H' : Hp) : Prop where
  t : ∀ a vs, H a = some (.tup vs) → H' a = some (.tup vs)
  f : ∀ a ob u, H a = some (.frz ob u) → H' a = some (.frz ob u)
theorem TKeep.refl (H : Hp) : TKeep H H := ⟨fun _ _ h => h, fun _ _ _ h => h⟩
theorem TKeep.trans {H H1 H2 : Hp} (a : TKeep H H1) (b : TKeep H1 H2) : TKeep H H2 := ⟨fun p vs h => b.t p vs (a.t p vs h), fun p ob u h => b.f p ob u (a.f p ob u h)⟩
def TupAt (K : PySem.W.Frag) (H : Hp) (a : Addr) (xs : List V) : Prop := H a = some (.tup xs) ∨
  ∃ (o : Obj) (its : Array Value) (n : Nat), K.lookup a = some o ∧ o.cls = .type "tuple" ∧ o.data = .seq its n ∧ its.size ≤ sizeLine ∧ Vals xs its.toList
theorem TupAt.sq {K : PySem.W.Frag} {H : Hp} {a : Addr} {xs : List V} (h : TupAt K H a xs) : SqT K H a xs := h.elim (fun z => .inl (.inl z)) .inr
theorem TupAt.keep {K : PySem.W.Frag} {H H' : Hp} {a : Addr} {xs : List V} (k : TKeep H H') (h : TupAt K H a xs) : TupAt K H' a xs := h.elim (fun z => .inl (k.t _ _ z)) .inr
/-- a list that changes no more -/
def FrzL (K : PySem.W.Frag) (H : Hp) (a : Addr) (xs : List V) : Prop := (∃ ob, H a = some (.frz ob (.lst xs))) ∨
  ∃ (o : Obj) (its : Array Value) (n : Nat), K.lookup a = some o ∧ o.cls = .type "list" ∧ o.dict = none ∧ o.data = .seq its n ∧ its.size ≤ sizeLine ∧ Vals xs its.toList
theorem FrzL.sq {K : PySem.W.Frag} {H : Hp} {a : Addr} {xs : List V} (h : FrzL K H a xs) : SqL K H a xs := h.elim (fun z => .inl (.inr z)) .inr
theorem FrzL.keep {K : PySem.W.Frag} {H H' : Hp} {a : Addr} {xs : List V} (k : TKeep H H') (h : FrzL K H a xs) : FrzL K H' a xs := h.elim (fun ⟨ob, z⟩ => .inl ⟨ob, k.f _ _ _ z⟩) .inr
theorem TKeep.upd {H : Hp} {p : Addr} {o : HO} (h : ∀ vs, H p ≠ some (.tup vs)) (g : ∀ ob u, H p ≠ some (.frz ob u)) : TKeep H (L2.upd H p o) :=
  ⟨fun a vs e => by rw [upd_ne fun z => by subst z; exact h vs e]; exact e, fun a ob u e => by rw [upd_ne fun z => by subst z; exact g ob u e]; exact e⟩
theorem TKeep.new {H : Hp} {p : Addr} {o : HO} (h : H p = none) : TKeep H (L2.upd H p o) := TKeep.upd (fun vs e => by rw [h] at e; cases e) fun ob u e => by rw [h] at e; cases e
theorem TKeep.lst {H : Hp} {p : Addr} {o : HO} {xs : List V} (h : H p = some (.lst xs)) : TKeep H (L2.upd H p o) := TKeep.upd (fun vs e => by rw [h] at e; cases e) fun ob u e => by rw [h] at e; cases e

mutual
def Rep (K : PySem.W.Frag) (H : Hp) : D → V → Prop
  | .non, v => v = .non
  | .bl b, v => v = .bl b
  | .int i, v => v = .int i
  | .str x, v => v = .str x
  | .tup xs, v => ∃ a vs, v = .ref a ∧ TupAt K H a vs ∧ Reps K H xs vs
  | .lst xs, v => ∃ a vs, v = .ref a ∧ FrzL K H a vs ∧ Reps K H xs vs
  | .ref a, v => v = .ref a
def Reps (K : PySem.W.Frag) (H : Hp) : List D → List V → Prop
  | [], vs => vs = []
  | d :: ds, vs => ∃ v r, vs = v :: r ∧ Rep K H d v ∧ Reps K H ds r
end
section
variable {K : PySem.W.Frag} {H H' : Hp}
mutual
theorem Rep.keep (k : TKeep H H') : ∀ {d : D} {v : V}, Rep K H d v → Rep K H' d v
  | .non, _, h => by unfold Rep at h ⊢; exact h
  | .bl _, _, h => by unfold Rep at h ⊢; exact h
  | .int _, _, h => by unfold Rep at h ⊢; exact h
  | .str _, _, h => by unfold Rep at h ⊢; exact h
  | .ref _, _, h => by unfold Rep at h ⊢; exact h
  | .tup xs, _, h => by
    unfold Rep at h ⊢
    obtain ⟨a, vs, e, t, r⟩ := h
    exact ⟨a, vs, e, t.keep k, Reps.keep k r⟩
  | .lst xs, _, h => by
    unfold Rep at h ⊢
    obtain ⟨a, vs, e, t, r⟩ := h
    exact ⟨a, vs, e, t.keep k, Reps.keep k r⟩
theorem Reps.keep (k : TKeep H H') : ∀ {ds : List D} {vs : List V}, Reps K H ds vs → Reps K H' ds vs
  | [], _, h => by unfold Reps at h ⊢; exact h
  | d :: ds, _, h => by
    unfold Reps at h ⊢
    obtain ⟨v, r, e, h1, h2⟩ := h
    exact ⟨v, r, e, Rep.keep k h1, Reps.keep k h2⟩
end
theorem Reps.nil : Reps K H [] [] := by unfold Reps; rfl
theorem Reps.cons {d : D} {v : V} {ds : List D} {vs : List V} (h : Rep K H d v) (r : Reps K H ds vs) : Reps K H (d :: ds) (v :: vs) := by
  rw [Reps]; exact ⟨v, vs, rfl, h, r⟩
theorem Reps.nil_inv {vs : List V} (h : Reps K H [] vs) : vs = [] := by unfold Reps at h; exact h
theorem Reps.cons_inv {d : D} {ds : List D} {vs : List V} (h : Reps K H (d :: ds) vs) : ∃ v r, vs = v :: r ∧ Rep K H d v ∧ Reps K H ds r := by rw [Reps] at h; exact h
theorem Reps.length : ∀ {ds : List D} {vs : List V}, Reps K H ds vs → ds.length = vs.length
  | [], _, h => by rw [h.nil_inv]; rfl
  | d :: ds, _, h => by
    obtain ⟨v, r, rfl, _, h2⟩ := h.cons_inv
    rw [List.length_cons, List.length_cons, Reps.length h2]
theorem Reps.append : ∀ {ds es : List D} {vs ws : List V}, Reps K H ds vs → Reps K H es ws → Reps K H (ds ++ es) (vs ++ ws)
  | [], _, _, _, h, k => by rw [h.nil_inv]; exact k
  | d :: ds, _, _, _, h, k => by
    obtain ⟨v, r, rfl, h1, h2⟩ := h.cons_inv
    exact .cons h1 (Reps.append h2 k)
theorem Reps.get : ∀ {ds : List D} {vs : List V} {i : Nat}, Reps K H ds vs → (∀ d, ds[i]? = some d → ∃ v, vs[i]? = some v ∧ Rep K H d v)
  | [], _, _, h => fun d e => by simp at e
  | d :: ds, _, 0, h => fun e q => by
    obtain ⟨v, r, rfl, h1, _⟩ := h.cons_inv
    simp at q; subst q
    exact ⟨v, rfl, h1⟩
  | d :: ds, _, i + 1, h => fun e q => by
    obtain ⟨v, r, rfl, _, h2⟩ := h.cons_inv
    exact Reps.get (i := i) h2 e (by simpa using q)
theorem Reps.get' {ds : List D} {vs : List V} {i : Nat} {v : V} (h : Reps K H ds vs) (e : vs[i]? = some v) : ∃ d, ds[i]? = some d ∧ Rep K H d v := by
  cases q : ds[i]? with
  | none =>
    rw [List.getElem?_eq_none_iff, h.length, ← List.getElem?_eq_none_iff, e] at q
    cases q
  | some d =>
    obtain ⟨w, e2, r⟩ := h.get d q
    rw [e] at e2; cases e2
    exact ⟨d, rfl, r⟩
theorem Reps.none {ds : List D} {vs : List V} {i : Nat} (h : Reps K H ds vs) (e : ds[i]? = Option.none) : vs[i]? = Option.none := by
  rw [List.getElem?_eq_none_iff] at e ⊢
  rw [← h.length]; exact e
theorem Reps.take : ∀ {ds : List D} {vs : List V} (n : Nat), Reps K H ds vs → Reps K H (ds.take n) (vs.take n)
  | _, _, 0, _ => by simpa using Reps.nil
  | [], _, n + 1, h => by rw [h.nil_inv]; simpa using Reps.nil
  | d :: ds, _, n + 1, h => by
    obtain ⟨v, r, rfl, h1, h2⟩ := h.cons_inv
    exact .cons h1 (Reps.take n h2)
theorem Reps.drop : ∀ {ds : List D} {vs : List V} (n : Nat), Reps K H ds vs → Reps K H (ds.drop n) (vs.drop n)
  | _, _, 0, h => h
  | [], _, n + 1, h => by rw [h.nil_inv]; simpa using Reps.nil
  | d :: ds, _, n + 1, h => by
    obtain ⟨v, r, rfl, h1, h2⟩ := h.cons_inv
    exact Reps.drop n h2
theorem Reps.set : ∀ {ds : List D} {vs : List V} {d : D} {v : V} (n : Nat), Rep K H d v → Reps K H ds vs → Reps K H (ds.set n d) (vs.set n v)
  | [], _, _, _, _, _, h => by rw [h.nil_inv]; simpa using Reps.nil
  | _ :: _, _, _, _, 0, k, h => by
    obtain ⟨v, r, rfl, h1, h2⟩ := h.cons_inv
    exact .cons k h2
  | _ :: _, _, _, _, n + 1, k, h => by
    obtain ⟨v, r, rfl, h1, h2⟩ := h.cons_inv
    exact .cons h1 (Reps.set n k h2)
theorem Reps.dropLast {ds : List D} {vs : List V} (h : Reps K H ds vs) : Reps K H ds.dropLast vs.dropLast := by
  rw [List.dropLast_eq_take, List.dropLast_eq_take, h.length]; exact h.take _
theorem Reps.reverse : ∀ {ds : List D} {vs : List V}, Reps K H ds vs → Reps K H ds.reverse vs.reverse
  | [], _, h => by rw [h.nil_inv]; exact Reps.nil
  | d :: ds, _, h => by
    obtain ⟨v, r, rfl, h1, h2⟩ := h.cons_inv
    rw [List.reverse_cons, List.reverse_cons]
    exact (Reps.reverse h2).append (.cons h1 .nil)
theorem Reps.rep {ds : List D} {vs : List V} (h : Reps K H ds vs) : ∀ n, Reps K H (List.replicate n ds).flatten (List.replicate n vs).flatten
  | 0 => Reps.nil
  | n + 1 => by
    rw [List.replicate_succ, List.replicate_succ, List.flatten_cons, List.flatten_cons]
    exact h.append (Reps.rep h n)
theorem Reps.at {ds : List D} {vs : List V} {i : Int} {d : D} (h : Reps K H ds vs) (e : atI ds i = some d) : ∃ v, atI vs i = some v ∧ Rep K H d v := by
  unfold atI at e ⊢
  rw [← h.length]
  cases q : ixN ds.length i with
  | none => rw [q] at e; cases e
  | some j =>
    rw [q] at e
    exact h.get d e
theorem Reps.cut {ds : List D} {vs : List V} (h : Reps K H ds vs) (lo hi : Option Int) : Reps K H (cutD ds lo hi) (cutV vs lo hi) := by
  unfold cutD cutV
  rw [← h.length]
  exact (h.drop _).take _
theorem Reps.ints : ∀ {ds : List D} {vs : List V} {ns : List Int}, intsD ds = some ns → Reps K H ds vs → vs = ns.map V.int
  | [], _, _, e, h => by cases e; exact h.nil_inv
  | .int i :: r, _, _, e, h => by
    obtain ⟨v, w, rfl, h1, h2⟩ := h.cons_inv
    unfold intsD at e
    cases q : intsD r with
    | none => rw [q] at e; cases e
    | some ms =>
      rw [q] at e; cases e
      have e1 : v = V.int i := by unfold Rep at h1; exact h1
      rw [e1, Reps.ints q h2]; rfl
  | .non :: _, _, _, e, _ => nomatch e
  | .bl _ :: _, _, _, e, _ => nomatch e
  | .str _ :: _, _, _, e, _ => nomatch e
  | .tup _ :: _, _, _, e, _ => nomatch e
  | .lst _ :: _, _, _, e, _ => nomatch e
  | .ref _ :: _, _, _, e, _ => nomatch e
theorem Reps.bls : ∀ {ds : List D} {vs : List V} {ns : List Bool}, blsD ds = some ns → Reps K H ds vs → vs = ns.map V.bl
  | [], _, _, e, h => by cases e; exact h.nil_inv
  | .bl i :: r, _, _, e, h => by
    obtain ⟨v, w, rfl, h1, h2⟩ := h.cons_inv
    unfold blsD at e
    cases q : blsD r with
    | none => rw [q] at e; cases e
    | some ms =>
      rw [q] at e; cases e
      have e1 : v = V.bl i := by unfold Rep at h1; exact h1
      rw [e1, Reps.bls q h2]; rfl
  | .non :: _, _, _, e, _ => nomatch e
  | .int _ :: _, _, _, e, _ => nomatch e
  | .str _ :: _, _, _, e, _ => nomatch e
  | .tup _ :: _, _, _, e, _ => nomatch e
  | .lst _ :: _, _, _, e, _ => nomatch e
  | .ref _ :: _, _, _, e, _ => nomatch e
end

/-! ### heaps -/
def RepO (K : PySem.W.Frag) (H : Hp) (a : Addr) : O → Prop
  | .lst xs => ∃ vs, H a = some (.lst vs) ∧ Reps K H xs vs
  | .rol xs => ∃ vs, Rd H a (.lst vs) ∧ Reps K H xs vs
  | .dK kvs => ∃ kws, H a = some (.dK kws) ∧ Paired (fun (p : Key × D) (q : Key × V) => p.1 = q.1 ∧ Rep K H p.2 q.2) kvs kws
  | .dT kvs => ∃ kws, H a = some (.dT kws) ∧ Paired (fun (p : List Key × D) (q : List Key × V) => p.1 = q.1 ∧ Rep K H p.2 q.2) kvs kws
def Sim (K : PySem.W.Frag) (H : Hp) (h : Hh) : Prop := ∀ a o, h a = some o → RepO K H a o
section
variable {K : PySem.W.Frag} {H H' : Hp} {h : Hh} {a p : Addr} {o : O}
theorem RepO.move (k : TKeep H H') (e : H' a = H a) (r : RepO K H a o) : RepO K H' a o := by
  cases o with
  | lst xs => obtain ⟨vs, h1, h2⟩ := r; exact ⟨vs, e.trans h1, h2.keep k⟩
  | rol xs =>
    obtain ⟨vs, h1, h2⟩ := r
    refine ⟨vs, ?_, h2.keep k⟩
    rcases h1 with h1 | ⟨ob, h1⟩
    · exact .inl (e.trans h1)
    · exact .inr ⟨ob, e.trans h1⟩
  | dK kvs => obtain ⟨kws, h1, h2⟩ := r; exact ⟨kws, e.trans h1, L2.Paired.mapP h2 fun _ _ z => ⟨z.1, z.2.keep k⟩⟩
  | dT kvs => obtain ⟨kws, h1, h2⟩ := r; exact ⟨kws, e.trans h1, L2.Paired.mapP h2 fun _ _ z => ⟨z.1, z.2.keep k⟩⟩
theorem RepO.some (r : RepO K H a o) : H a ≠ none := fun e => by
  cases o with
  | lst xs => obtain ⟨vs, h1, h2⟩ := r; rw [e] at h1; cases h1
  | rol xs =>
    obtain ⟨vs, h1, h2⟩ := r
    rcases h1 with h1 | ⟨ob, h1⟩ <;> (rw [e] at h1; cases h1)
  | dK kvs => obtain ⟨kws, h1, h2⟩ := r; rw [e] at h1; cases h1
  | dT kvs => obtain ⟨kws, h1, h2⟩ := r; rw [e] at h1; cases h1
theorem RepO.notup {vs : List V} (r : RepO K H a o) : H a ≠ Option.some (.tup vs) := fun e => by
  cases o with
  | lst xs => obtain ⟨vs, h1, h2⟩ := r; rw [e] at h1; cases h1
  | rol xs =>
    obtain ⟨vs, h1, h2⟩ := r
    rcases h1 with h1 | ⟨ob, h1⟩ <;> (rw [e] at h1; cases h1)
  | dK kvs => obtain ⟨kws, h1, h2⟩ := r; rw [e] at h1; cases h1
  | dT kvs => obtain ⟨kws, h1, h2⟩ := r; rw [e] at h1; cases h1
theorem Sim.fresh (s : Sim K H h) (e : H p = none) : h p = none := by
  cases q : h p with
  | none => rfl
  | some o => exact absurd e (s p o q).some
/-- a tuple is laid -/
theorem Sim.tup {u : HO} (s : Sim K H h) (e : H p = none) : Sim K (upd H p u) h := fun a o q => (s a o q).move (TKeep.new e) (upd_ne fun z => by
  subst z; rw [s.fresh e] at q; cases q)
/-- an object is laid or changed -/
theorem Sim.upd {u : HO} (s : Sim K H h) (k : TKeep H (L2.upd H p u)) (r : RepO K (L2.upd H p u) p o) : Sim K (L2.upd H p u) (up h p o) := fun a w q => by
  by_cases z : a = p
  · subst z; rw [up_same] at q; cases q; exact r
  · rw [up_ne z] at q
    exact (s a w q).move k (upd_ne z)
theorem Sim.lst {xs : List D} {vs : List V} (s : Sim K H h) (k : TKeep H (L2.upd H p (.lst vs))) (r : Reps K H xs vs) : Sim K (L2.upd H p (.lst vs)) (up h p (.lst xs)) := s.upd k ⟨vs, upd_same, r.keep k⟩
theorem Sim.wr {xs : List D} (s : Sim K H h) (e : wrL h a = some xs) : ∃ vs, H a = some (.lst vs) ∧ Reps K H xs vs := by
  unfold wrL at e
  cases q : h a with
  | none => rw [q] at e; cases e
  | some o =>
    rw [q] at e
    cases o with
    | lst ys => cases e; exact s a _ q
    | rol ys => cases e
    | dK _ => cases e
    | dT _ => cases e
theorem Sim.rd {xs : List D} (s : Sim K H h) (e : rdL h a = some xs) : ∃ vs, Rd H a (.lst vs) ∧ Reps K H xs vs := by
  unfold rdL at e
  cases q : h a with
  | none => rw [q] at e; cases e
  | some o =>
    rw [q] at e
    cases o with
    | lst ys => cases e; obtain ⟨vs, h1, h2⟩ := s a _ q; exact ⟨vs, .inl h1, h2⟩
    | rol ys => cases e; exact s a _ q
    | dK _ => cases e
    | dT _ => cases e
/-- an object is let go -/
theorem Sim.era (s : Sim K H h) : Sim K H (era h p) := fun a o e => by
  by_cases z : a = p
  · subst z; rw [era_same] at e; cases e
  · rw [era_ne z] at e; exact s a o e
theorem Sim.gc {h0 : Hh} (s : Sim K H h) : Sim K H (gcH h0 h) := fun a o e => by
  by_cases z : h0 a = none
  · rw [gc_new z] at e; cases e
  · rw [gc_old z] at e; exact s a o e
theorem Sim.frz {xs : List D} {vs : List V} {ob : Obj} {u : HO} (s : Sim K H h) (e : H p = some (.lst vs)) : Sim K (L2.upd H p (.frz ob u)) (Lt.era h p) := fun a o q => by
  by_cases z : a = p
  · subst z; rw [era_same] at q; cases q
  · rw [era_ne z] at q
    exact (s a o q).move (TKeep.lst e) (upd_ne z)
theorem Sim.ls {d : D} {v : V} {xs : List D} (s : Sim K H h) (r : Rep K H d v) (e : lsD h d = some xs) : ∃ a vs, v = .ref a ∧ SqL K H a vs ∧ Reps K H xs vs := by
  cases d with
  | lst ys =>
    cases e
    unfold Rep at r
    obtain ⟨a, vs, rfl, t, r⟩ := r
    exact ⟨a, vs, rfl, t.sq, r⟩
  | ref a =>
    obtain ⟨vs, h1, h2⟩ := s.rd (show rdL h a = some xs from e)
    unfold Rep at r
    exact ⟨a, vs, r, .inl h1, h2⟩
  | _ => cases e
mutual
theorem IsP.dp (s : Sim K H h) : ∀ (d : PyData) {x : D} {v : V}, IsP h x d → Rep K H x v → Dp K H v d
  | .none, x, v, e, r => by
    unfold IsP at e; subst e; unfold Rep at r; subst r; exact .non
  | .bool b, x, v, e, r => by
    unfold IsP at e; subst e; unfold Rep at r; subst r; exact .bl _
  | .int b, x, v, e, r => by
    unfold IsP at e; subst e; unfold Rep at r; subst r; exact .int _
  | .str b, x, v, e, r => by
    unfold IsP at e; subst e; unfold Rep at r; subst r; exact .str _
  | .tuple ds, x, v, e, r => by
    unfold IsP at e
    obtain ⟨xs, rfl, e⟩ := e
    unfold Rep at r
    obtain ⟨a, vs, rfl, t, r⟩ := r
    exact .tup t.sq (IsPs.dp s ds e r)
  | .list ds, x, v, e, r => by
    unfold IsP at e
    obtain ⟨xs, e1, e⟩ := e
    obtain ⟨a, vs, rfl, h1, h2⟩ := s.ls r e1
    exact .lst h1 (IsPs.dp s ds e h2)
  | .dict _, x, v, e, r => by unfold IsP at e; exact e.elim
theorem IsPs.dp (s : Sim K H h) : ∀ (ds : List PyData) {xs : List D} {vs : List V}, IsPs h xs ds → Reps K H xs vs → DpAll K H vs ds
  | [], xs, vs, e, r => by
    unfold IsPs at e; subst e; rw [r.nil_inv]; exact .nil
  | d :: ds, xs, vs, e, r => by
    unfold IsPs at e
    obtain ⟨x, q, rfl, e1, e2⟩ := e
    obtain ⟨v, w, rfl, r1, r2⟩ := r.cons_inv
    exact .cons (IsP.dp s d e1 r1) (IsPs.dp s ds e2 r2)
end
end

/-! ### links -/
def LkV (K : PySem.W.Frag) (H : Hp) (R : QD) (Q : VK) : Prop := ∀ v H' d h', TKeep H H' → Sim K H' h' → Rep K H' d v → R d h' → Q v H'
theorem LkV.keep {K : PySem.W.Frag} {H H1 : Hp} {R : QD} {Q : VK} (l : LkV K H R Q) (k : TKeep H H1) : LkV K H1 R Q := fun v H' d h' k1 => l v H' d h' (k.trans k1)
/-- a two-place rule over data -/
def r2 (K : PySem.W.Frag) (w : D → D → Hh → QD → Prop) : R2 := fun x y H Q => ∃ d e h R, Sim K H h ∧ Rep K H d x ∧ Rep K H e y ∧ w d e h R ∧ LkV K H R Q
def r1 (K : PySem.W.Frag) (w : D → Hh → QD → Prop) : V → Hp → VK → Prop := fun x H Q => ∃ d h R, Sim K H h ∧ Rep K H d x ∧ w d h R ∧ LkV K H R Q
def rs (K : PySem.W.Frag) (w : List D → Hh → QD → Prop) : List V → Hp → VK → Prop := fun xs H Q => ∃ ds h R, Sim K H h ∧ Reps K H ds xs ∧ w ds h R ∧ LkV K H R Q
def rm (K : PySem.W.Frag) (w : D → List D → Hh → QD → Prop) : V → List V → Hp → VK → Prop := fun x xs H Q => ∃ d ds h R, Sim K H h ∧ Rep K H d x ∧ Reps K H ds xs ∧ w d ds h R ∧ LkV K H R Q

section
variable {X : Cx}
/-- a new list -/
theorem LkV.new {K : PySem.W.Frag} {H : Hp} {h : Hh} {R : QD} {Q : VK} {xs : List D} {vs : List V} (l : LkV K H R Q) (s : Sim K H h) (r : Reps K H xs vs) (w : ∀ p, h p = none → R (.ref p) (up h p (.lst xs))) :
    ∀ p, H p = none → Q (.ref p) (upd H p (.lst vs)) := fun p hp =>
  l _ _ _ _ (TKeep.new hp) (s.lst (TKeep.new hp) r) (by unfold Rep; rfl) (w p (s.fresh hp))
theorem LkV.chg {K : PySem.W.Frag} {H : Hp} {h : Hh} {R : QD} {Q : VK} {a : Addr} {d : D} {v : V} {us vs : List V} {xs : List D} (l : LkV K H R Q) (s : Sim K H h) (e : H a = some (.lst us)) (r : Reps K H xs vs) (rd : Rep K H d v) (w : R d (up h a (.lst xs))) :
    Q v (upd H a (.lst vs)) := l _ _ _ _ (TKeep.lst e) (s.lst (TKeep.lst e) r) (rd.keep (TKeep.lst e)) w
theorem LkV.same {K : PySem.W.Frag} {H : Hp} {h : Hh} {R : QD} {Q : VK} {d : D} {v : V} (l : LkV K H R Q) (s : Sim K H h) (r : Rep K H d v) (w : R d h) : Q v H := l _ _ _ _ (TKeep.refl H) s r w
/-- a tuple, new or there -/
theorem LkV.tup {K : PySem.W.Frag} {H : Hp} {h : Hh} {R : QD} {Q : VK} {xs : List D} {vs : List V} (l : LkV K H R Q) (s : Sim K H h) (r : Reps K H xs vs) (w : R (.tup xs) h) :
    ∀ p, H p = none → Q (.ref p) (upd H p (.tup vs)) := fun p hp =>
  l _ _ _ _ (TKeep.new hp) (s.tup hp) (by unfold Rep; exact ⟨p, vs, rfl, .inl upd_same, r.keep (TKeep.new hp)⟩) w
theorem rep_int {K : PySem.W.Frag} {H : Hp} {i : Int} {v : V} : Rep K H (.int i) v ↔ v = .int i := by unfold Rep; exact Iff.rfl
theorem rep_bl {K : PySem.W.Frag} {H : Hp} {i : Bool} {v : V} : Rep K H (.bl i) v ↔ v = .bl i := by unfold Rep; exact Iff.rfl
theorem rep_str {K : PySem.W.Frag} {H : Hp} {i : Str} {v : V} : Rep K H (.str i) v ↔ v = .str i := by unfold Rep; exact Iff.rfl
theorem rep_non {K : PySem.W.Frag} {H : Hp} {v : V} : Rep K H .non v ↔ v = .non := by unfold Rep; exact Iff.rfl
theorem rep_ref {K : PySem.W.Frag} {H : Hp} {a : Addr} {v : V} : Rep K H (.ref a) v ↔ v = .ref a := by unfold Rep; exact Iff.rfl
theorem rep_tup {K : PySem.W.Frag} {H : Hp} {xs : List D} {v : V} : Rep K H (.tup xs) v ↔ ∃ a vs, v = .ref a ∧ TupAt K H a vs ∧ Reps K H xs vs := by rw [Rep]

theorem rep_lst {K : PySem.W.Frag} {H : Hp} {xs : List D} {v : V} : Rep K H (.lst xs) v ↔ ∃ a vs, v = .ref a ∧ FrzL K H a vs ∧ Reps K H xs vs := by rw [Rep]
/-- list + list, list * int, frozen or not -/
def rCatR (K : PySem.W.Frag) : R2 := fun x y H Q => ∃ l b xs zs, x = .ref l ∧ y = .ref b ∧ SqL K H l xs ∧ SqL K H b zs ∧ xs.length + zs.length ≤ sizeLine ∧ ∀ p, H p = none → Q (.ref p) (L2.upd H p (.lst (xs ++ zs)))
theorem op_mulG : OpR X (binaryOp .Mult) (rI IntMulOk fun i j => .int (i * j)) := opI fun _ _ _ _ _ _ _ hc q => mul_int q hc
theorem op_fdivG : OpR X (binaryOp .FloorDiv) (rI (fun i j => j ≠ 0 ∧ Builtin.divisionGoesByPylong i j = false) fun i j => .int (i.fdiv j)) := opI fun _ _ _ _ _ _ _ hc q => floordiv_int hc.1 q (.inl hc.2)

theorem op_catR : OpR X (binaryOp .Add) (rCatR X.K) := by
  intro pins s σ H x y v u Q I rx ry h
  obtain ⟨l, b, xs, zs, rfl, rfl, hH, hB, hz, q⟩ := h
  cases rx
  cases ry
  obtain ⟨its, r, ⟨o, n, e, c1, c2, c3⟩, hl⟩ := I.list hH
  obtain ⟨its2, r2, ⟨o2, n2, e2, d1, d2, d3⟩, hl2⟩ := I.list hB
  obtain ⟨oc, od, oda, os⟩ := o
  obtain ⟨pc, pd, pda, ps⟩ := o2
  cases c1; cases c2; cases c3; cases d1; cases d2; cases d3
  have l1 := r.length
  have l2 := r2.length
  refine concat_meets ⟨_, e, rfl⟩ ⟨_, e2, rfl⟩ noFill_list_add seq_list_add PySem.F.slot_list_add PySem.F.entry_list_add (PySem.F.args_list_add_2 _ _) (PyProof.Rows.list_addW l b its.toArray its2.toArray n n2 none none os ps (by rw [List.size_toArray, List.size_toArray]; omega)) ⟨e, e2, ?_⟩
  have ea : its.toArray ++ its2.toArray = (its ++ its2).toArray := by simp
  rw [ea]
  exact ⟨.ref _, _, I.lnew (t' := s.toks) (r.append r2) (by rw [List.length_append]; omega), rfl, q _ I.fresh⟩
/-- list * int -/
def rRepR : R2 := fun x y H Q => ∃ l k xs, x = .ref l ∧ y = .int k ∧ Rd H l (.lst xs) ∧ -(2 ^ 63) ≤ k ∧ k < 2 ^ 63 ∧ xs.length * k.toNat ≤ sizeLine ∧
  ∀ p, H p = none → Q (.ref p) (L2.upd H p (.lst (List.replicate k.toNat xs).flatten))
theorem op_repR : OpR X (binaryOp .Mult) rRepR := by
  intro pins s σ H x y v u Q I rx ry h
  obtain ⟨l, k, xs, rfl, rfl, hH, h1, h2, hz, q⟩ := h
  cases rx
  obtain ⟨t, rfl⟩ := ry
  obtain ⟨z, its, n, r, e⟩ := hH.ok I.hok
  have hl := r.length
  have hlen : its.toArray.size * k.toNat ≤ sizeLine := by rw [List.size_toArray, ← hl]; exact hz
  have hcap : ¬ its.toArray.size * k.toNat > (2 ^ 63 - 1) / 8 := by
    have : (sizeLine : Nat) ≤ (2 ^ 63 - 1) / 8 := by decide
    omega
  have hfit : ¬ (!Builtin.List.listFitsIndex k) = true := by
    rw [fitsIndex_both h1 h2]
    exact Bool.false_ne_true
  have hlong : ¬ Builtin.List.listTooLong (its.toArray.size * k.toNat) = true := by
    rw [notLongL hlen]
    exact Bool.false_ne_true
  have hnew : List.foldl (fun x1 x2 => x1 ++ x2) #[] (List.replicate (if its.toArray.isEmpty = true then 0 else k.toNat) its.toArray) = (List.replicate k.toNat its).flatten.toArray := by
    have f0 : ∀ m : Nat, List.foldl (fun x1 x2 => x1 ++ x2) #[] (List.replicate m its.toArray) = (List.replicate m its).flatten.toArray := fun m => by
      have := foldl_rep its m []
      rw [List.nil_append] at this
      exact this
    rw [f0]
    cases its with
    | nil => simp
    | cons a r' => rw [if_neg (by simp)]
  refine wpAny_binaryOp_repeat_ref (T := "list") (U := "int") (by decide) ⟨_, e, rfl⟩ (fun s' => typeIs_int s' k t) noFill_list_mul PySem.F.fills_int_mul PySem.F.slot_int_rmul repeat_list PySem.F.slot_int_index.lookup
    (call_meets PySem.F.slot_int_rmul (typeIs_int s k t) PySem.F.entry_int_rmul (PySem.F.args_int_rmul_2 _ _) (int___rmul___int_list k t l its.toArray n)
      ⟨e, rfl, ⟨_, e, rfl⟩, call_meets PySem.F.slot_list_mul ⟨_, e, rfl⟩ PySem.F.entry_list_mul (PySem.F.args_list_mul_2 _ _) (AutoListH.list___mul___list_int_3 l its.toArray n k t hfit hcap hlong) ⟨e, ?_⟩⟩)
  rw [hnew]
  exact ⟨.ref _, _, I.lnew (t' := s.toks) (r.rep k.toNat) (by rw [PyProof.Rows.lm_len_rep_flat, Nat.mul_comm]; exact hz), rfl, q _ I.fresh⟩

theorem lsL {K : PySem.W.Frag} {H : Hp} {xs : List D} {v : V} (r : Rep K H (.lst xs) v) : ∃ a vs, v = .ref a ∧ SqL K H a vs ∧ Reps K H xs vs := by
  rw [rep_lst] at r; obtain ⟨a, vs, e, t, r⟩ := r; exact ⟨a, vs, e, t.sq, r⟩
theorem lsR {K : PySem.W.Frag} {H : Hp} {h : Hh} {b : Addr} {xs : List D} {v : V} (S : Sim K H h) (r : Rep K H (.ref b) v) (e : rdL h b = some xs) : ∃ a vs, v = .ref a ∧ SqL K H a vs ∧ Reps K H xs vs := S.ls r e
def opOf : Bo → Operator
  | .add => .Add | .sub => .Sub | .mul => .Mult | .div => .FloorDiv | .mod => .Mod | .pow => .Pow
theorem opR_bin (o : Bo) : OpR X (binaryOp (opOf o)) (r2 X.K (binW o)) := by
  intro pins s σ H x y v u Q I rx ry hh
  obtain ⟨d, e, h, R, S, r1, r2, w, l⟩ := hh
  have r1' := r1
  have r2' := r2
  cases o <;> cases d <;> cases e <;> first
    | (simp only [binW] at w; done)
    | (simp only [binW] at w
       rw [rep_int] at r1' r2'; subst r1' r2'
       first
        | exact op_add pins s σ H _ _ v u Q I rx ry ⟨_, _, rfl, rfl, l.same S (rep_int.2 rfl) w⟩
        | exact op_sub pins s σ H _ _ v u Q I rx ry ⟨_, _, rfl, rfl, l.same S (rep_int.2 rfl) w⟩
        | exact op_mulG pins s σ H _ _ v u Q I rx ry ⟨_, _, rfl, rfl, w.1, l.same S (rep_int.2 rfl) w.2⟩
        | exact op_fdivG pins s σ H _ _ v u Q I rx ry ⟨_, _, rfl, rfl, ⟨w.1, w.2.1⟩, l.same S (rep_int.2 rfl) w.2.2⟩
        | exact op_modN pins s σ H _ _ v u Q I rx ry ⟨_, _, rfl, rfl, w.1, l.same S (rep_int.2 rfl) w.2⟩
        | exact op_pow pins s σ H _ _ v u Q I rx ry ⟨_, _, rfl, rfl, w.1, l.same S (rep_int.2 rfl) w.2⟩)
    | (simp only [binW] at w
       rw [rep_str] at r1' r2'; subst r1' r2'
       exact op_add_str pins s σ H _ _ v u Q I rx ry ⟨_, _, rfl, rfl, w.1, l.same S (rep_str.2 rfl) w.2⟩)
    | (simp only [binW] at w
       rw [rep_tup] at r1' r2'
       obtain ⟨a, vs, rfl, ta, ra⟩ := r1'
       obtain ⟨b, ws, rfl, tb, rb⟩ := r2'
       refine op_catA pins s σ H _ _ v u Q I rx ry ⟨a, b, vs, ws, rfl, rfl, ta.sq, tb.sq, by rw [← ra.length, ← rb.length]; exact w.1, fun e => ?_, fun _ e => ?_, fun _ _ => l.tup S (ra.append rb) w.2⟩
       · have e1 := ra.length
         rw [e, List.length_nil] at e1
         have e2 := List.eq_nil_of_length_eq_zero e1
         refine l.same S (d := .tup _) ?_ w.2
         rw [e2]; exact r2
       · have e1 := rb.length
         rw [e, List.length_nil] at e1
         have e2 := List.eq_nil_of_length_eq_zero e1
         refine l.same S (d := .tup _) ?_ w.2
         rw [e2, List.append_nil]; exact r1)
    | (simp only [binW] at w
       rw [rep_tup] at r1'; rw [rep_int] at r2'; subst r2'
       obtain ⟨a, vs, rfl, ta, ra⟩ := r1'
       obtain ⟨⟨h1, h2, hz⟩, w⟩ := w
       refine LtR.op_mulT pins s σ H _ _ v u Q I rx ry ⟨a, _, vs, rfl, rfl, ta.sq, h1, h2, by rw [← ra.length]; exact hz, fun c => ?_, l.tup S (ra.rep _) w⟩
       refine l.same S (d := .tup _) ?_ w
       rw [rep_tup]
       refine ⟨a, vs, rfl, ta, ?_⟩
       have := ra.rep (Int.toNat ‹Int›)
       rcases c with c | c
       · subst c
         have e := ra.length
         rw [List.length_nil] at e
         rw [List.eq_nil_of_length_eq_zero e] at this ⊢
         simpa using this
       · subst c
         simpa using ra)
    | (simp only [binW] at w
       rw [rep_lst] at r1'; rw [rep_int] at r2'; subst r2'
       obtain ⟨a, vs, rfl, ta, ra⟩ := r1'
       obtain ⟨h1, h2, hz, w⟩ := w
       exact LtR.op_mulL pins s σ H _ _ v u Q I rx ry ⟨a, _, vs, rfl, rfl, ta.sq, h1, h2, by rw [← ra.length]; exact hz, l.new S (ra.rep _) w⟩)
    | (simp only [binW] at w
       rw [rep_ref] at r1'; rw [rep_int] at r2'; subst r1' r2'
       rw [optW_iff] at w
       obtain ⟨xs, e1, h1, h2, hz, w⟩ := w
       obtain ⟨vs, h3, q1⟩ := S.rd e1
       exact op_repR pins s σ H _ _ v u Q I rx ry ⟨_, _, vs, rfl, rfl, h3, h1, h2, by rw [← q1.length]; exact hz, l.new S (q1.rep _) w⟩)
    | (simp only [binW] at w
       rw [optW_iff] at w
       obtain ⟨ys, e2, hz, w⟩ := w
       obtain ⟨a, vs, rfl, h1, q1⟩ := lsL r1'
       obtain ⟨b, ws, rfl, h2, q2⟩ := S.ls r2' e2
       exact op_catR pins s σ H _ _ v u Q I rx ry ⟨_, _, vs, ws, rfl, rfl, h1, h2, by rw [← q1.length, ← q2.length]; exact hz, l.new S (q1.append q2) w⟩)
    | (simp only [binW] at w
       rw [optW_iff] at w
       obtain ⟨xs, e1, w⟩ := w
       rw [optW_iff] at w
       obtain ⟨ys, e2, hz, w⟩ := w
       obtain ⟨a, vs, rfl, h1, q1⟩ := lsR S r1' e1
       obtain ⟨b, ws, rfl, h2, q2⟩ := S.ls r2' e2
       exact op_catR pins s σ H _ _ v u Q I rx ry ⟨_, _, vs, ws, rfl, rfl, h1, h2, by rw [← q1.length, ← q2.length]; exact hz, l.new S (q1.append q2) w⟩)
end
end Lt

set_option maxHeartbeats 4000000
namespace Lt
open PySem PySem.Spec PyProof.Rows L2
section
variable {X : Cx}
theorem un_negR : UnR X (unaryOp .USub) (r1 X.K negW) := by
  intro pins s σ H x v Q I rx hh
  obtain ⟨d, h, R, S, r1, w, l⟩ := hh
  cases d <;> first
    | (simp only [negW] at w; done)
    | (simp only [negW] at w
       rw [rep_int] at r1; subst r1
       exact un_neg pins s σ H _ v Q I rx ⟨_, rfl, l.same S (rep_int.2 rfl) w⟩)

theorem eqW_eq {d e : D} {h : Hh} {K : Bool → Prop} {H : Hp} {x y : V} {Kf : PySem.W.Frag} (S : Sim Kf H h) (r1 : Rep Kf H d x) (r2 : Rep Kf H e y) (w : eqW d e h K) :
    ∃ a b, Dp Kf H x a ∧ Dp Kf H y b ∧ SeqAt.shaped a = true ∧ SeqAt.shaped b = true ∧ K (PyData.eqv a b) := by
  obtain ⟨a, b, h1, h2, h3, h4, k⟩ := w
  exact ⟨a, b, h1.dp S _ r1, h2.dp S _ r2, h3, h4, k⟩
theorem flat_rep {K : PySem.W.Frag} {H : Hp} {d : D} {x : V} (r : Rep K H d x) (f : flatD d = true) : flatV x = true := by
  cases d <;> first
    | (rw [rep_non] at r; subst r; rfl)
    | (rw [rep_bl] at r; subst r; rfl)
    | (rw [rep_int] at r; subst r; rfl)
    | (rw [rep_str] at r; subst r; rfl)
    | exact absurd f Bool.false_ne_true
theorem flat_eq {K : PySem.W.Frag} {H : Hp} {d e : D} {x y : V} (r : Rep K H d x) (q : Rep K H e y) (f : flatD d = true) (g : flatD e = true) : eqD d e = eqV x y := by
  cases d <;> cases e <;> first
    | exact absurd f Bool.false_ne_true
    | exact absurd g Bool.false_ne_true
    | (simp only [rep_non, rep_bl, rep_int, rep_str] at r q; subst r q; rfl)
theorem flat_all {K : PySem.W.Frag} {H : Hp} : ∀ {ds : List D} {vs : List V}, Reps K H ds vs → ds.all flatD = true → vs.all flatV = true
  | [], _, h, _ => by rw [h.nil_inv]; rfl
  | d :: ds, _, h, f => by
    obtain ⟨v, r, rfl, h1, h2⟩ := h.cons_inv
    rw [List.all_cons, Bool.and_eq_true] at f ⊢
    exact ⟨flat_rep h1 f.1, flat_all h2 f.2⟩
theorem flat_in {K : PySem.W.Frag} {H : Hp} {d : D} {x : V} (r : Rep K H d x) (f : flatD d = true) : ∀ {ds : List D} {vs : List V}, Reps K H ds vs → ds.all flatD = true → inD d ds = inV x vs
  | [], _, h, _ => by rw [h.nil_inv]; rfl
  | e :: ds, _, h, g => by
    obtain ⟨v, w, rfl, h1, h2⟩ := h.cons_inv
    rw [List.all_cons, Bool.and_eq_true] at g
    have ih := flat_in r f h2 g.2
    unfold inD inV at ih ⊢
    rw [List.any_cons, List.any_cons, flat_eq h1 r g.1 f, ih]

def coOf : Co → CmpOp
  | .eq => .Eq | .ne => .NotEq | .lt => .Lt | .le => .LtE | .gt => .Gt | .ge => .GtE | .isin => .In | .notin => .NotIn
theorem shaped_int (i : Int) : SeqAt.shaped (.int i) = true := by
  simp [SeqAt.shaped, PyData.canLay0, PyData.depth]
theorem opR_eq (hu : X.A.units + 65 < cLine) : OpR X (compareOp .Eq) (r2 X.K (cmW .eq)) := by
  intro pins s σ H x y v u Q I rx ry hh
  obtain ⟨d, e, h, R, S, r1, r2, w, l⟩ := hh
  have gen : eqW d e h (fun b => R (.bl b) h) → wpAny (model X.prog X.w) X.A (compareOp .Eq v u) (EP X pins σ Q) X.xe s := fun w => by
    obtain ⟨a, b, h1, h2, h3, h4, k⟩ := eqW_eq S r1 r2 w
    exact op_eqD (by omega) pins s σ H x y v u Q I rx ry ⟨a, b, h1, h2, h3, h4, l.same S (rep_bl.2 rfl) k⟩
  cases d <;> cases e <;> first
    | (simp only [cmW] at w; exact gen w)
    | (simp only [cmW] at w
       refine gen ⟨.int _, .int _, by unfold IsP; rfl, by unfold IsP; rfl, shaped_int _, shaped_int _, ?_⟩
       show R (.bl (_ == _)) h
       rw [Bool.beq_eq_decide_eq]; exact w)
    | (simp only [cmW] at w
       rw [rep_str] at r1 r2; subst r1 r2
       refine op_eq pins s σ H _ _ v u Q I rx ry ⟨rfl, l.same S (rep_bl.2 rfl) ?_⟩
       simpa using w)
theorem opR_ne (hu : X.A.units + 65 < cLine) : OpR X (compareOp .NotEq) (r2 X.K (cmW .ne)) := by
  intro pins s σ H x y v u Q I rx ry hh
  obtain ⟨d, e, h, R, S, r1, r2, w, l⟩ := hh
  have gen : eqW d e h (fun b => R (.bl (!b)) h) → wpAny (model X.prog X.w) X.A (compareOp .NotEq v u) (EP X pins σ Q) X.xe s := fun w => by
    obtain ⟨a, b, h1, h2, h3, h4, k⟩ := eqW_eq S r1 r2 w
    exact op_neD (by omega) pins s σ H x y v u Q I rx ry ⟨a, b, h1, h2, h3, h4, l.same S (rep_bl.2 rfl) k⟩
  cases d <;> cases e <;> first
    | (simp only [cmW] at w; exact gen w)
    | (simp only [cmW] at w
       refine gen ⟨.int _, .int _, by unfold IsP; rfl, by unfold IsP; rfl, shaped_int _, shaped_int _, ?_⟩
       show R (.bl (!(_ == _))) h
       rw [Bool.beq_eq_decide_eq]; exact w)
    | (simp only [cmW] at w
       rw [rep_str] at r1 r2; subst r1 r2
       refine op_ne pins s σ H _ _ v u Q I rx ry ⟨rfl, l.same S (rep_bl.2 rfl) ?_⟩
       simpa using w)
theorem opR_ord (o : Co) (ho : o = .lt ∨ o = .le ∨ o = .gt ∨ o = .ge) : OpR X (compareOp (coOf o)) (r2 X.K (cmW o)) := by
  intro pins s σ H x y v u Q I rx ry hh
  obtain ⟨d, e, h, R, S, r1, r2, w, l⟩ := hh
  rcases ho with rfl | rfl | rfl | rfl <;> cases d <;> cases e <;> first
    | (simp only [cmW] at w; done)
    | (simp only [cmW] at w
       rw [rep_int] at r1 r2; subst r1 r2
       first
        | exact op_lt pins s σ H _ _ v u Q I rx ry ⟨_, _, rfl, rfl, l.same S (rep_bl.2 rfl) w⟩
        | exact op_le pins s σ H _ _ v u Q I rx ry ⟨_, _, rfl, rfl, l.same S (rep_bl.2 rfl) w⟩
        | exact op_gt pins s σ H _ _ v u Q I rx ry ⟨_, _, rfl, rfl, l.same S (rep_bl.2 rfl) w⟩
        | exact op_ge pins s σ H _ _ v u Q I rx ry ⟨_, _, rfl, rfl, l.same S (rep_bl.2 rfl) w⟩)
theorem opR_in (hu : X.A.units + 65 < cLine) : OpR X (compareOp .In) (r2 X.K (cmW .isin)) := by
  intro pins s σ H x y v u Q I rx ry hh
  obtain ⟨d, e, h, R, S, r1, r2, w, l⟩ := hh
  have w : inW d e h fun b => R (.bl b) h := by cases d <;> cases e <;> (simp only [cmW] at w; exact w)
  cases e with
  | tup xs =>
    obtain ⟨f1, f2, k⟩ := w
    rw [rep_tup] at r2
    obtain ⟨a, vs, rfl, t, r⟩ := r2
    exact op_in_seq pins s σ H _ _ v u Q I rx ry ⟨a, vs, rfl, .inr t.sq, flat_rep r1 f1, flat_all r f2, by rw [← flat_in r1 f1 r f2]; exact l.same S (rep_bl.2 rfl) k⟩
  | ref a =>
    obtain ⟨a, b, h1, h2, h3, h4, k⟩ := w
    exact op_inD hu pins s σ H _ _ v u Q I rx ry ⟨a, b, h1.dp S _ r1, h2.dp S _ r2, h3, h4, l.same S (rep_bl.2 rfl) k⟩
  | lst a =>
    obtain ⟨a, b, h1, h2, h3, h4, k⟩ := w
    exact op_inD hu pins s σ H _ _ v u Q I rx ry ⟨a, b, h1.dp S _ r1, h2.dp S _ r2, h3, h4, l.same S (rep_bl.2 rfl) k⟩
  | str z =>
    cases d with
    | str w' =>
      obtain ⟨c, rfl, k⟩ := w
      rw [rep_str] at r1 r2; subst r1 r2
      exact op_in_sign pins s σ H _ _ v u Q I rx ry ⟨c, z, rfl, rfl, l.same S (rep_bl.2 rfl) k⟩
    | non => exact w.elim
    | bl _ => exact w.elim
    | int _ => exact w.elim
    | tup _ => exact w.elim
    | lst _ => exact w.elim
    | ref _ => exact w.elim
  | non => exact w.elim
  | bl _ => exact w.elim
  | int _ => exact w.elim
theorem opR_notin (hu : X.A.units + 65 < cLine) : OpR X (compareOp .NotIn) (r2 X.K (cmW .notin)) := by
  intro pins s σ H x y v u Q I rx ry hh
  obtain ⟨d, e, h, R, S, r1, r2, w, l⟩ := hh
  have w : inW d e h fun b => R (.bl (!b)) h := by cases d <;> cases e <;> (simp only [cmW] at w; exact w)
  cases e with
  | tup xs =>
    obtain ⟨f1, f2, k⟩ := w
    rw [rep_tup] at r2
    obtain ⟨a, vs, rfl, t, r⟩ := r2
    refine op_notIn_seq pins s σ H _ _ v u Q I rx ry ⟨a, vs, rfl, .inr t.sq, flat_rep r1 f1, flat_all r f2, ?_⟩
    rw [← flat_in r1 f1 r f2]; exact l.same S (rep_bl.2 rfl) k
  | ref a =>
    obtain ⟨a, b, h1, h2, h3, h4, k⟩ := w
    exact op_notInD hu pins s σ H _ _ v u Q I rx ry ⟨a, b, h1.dp S _ r1, h2.dp S _ r2, h3, h4, l.same S (rep_bl.2 rfl) k⟩
  | lst a =>
    obtain ⟨a, b, h1, h2, h3, h4, k⟩ := w
    exact op_notInD hu pins s σ H _ _ v u Q I rx ry ⟨a, b, h1.dp S _ r1, h2.dp S _ r2, h3, h4, l.same S (rep_bl.2 rfl) k⟩
  | str z =>
    cases d with
    | str w' =>
      obtain ⟨c, rfl, k⟩ := w
      rw [rep_str] at r1 r2; subst r1 r2
      exact op_notIn_sign pins s σ H _ _ v u Q I rx ry ⟨c, z, rfl, rfl, l.same S (rep_bl.2 rfl) k⟩
    | non => exact w.elim
    | bl _ => exact w.elim
    | int _ => exact w.elim
    | tup _ => exact w.elim
    | lst _ => exact w.elim
    | ref _ => exact w.elim
  | non => exact w.elim
  | bl _ => exact w.elim
  | int _ => exact w.elim
theorem opR_cm (hu : X.A.units + 65 < cLine) (o : Co) : OpR X (compareOp (coOf o)) (r2 X.K (cmW o)) := by
  cases o with
  | eq => exact opR_eq hu
  | ne => exact opR_ne hu
  | isin => exact opR_in hu
  | notin => exact opR_notin hu
  | lt => exact opR_ord .lt (.inl rfl)
  | le => exact opR_ord .le (.inr (.inl rfl))
  | gt => exact opR_ord .gt (.inr (.inr (.inl rfl)))
  | ge => exact opR_ord .ge (.inr (.inr (.inr rfl)))

/-! ### subscripts -/
theorem ixR_ : IxR X (r2 X.K ixW) := by
  intro value slice pins s σ H x y v u Q I rx ry hh hs
  obtain ⟨d, e, h, R, S, r1, r2, w, l⟩ := hh
  cases d <;> cases e <;> first
    | (simp only [ixW] at w; done)
    | (simp only [ixW] at w
       rw [rep_tup] at r1; rw [rep_int] at r2; subst r2
       obtain ⟨a, vs, rfl, t, r⟩ := r1
       rw [optW_iff] at w
       obtain ⟨d, e, w⟩ := w
       obtain ⟨v2, e2, rv⟩ := r.at e
       exact ix_tup value slice pins s σ H _ _ v u Q I rx ry ⟨a, vs, _, v2, rfl, rfl, t.sq, e2, l.same S rv w⟩ hs)
    | (simp only [ixW] at w
       rw [rep_lst] at r1; rw [rep_int] at r2; subst r2
       obtain ⟨a, vs, rfl, t, r⟩ := r1
       rw [optW_iff] at w
       obtain ⟨d, e, w⟩ := w
       obtain ⟨v2, e2, rv⟩ := r.at e
       exact ix_list value slice pins s σ H _ _ v u Q I rx ry ⟨a, vs, _, v2, rfl, rfl, t.sq, e2, l.same S rv w⟩ hs)
    | (simp only [ixW] at w
       rw [rep_str] at r1; rw [rep_int] at r2; subst r1 r2
       rw [optW_iff] at w
       obtain ⟨hz, d, e, w⟩ := w
       exact ix_str value slice pins s σ H _ _ v u Q I rx ry ⟨_, _, d, rfl, rfl, hz, e, l.same S (rep_str.2 rfl) w⟩ hs)
    | (simp only [ixW] at w
       rw [rep_ref] at r1; rw [rep_int] at r2; subst r1 r2
       rw [optW_iff] at w
       obtain ⟨xs, e0, w⟩ := w
       rw [optW_iff] at w
       obtain ⟨d, e, w⟩ := w
       obtain ⟨vs, h1, r⟩ := S.rd e0
       obtain ⟨v2, e2, rv⟩ := r.at e
       exact ix_list value slice pins s σ H _ _ v u Q I rx ry ⟨_, vs, _, v2, rfl, rfl, .inl h1, e2, l.same S rv w⟩ hs)
def rsl (K : PySem.W.Frag) : V → Option Int → Option Int → Hp → VK → Prop := fun x lo hi H Q => ∃ d h R, Sim K H h ∧ Rep K H d x ∧ slW d lo hi h R ∧ LkV K H R Q
theorem cutD_whole (xs : List D) (lo hi : Option Int) (h : HT.sIx xs.length 0 lo = 0 ∧ HT.sIx xs.length xs.length hi = xs.length) : cutD xs lo hi = xs := by
  unfold cutD
  rw [h.1, h.2]
  simp
theorem slR_ : SlR X (rsl X.K) := by
  intro pins s σ H x v vl vu lo hi sl Q I rx hs pl pu hh
  obtain ⟨d, h, R, S, r1, w, l⟩ := hh
  cases d with
  | non => exact w.elim
  | bl _ => exact w.elim
  | int _ => exact w.elim
  | tup xs =>
    have r1' := r1
    rw [rep_tup] at r1
    obtain ⟨a, vs, rfl, t, r⟩ := r1
    refine sl_tupA pins s σ H _ v vl vu lo hi sl Q I rx hs pl pu ⟨a, vs, rfl, t.sq, fun e => ?_, fun _ => l.tup S (r.cut lo hi) w⟩
    rw [← r.length] at e
    have w' : R (.tup (cutD xs lo hi)) h := w
    rw [cutD_whole _ _ _ e] at w'
    exact l.same S r1' w'
  | lst xs =>
    rw [rep_lst] at r1
    obtain ⟨a, vs, rfl, t, r⟩ := r1
    exact sl_list pins s σ H _ v vl vu lo hi sl Q I rx hs pl pu ⟨a, vs, rfl, t.sq, l.new S (r.cut lo hi) w⟩
  | ref a =>
    rw [rep_ref] at r1; subst r1
    have w' : optW (rdL h a) fun xs => ∀ p, h p = none → R (.ref p) (up h p (.lst (cutD xs lo hi))) := w
    rw [optW_iff] at w'
    obtain ⟨xs, e0, w'⟩ := w'
    obtain ⟨vs, h1, r⟩ := S.rd e0
    exact sl_list pins s σ H _ v vl vu lo hi sl Q I rx hs pl pu ⟨a, vs, rfl, .inl h1, l.new S (r.cut lo hi) w'⟩
  | str z =>
    rw [rep_str] at r1; subst r1
    exact sl_str pins s σ H _ v vl vu lo hi sl Q I rx hs pl pu ⟨z, rfl, w.1, l.same S (rep_str.2 rfl) w.2⟩

/-! ### built-ins -/
theorem reps1 {K : PySem.W.Frag} {H : Hp} {d : D} {vs : List V} (r : Reps K H [d] vs) : ∃ v, vs = [v] ∧ Rep K H d v := by
  obtain ⟨v, w, rfl, h1, h2⟩ := r.cons_inv
  rw [h2.nil_inv]; exact ⟨v, rfl, h1⟩
theorem reps2 {K : PySem.W.Frag} {H : Hp} {d e : D} {vs : List V} (r : Reps K H [d, e] vs) : ∃ v w, vs = [v, w] ∧ Rep K H d v ∧ Rep K H e w := by
  obtain ⟨v, w, rfl, h1, h2⟩ := r.cons_inv
  obtain ⟨u, rfl, h3⟩ := reps1 h2
  exact ⟨v, u, rfl, h1, h3⟩
theorem cr_len : CallR X (.builtin "len") (rs X.K (biW .len)) := by
  intro pins s σ H xs us Q I r hh
  obtain ⟨ds, h, R, S, rd, w, l⟩ := hh
  match ds, w with
  | [.tup xs], w =>
    simp only [biW] at w
    obtain ⟨v, rfl, r1⟩ := reps1 rd
    rw [rep_tup] at r1
    obtain ⟨a, vs, rfl, t, rr⟩ := r1
    exact call_len_seq pins s σ H _ us Q I r ⟨a, vs, rfl, .inr t.sq, by rw [← rr.length]; exact l.same S (rep_int.2 rfl) w⟩
  | [.str x], w =>
    simp only [biW] at w
    obtain ⟨v, rfl, r1⟩ := reps1 rd
    rw [rep_str] at r1; subst r1
    exact call_len_str pins s σ H _ us Q I r ⟨_, rfl, w.1, l.same S (rep_int.2 rfl) w.2⟩
  | [.ref a], w =>
    simp only [biW] at w
    obtain ⟨v, rfl, r1⟩ := reps1 rd
    rw [rep_ref] at r1; subst r1
    rw [optW_iff] at w
    obtain ⟨xs, e0, w⟩ := w
    obtain ⟨vs, h1, rr⟩ := S.rd e0
    exact call_len_seq pins s σ H _ us Q I r ⟨a, vs, rfl, .inl (.inl h1), by rw [← rr.length]; exact l.same S (rep_int.2 rfl) w⟩
  | [.lst xs], w =>
    simp only [biW] at w
    obtain ⟨v, rfl, r1⟩ := reps1 rd
    obtain ⟨a, vs, rfl, t, rr⟩ := lsL r1
    exact call_len_seq pins s σ H _ us Q I r ⟨a, vs, rfl, .inl t, by rw [← rr.length]; exact l.same S (rep_int.2 rfl) w⟩
theorem cr_abs : CallR X (.builtin "abs") (rs X.K (biW .abs)) := by
  intro pins s σ H xs us Q I r hh
  obtain ⟨ds, h, R, S, rd, w, l⟩ := hh
  match ds, w with
  | [.int i], w =>
    simp only [biW] at w
    obtain ⟨v, rfl, r1⟩ := reps1 rd
    rw [rep_int] at r1; subst r1
    exact call_abs pins s σ H _ us Q I r ⟨i, rfl, l.same S (rep_int.2 rfl) w⟩
theorem cr_min2 (hc : X.calm = true) : CallR X (.builtin "min") (rs X.K (biW .min2)) := by
  intro pins s σ H xs us Q I r hh
  obtain ⟨ds, h, R, S, rd, w, l⟩ := hh
  match ds, w with
  | [.int i, .int j], w =>
    simp only [biW] at w
    obtain ⟨v, v2, rfl, r1, r2⟩ := reps2 rd
    rw [rep_int] at r1 r2; subst r1 r2
    exact call_min2 hc pins s σ H _ us Q I r ⟨i, j, rfl, l.same S (rep_int.2 rfl) w⟩
theorem cr_max2 (hc : X.calm = true) : CallR X (.builtin "max") (rs X.K (biW .max2)) := by
  intro pins s σ H xs us Q I r hh
  obtain ⟨ds, h, R, S, rd, w, l⟩ := hh
  match ds, w with
  | [.int i, .int j], w =>
    simp only [biW] at w
    obtain ⟨v, v2, rfl, r1, r2⟩ := reps2 rd
    rw [rep_int] at r1 r2; subst r1 r2
    exact call_max2 hc pins s σ H _ us Q I r ⟨i, j, rfl, l.same S (rep_int.2 rfl) w⟩
theorem cr_sumR (hc : X.calm = true) : CallR X (.builtin "sum") (rs X.K (biW .sum)) := by
  intro pins s σ H xs us Q I r hh
  obtain ⟨ds, h, R, S, rd, w, l⟩ := hh
  match ds, w with
  | [.ref a], w =>
    simp only [biW] at w
    obtain ⟨v, rfl, r1⟩ := reps1 rd
    rw [rep_ref] at r1; subst r1
    rw [optW_iff] at w
    obtain ⟨xs, e0, w⟩ := w
    rw [optW_iff] at w
    obtain ⟨ns, e1, w⟩ := w
    obtain ⟨vs, h1, rr⟩ := S.rd e0
    have e2 := rr.ints e1
    subst e2
    exact cr_sum hc pins s σ H _ us Q I r ⟨a, ns, rfl, .inl h1, l.same S (rep_int.2 rfl) w⟩
  | [.lst xs], w =>
    simp only [biW] at w
    obtain ⟨v, rfl, r1⟩ := reps1 rd
    rw [optW_iff] at w
    obtain ⟨ns, e1, w⟩ := w
    obtain ⟨a, vs, rfl, t, rr⟩ := lsL r1
    have e2 := rr.ints e1
    subst e2
    exact cr_sum hc pins s σ H _ us Q I r ⟨a, ns, rfl, t, l.same S (rep_int.2 rfl) w⟩
  | [.tup xs], w =>
    simp only [biW] at w
    obtain ⟨v, rfl, r1⟩ := reps1 rd
    rw [optW_iff] at w
    obtain ⟨ns, e1, w⟩ := w
    unfold Rep at r1
    obtain ⟨a, vs, rfl, t, rr⟩ := r1
    have e2 := rr.ints e1
    subst e2
    exact LtR.call_sumT hc pins s σ H _ us Q I r ⟨a, ns, rfl, t.sq, l.same S (rep_int.2 rfl) w⟩
theorem cr_anyR (hc : X.calm = true) : CallR X (.builtin "any") (rs X.K (biW .any)) := by
  intro pins s σ H xs us Q I r hh
  obtain ⟨ds, h, R, S, rd, w, l⟩ := hh
  match ds, w with
  | [.ref a], w =>
    simp only [biW] at w
    obtain ⟨v, rfl, r1⟩ := reps1 rd
    rw [rep_ref] at r1; subst r1
    rw [optW_iff] at w
    obtain ⟨xs, e0, w⟩ := w
    rw [optW_iff] at w
    obtain ⟨ns, e1, w⟩ := w
    obtain ⟨vs, h1, rr⟩ := S.rd e0
    have e2 := rr.bls e1
    subst e2
    exact cr_any hc pins s σ H _ us Q I r ⟨a, ns, rfl, .inl h1, l.same S (rep_bl.2 rfl) w⟩
  | [.lst xs], w =>
    simp only [biW] at w
    obtain ⟨v, rfl, r1⟩ := reps1 rd
    rw [optW_iff] at w
    obtain ⟨ns, e1, w⟩ := w
    obtain ⟨a, vs, rfl, t, rr⟩ := lsL r1
    have e2 := rr.bls e1
    subst e2
    exact cr_any hc pins s σ H _ us Q I r ⟨a, ns, rfl, t, l.same S (rep_bl.2 rfl) w⟩
theorem cr_allR (hc : X.calm = true) : CallR X (.builtin "all") (rs X.K (biW .all)) := by
  intro pins s σ H xs us Q I r hh
  obtain ⟨ds, h, R, S, rd, w, l⟩ := hh
  match ds, w with
  | [.ref a], w =>
    simp only [biW] at w
    obtain ⟨v, rfl, r1⟩ := reps1 rd
    rw [rep_ref] at r1; subst r1
    rw [optW_iff] at w
    obtain ⟨xs, e0, w⟩ := w
    rw [optW_iff] at w
    obtain ⟨ns, e1, w⟩ := w
    obtain ⟨vs, h1, rr⟩ := S.rd e0
    have e2 := rr.bls e1
    subst e2
    exact cr_all hc pins s σ H _ us Q I r ⟨a, ns, rfl, .inl h1, l.same S (rep_bl.2 rfl) w⟩
  | [.lst xs], w =>
    simp only [biW] at w
    obtain ⟨v, rfl, r1⟩ := reps1 rd
    rw [optW_iff] at w
    obtain ⟨ns, e1, w⟩ := w
    obtain ⟨a, vs, rfl, t, rr⟩ := lsL r1
    have e2 := rr.bls e1
    subst e2
    exact cr_all hc pins s σ H _ us Q I r ⟨a, ns, rfl, t, l.same S (rep_bl.2 rfl) w⟩
theorem cr_list : CallR X (.type "list") (rs X.K (biW .list)) := by
  intro pins s σ H xs us Q I r hh
  obtain ⟨ds, h, R, S, rd, w, l⟩ := hh
  match ds, w with
  | [.ref a], w =>
    simp only [biW] at w
    obtain ⟨v, rfl, r1⟩ := reps1 rd
    rw [rep_ref] at r1; subst r1
    rw [optW_iff] at w
    obtain ⟨xs, e0, w⟩ := w
    obtain ⟨vs, h1, rr⟩ := S.rd e0
    exact call_list_of pins s σ H _ us Q I r ⟨a, vs, rfl, .inl (.inl h1), l.new S rr w⟩
  | [.lst xs], w =>
    simp only [biW] at w
    obtain ⟨v, rfl, r1⟩ := reps1 rd
    obtain ⟨a, vs, rfl, t, rr⟩ := lsL r1
    exact call_list_of pins s σ H _ us Q I r ⟨a, vs, rfl, .inl t, l.new S rr w⟩
  | [.tup xs], w =>
    simp only [biW] at w
    obtain ⟨v, rfl, r1⟩ := reps1 rd
    rw [rep_tup] at r1
    obtain ⟨a, vs, rfl, t, rr⟩ := r1
    exact call_list_of pins s σ H _ us Q I r ⟨a, vs, rfl, .inr t.sq, l.new S rr w⟩
theorem cr_tuple : CallR X (.type "tuple") (rs X.K (biW .tuple)) := by
  intro pins s σ H xs us Q I r hh
  obtain ⟨ds, h, R, S, rd, w, l⟩ := hh
  match ds, w with
  | [.ref a], w =>
    simp only [biW] at w
    obtain ⟨v, rfl, r1⟩ := reps1 rd
    rw [rep_ref] at r1; subst r1
    rw [optW_iff] at w
    obtain ⟨xs, e0, w⟩ := w
    obtain ⟨vs, h1, rr⟩ := S.rd e0
    exact call_tuple_of pins s σ H _ us Q I r ⟨a, vs, rfl, .inl ⟨.inl h1, l.tup S rr w⟩⟩
  | [.lst xs], w =>
    simp only [biW] at w
    obtain ⟨v, rfl, r1⟩ := reps1 rd
    obtain ⟨a, vs, rfl, t, rr⟩ := lsL r1
    exact call_tuple_of pins s σ H _ us Q I r ⟨a, vs, rfl, .inl ⟨t, l.tup S rr w⟩⟩
  | [.tup xs], w =>
    simp only [biW] at w
    obtain ⟨v, rfl, r1⟩ := reps1 rd
    have r1' := r1
    rw [rep_tup] at r1
    obtain ⟨a, vs, rfl, t, rr⟩ := r1
    exact call_tuple_of pins s σ H _ us Q I r ⟨a, vs, rfl, .inr ⟨t.sq, l.same S r1' w⟩⟩

/-! ### methods -/
theorem mt_appendR : MtR X "list.append" (rm X.K (mtW .append)) := by
  intro pins s σ H x xs v us Q I rx rs hh
  obtain ⟨d, ds, h, R, S, r1, r2, w, l⟩ := hh
  match d, ds, w with
  | .ref a, [y], w =>
    simp only [mtW] at w
    rw [rep_ref] at r1; subst r1
    obtain ⟨v2, rfl, q2⟩ := reps1 r2
    rw [optW_iff] at w
    obtain ⟨xs, e0, hz, w⟩ := w
    obtain ⟨vs, h1, rr⟩ := S.wr e0
    exact mt_append pins s σ H _ _ v us Q I rx rs ⟨a, vs, v2, rfl, rfl, h1, by rw [← rr.length]; exact hz, l.chg S h1 (rr.append (.cons q2 .nil)) (rep_non.2 rfl) w⟩
theorem mt_extendR : MtR X "list.extend" (rm X.K (mtW .extend)) := by
  intro pins s σ H x xs v us Q I rx rs hh
  obtain ⟨d, ds, h, R, S, r1, r2, w, l⟩ := hh
  match d, ds, w with
  | .ref a, [y], w =>
    simp only [mtW] at w
    rw [rep_ref] at r1; subst r1
    obtain ⟨v2, rfl, q2⟩ := reps1 r2
    rw [optW_iff] at w
    obtain ⟨xs, e0, w⟩ := w
    rw [optW_iff] at w
    obtain ⟨ys, e1, hz, w⟩ := w
    obtain ⟨vs, h1, rr⟩ := S.wr e0
    have sq : ∃ b ws, v2 = .ref b ∧ (SqL X.K H b ws ∨ SqT X.K H b ws) ∧ Reps X.K H ys ws := by
      cases y with
      | tup zs =>
        cases e1
        rw [rep_tup] at q2
        obtain ⟨b, ws, rfl, t, r⟩ := q2
        exact ⟨b, ws, rfl, .inr t.sq, r⟩
      | lst zs =>
        obtain ⟨b, ws, rfl, t, r⟩ := S.ls q2 e1
        exact ⟨b, ws, rfl, .inl t, r⟩
      | ref b =>
        obtain ⟨b, ws, rfl, t, r⟩ := S.ls q2 e1
        exact ⟨b, ws, rfl, .inl t, r⟩
      | _ => cases e1
    obtain ⟨b, ws, rfl, h2, rq⟩ := sq
    exact LtR.mt_extA pins s σ H _ _ v us Q I rx rs ⟨a, b, vs, ws, rfl, rfl, h1, h2, by rw [← rr.length, ← rq.length]; exact hz, l.chg S h1 (rr.append rq) (rep_non.2 rfl) w⟩
theorem mt_popR : MtR X "list.pop" (rm X.K (mtW .pop)) := by
  intro pins s σ H x xs v us Q I rx rs hh
  obtain ⟨d, ds, h, R, S, r1, r2, w, l⟩ := hh
  match d, ds, w with
  | .ref a, [], w =>
    simp only [mtW] at w
    rw [rep_ref] at r1; subst r1
    have r2 := r2.nil_inv
    subst r2
    rw [optW_iff] at w
    obtain ⟨xs, e0, w⟩ := w
    rw [optW_iff] at w
    obtain ⟨y, e1, w⟩ := w
    obtain ⟨vs, h1, rr⟩ := S.wr e0
    obtain ⟨v2, e2, rv⟩ := rr.get _ e1
    rw [rr.length] at e2
    exact mt_pop pins s σ H _ _ v us Q I rx rs ⟨a, vs, v2, rfl, rfl, h1, e2, l.chg S h1 rr.dropLast rv w⟩
theorem mt_reverseR : MtR X "list.reverse" (rm X.K (mtW .reverse)) := by
  intro pins s σ H x xs v us Q I rx rs hh
  obtain ⟨d, ds, h, R, S, r1, r2, w, l⟩ := hh
  match d, ds, w with
  | .ref a, [], w =>
    simp only [mtW] at w
    rw [rep_ref] at r1; subst r1
    have r2 := r2.nil_inv
    subst r2
    rw [optW_iff] at w
    obtain ⟨xs, e0, w⟩ := w
    obtain ⟨vs, h1, rr⟩ := S.wr e0
    exact mt_reverse pins s σ H _ _ v us Q I rx rs ⟨a, vs, rfl, rfl, h1, l.chg S h1 rr.reverse (rep_non.2 rfl) w⟩
theorem mt_clearR : MtR X "list.clear" (rm X.K (mtW .clear)) := by
  intro pins s σ H x xs v us Q I rx rs hh
  obtain ⟨d, ds, h, R, S, r1, r2, w, l⟩ := hh
  match d, ds, w with
  | .ref a, [], w =>
    simp only [mtW] at w
    rw [rep_ref] at r1; subst r1
    have r2 := r2.nil_inv
    subst r2
    rw [optW_iff] at w
    obtain ⟨xs, e0, w⟩ := w
    obtain ⟨vs, h1, rr⟩ := S.wr e0
    exact mt_clear pins s σ H _ _ v us Q I rx rs ⟨a, vs, rfl, rfl, h1, l.chg S h1 .nil (rep_non.2 rfl) w⟩
theorem flat_ix {K : PySem.W.Frag} {H : Hp} {d : D} {x : V} (r : Rep K H d x) (f : flatD d = true) : ∀ {ds : List D} {vs : List V}, Reps K H ds vs → ds.all flatD = true → ∀ {j : Nat}, idxD d ds = some j → ∃ z, vs[j]? = some z ∧ eqV z x = true ∧ ∀ (m : Nat) (z' : V), m < j → vs[m]? = some z' → eqV z' x = false
  | [], _, h, _, j, e => by simp [idxD] at e
  | e :: ds, _, h, g, j, q => by
    obtain ⟨v, w, rfl, h1, h2⟩ := h.cons_inv
    rw [List.all_cons, Bool.and_eq_true] at g
    have fe := flat_eq h1 r g.1 f
    unfold idxD at q
    rw [List.findIdx?_cons] at q
    cases c : eqD e d with
    | true =>
      rw [c] at q
      simp only [if_true, Option.some.injEq] at q; subst q
      exact ⟨v, rfl, by rw [← fe]; exact c, fun m z' l => absurd l (Nat.not_lt_zero _)⟩
    | false =>
      rw [c] at q
      simp only [Bool.false_eq_true, if_false, Option.map_eq_some_iff] at q
      obtain ⟨i, q, rfl⟩ := q
      obtain ⟨z, e1, e2, e3⟩ := flat_ix r f h2 g.2 (j := i) q
      refine ⟨z, by simpa using e1, e2, fun m z' l e4 => ?_⟩
      cases m with
      | zero => simp at e4; subst e4; rw [← fe]; exact c
      | succ m => exact e3 m z' (by omega) (by simpa using e4)
theorem mt_indexR : MtR X "list.index" (rm X.K (mtW .index)) := by
  intro pins s σ H x xs v us Q I rx rs hh
  obtain ⟨d, ds, h, R, S, r1, r2, w, l⟩ := hh
  have w' : ∃ y, ds = [y] ∧ optW (lsD h d) fun xs => flatD y = true ∧ xs.all flatD = true ∧ optW (idxD y xs) fun j => R (.int (j : Nat)) h := by
    match ds, w with
    | [y], w => exact ⟨y, rfl, by cases d <;> exact w⟩
    | [], w => cases d <;> exact w.elim
    | _ :: _ :: _, w => cases d <;> exact w.elim
  clear w
  obtain ⟨y, rfl, w2⟩ := w'
  obtain ⟨v2, rfl, q2⟩ := reps1 r2
  rw [optW_iff] at w2
  obtain ⟨xs, e0, f1, f2, w2⟩ := w2
  rw [optW_iff] at w2
  obtain ⟨j, e1, w⟩ := w2
  obtain ⟨a, vs, rfl, t, rr⟩ := S.ls r1 e0
  obtain ⟨z, e2, e3, e4⟩ := flat_ix q2 f1 rr f2 e1
  exact mt_index pins s σ H _ _ v us Q I rx rs ⟨a, vs, v2, j, z, rfl, rfl, t, flat_rep q2 f1, flat_all rr f2, e2, e3, e4, l.same S (rep_int.2 rfl) w⟩
theorem mt_insertR : MtR X "list.insert" (rm X.K (mtW .insert)) := by
  intro pins s σ H x xs v us Q I rx rs hh
  obtain ⟨d, ds, h, R, S, r1, r2, w, l⟩ := hh
  match d, ds, w with
  | .ref a, [.int i, y], w =>
    simp only [mtW] at w
    rw [rep_ref] at r1; subst r1
    obtain ⟨v1, v2, rfl, q1, q2⟩ := reps2 r2
    rw [rep_int] at q1; subst q1
    rw [optW_iff] at w
    obtain ⟨xs, e0, hz, h1, h2, w⟩ := w
    obtain ⟨vs, h3, rr⟩ := S.wr e0
    exact mt_insert pins s σ H _ _ v us Q I rx rs ⟨a, vs, i, v2, rfl, rfl, h3, by rw [← rr.length]; exact hz, h1, h2, l.chg S h3 (((rr.take _).append (.cons q2 .nil)).append (rr.drop _)) (rep_non.2 rfl) w⟩
/-! ### isinstance -/
def tyN : Ty → String
  | .int => "int" | .bool => "bool" | .str => "str" | .tuple => "tuple" | .list => "list"
theorem isTy_ok {K : PySem.W.Frag} {H : Hp} {h : Hh} {d : D} {x : V} {t : Ty} {b : Bool} (S : Sim K H h) (r : Rep K H d x) (e : isTy h d t = some b) : ∃ u, TyX K H x u ∧ PySem.W.kitOne K u (.type (tyN t)) = some b := by
  cases d with
  | non => rw [rep_non] at r; subst r; cases t <;> cases e <;> exact ⟨_, .base .non, kit_ty (by decide +kernel)⟩
  | bl _ => rw [rep_bl] at r; subst r; cases t <;> cases e <;> exact ⟨_, .base (.bl _), kit_ty (by decide +kernel)⟩
  | int _ => rw [rep_int] at r; subst r; cases t <;> cases e <;> exact ⟨_, .base (.int _), kit_ty (by decide +kernel)⟩
  | str _ => rw [rep_str] at r; subst r; cases t <;> cases e <;> exact ⟨_, .base (.str _), kit_ty (by decide +kernel)⟩
  | tup _ =>
    rw [rep_tup] at r
    obtain ⟨a, vs, rfl, t1, _⟩ := r
    have ty : TyX K H (.ref a) (.type "tuple") := by
      rcases t1 with t1 | ⟨o, _, _, h1, h2, _⟩
      · exact .base (.tup t1)
      · exact .kTuple h1 h2
    cases t <;> cases e <;> exact ⟨_, ty, kit_ty (by decide +kernel)⟩
  | lst _ =>
    rw [rep_lst] at r
    obtain ⟨a, vs, rfl, t1, _⟩ := r
    have ty : TyX K H (.ref a) (.type "list") := by
      rcases t1 with ⟨ob, t1⟩ | ⟨o, _, _, h1, h2, _⟩
      · exact .base (.frz t1)
      · exact .kList h1 h2
    cases t <;> cases e <;> exact ⟨_, ty, kit_ty (by decide +kernel)⟩
  | ref a =>
    rw [rep_ref] at r; subst r
    have e' := e
    simp only [isTy] at e'
    cases q : rdL h a with
    | none => rw [q] at e'; cases e'
    | some xs =>
      rw [q] at e'
      obtain ⟨vs, h1, _⟩ := S.rd q
      have ty : TyX K H (.ref a) (.type "list") := by
        rcases h1 with h1 | ⟨o, h1⟩
        · exact .base (.lst h1)
        · exact .base (.frz h1)
      cases t <;> cases e' <;> exact ⟨_, ty, kit_ty (by decide +kernel)⟩
end
end Lt

set_option maxHeartbeats 4000000
namespace Lt
open PySem PySem.Spec PyProof.Rows L2

def RepE (K : PySem.W.Frag) (H : Hp) (ρ : En) (σ : L2.St) : Prop := ρ.length = σ.length ∧ ∀ i d, getE ρ i = some d → ∃ v, σ[i]? = some (some v) ∧ Rep K H d v
theorem RepE.keep {K : PySem.W.Frag} {H H' : Hp} {ρ : En} {σ : L2.St} (r : RepE K H ρ σ) (k : TKeep H H') : RepE K H' ρ σ :=
  ⟨r.1, fun i d e => let ⟨v, h1, h2⟩ := r.2 i d e; ⟨v, h1, h2.keep k⟩⟩
theorem getE_set : ∀ {ρ : En} {i j : Nat} {x : Option D} {d : D}, getE (setE ρ i x) j = some d → (j = i ∧ x = some d) ∨ (j ≠ i ∧ getE ρ j = some d)
  | [], _, _, _, _, h => by simp [setE, getE] at h
  | _ :: _, 0, 0, _, _, h => by simp [setE, getE] at h; exact .inl ⟨rfl, h⟩
  | _ :: _, 0, j + 1, _, _, h => by simp [setE, getE] at h; exact .inr ⟨by omega, by simpa [getE] using h⟩
  | _ :: _, i + 1, 0, _, _, h => by simp [setE, getE] at h; exact .inr ⟨by omega, by simpa [getE] using h⟩
  | _ :: r, i + 1, j + 1, x, d, h => by
    simp only [setE, getE] at h
    rcases getE_set h with ⟨h1, h2⟩ | ⟨h1, h2⟩
    · exact .inl ⟨by omega, h2⟩
    · exact .inr ⟨by omega, by simpa [getE] using h2⟩
theorem setE_length : ∀ (ρ : En) (i : Nat) (x : Option D), (setE ρ i x).length = ρ.length
  | [], _, _ => rfl
  | _ :: _, 0, _ => rfl
  | _ :: r, i + 1, x => by simp [setE, setE_length r i x]
theorem getE_lt : ∀ {ρ : En} {i : Nat} {d : D}, getE ρ i = some d → i < ρ.length
  | [], _, _, h => by simp [getE] at h
  | _ :: _, 0, _, _ => by simp
  | _ :: r, i + 1, _, h => by
    have := getE_lt (ρ := r) (by simpa [getE] using h)
    simp; omega
theorem RepE.set {K : PySem.W.Frag} {H : Hp} {ρ : En} {σ : L2.St} {i : Nat} {d : D} {v : V} (r : RepE K H ρ σ) (rd : Rep K H d v) : RepE K H (setE ρ i (some d)) (σ.set i (some v)) := by
  refine ⟨by rw [setE_length, List.length_set]; exact r.1, fun j e h => ?_⟩
  have hl : j < ρ.length := by have := getE_lt h; rw [setE_length] at this; exact this
  rcases getE_set h with ⟨h1, h2⟩ | ⟨h1, h2⟩
  · cases h2; subst h1
    exact ⟨v, by rw [List.getElem?_set_self (by rw [← r.1]; exact hl)], rd⟩
  · obtain ⟨w, h3, h4⟩ := r.2 j e h2
    exact ⟨w, by rw [List.getElem?_set_ne (Ne.symm h1)]; exact h3, h4⟩
theorem RepE.unset {K : PySem.W.Frag} {H : Hp} {ρ : En} {σ : L2.St} {i : Nat} (r : RepE K H ρ σ) : RepE K H (setE ρ i none) (σ.set i none) := by
  refine ⟨by rw [setE_length, List.length_set]; exact r.1, fun j e h => ?_⟩
  rcases getE_set h with ⟨h1, h2⟩ | ⟨h1, h2⟩
  · cases h2
  · obtain ⟨w, h3, h4⟩ := r.2 j e h2
    exact ⟨w, by rw [List.getElem?_set_ne (Ne.symm h1)]; exact h3, h4⟩
theorem RepE.wipe {K : PySem.W.Frag} {H : Hp} {ρ : En} {σ : L2.St} (r : RepE K H ρ σ) : ∀ (vs : List Nat), RepE K H (wipeE ρ vs) (wipe σ vs)
  | [] => r
  | v :: vs => by unfold wipeE L2.wipe; exact (RepE.wipe r vs).unset

def LkX (K : PySem.W.Frag) (mg : Str → Option Value) (W : WX) (σ : L2.St) (H : Hp) (Y : XD) : Prop := ∀ c u H' h', TKeep H H' → Sim K H' h' → mg c = some u → Y c h' → W u none σ H'
theorem LkX.keep {K : PySem.W.Frag} {mg : Str → Option Value} {W : WX} {σ : L2.St} {H H1 : Hp} {Y : XD} (l : LkX K mg W σ H Y) (k : TKeep H H1) : LkX K mg W σ H1 Y := fun c u H' h' k1 => l c u H' h' (k.trans k1)
abbrev FE := En → Hh → QD → XD → Prop
def tE (K : PySem.W.Frag) (mg : Str → Option Value) (W : WX) (f : FE) : TE := fun σ H Q => ∃ ρ h R Y, Sim K H h ∧ RepE K H ρ σ ∧ f ρ h R Y ∧ LkV K H R Q ∧ LkX K mg W σ H Y
abbrev FT := En → Hh → (Bool → Hh → Prop) → XD → Prop
def tT (K : PySem.W.Frag) (mg : Str → Option Value) (W : WX) (f : FT) : TT := fun σ H Q => ∃ ρ h R Y, Sim K H h ∧ RepE K H ρ σ ∧ f ρ h R Y ∧
  (∀ b H' h', TKeep H H' → Sim K H' h' → R b h' → Q b H') ∧ LkX K mg W σ H Y
abbrev FA := En → Hh → (List D → Hh → Prop) → XD → Prop
def tA (K : PySem.W.Frag) (mg : Str → Option Value) (W : WX) (f : FA) : TA := fun σ H Q => ∃ ρ h R Y, Sim K H h ∧ RepE K H ρ σ ∧ f ρ h R Y ∧
  (∀ vs H' ds h', TKeep H H' → Sim K H' h' → Reps K H' ds vs → R ds h' → Q vs H') ∧ LkX K mg W σ H Y
theorem ifT {A B : Prop} (h : if true = true then A else B) : A := by rw [if_pos rfl] at h; exact h
theorem ifF {A B : Prop} (h : if false = true then A else B) : B := by rw [if_neg Bool.false_ne_true] at h; exact h
/-- a value as a truth -/
def bT (f : FE) : FT := fun ρ h R Y => f ρ h (fun d h1 => blW d fun b => R b h1) Y
theorem blW_iff {d : D} {f : Bool → Prop} : blW d f ↔ ∃ b, d = .bl b ∧ f b := by
  cases d <;> first
    | exact ⟨fun h => ⟨_, rfl, h⟩, fun ⟨_, e, h⟩ => by cases e; exact h⟩
    | exact ⟨fun h => h.elim, fun ⟨_, e, _⟩ => nomatch e⟩
theorem intW_iff {d : D} {f : Int → Prop} : intW d f ↔ ∃ b, d = .int b ∧ f b := by
  cases d <;> first
    | exact ⟨fun h => ⟨_, rfl, h⟩, fun ⟨_, e, h⟩ => by cases e; exact h⟩
    | exact ⟨fun h => h.elim, fun ⟨_, e, _⟩ => nomatch e⟩
theorem _root_.L2.PE.imp {X : Cx} {e : Expr} {t t' : TE} (h : PE X e t) (k : ∀ σ H Q, t' σ H Q → t σ H Q) : PE X e t' := ⟨fun pins s σ H Q I q => h.run pins s σ H Q I (k _ _ _ q)⟩
theorem _root_.L2.PT.imp {X : Cx} {e : Expr} {t t' : TT} (h : PT X e t) (k : ∀ σ H Q, t' σ H Q → t σ H Q) : PT X e t' := ⟨fun pins s σ H Q I q => h.run pins s σ H Q I (k _ _ _ q)⟩
theorem _root_.L2.PW.imp {X : Cx} {e : Expr} {t t' : TT} (h : PW X e t) (k : ∀ σ H Q, t' σ H Q → t σ H Q) : PW X e t' := ⟨fun wh pins s σ H Q I q => h.run wh pins s σ H Q I (k _ _ _ q)⟩
theorem _root_.L2.PA.imp {X : Cx} {e : List Expr} {t t' : TA} (h : PA X e t) (k : ∀ σ H Q, t' σ H Q → t σ H Q) : PA X e t' := ⟨fun pos pins s σ H Q I q => h.run pos pins s σ H Q I (k _ _ _ q)⟩
theorem _root_.L2.PO.imp {X : Cx} {e : Option Expr} {t t' : TO} (h : PO X e t) (k : ∀ σ H Q, t' σ H Q → t σ H Q) : PO X e t' := ⟨fun pins s σ H Q I q => h.run pins s σ H Q I (k _ _ _ q)⟩
theorem _root_.L2.PI.imp {X : Cx} {tg e : Expr} {t t' : TI} (h : PI X tg e t) (k : ∀ σ H Q, t' σ H Q → t σ H Q) : PI X tg e t' := ⟨fun pins s σ H Q I q => h.run pins s σ H Q I (k _ _ _ q)⟩

section
variable {X : Cx} {W : WX} {a b c : Expr} {fa fb fc : FE} {pos : Pos}
theorem s_const {e : Expr} {v : V} {d : D} (h : PE X e (tC v)) (r : ∀ H, Rep X.K H d v) : PE X e (tE X.K X.mg W fun _ h Q _ => Q d h) :=
  h.imp fun σ H Q ⟨ρ, h, R, Y, S, RE, w, lk, lx⟩ => lk.same S (r H) w
theorem s_var {i : Nat} {x : Str} (hN : X.N[i]? = some x) (hv : Vis X.env.scope x) (hd : (x == ("__debug__" : Str)) = false) (hcd : (x == ("__classdict__" : Str)) = false) :
    PE X (.Name x pos) (tE X.K X.mg W fun ρ h Q _ => optW (getE ρ i) fun d => Q d h) :=
  (pe_var hN hv hd hcd).imp fun σ H Q ⟨ρ, h, R, Y, S, RE, w, lk, lx⟩ => by
    have hz := optW_iff.1 w; clear w; obtain ⟨d, e, w⟩ := hz
    obtain ⟨v, h1, h2⟩ := RE.2 i d e
    exact ⟨v, h1, lk.same S h2 w⟩
theorem s_op (o : Bo) (ha : PE X a (tE X.K X.mg W fa)) (hb : PE X b (tE X.K X.mg W fb)) : PE X (.BinOp a (opOf o) b pos) (tE X.K X.mg W fun ρ h Q Y => fa ρ h (fun x h1 => fb ρ h1 (fun y h2 => binW o x y h2 Q) Y) Y) :=
  (pe_op (opR_bin o) ha hb).imp fun σ H Q ⟨ρ, h, R, Y, S, RE, w, lk, lx⟩ => ⟨ρ, h, _, Y, S, RE, w, fun v H1 d h1 k1 S1 q1 w1 => ⟨ρ, h1, _, Y, S1, RE.keep k1, w1, fun v2 H2 e h2 k2 S2 q2 w2 =>
    ⟨d, e, h2, R, S2, q1.keep k2, q2, w2, lk.keep (k1.trans k2)⟩, lx.keep k1⟩, lx⟩
theorem s_neg (ha : PE X a (tE X.K X.mg W fa)) : PE X (.UnaryOp .USub a pos) (tE X.K X.mg W fun ρ h Q Y => fa ρ h (fun x h1 => negW x h1 Q) Y) :=
  (pe_un un_negR ha).imp fun σ H Q ⟨ρ, h, R, Y, S, RE, w, lk, lx⟩ => ⟨ρ, h, _, Y, S, RE, w, fun v H1 d h1 k1 S1 q1 w1 => ⟨d, h1, R, S1, q1, w1, lk.keep k1⟩, lx⟩
theorem s_cm (hu : X.A.units + 65 < cLine) (o : Co) (ha : PE X a (tE X.K X.mg W fa)) (hb : PE X b (tE X.K X.mg W fb)) (hm : behindInMarks (coOf o) b = false) :
    PE X (.Compare a [coOf o] [b] pos) (tE X.K X.mg W fun ρ h Q Y => fa ρ h (fun x h1 => fb ρ h1 (fun y h2 => cmW o x y h2 Q) Y) Y) :=
  (pe_cmpR (opR_cm hu o) ha hb hm).imp fun σ H Q ⟨ρ, h, R, Y, S, RE, w, lk, lx⟩ => ⟨ρ, h, _, Y, S, RE, w, fun v H1 d h1 k1 S1 q1 w1 => ⟨ρ, h1, _, Y, S1, RE.keep k1, w1, fun v2 H2 e h2 k2 S2 q2 w2 =>
    ⟨d, e, h2, R, S2, q1.keep k2, q2, w2, lk.keep (k1.trans k2)⟩, lx.keep k1⟩, lx⟩
theorem s_cmT (hu : X.A.units + 65 < cLine) (o : Co) (ha : PE X a (tE X.K X.mg W fa)) (hb : PE X b (tE X.K X.mg W fb)) (hm : behindInMarks (coOf o) b = false) :
    PT X (.Compare a [coOf o] [b] pos) (tT X.K X.mg W (bT fun ρ h Q Y => fa ρ h (fun x h1 => fb ρ h1 (fun y h2 => cmW o x y h2 Q) Y) Y)) :=
  (pt_cmpR (opR_cm hu o) ha hb hm).imp fun σ H Q ⟨ρ, h, R, Y, S, RE, w, lk, lx⟩ => ⟨ρ, h, _, Y, S, RE, w, fun v H1 d h1 k1 S1 q1 w1 => ⟨ρ, h1, _, Y, S1, RE.keep k1, w1, fun v2 H2 e h2 k2 S2 q2 w2 =>
    ⟨d, e, h2, _, S2, q1.keep k2, q2, w2, fun v3 H3 d3 h3 k3 S3 r3 q3 => by
      have hz := blW_iff.1 q3; clear q3; obtain ⟨b, rfl, q3⟩ := hz
      rw [rep_bl] at r3
      exact ⟨b, r3, lk b H3 h3 ((k1.trans k2).trans k3) S3 q3⟩⟩, lx.keep k1⟩, lx⟩
def cm2W (o p : Co) (fa fb fc : FE) : FE := fun ρ h Q Y => fa ρ h (fun x h1 => fb ρ h1 (fun y h2 => cmW o x y h2 fun d h3 => blW d fun d => if d = true then fc ρ h3 (fun z h4 => cmW p y z h4 Q) Y else Q (.bl false) h3) Y) Y
theorem chain_aux (o p : Co) {σ : L2.St} {H : Hp} {Q : VK} (hh : tE X.K X.mg W (cm2W o p fa fb fc) σ H Q) : tChain (r2 X.K (cmW o)) (r2 X.K (cmW p)) (tE X.K X.mg W fa) (tE X.K X.mg W fb) (tE X.K X.mg W fc) σ H Q := by
  obtain ⟨ρ, h, R, Y, S, RE, w, lk, lx⟩ := hh
  refine ⟨ρ, h, _, Y, S, RE, w, fun v H1 d h1 k1 S1 q1 w1 => ⟨ρ, h1, _, Y, S1, RE.keep k1, w1, fun v2 H2 e h2 k2 S2 q2 w2 => ⟨d, e, h2, _, S2, q1.keep k2, q2, w2, fun v3 H3 d3 h3 k3 S3 r3 q3 => ?_⟩, lx.keep k1⟩, lx⟩
  have hz := blW_iff.1 q3; clear q3; obtain ⟨b, rfl, q3⟩ := hz
  rw [rep_bl] at r3
  refine ⟨b, r3, ?_⟩
  cases b with
  | true =>
    replace q3 := ifT q3
    refine iteT ?_
    exact ⟨ρ, h3, _, Y, S3, (RE.keep k1).keep (k2.trans k3), q3, fun v4 H4 d4 h4 k4 S4 r4 q4 => ⟨e, d4, h4, R, S4, (q2.keep k3).keep k4, r4, q4, lk.keep (k1.trans (k2.trans (k3.trans k4)))⟩, lx.keep (k1.trans (k2.trans k3))⟩
  | false =>
    replace q3 := ifF q3
    refine iteF ?_
    exact (lk.keep (k1.trans (k2.trans k3))).same S3 (rep_bl.2 rfl) q3
theorem s_cm2 (hu : X.A.units + 65 < cLine) (o p : Co) (ha : PE X a (tE X.K X.mg W fa)) (hb : PE X b (tE X.K X.mg W fb)) (hc : PE X c (tE X.K X.mg W fc)) (hm : lastMarks [coOf o, coOf p] [b, c] = false) :
    PE X (.Compare a [coOf o, coOf p] [b, c] pos) (tE X.K X.mg W (cm2W o p fa fb fc)) :=
  (pe_chain (opR_cm hu o) (opR_cm hu p) ha hb hc hm).imp fun σ H Q hh => chain_aux o p hh
theorem tE_of_bT {f : FE} {σ : L2.St} {H : Hp} {Q : Bool → Hp → Prop} (hh : tT X.K X.mg W (bT f) σ H Q) : tE X.K X.mg W f σ H fun x H' => ∃ k, x = .bl k ∧ Q k H' := by
  obtain ⟨ρ, h, R, Y, S, RE, w, lk, lx⟩ := hh
  exact ⟨ρ, h, _, Y, S, RE, w, fun v H1 d h1 k1 S1 q1 w1 => by
    have hz := blW_iff.1 w1; clear w1; obtain ⟨b, rfl, q3⟩ := hz
    rw [rep_bl] at q1
    exact ⟨b, q1, lk b H1 h1 k1 S1 q3⟩, lx⟩
theorem s_cm2T (hu : X.A.units + 65 < cLine) (o p : Co) (ha : PE X a (tE X.K X.mg W fa)) (hb : PE X b (tE X.K X.mg W fb)) (hc : PE X c (tE X.K X.mg W fc)) (hm : lastMarks [coOf o, coOf p] [b, c] = false) :
    PT X (.Compare a [coOf o, coOf p] [b, c] pos) (tT X.K X.mg W (bT (cm2W o p fa fb fc))) :=
  (pt_chain (opR_cm hu o) (opR_cm hu p) ha hb hc hm).imp fun σ H Q hh => chain_aux o p (tE_of_bT hh)
theorem isNon_rep {K : PySem.W.Frag} {H : Hp} {d : D} {v : V} (r : Rep K H d v) : decide (v = V.non) = isNon d := by
  cases d with
  | non => rw [rep_non] at r; subst r; rfl
  | bl _ => rw [rep_bl] at r; subst r; rfl
  | int _ => rw [rep_int] at r; subst r; rfl
  | str _ => rw [rep_str] at r; subst r; rfl
  | ref _ => rw [rep_ref] at r; subst r; rfl
  | tup _ => rw [rep_tup] at r; obtain ⟨_, _, rfl, _⟩ := r; rfl
  | lst _ => rw [rep_lst] at r; obtain ⟨_, _, rfl, _⟩ := r; rfl
theorem s_isN {j : Nat} {p' : Pos} (ha : PE X a (tE X.K X.mg W fa)) : PE X (.Compare a [.Is] [.Constant .none j p'] pos) (tE X.K X.mg W fun ρ h Q Y => fa ρ h (fun x h1 => Q (.bl (isNon x)) h1) Y) :=
  (pe_cmp (pc_isN ha) (nomark _)).imp fun σ H Q ⟨ρ, h, R, Y, S, RE, w, lk, lx⟩ => ⟨ρ, h, _, Y, S, RE, w, fun v H1 d h1 k1 S1 q1 w1 => by
    show Q (.bl _) H1; rw [isNon_rep q1]; exact (lk.keep k1).same S1 (rep_bl.2 rfl) w1, lx⟩
theorem s_notN {j : Nat} {p' : Pos} (ha : PE X a (tE X.K X.mg W fa)) : PE X (.Compare a [.IsNot] [.Constant .none j p'] pos) (tE X.K X.mg W fun ρ h Q Y => fa ρ h (fun x h1 => Q (.bl (!isNon x)) h1) Y) :=
  (pe_cmp (pc_notN ha) (nomark _)).imp fun σ H Q ⟨ρ, h, R, Y, S, RE, w, lk, lx⟩ => ⟨ρ, h, _, Y, S, RE, w, fun v H1 d h1 k1 S1 q1 w1 => by
    show Q (.bl _) H1; rw [isNon_rep q1]; exact (lk.keep k1).same S1 (rep_bl.2 rfl) w1, lx⟩
theorem tB_tT {f : FE} {t : TE} (h : ∀ σ H Q, tE X.K X.mg W f σ H Q → t σ H Q) : ∀ σ H Q, tT X.K X.mg W (bT f) σ H Q → tB t σ H Q := fun σ H Q hh => h _ _ _ (tE_of_bT hh)
theorem s_isNT {j : Nat} {p' : Pos} (ha : PE X a (tE X.K X.mg W fa)) : PT X (.Compare a [.Is] [.Constant .none j p'] pos) (tT X.K X.mg W (bT fun ρ h Q Y => fa ρ h (fun x h1 => Q (.bl (isNon x)) h1) Y)) :=
  (pt_cmp (pc_isN ha) (nomark _)).imp (tB_tT fun σ H Q ⟨ρ, h, R, Y, S, RE, w, lk, lx⟩ => ⟨ρ, h, _, Y, S, RE, w, fun v H1 d h1 k1 S1 q1 w1 => by
    show Q (.bl _) H1; rw [isNon_rep q1]; exact (lk.keep k1).same S1 (rep_bl.2 rfl) w1, lx⟩)
theorem s_notNT {j : Nat} {p' : Pos} (ha : PE X a (tE X.K X.mg W fa)) : PT X (.Compare a [.IsNot] [.Constant .none j p'] pos) (tT X.K X.mg W (bT fun ρ h Q Y => fa ρ h (fun x h1 => Q (.bl (!isNon x)) h1) Y)) :=
  (pt_cmp (pc_notN ha) (nomark _)).imp (tB_tT fun σ H Q ⟨ρ, h, R, Y, S, RE, w, lk, lx⟩ => ⟨ρ, h, _, Y, S, RE, w, fun v H1 d h1 k1 S1 q1 w1 => by
    show Q (.bl _) H1; rw [isNon_rep q1]; exact (lk.keep k1).same S1 (rep_bl.2 rfl) w1, lx⟩)
theorem s_not (ha : PE X a (tE X.K X.mg W fa)) : PE X (.UnaryOp .Not a pos) (tE X.K X.mg W fun ρ h Q Y => fa ρ h (fun x h1 => blW x fun d => Q (.bl (!d)) h1) Y) :=
  (pe_not ha).imp fun σ H Q ⟨ρ, h, R, Y, S, RE, w, lk, lx⟩ => ⟨ρ, h, _, Y, S, RE, w, fun v H1 d h1 k1 S1 q1 w1 => by
    have hz := blW_iff.1 w1; clear w1; obtain ⟨b, rfl, q3⟩ := hz
    rw [rep_bl] at q1
    exact ⟨b, q1, (lk.keep k1).same S1 (rep_bl.2 rfl) q3⟩, lx⟩
theorem s_notT {f : FE} (ha : PT X a (tT X.K X.mg W (bT f))) : PT X (.UnaryOp .Not a pos) (tT X.K X.mg W (bT fun ρ h Q Y => f ρ h (fun x h1 => blW x fun d => Q (.bl (!d)) h1) Y)) :=
  (pt_not ha).imp fun σ H Q ⟨ρ, h, R, Y, S, RE, w, lk, lx⟩ => ⟨ρ, h, fun b h1 => R (!b) h1, Y, S, RE, w, fun b H1 h1 k1 S1 w1 => lk (!b) H1 h1 k1 S1 w1, lx⟩
/-- a value that is no and, or, not, comparison, as a test -/
theorem s_val {f : FE} (h : PE X a (tE X.K X.mg W f)) (he : ∀ whole, isTrue a X.env whole = (do let v ← whole; standAt a.pos; holding [v] (truthy v))) : PT X a (tT X.K X.mg W (bT f)) :=
  (pt_val h he).imp (tB_tT fun _ _ _ q => q)
theorem s_ite {f : FE} (hc : PT X c (tT X.K X.mg W (bT f))) (ha : PE X a (tE X.K X.mg W fa)) (hb : PE X b (tE X.K X.mg W fb)) :
    PE X (.IfExp c a b pos) (tE X.K X.mg W fun ρ h Q Y => f ρ h (fun x h1 => blW x fun d => if d = true then fa ρ h1 Q Y else fb ρ h1 Q Y) Y) :=
  (pe_ifExp hc ha hb).imp fun σ H Q ⟨ρ, h, R, Y, S, RE, w, lk, lx⟩ => ⟨ρ, h, fun b h1 => if b = true then fa ρ h1 R Y else fb ρ h1 R Y, Y, S, RE, w, fun b H1 h1 k1 S1 w1 => by
    cases b with
    | true => replace w1 := ifT w1; refine iteT ?_; exact ⟨ρ, h1, R, Y, S1, RE.keep k1, w1, lk.keep k1, lx.keep k1⟩
    | false => replace w1 := ifF w1; refine iteF ?_; exact ⟨ρ, h1, R, Y, S1, RE.keep k1, w1, lk.keep k1, lx.keep k1⟩, lx⟩

/-! ### a list is made a value -/
theorem frzW_iff {d : D} {h : Hh} {Q : QD} (w : frzW d h Q) : Q d h ∨ ∃ a xs, d = .ref a ∧ wrL h a = some xs ∧ Q (.lst xs) (era h a) := by
  cases d with
  | ref a =>
    obtain ⟨xs, e, q⟩ := optW_iff.1 (show optW (wrL h a) _ from w)
    exact .inr ⟨a, xs, rfl, e, q⟩
  | _ => exact .inl w
theorem frz_ok {pins : List (Addr × Obj)} {s : Shared} {σ : L2.St} {H : Hp} {h : Hh} {d : D} {v : V} {R : QD} (I : Inv X pins σ H s) (S : Sim X.K H h) (r : Rep X.K H d v) (w : frzW d h R) :
    ∃ H' d' h', Inv X pins σ H' s ∧ TKeep H H' ∧ Sim X.K H' h' ∧ Rep X.K H' d' v ∧ R d' h' := by
  rcases frzW_iff w with w | ⟨a, xs, rfl, e, w⟩
  · exact ⟨H, d, h, I, TKeep.refl H, S, r, w⟩
  obtain ⟨vs, h1, q⟩ := S.wr e
  rw [rep_ref] at r; subst r
  obtain ⟨ob, I2⟩ := I.lock h1 trivial
  have k : TKeep H (upd H a (.frz ob (.lst vs))) := TKeep.lst h1
  exact ⟨_, .lst xs, _, I2, k, S.frz (xs := xs) h1, rep_lst.2 ⟨a, vs, rfl, .inl ⟨ob, upd_same⟩, q.keep k⟩, w⟩
theorem s_fz (ha : PE X a (tE X.K X.mg W fa)) : PE X a (tE X.K X.mg W fun ρ h Q Y => fa ρ h (fun d h1 => frzW d h1 Q) Y) := by
  refine ⟨fun pins s σ H Q I ⟨ρ, h, R, Y, S, RE, w, lk, lx⟩ => ?_⟩
  refine thn (ha.run pins s σ H (fun v H1 => ∃ d h1, TKeep H H1 ∧ Sim X.K H1 h1 ∧ Rep X.K H1 d v ∧ frzW d h1 R) I ⟨ρ, h, _, Y, S, RE, w, fun v H1 d h1 k1 S1 q1 w1 => ⟨d, h1, k1, S1, q1, w1⟩, lx⟩) fun u s1 ⟨v, H1, I1, r1, d, h1, k1, S1, q1, w1⟩ => ?_
  obtain ⟨H2, d2, h2, I2, k2, S2, q2, w2⟩ := frz_ok I1 S1 q1 w1
  exact ⟨v, H2, I2, r1, lk v H2 d2 h2 (k1.trans k2) S2 q2 w2⟩

/-! ### and, or -/
def anW (fa : FE) (fr : FT) : FT := fun ρ h Q Y => fa ρ h (fun x h1 => blW x fun d => if d = true then fr ρ h1 Q Y else Q false h1) Y
def orW (fa : FE) (fr : FT) : FT := fun ρ h Q Y => fa ρ h (fun x h1 => blW x fun d => if d = true then Q true h1 else fr ρ h1 Q Y) Y
def fYes : FT := fun _ h Q _ => Q true h
def fNo : FT := fun _ h Q _ => Q false h
/-- a truth as a value -/
def vT (f : FT) : FE := fun ρ h Q Y => f ρ h (fun b h1 => Q (.bl b) h1) Y
variable {fr : FT} {rest : List Expr}
theorem an1T (ha : PT X a (tT X.K X.mg W (bT fa))) : PW X (.BoolOp .And [a] pos) (tT X.K X.mg W (anW fa fYes)) :=
  (pw_and1 ha).imp fun σ H Q ⟨ρ, h, R, Y, S, RE, w, lk, lx⟩ => ⟨ρ, h, fun b h1 => if b = true then R true h1 else R false h1, Y, S, RE, w, fun b H1 h1 k1 S1 w1 => by
    cases b with
    | true => replace w1 := ifT w1; exact lk _ _ _ k1 S1 w1
    | false => replace w1 := ifF w1; exact lk _ _ _ k1 S1 w1, lx⟩
theorem or1T (ha : PT X a (tT X.K X.mg W (bT fa))) : PW X (.BoolOp .Or [a] pos) (tT X.K X.mg W (orW fa fNo)) :=
  (pw_or1 ha).imp fun σ H Q ⟨ρ, h, R, Y, S, RE, w, lk, lx⟩ => ⟨ρ, h, fun b h1 => if b = true then R true h1 else R false h1, Y, S, RE, w, fun b H1 h1 k1 S1 w1 => by
    cases b with
    | true => replace w1 := ifT w1; exact lk _ _ _ k1 S1 w1
    | false => replace w1 := ifF w1; exact lk _ _ _ k1 S1 w1, lx⟩
theorem anT (ha : PT X a (tT X.K X.mg W (bT fa))) (hb : PW X (.BoolOp .And (b :: rest) pos) (tT X.K X.mg W fr)) : PW X (.BoolOp .And (a :: b :: rest) pos) (tT X.K X.mg W (anW fa fr)) :=
  (pw_and ha hb).imp fun σ H Q ⟨ρ, h, R, Y, S, RE, w, lk, lx⟩ => ⟨ρ, h, fun b h1 => if b = true then fr ρ h1 R Y else R false h1, Y, S, RE, w, fun b H1 h1 k1 S1 w1 => by
    cases b with
    | true => replace w1 := ifT w1; refine iteT ?_; exact ⟨ρ, h1, R, Y, S1, RE.keep k1, w1, fun b H2 h2 k2 => lk b H2 h2 (k1.trans k2), lx.keep k1⟩
    | false => replace w1 := ifF w1; refine iteF ?_; exact lk _ _ _ k1 S1 w1, lx⟩
theorem orT (ha : PT X a (tT X.K X.mg W (bT fa))) (hb : PW X (.BoolOp .Or (b :: rest) pos) (tT X.K X.mg W fr)) : PW X (.BoolOp .Or (a :: b :: rest) pos) (tT X.K X.mg W (orW fa fr)) :=
  (pw_or ha hb).imp fun σ H Q ⟨ρ, h, R, Y, S, RE, w, lk, lx⟩ => ⟨ρ, h, fun b h1 => if b = true then R true h1 else fr ρ h1 R Y, Y, S, RE, w, fun b H1 h1 k1 S1 w1 => by
    cases b with
    | true => replace w1 := ifT w1; refine iteT ?_; exact lk _ _ _ k1 S1 w1
    | false => replace w1 := ifF w1; refine iteF ?_; exact ⟨ρ, h1, R, Y, S1, RE.keep k1, w1, fun b H2 h2 k2 => lk b H2 h2 (k1.trans k2), lx.keep k1⟩, lx⟩
theorem an1E (ha : PE X a (tE X.K X.mg W fa)) : PE X (.BoolOp .And [a] pos) (tE X.K X.mg W (vT (anW fa fYes))) :=
  (pe_one ha).imp fun σ H Q ⟨ρ, h, R, Y, S, RE, w, lk, lx⟩ => ⟨ρ, h, _, Y, S, RE, w, fun v H1 d h1 k1 S1 q1 w1 => by
    have hz := blW_iff.1 w1; clear w1; obtain ⟨b, rfl, w1⟩ := hz
    have w2 : R (.bl b) h1 := by cases b <;> exact w1
    exact lk _ _ _ _ k1 S1 q1 w2, lx⟩
theorem or1E (ha : PE X a (tE X.K X.mg W fa)) : PE X (.BoolOp .Or [a] pos) (tE X.K X.mg W (vT (orW fa fNo))) :=
  (pe_one ha).imp fun σ H Q ⟨ρ, h, R, Y, S, RE, w, lk, lx⟩ => ⟨ρ, h, _, Y, S, RE, w, fun v H1 d h1 k1 S1 q1 w1 => by
    have hz := blW_iff.1 w1; clear w1; obtain ⟨b, rfl, w1⟩ := hz
    have w2 : R (.bl b) h1 := by cases b <;> exact w1
    exact lk _ _ _ _ k1 S1 q1 w2, lx⟩
theorem anE (ha : PE X a (tE X.K X.mg W fa)) (hb : PE X (.BoolOp .And (b :: rest) pos) (tE X.K X.mg W (vT fr))) : PE X (.BoolOp .And (a :: b :: rest) pos) (tE X.K X.mg W (vT (anW fa fr))) :=
  (pe_and ha hb).imp fun σ H Q ⟨ρ, h, R, Y, S, RE, w, lk, lx⟩ => ⟨ρ, h, _, Y, S, RE, w, fun v H1 d h1 k1 S1 q1 w1 => by
    have hz := blW_iff.1 w1; clear w1; obtain ⟨b, rfl, w1⟩ := hz
    rw [rep_bl] at q1
    refine ⟨b, q1, ?_⟩
    cases b with
    | true => replace w1 := ifT w1; refine iteT ?_; exact ⟨ρ, h1, R, Y, S1, RE.keep k1, w1, lk.keep k1, lx.keep k1⟩
    | false => replace w1 := ifF w1; refine iteF ?_; exact (lk.keep k1).same S1 (rep_bl.2 rfl) w1, lx⟩
theorem orE (ha : PE X a (tE X.K X.mg W fa)) (hb : PE X (.BoolOp .Or (b :: rest) pos) (tE X.K X.mg W (vT fr))) : PE X (.BoolOp .Or (a :: b :: rest) pos) (tE X.K X.mg W (vT (orW fa fr))) :=
  (pe_or ha hb).imp fun σ H Q ⟨ρ, h, R, Y, S, RE, w, lk, lx⟩ => ⟨ρ, h, _, Y, S, RE, w, fun v H1 d h1 k1 S1 q1 w1 => by
    have hz := blW_iff.1 w1; clear w1; obtain ⟨b, rfl, w1⟩ := hz
    rw [rep_bl] at q1
    refine ⟨b, q1, ?_⟩
    cases b with
    | true => replace w1 := ifT w1; refine iteT ?_; exact (lk.keep k1).same S1 (rep_bl.2 rfl) w1
    | false => replace w1 := ifF w1; refine iteF ?_; exact ⟨ρ, h1, R, Y, S1, RE.keep k1, w1, lk.keep k1, lx.keep k1⟩, lx⟩

/-! ### arguments -/
variable {es : List Expr} {f : FA}
theorem s_nil : PA X [] (tA X.K X.mg W fun _ h Q _ => Q [] h) := pa_nil.imp fun σ H Q ⟨ρ, h, R, Y, S, RE, w, lk, lx⟩ => lk [] H [] h (TKeep.refl H) S .nil w
theorem s_cons (ha : PE X a (tE X.K X.mg W fa)) (hr : PA X es (tA X.K X.mg W f)) (hs : starEach (a :: es) X.env = (false, eval a X.env) :: starEach es X.env) :
    PA X (a :: es) (tA X.K X.mg W fun ρ h Q Y => fa ρ h (fun x h1 => f ρ h1 (fun xs h2 => Q (x :: xs) h2) Y) Y) :=
  (pa_cons ha hr hs).imp fun σ H Q ⟨ρ, h, R, Y, S, RE, w, lk, lx⟩ => ⟨ρ, h, _, Y, S, RE, w, fun v H1 d h1 k1 S1 q1 w1 => ⟨ρ, h1, _, Y, S1, RE.keep k1, w1, fun vs H2 ds h2 k2 S2 q2 w2 =>
    lk _ _ _ _ (k1.trans k2) S2 (.cons (q1.keep k2) q2) w2, lx.keep k1⟩, lx⟩
theorem s_tup {x1 : Nat} (h : PA X es (tA X.K X.mg W f)) : PE X (.Tuple es x1 pos) (tE X.K X.mg W fun ρ h Q Y => f ρ h (fun xs h1 => xs.length ≤ sizeLine ∧ Q (.tup xs) h1) Y) :=
  (pe_tup h).imp fun σ H Q ⟨ρ, h, R, Y, S, RE, w, lk, lx⟩ => ⟨ρ, h, _, Y, S, RE, w, fun vs H1 ds h1 k1 S1 q1 w1 => ⟨by rw [← q1.length]; exact w1.1, (lk.keep k1).tup S1 q1 w1.2⟩, lx⟩
theorem s_lst (h : PA X es (tA X.K X.mg W f)) : PE X (.List es pos) (tE X.K X.mg W fun ρ h Q Y => f ρ h (fun xs h1 => xs.length ≤ sizeLine ∧ ∀ p, h1 p = none → Q (.ref p) (up h1 p (.lst xs))) Y) :=
  (pe_lst h).imp fun σ H Q ⟨ρ, h, R, Y, S, RE, w, lk, lx⟩ => ⟨ρ, h, _, Y, S, RE, w, fun vs H1 ds h1 k1 S1 q1 w1 => ⟨by rw [← q1.length]; exact w1.1, (lk.keep k1).new S1 q1 w1.2⟩, lx⟩
theorem s_ix (ha : PE X a (tE X.K X.mg W fa)) (hb : PE X b (tE X.K X.mg W fb)) (hs : PlainIx b) : PE X (.Subscript a b pos) (tE X.K X.mg W fun ρ h Q Y => fa ρ h (fun x h1 => fb ρ h1 (fun y h2 => ixW x y h2 Q) Y) Y) :=
  (pe_ix ixR_ ha hb hs).imp fun σ H Q ⟨ρ, h, R, Y, S, RE, w, lk, lx⟩ => ⟨ρ, h, _, Y, S, RE, w, fun v H1 d h1 k1 S1 q1 w1 => ⟨ρ, h1, _, Y, S1, RE.keep k1, w1, fun v2 H2 e h2 k2 S2 q2 w2 =>
    ⟨d, e, h2, R, S2, q1.keep k2, q2, w2, lk.keep (k1.trans k2)⟩, lx.keep k1⟩, lx⟩
abbrev FO := En → Hh → (Option Int → Hh → Prop) → XD → Prop
def tO (K : PySem.W.Frag) (mg : Str → Option Value) (W : WX) (f : FO) : TO := fun σ H Q => ∃ ρ h R Y, Sim K H h ∧ RepE K H ρ σ ∧ f ρ h R Y ∧ (∀ b H' h', TKeep H H' → Sim K H' h' → R b h' → Q b H') ∧ LkX K mg W σ H Y
theorem s_noPart : PO X none (tO X.K X.mg W fun _ h Q _ => Q none h) := po_none.imp fun σ H Q ⟨ρ, h, R, Y, S, RE, w, lk, lx⟩ => lk _ _ _ (TKeep.refl H) S w
theorem s_part (ha : PE X a (tE X.K X.mg W fa)) : PO X (some a) (tO X.K X.mg W fun ρ h Q Y => fa ρ h (fun y h2 => intW y fun i => Q (some i) h2) Y) :=
  (po_some ha).imp fun σ H Q ⟨ρ, h, R, Y, S, RE, w, lk, lx⟩ => ⟨ρ, h, _, Y, S, RE, w, fun v H1 d h1 k1 S1 q1 w1 => by
    have hz := intW_iff.1 w1; clear w1; obtain ⟨i, rfl, w1⟩ := hz
    rw [rep_int] at q1
    exact ⟨i, q1, lk _ _ _ k1 S1 w1⟩, lx⟩
theorem s_sl {lo hi : Option Expr} {fl fh : FO} {p2 : Pos} (ha : PE X a (tE X.K X.mg W fa)) (hl : PO X lo (tO X.K X.mg W fl)) (hh : PO X hi (tO X.K X.mg W fh)) :
    PE X (.Subscript a (.Slice lo hi none p2) pos) (tE X.K X.mg W fun ρ h Q Y => fa ρ h (fun x h1 => fl ρ h1 (fun l h2 => fh ρ h2 (fun u h3 => slW x l u h3 Q) Y) Y) Y) :=
  (pe_slice slR_ ha hl hh).imp fun σ H Q ⟨ρ, h, R, Y, S, RE, w, lk, lx⟩ => ⟨ρ, h, _, Y, S, RE, w, fun v H1 d h1 k1 S1 q1 w1 => ⟨ρ, h1, _, Y, S1, RE.keep k1, w1, fun l H2 h2 k2 S2 w2 =>
    ⟨ρ, h2, _, Y, S2, RE.keep (k1.trans k2), w2, fun u H3 h3 k3 S3 w3 => ⟨d, h3, R, S3, q1.keep (k2.trans k3), w3, lk.keep (k1.trans (k2.trans k3))⟩, lx.keep (k1.trans k2)⟩, lx.keep k1⟩, lx⟩

/-! ### calls -/
def spL (K : PySem.W.Frag) (mg : Str → Option Value) (n : Nat) (w : List D → Hh → QD → XD → Prop) : Sp := fun vs H Q E => ∃ ds h R Y, ds.length = n ∧ Sim K H h ∧ Reps K H ds vs ∧ w ds h R Y ∧ LkV K H R Q ∧
  (∀ c u H' h', TKeep H H' → Sim K H' h' → mg c = some u → Y c h' → E u none H')
theorem noStar_each (h : ∀ e p, a ≠ .Starred e p) (env : Env) : starEach (a :: es) env = (false, eval a env) :: starEach es env := by
  cases a <;> first | rfl | exact absurd rfl (h _ _)
def noStar : List Expr → Bool
  | [] => true
  | .Starred .. :: _ => false
  | _ :: r => noStar r
theorem noStar_cons (h : noStar (a :: es) = true) : (∀ e p, a ≠ .Starred e p) ∧ noStar es = true := by
  cases a <;> first
    | exact absurd h Bool.false_ne_true
    | exact ⟨fun _ _ => Expr.noConfusion, h⟩
theorem noStar_any (env : Env) (pos : Pos) : ∀ {es : List Expr}, noStar es = true → (backTo pos (starEach es env)).any (·.1) = false
  | [], _ => rfl
  | a :: es, h => by
    obtain ⟨h1, h2⟩ := noStar_cons h
    rw [noStar_each h1]
    have ih := noStar_any env pos h2
    unfold backTo at ih ⊢
    rw [List.map_cons, List.any_cons, ih]
    rfl
theorem noStar_all (env : Env) (pos : Pos) : ∀ {es : List Expr}, noStar es = true → (backTo pos (starEach es env)).all (fun x => !x.1) = true
  | [], _ => rfl
  | a :: es, h => by
    obtain ⟨h1, h2⟩ := noStar_cons h
    rw [noStar_each h1]
    have ih := noStar_all env pos h2
    unfold backTo at ih ⊢
    rw [List.map_cons, List.all_cons, ih]
    rfl
theorem s_call {k n : Nat} {g : Addr} {fd : FuncData} {ps : List Str} {x : Str} {p : Pos} {w : List D → Hh → QD → XD → Prop} (tk : Takes X W) (gd : X.A.guards = some []) (F : LtG.FnG X.prog X.w X.K X.mg X.base (L2.CX X.prog X.w) k g fd ps (spL X.K X.mg n w)) (hr : Room k X.A) (hg : Gl X x) (hm : X.mg x = some (.ref g))
    (hk : PySem.W.keepIn X.K (.ref g) = true) (hb : Binds X.K fd ps []) (ha : PA X (a :: es) (tA X.K X.mg W f)) (hdb : (x == ("__debug__" : Str)) = false) (ns : noStar (a :: es) = true) :
    PE X (.Call (.Name x p) (a :: es) [] pos) (tE X.K X.mg W fun ρ h Q Y => f ρ h (fun xs h1 => xs.length = n ∧ w xs h1 Q Y) Y) :=
  (LtG.pe_callG F gd hr hg hm hk hb (passAt tk) ha hdb (noStar_each (noStar_cons ns).1 _) (noStar_any _ _ (noStar_cons ns).2)).imp fun σ H Q ⟨ρ, h, R, Y, S, RE, w, lk, lx⟩ =>
    ⟨ρ, h, _, Y, S, RE, w, fun vs H1 ds h1 k1 S1 q1 w1 => ⟨ds, h1, R, Y, w1.1, S1, q1, w1.2, lk.keep k1, lx.keep k1⟩, lx⟩
theorem s_callB {x : Str} {p : Pos} {id : String} {w : List D → Hh → QD → Prop} (hc : CallR X (.builtin id) (rs X.K w)) (hg : Gl X x) (hm : X.mg x = none) (hv : bootBuiltins x = some (.builtin id)) (ha : PA X (a :: es) (tA X.K X.mg W f)) (ns : noStar (a :: es) = true)
    (hn : x ≠ "__name__") (hdb : (x == ("__debug__" : Str)) = false) : PE X (.Call (.Name x p) (a :: es) [] pos) (tE X.K X.mg W fun ρ h Q Y => f ρ h (fun xs h1 => w xs h1 Q) Y) :=
  (pe_callB hc hg hm hv ha hn hdb (noStar_each (noStar_cons ns).1 _) (noStar_any _ _ (noStar_cons ns).2)).imp fun σ H Q ⟨ρ, h, R, Y, S, RE, w, lk, lx⟩ =>
    ⟨ρ, h, _, Y, S, RE, w, fun vs H1 ds h1 k1 S1 q1 w1 => ⟨ds, h1, R, S1, q1, w1, lk.keep k1⟩, lx⟩
theorem s_callTy {x : Str} {p : Pos} {id : String} {w : List D → Hh → QD → Prop} (hc : CallR X (.type id) (rs X.K w)) (hg : Gl X x) (hm : X.mg x = none) (hv : bootBuiltins x = some (.type id)) (ha : PA X (a :: es) (tA X.K X.mg W f)) (ns : noStar (a :: es) = true)
    (hn : x ≠ "__name__") (hdb : (x == ("__debug__" : Str)) = false) : PE X (.Call (.Name x p) (a :: es) [] pos) (tE X.K X.mg W fun ρ h Q Y => f ρ h (fun xs h1 => w xs h1 Q) Y) :=
  (pe_callTy hc hg hm hv ha hn hdb (noStar_each (noStar_cons ns).1 _) (noStar_any _ _ (noStar_cons ns).2)).imp fun σ H Q ⟨ρ, h, R, Y, S, RE, w, lk, lx⟩ =>
    ⟨ρ, h, _, Y, S, RE, w, fun vs H1 ds h1 k1 S1 q1 w1 => ⟨ds, h1, R, S1, q1, w1, lk.keep k1⟩, lx⟩
def noCall0 : Expr → Bool
  | .Call (.Name _ _) [] [] _ => false
  | _ => true
theorem noCall0_base {o : Expr} (h : noCall0 o = true) (n : Str) (env : Env) (w : Sem Value) : attributeBase o n env w = w := by
  unfold attributeBase
  split
  · exact absurd h Bool.false_ne_true
  · rfl
theorem s_mt {m : Str} {Ty id : String} {apos cpos : Pos} {w : D → List D → Hh → QD → Prop} {ty : D → Hh → Prop} (pa : PlainAttrs Ty) (slot : Slot Ty m id) (hty : typeOf (.builtin id) = pure (.type "method_descriptor")) (hm : MtR X id (rm X.K w))
    (htv : ∀ d v H h, Sim X.K H h → Rep X.K H d v → ty d h → tyV X.K Ty v H) (ho : PE X b (tE X.K X.mg W fb)) (ha : PA X (a :: es) (tA X.K X.mg W f)) (hb : noCall0 b = true) (hl : (a :: es).length < 30) (hline : (apos.endLine == cpos.line) = true) (ns : noStar (a :: es) = true) :
    PE X (.Call (.Attribute b m apos) (a :: es) [] cpos) (tE X.K X.mg W fun ρ h Q Y => fb ρ h (fun x h1 => ty x h1 ∧ f ρ h1 (fun xs h2 => w x xs h2 Q) Y) Y) :=
  (pe_bm pa slot hty hm ho ha (noCall0_base hb _ _ _) (by
    rw [noStar_all _ _ ns]
    show (true && true && decide ((a :: es).length + 0 + 0 < 30)) = true
    simpa using hl) hline (noStar_each (noStar_cons ns).1 _) (noStar_any _ _ (noStar_cons ns).2)).imp fun σ H Q ⟨ρ, h, R, Y, S, RE, w, lk, lx⟩ =>
    ⟨ρ, h, _, Y, S, RE, w, fun v H1 d h1 k1 S1 q1 w1 => ⟨htv d v H1 h1 S1 q1 w1.1, ρ, h1, _, Y, S1, RE.keep k1, w1.2, fun vs H2 ds h2 k2 S2 q2 w2 => ⟨d, ds, h2, R, S2, q1.keep k2, q2, w2, lk.keep (k1.trans k2)⟩, lx.keep k1⟩, lx⟩
theorem s_mt0 {m : Str} {Ty id : String} {apos cpos : Pos} {w : D → List D → Hh → QD → Prop} {ty : D → Hh → Prop} (pa : PlainAttrs Ty) (slot : Slot Ty m id) (hty : typeOf (.builtin id) = pure (.type "method_descriptor")) (hm : MtR X id (rm X.K w))
    (htv : ∀ d v H h, Sim X.K H h → Rep X.K H d v → ty d h → tyV X.K Ty v H) (ho : PE X b (tE X.K X.mg W fb)) (hb : noCall0 b = true) (hline : (apos.endLine == cpos.line) = true) :
    PE X (.Call (.Attribute b m apos) [] [] cpos) (tE X.K X.mg W fun ρ h Q Y => fb ρ h (fun x h1 => ty x h1 ∧ w x [] h1 Q) Y) :=
  (pe_bm0 pa slot hty hm ho (noCall0_base hb _ _ _) hline).imp fun σ H Q ⟨ρ, h, R, Y, S, RE, w, lk, lx⟩ =>
    ⟨ρ, h, _, Y, S, RE, w, fun v H1 d h1 k1 S1 q1 w1 => ⟨htv d v H1 h1 S1 q1 w1.1, d, [], h1, R, S1, q1, .nil, w1.2, lk.keep k1⟩, lx⟩
theorem s_isT {p p2 : Pos} (t : Ty) (hg : Gl X "isinstance") (hm : X.mg "isinstance" = none) (hg2 : Gl X (Str.ofString (tyN t))) (hm2 : X.mg (Str.ofString (tyN t)) = none) (ha : PE X a (tE X.K X.mg W fa)) (ns : ∀ e p, a ≠ .Starred e p) :
    PE X (.Call (.Name "isinstance" p) [a, .Name (Str.ofString (tyN t)) p2] [] pos) (tE X.K X.mg W fun ρ h Q Y => fa ρ h (fun x h1 => optW (isTy h1 x t) fun b => Q (.bl b) h1) Y) := by
  have hb : PE X (.Name (Str.ofString (tyN t)) p2) (tC (.ty (tyN t))) := pe_bltn hg2 hm2 (by cases t <;> decide +kernel) rfl (by cases t <;> decide) (by cases t <;> decide)
  refine (pe_callB call_isi hg hm (by decide +kernel) (pa_cons ha (pa_cons hb pa_nil rfl) (noStar_each ns _)) (by decide) (by decide) (noStar_each ns _) (noStar_any _ _ (es := [.Name (Str.ofString (tyN t)) p2]) rfl)).imp fun σ H Q ⟨ρ, h, R, Y, S, RE, w, lk, lx⟩ =>
    ⟨ρ, h, _, Y, S, RE, w, fun v H1 d h1 k1 S1 q1 w1 => ?_, lx⟩
  have hz := optW_iff.1 w1; clear w1; obtain ⟨b, e, w1⟩ := hz
  obtain ⟨u, ty, ko⟩ := isTy_ok S1 q1 e
  exact ⟨v, .ty (tyN t), u, .type (tyN t), b, rfl, .ty _, ty, ko, (lk.keep k1).same S1 (rep_bl.2 rfl) w1⟩
end
end Lt

set_option maxHeartbeats 4000000
namespace Lt
open PySem PySem.Spec PyProof.Rows L2

structure ItOk (K : PySem.W.Frag) (H0 : Hp) (it : IT) (J : It) : Prop where
  go : ∀ i H h d, TKeep H0 H → Sim K H h → it.nx i h = .go d → J.go i H ∧ ∀ x H', J.yld i H x H' → TKeep H H' ∧ Sim K H' h ∧ Rep K H' d x
  stop : ∀ i H h, TKeep H0 H → Sim K H h → it.nx i h = .stop → J.stop i H
theorem ItOk.keep {K : PySem.W.Frag} {H0 H1 : Hp} {it : IT} {J : It} (o : ItOk K H0 it J) (k : TKeep H0 H1) : ItOk K H1 it J :=
  ⟨fun i H h d k1 => o.go i H h d (k.trans k1), fun i H h k1 => o.stop i H h (k.trans k1)⟩
theorem nxL_go {o : Option (List D)} {i : Nat} {d : D} (h : nxL o i = .go d) : ∃ xs, o = some xs ∧ xs[i]? = some d := by
  unfold nxL at h
  split at h
  · rename_i xs
    split at h
    · rename_i d' e; cases h; exact ⟨xs, rfl, e⟩
    · cases h
  · cases h
theorem nxL_stop {o : Option (List D)} {i : Nat} (h : nxL o i = .stop) : ∃ xs, o = some xs ∧ xs[i]? = none := by
  unfold nxL at h
  split at h
  · rename_i xs
    split at h
    · cases h
    · rename_i e; exact ⟨xs, rfl, e⟩
  · cases h
section
variable {K : PySem.W.Frag} {H0 : Hp}
theorem len_of {H : Hp} {xs : List D} {vs : List V} {i : Nat} (r : Reps K H xs vs) (e : xs[i]? = none) : vs.length ≤ i := by
  rw [← r.length]; exact List.getElem?_eq_none_iff.mp e
theorem itl_ok (a : Addr) : ItOk K H0 (.lst a) (Itl K a) where
  go := fun i H h d _ S e => by
    obtain ⟨xs, e1, e2⟩ := nxL_go e
    obtain ⟨vs, h1, r⟩ := S.rd e1
    obtain ⟨v, e3, rv⟩ := r.get d e2
    refine ⟨⟨vs, v, .inl h1, e3⟩, fun x H' ⟨q1, q2⟩ => ?_⟩
    subst q1
    have := q2 vs (.inl h1)
    rw [e3] at this; cases this
    exact ⟨TKeep.refl _, S, rv⟩
  stop := fun i H h _ S e => by
    obtain ⟨xs, e1, e2⟩ := nxL_stop e
    obtain ⟨vs, h1, r⟩ := S.rd e1
    exact ⟨vs, .inl h1, len_of r e2⟩
theorem itt_ok {a : Addr} {xs : List D} {vs : List V} (t : TupAt K H0 a vs) (r : Reps K H0 xs vs) : ItOk K H0 (.seq xs) (Itt K a) where
  go := fun i H h d k S e => by
    obtain ⟨xs', e1, e2⟩ := nxL_go (show nxL (some xs) i = .go d from e)
    cases e1
    obtain ⟨v, e3, rv⟩ := (r.keep k).get d e2
    refine ⟨⟨vs, v, (t.keep k).sq, e3⟩, fun x H' ⟨q1, q2⟩ => ?_⟩
    subst q1
    have := q2 vs (t.keep k).sq
    rw [e3] at this; cases this
    exact ⟨TKeep.refl _, S, rv⟩
  stop := fun i H h k S e => by
    obtain ⟨xs', e1, e2⟩ := nxL_stop (show nxL (some xs) i = .stop from e)
    cases e1
    exact ⟨vs, (t.keep k).sq, len_of r e2⟩
theorem itf_ok {a : Addr} {xs : List D} {vs : List V} (t : FrzL K H0 a vs) (r : Reps K H0 xs vs) : ItOk K H0 (.seq xs) (Itl K a) where
  go := fun i H h d k S e => by
    obtain ⟨xs', e1, e2⟩ := nxL_go (show nxL (some xs) i = .go d from e)
    cases e1
    obtain ⟨v, e3, rv⟩ := (r.keep k).get d e2
    refine ⟨⟨vs, v, (t.keep k).sq, e3⟩, fun x H' ⟨q1, q2⟩ => ?_⟩
    subst q1
    have := q2 vs (t.keep k).sq
    rw [e3] at this; cases this
    exact ⟨TKeep.refl _, S, rv⟩
  stop := fun i H h k S e => by
    obtain ⟨xs', e1, e2⟩ := nxL_stop (show nxL (some xs) i = .stop from e)
    cases e1
    exact ⟨vs, (t.keep k).sq, len_of r e2⟩
theorem rngD_get : ∀ (n : Nat) (lo : Int) (i : Nat), (rngD lo n)[i]? = if i < n then some (.int (lo + i)) else none
  | 0, lo, i => by simp [rngD]
  | n + 1, lo, 0 => by simp [rngD]
  | n + 1, lo, i + 1 => by
    rw [rngD, List.getElem?_cons_succ, rngD_get n (lo + 1) i]
    by_cases c : i < n
    · rw [if_pos c, if_pos (by omega)]; congr 2; omega
    · rw [if_neg c, if_neg (by omega)]
theorem itr_ok (lo : Int) (n : Nat) : ItOk K H0 (.seq (rngD lo n)) (Itr lo n) where
  go := fun i H h d _ S e => by
    obtain ⟨xs', e1, e2⟩ := nxL_go (show nxL (some (rngD lo n)) i = .go d from e)
    cases e1
    rw [rngD_get] at e2
    by_cases c : i < n
    · rw [if_pos c] at e2; cases e2
      refine ⟨c, fun x H' ⟨q1, q2⟩ => ?_⟩
      subst q1 q2
      exact ⟨TKeep.refl _, S, rep_int.2 rfl⟩
    · rw [if_neg c] at e2; cases e2
  stop := fun i H h _ S e => by
    obtain ⟨xs', e1, e2⟩ := nxL_stop (show nxL (some (rngD lo n)) i = .stop from e)
    cases e1
    rw [rngD_get] at e2
    by_cases c : i < n
    · rw [if_pos c] at e2; cases e2
    · exact Nat.le_of_not_lt c
theorem nxE_go {o : Option (List D)} {i : Nat} {d : D} (h : nxE o i = .go d) : ∃ d' xs, d = .tup [.int i, d'] ∧ o = some xs ∧ xs[i]? = some d' := by
  unfold nxE at h
  split at h
  · rename_i xs
    split at h
    · rename_i d' e; cases h; exact ⟨d', xs, rfl, rfl, e⟩
    · cases h
  · cases h
theorem nxE_stop {o : Option (List D)} {i : Nat} (h : nxE o i = .stop) : ∃ xs, o = some xs ∧ xs[i]? = none := by
  unfold nxE at h
  split at h
  · rename_i xs
    split at h
    · cases h
    · rename_i e; exact ⟨xs, rfl, e⟩
  · cases h
theorem ite_ok (a : Addr) : ItOk K H0 (.enu a) (Ite K a) where
  go := fun i H h d _ S e => by
    obtain ⟨d', xs, rfl, e1, e2⟩ := nxE_go e
    obtain ⟨vs, h1, r⟩ := S.rd e1
    obtain ⟨v, e3, rv⟩ := r.get d' e2
    refine ⟨⟨vs, v, .inl h1, e3⟩, fun x H' ⟨T, y, q1, q2, q3, q4⟩ => ?_⟩
    subst q1 q3
    have := q4 vs (.inl h1)
    rw [e3] at this; cases this
    refine ⟨TKeep.new q2, S.tup q2, rep_tup.2 ⟨T, _, rfl, .inl upd_same, .cons (rep_int.2 rfl) (.cons (rv.keep (TKeep.new q2)) .nil)⟩⟩
  stop := fun i H h _ S e => by
    obtain ⟨xs, e1, e2⟩ := nxE_stop e
    obtain ⟨vs, h1, r⟩ := S.rd e1
    exact ⟨vs, .inl h1, len_of r e2⟩
theorem enuD_get : ∀ (xs : List D) (k i : Nat), (enuD k xs)[i]? = xs[i]?.map fun d => .tup [.int ((k + i : Nat) : Int), d]
  | [], k, i => by simp [enuD]
  | x :: r, k, 0 => by simp [enuD]
  | x :: r, k, i + 1 => by
    rw [enuD, List.getElem?_cons_succ, enuD_get r (k + 1) i, List.getElem?_cons_succ]
    have e : k + 1 + i = k + (i + 1) := by omega
    rw [e]
theorem itef_ok {a : Addr} {xs : List D} {vs : List V} (t : FrzL K H0 a vs) (r : Reps K H0 xs vs) : ItOk K H0 (.seq (enuD 0 xs)) (Ite K a) where
  go := fun i H h d k S e => by
    obtain ⟨xs', e1, e2⟩ := nxL_go (show nxL (some (enuD 0 xs)) i = .go d from e)
    cases e1
    rw [enuD_get] at e2
    cases q : xs[i]? with
    | none => rw [q] at e2; cases e2
    | some d' =>
      rw [q] at e2; cases e2
      obtain ⟨v, e3, rv⟩ := (r.keep k).get d' q
      refine ⟨⟨vs, v, (t.keep k).sq, e3⟩, fun x H' ⟨T, y, q1, q2, q3, q4⟩ => ?_⟩
      subst q1 q3
      have := q4 vs (t.keep k).sq
      rw [e3] at this; cases this
      refine ⟨TKeep.new q2, S.tup q2, rep_tup.2 ⟨T, _, rfl, .inl upd_same, .cons (rep_int.2 ?_) (.cons (rv.keep (TKeep.new q2)) .nil)⟩⟩
      rw [Nat.zero_add]
  stop := fun i H h k S e => by
    obtain ⟨xs', e1, e2⟩ := nxL_stop (show nxL (some (enuD 0 xs)) i = .stop from e)
    cases e1
    rw [enuD_get] at e2
    cases q : xs[i]? with
    | none => exact ⟨vs, (t.keep k).sq, len_of r q⟩
    | some d' => rw [q] at e2; cases e2
theorem nxZ_go {o p : Option (List D)} {i : Nat} {d : D} (h : nxZ o p i = .go d) : ∃ x y xs ys, d = .tup [x, y] ∧ o = some xs ∧ p = some ys ∧ xs[i]? = some x ∧ ys[i]? = some y := by
  unfold nxZ at h
  split at h
  · rename_i xs
    split at h
    · rename_i ys
      split at h
      · rename_i x e
        split at h
        · rename_i y e2; cases h; exact ⟨x, y, xs, ys, rfl, rfl, rfl, e, e2⟩
        · cases h
      · cases h
    · cases h
  · cases h
theorem nxZ_stop {o p : Option (List D)} {i : Nat} (h : nxZ o p i = .stop) : ∃ xs ys, o = some xs ∧ p = some ys ∧ (xs[i]? = none ∨ ys[i]? = none) := by
  unfold nxZ at h
  split at h
  · rename_i xs
    split at h
    · rename_i ys
      split at h
      · rename_i x e
        split at h
        · cases h
        · rename_i e2; exact ⟨xs, ys, rfl, rfl, .inr e2⟩
      · rename_i e; exact ⟨xs, ys, rfl, rfl, .inl e⟩
    · cases h
  · cases h
theorem itz_ok (a b : Addr) : ItOk K H0 (.zip a b) (Itz K a b) where
  go := fun i H h d _ S e => by
    obtain ⟨x, y, xs, ys, rfl, e1, e2, e3, e4⟩ := nxZ_go e
    obtain ⟨vs, h1, r⟩ := S.rd e1
    obtain ⟨ws, h2, r2⟩ := S.rd e2
    obtain ⟨v, e5, rv⟩ := r.get x e3
    obtain ⟨w, e6, rw'⟩ := r2.get y e4
    refine ⟨⟨vs, ws, v, w, .inl h1, .inl h2, e5, e6⟩, fun z H' ⟨T, x1, y1, q1, q2, q3, q4, q5⟩ => ?_⟩
    subst q1 q3
    have z1 := q4 vs (.inl h1)
    rw [e5] at z1; cases z1
    have z2 := q5 ws (.inl h2)
    rw [e6] at z2; cases z2
    refine ⟨TKeep.new q2, S.tup q2, rep_tup.2 ⟨T, _, rfl, .inl upd_same, .cons (rv.keep (TKeep.new q2)) (.cons (rw'.keep (TKeep.new q2)) .nil)⟩⟩
  stop := fun i H h _ S e => by
    obtain ⟨xs, ys, e1, e2, e3⟩ := nxZ_stop e
    obtain ⟨vs, h1, r⟩ := S.rd e1
    obtain ⟨ws, h2, r2⟩ := S.rd e2
    exact ⟨vs, ws, .inl h1, .inl h2, e3.imp (len_of r) (len_of r2)⟩

theorem zipD_get : ∀ (xs ys : List D) (i : Nat), (zipD xs ys)[i]? = match xs[i]?, ys[i]? with
    | some x, some y => some (.tup [x, y])
    | _, _ => none
  | [], ys, i => by simp [zipD]
  | x :: r, [], i => by cases h : (x :: r)[i]? <;> simp [zipD]
  | x :: r, y :: q, 0 => by simp [zipD]
  | x :: r, y :: q, i + 1 => by
    rw [zipD, List.getElem?_cons_succ, zipD_get r q i, List.getElem?_cons_succ, List.getElem?_cons_succ]
theorem itzf_ok {a b : Addr} {xs ys : List D} {vs ws : List V} (t : FrzL K H0 a vs) (r : Reps K H0 xs vs) (t2 : FrzL K H0 b ws) (r2 : Reps K H0 ys ws) : ItOk K H0 (.seq (zipD xs ys)) (Itz K a b) where
  go := fun i H h d k S e => by
    obtain ⟨xs', e1, e2⟩ := nxL_go (show nxL (some (zipD xs ys)) i = .go d from e)
    cases e1
    rw [zipD_get] at e2
    cases q : xs[i]? with
    | none => rw [q] at e2; cases e2
    | some x =>
      cases q' : ys[i]? with
      | none => rw [q, q'] at e2; cases e2
      | some y =>
        rw [q, q'] at e2; cases e2
        obtain ⟨v, e5, rv⟩ := (r.keep k).get x q
        obtain ⟨w, e6, rw'⟩ := (r2.keep k).get y q'
        refine ⟨⟨vs, ws, v, w, (t.keep k).sq, (t2.keep k).sq, e5, e6⟩, fun z H' ⟨T, x1, y1, q1, q2, q3, q4, q5⟩ => ?_⟩
        subst q1 q3
        have z1 := q4 vs (t.keep k).sq
        rw [e5] at z1; cases z1
        have z2 := q5 ws (t2.keep k).sq
        rw [e6] at z2; cases z2
        refine ⟨TKeep.new q2, S.tup q2, rep_tup.2 ⟨T, _, rfl, .inl upd_same, .cons (rv.keep (TKeep.new q2)) (.cons (rw'.keep (TKeep.new q2)) .nil)⟩⟩
  stop := fun i H h k S e => by
    obtain ⟨xs', e1, e2⟩ := nxL_stop (show nxL (some (zipD xs ys)) i = .stop from e)
    cases e1
    rw [zipD_get] at e2
    refine ⟨vs, ws, (t.keep k).sq, (t2.keep k).sq, ?_⟩
    cases q : xs[i]? with
    | none => exact .inl (len_of r q)
    | some x =>
      cases q' : ys[i]? with
      | none => exact .inr (len_of r2 q')
      | some y => rw [q, q'] at e2; cases e2

/-! ### what walks -/
abbrev FI := En → Hh → (IT → Hh → Prop) → XD → Prop
def tI (K : PySem.W.Frag) (mg : Str → Option Value) (W : WX) (f : FI) : TI := fun σ H Q => ∃ ρ h R Y, Sim K H h ∧ RepE K H ρ σ ∧ f ρ h R Y ∧
  (∀ J H' it h', TKeep H H' → Sim K H' h' → ItOk K H' it J → R it h' → Q J H') ∧ LkX K mg W σ H Y
end
section
variable {X : Cx} {W : WX} {a b c tg : Expr} {fa : FE} {f : FA} {es : List Expr} {pos p : Pos}
theorem pi_both {t : TE} (ha : PE X a t) : PI X tg a (fun σ H R => t σ H fun x H1 => (∃ l, x = .ref l ∧ (∃ xs, SqL X.K H1 l xs) ∧ R (Itl X.K l) H1) ∨ ∃ l, x = .ref l ∧ (∃ xs, SqT X.K H1 l xs) ∧ R (Itt X.K l) H1) := by
  refine ⟨fun pins s σ H R I h => ?_⟩
  refine thn (ha.run pins s σ H _ I h) fun v s1 ⟨x, H1, I1, r1, q1⟩ => ?_
  rcases q1 with ⟨l, e, ⟨xs, hq⟩, q⟩ | ⟨l, e, ⟨xs, hq⟩, q⟩
  · subst e
    cases r1
    obtain ⟨its, rv, p, hz⟩ := I1.list hq
    refine wpAny_pyIter_list p.isList ?_
    refine ⟨s1.heap.objs.size, [s1.heap.objs.size], _, _, H1, rfl, I1.kept (t' := s1.toks) fun b o e => Heap.get?_push_of_some _ e, turn_list l _, ⟨_, Heap.get?_push_size _ rfl, rfl, rfl⟩, fun b hb => ?_, q⟩
    have e : b = s1.heap.objs.size := by simpa using hb
    subst e
    exact I1.fpOk (Nat.le_refl _) (I1.hok.fresh (Nat.le_refl _))
  · subst e
    cases r1
    obtain ⟨its, rv, p, hz⟩ := I1.tuple hq
    refine wpAny_pyIter_tuple (show s1.heap.IsTuple l its.toArray from p) ?_
    refine ⟨s1.heap.objs.size, [s1.heap.objs.size], _, _, H1, rfl, I1.kept (t' := s1.toks) fun b o e => Heap.get?_push_of_some _ e, turn_tuple l _, ⟨_, Heap.get?_push_size _ rfl, rfl, rfl⟩, fun b hb => ?_, q⟩
    have e : b = s1.heap.objs.size := by simpa using hb
    subst e
    exact I1.fpOk (Nat.le_refl _) (I1.hok.fresh (Nat.le_refl _))
theorem s_iVal (ha : PE X a (tE X.K X.mg W fa)) : PI X tg a (tI X.K X.mg W fun ρ h R Y => fa ρ h (fun x h1 => itW .val [x] h1 R) Y) :=
  (pi_both ha).imp fun σ H Q ⟨ρ, h, R, Y, S, RE, w, lk, lx⟩ => ⟨ρ, h, _, Y, S, RE, w, fun v H1 d h1 k1 S1 q1 w1 => by
    cases d with
    | ref l =>
      rw [rep_ref] at q1
      obtain ⟨xs, e, w1⟩ := optW_iff.1 (show optW (rdL h1 l) _ from w1)
      obtain ⟨vs, e2, _⟩ := S1.rd e
      exact .inl ⟨l, q1, ⟨vs, .inl e2⟩, lk _ _ _ _ k1 S1 (itl_ok l) w1⟩
    | tup xs =>
      rw [rep_tup] at q1
      obtain ⟨l, vs, e, t, r⟩ := q1
      exact .inr ⟨l, e, ⟨vs, t.sq⟩, lk _ _ _ _ k1 S1 (itt_ok t r) w1⟩
    | lst xs =>
      rw [rep_lst] at q1
      obtain ⟨l, vs, e, t, r⟩ := q1
      exact .inl ⟨l, e, ⟨vs, t.sq⟩, lk _ _ _ _ k1 S1 (itf_ok t r) w1⟩
    | non => exact w1.elim
    | bl _ => exact w1.elim
    | int _ => exact w1.elim
    | str _ => exact w1.elim, lx⟩
theorem s_iRange1 (hg : Gl X "range") (hm : X.mg "range" = none) (ha : PA X [a] (tA X.K X.mg W f)) (ns : noStar [a] = true) :
    PI X tg (.Call (.Name "range" p) [a] [] pos) (tI X.K X.mg W fun ρ h R Y => f ρ h (fun xs h1 => itW .range1 xs h1 R) Y) :=
  (pi_range1 hg hm ha (by rw [noStar_each (noStar_cons ns).1]; rfl)).imp fun σ H Q ⟨ρ, h, R, Y, S, RE, w, lk, lx⟩ => ⟨ρ, h, _, Y, S, RE, w, fun vs H1 ds h1 k1 S1 q1 w1 => by
    match ds, w1 with
    | [.int j], w1 =>
      obtain ⟨v, rfl, r1⟩ := reps1 q1
      rw [rep_int] at r1; subst r1
      obtain ⟨b1, b2, w1⟩ := w1
      exact ⟨j, rfl, b1, b2, lk _ _ _ _ k1 S1 (itr_ok 0 j.toNat) w1⟩, lx⟩
theorem s_iRange2 (hg : Gl X "range") (hm : X.mg "range" = none) (ha : PA X [a, b] (tA X.K X.mg W f)) (ns : noStar [a, b] = true) :
    PI X tg (.Call (.Name "range" p) [a, b] [] pos) (tI X.K X.mg W fun ρ h R Y => f ρ h (fun xs h1 => itW .range2 xs h1 R) Y) :=
  (pi_range2 hg hm ha (by rw [noStar_each (noStar_cons ns).1, noStar_each (noStar_cons (noStar_cons ns).2).1]; rfl) (by rw [noStar_each (noStar_cons (noStar_cons ns).2).1]; rfl)).imp fun σ H Q ⟨ρ, h, R, Y, S, RE, w, lk, lx⟩ => ⟨ρ, h, _, Y, S, RE, w, fun vs H1 ds h1 k1 S1 q1 w1 => by
    match ds, w1 with
    | [.int i, .int j], w1 =>
      obtain ⟨v, v2, rfl, r1, r2⟩ := reps2 q1
      rw [rep_int] at r1 r2; subst r1 r2
      obtain ⟨⟨b1, b2, b3, b4⟩, w1⟩ := w1
      exact ⟨i, j, rfl, ⟨b1, b2, b3, b4⟩, lk _ _ _ _ k1 S1 (itr_ok i (j - i).toNat) w1⟩, lx⟩
theorem rng3_get : ∀ (n : Nat) (lo c : Int) (i : Nat), (rng3 lo c n)[i]? = if i < n then some (.int (lo + (i : Nat) * c)) else none
  | 0, lo, c, i => by simp [rng3]
  | n + 1, lo, c, 0 => by simp [rng3]
  | n + 1, lo, c, i + 1 => by
    rw [rng3, List.getElem?_cons_succ, rng3_get n (lo + c) c i]
    by_cases z : i < n
    · rw [if_pos z, if_pos (by omega)]; congr 2
      rw [Int.natCast_add, Int.add_mul]; simp; omega
    · rw [if_neg z, if_neg (by omega)]
theorem itc_ok {K : PySem.W.Frag} {H0 : Hp} (lo c : Int) (n : Nat) : ItOk K H0 (.seq (rng3 lo c n)) (Itc lo c n) where
  go := fun i H h d _ S e => by
    obtain ⟨xs', e1, e2⟩ := nxL_go (show nxL (some (rng3 lo c n)) i = .go d from e)
    cases e1
    rw [rng3_get] at e2
    by_cases z : i < n
    · rw [if_pos z] at e2; cases e2
      refine ⟨z, fun x H' ⟨q1, q2⟩ => ?_⟩
      subst q1 q2
      exact ⟨TKeep.refl _, S, rep_int.2 rfl⟩
    · rw [if_neg z] at e2; cases e2
  stop := fun i H h _ S e => by
    obtain ⟨xs', e1, e2⟩ := nxL_stop (show nxL (some (rng3 lo c n)) i = .stop from e)
    cases e1
    rw [rng3_get] at e2
    by_cases z : i < n
    · rw [if_pos z] at e2; cases e2
    · exact Nat.le_of_not_lt z
theorem s_iRange3 (hg : Gl X "range") (hm : X.mg "range" = none) (ha : PA X [a, b, c] (tA X.K X.mg W f)) (ns : noStar [a, b, c] = true) :
    PI X tg (.Call (.Name "range" p) [a, b, c] [] pos) (tI X.K X.mg W fun ρ h R Y => f ρ h (fun xs h1 => itW .range3 xs h1 R) Y) :=
  (pi_range3 hg hm ha (by rw [noStar_each (noStar_cons ns).1]) (noStar_any _ _ (noStar_cons ns).2)).imp fun σ H Q ⟨ρ, h, R, Y, S, RE, w, lk, lx⟩ => ⟨ρ, h, _, Y, S, RE, w, fun vs H1 ds h1 k1 S1 q1 w1 => by
    match ds, w1 with
    | [.int i, .int j, .int c], w1 =>
      obtain ⟨v, v2, rfl, r1, r2⟩ := q1.cons_inv
      obtain ⟨v3, v4, rfl, r3, r4⟩ := reps2 r2
      rw [rep_int] at r1 r3 r4; subst r1 r3 r4
      obtain ⟨⟨b1, b2, b3, b4⟩, w1⟩ := w1
      exact ⟨i, j, c, _, rfl, ⟨b1, b2, b3, (Int.toNat_of_nonneg b4).symm⟩, lk _ _ _ _ k1 S1 (itc_ok i c _) w1⟩, lx⟩
theorem rev_get {α : Type} {xs : List α} {i : Nat} {d : α} (h : xs.reverse[i]? = some d) : i < xs.length ∧ xs[xs.length - 1 - i]? = some d := by
  have hi : i < xs.length := by
    by_cases z : i < xs.length
    · exact z
    · rw [List.getElem?_eq_none (by rw [List.length_reverse]; omega)] at h; cases h
  rw [List.getElem?_reverse hi] at h
  exact ⟨hi, h⟩
theorem rev_none {α : Type} {xs : List α} {i : Nat} (h : xs.reverse[i]? = none) : xs.length ≤ i := by
  have := List.getElem?_eq_none_iff.mp h
  rwa [List.length_reverse] at this
theorem itvf_ok {K : PySem.W.Frag} {H0 : Hp} {a : Addr} {xs : List D} {vs : List V} (t : FrzL K H0 a vs) (r : Reps K H0 xs vs) : ItOk K H0 (.seq xs.reverse) (Itv K a vs.length) where
  go := fun i H h d k S e => by
    obtain ⟨xs', e1, e2⟩ := nxL_go (show nxL (some xs.reverse) i = .go d from e)
    cases e1
    obtain ⟨hi, e2⟩ := rev_get e2
    obtain ⟨v, e3, rv⟩ := (r.keep k).get d e2
    rw [r.length] at e3 hi
    refine ⟨⟨hi, vs, v, (t.keep k).sq, e3⟩, fun x H' ⟨q1, q2⟩ => ?_⟩
    subst q1
    have := q2 vs (t.keep k).sq
    rw [e3] at this; cases this
    exact ⟨TKeep.refl _, S, rv⟩
  stop := fun i H h k S e => by
    obtain ⟨xs', e1, e2⟩ := nxL_stop (show nxL (some xs.reverse) i = .stop from e)
    cases e1
    have := rev_none e2
    rw [r.length] at this
    exact this
theorem itvt_ok {K : PySem.W.Frag} {H0 : Hp} {a : Addr} {xs : List D} {vs : List V} (t : TupAt K H0 a vs) (r : Reps K H0 xs vs) : ItOk K H0 (.seq xs.reverse) (RT.ItvT K a vs.length) where
  go := fun i H h d k S e => by
    obtain ⟨xs', e1, e2⟩ := nxL_go (show nxL (some xs.reverse) i = .go d from e)
    cases e1
    obtain ⟨hi, e2⟩ := rev_get e2
    obtain ⟨v, e3, rv⟩ := (r.keep k).get d e2
    rw [r.length] at e3 hi
    refine ⟨⟨hi, vs, v, (t.keep k).sq, e3⟩, fun x H' ⟨q1, q2⟩ => ?_⟩
    subst q1
    have := q2 vs (t.keep k).sq
    rw [e3] at this; cases this
    exact ⟨TKeep.refl _, S, rv⟩
  stop := fun i H h k S e => by
    obtain ⟨xs', e1, e2⟩ := nxL_stop (show nxL (some xs.reverse) i = .stop from e)
    cases e1
    have := rev_none e2
    rw [r.length] at this
    exact this
theorem pi_revPA {e : Expr} {ta : TA} (hg : Gl X "reversed") (hm : X.mg "reversed" = none) (ha : PA X [e] ta) (hs : starEach [e] X.env = (false, eval e X.env) :: starEach [] X.env) :
    PI X tg (.Call (.Name "reversed" p) [e] [] pos) (fun σ H R => ta σ H fun vs H1 => ∃ (a : Addr) (xs : List V), vs = [.ref a] ∧ ((SqL X.K H1 a xs ∧ R (Itv X.K a xs.length) H1) ∨ (SqT X.K H1 a xs ∧ R (RT.ItvT X.K a xs.length) H1))) := by
  refine ⟨fun pins s σ H R I h => ?_⟩
  refine Call_ (ld_blt I hg hm PyProof.Rows.boot_reversed (PyProof.Rows.callWith_type1 (thn (ha.run pos pins s σ H _ I h) fun us s1 ⟨vs, H1, I1, r1, q1⟩ => ?_) hs rfl))
  obtain ⟨a, xs, ev, q⟩ := q1
  subst ev
  cases r1 with
  | cons r rr =>
    cases rr
    cases r
    rcases q with ⟨hq, q⟩ | ⟨hq, q⟩
    · obtain ⟨its, rv, p', hz⟩ := I1.list hq
      have hl := rv.length
      have e1 : ((its.toArray.size : Nat) : Int) - 1 = (xs.length : Int) - 1 - ((0 : Nat) : Int) := by simp only [List.size_toArray]; omega
      refine call_reversed_list p'.isList (wpAny_pyIter_revIter (l := a) (i := ((its.toArray.size : Nat) : Int) - 1) ⟨_, Heap.get?_push_size _ rfl, rfl, rfl⟩ ?_)
      refine pi_one (tk := s1.toks) I1 _ (turn_rev a _ xs.length) ⟨Nat.zero_le _, ?_⟩ q
      rw [← e1]
      exact ⟨_, Heap.get?_push_size _ rfl, rfl, rfl⟩
    · obtain ⟨its, rv, p', hz⟩ := I1.tuple hq
      have hl := rv.length
      have hn := line63
      have e1 : ((its.toArray.size : Nat) : Int) - 1 = (xs.length : Int) - 1 - ((0 : Nat) : Int) := by simp only [List.size_toArray]; omega
      refine RT.call_reversed_tup p' (fun A E Q k => len_tuple p' (by simp only [List.size_toArray] <;> omega) k) (RT.iter_rt (t := a) (i := ((its.toArray.size : Nat) : Int) - 1) ⟨_, Heap.get?_push_size _ rfl, rfl, rfl⟩ ?_)
      refine pi_one (tk := s1.toks + 1 + 1) I1 _ (RT.turn_rt a _ xs.length) ⟨Nat.zero_le _, ?_⟩ q
      rw [← e1]
      exact ⟨_, Heap.get?_push_size _ rfl, rfl, rfl⟩
theorem s_iRev (hg : Gl X "reversed") (hm : X.mg "reversed" = none) (ha : PA X [a] (tA X.K X.mg W f)) (ns : noStar [a] = true) :
    PI X tg (.Call (.Name "reversed" p) [a] [] pos) (tI X.K X.mg W fun ρ h R Y => f ρ h (fun xs h1 => itW .rev xs h1 R) Y) :=
  (pi_revPA hg hm ha (noStar_each (noStar_cons ns).1 _)).imp fun σ H Q ⟨ρ, h, R, Y, S, RE, w, lk, lx⟩ => ⟨ρ, h, _, Y, S, RE, w, fun vs H1 ds h1 k1 S1 q1 w1 => by
    match ds, w1 with
    | [.lst xs], w1 =>
      obtain ⟨v, rfl, r1⟩ := reps1 q1
      rw [rep_lst] at r1
      obtain ⟨l, vs, rfl, t, r⟩ := r1
      exact ⟨l, vs, rfl, .inl ⟨t.sq, lk _ _ _ _ k1 S1 (itvf_ok t r) w1⟩⟩
    | [.tup xs], w1 =>
      obtain ⟨v, rfl, r1⟩ := reps1 q1
      rw [rep_tup] at r1
      obtain ⟨l, vs, rfl, t, r⟩ := r1
      exact ⟨l, vs, rfl, .inr ⟨t.sq, lk _ _ _ _ k1 S1 (itvt_ok t r) w1⟩⟩, lx⟩
theorem ittup_ok {K : PySem.W.Frag} {H0 : Hp} {a : Addr} {xs : List D} {vs : List V} (t : TupAt K H0 a vs) (r : Reps K H0 xs vs) : ItOk K H0 (.seq (enuD 0 xs)) (IteT K a) where
  go := fun i H h d k S e => by
    obtain ⟨xs', e1, e2⟩ := nxL_go (show nxL (some (enuD 0 xs)) i = .go d from e)
    cases e1
    rw [enuD_get] at e2
    cases q : xs[i]? with
    | none => rw [q] at e2; cases e2
    | some d' =>
      rw [q] at e2; cases e2
      obtain ⟨v, e3, rv⟩ := (r.keep k).get d' q
      refine ⟨⟨vs, v, (t.keep k).sq, e3⟩, fun x H' ⟨T, y, q1, q2, q3, q4⟩ => ?_⟩
      subst q1 q3
      have := q4 vs (t.keep k).sq
      rw [e3] at this; cases this
      refine ⟨TKeep.new q2, S.tup q2, rep_tup.2 ⟨T, _, rfl, .inl upd_same, .cons (rep_int.2 ?_) (.cons (rv.keep (TKeep.new q2)) .nil)⟩⟩
      rw [Nat.zero_add]
  stop := fun i H h k S e => by
    obtain ⟨xs', e1, e2⟩ := nxL_stop (show nxL (some (enuD 0 xs)) i = .stop from e)
    cases e1
    rw [enuD_get] at e2
    cases q : xs[i]? with
    | none => exact ⟨vs, (t.keep k).sq, len_of r q⟩
    | some d' => rw [q] at e2; cases e2
theorem itztup_ok {K : PySem.W.Frag} {H0 : Hp} {a b : Addr} {xs ys : List D} {vs ws : List V} (t : TupAt K H0 a vs) (r : Reps K H0 xs vs) (t2 : TupAt K H0 b ws) (r2 : Reps K H0 ys ws) : ItOk K H0 (.seq (zipD xs ys)) (RZ.ItzT K a b) where
  go := fun i H h d k S e => by
    obtain ⟨xs', e1, e2⟩ := nxL_go (show nxL (some (zipD xs ys)) i = .go d from e)
    cases e1
    rw [zipD_get] at e2
    cases q : xs[i]? with
    | none => rw [q] at e2; cases e2
    | some x =>
      cases q' : ys[i]? with
      | none => rw [q, q'] at e2; cases e2
      | some y =>
        rw [q, q'] at e2; cases e2
        obtain ⟨v, e5, rv⟩ := (r.keep k).get x q
        obtain ⟨w, e6, rw'⟩ := (r2.keep k).get y q'
        refine ⟨⟨vs, ws, v, w, (t.keep k).sq, (t2.keep k).sq, e5, e6⟩, fun z H' ⟨T, x1, y1, q1, q2, q3, q4, q5⟩ => ?_⟩
        subst q1 q3
        have z1 := q4 vs (t.keep k).sq
        rw [e5] at z1; cases z1
        have z2 := q5 ws (t2.keep k).sq
        rw [e6] at z2; cases z2
        refine ⟨TKeep.new q2, S.tup q2, rep_tup.2 ⟨T, _, rfl, .inl upd_same, .cons (rv.keep (TKeep.new q2)) (.cons (rw'.keep (TKeep.new q2)) .nil)⟩⟩
  stop := fun i H h k S e => by
    obtain ⟨xs', e1, e2⟩ := nxL_stop (show nxL (some (zipD xs ys)) i = .stop from e)
    cases e1
    rw [zipD_get] at e2
    refine ⟨vs, ws, (t.keep k).sq, (t2.keep k).sq, ?_⟩
    cases q : xs[i]? with
    | none => exact .inl (len_of r q)
    | some x =>
      cases q' : ys[i]? with
      | none => exact .inr (len_of r2 q')
      | some y => rw [q, q'] at e2; cases e2
theorem s_iEnum {elts : List Expr} {kk : Nat} {tpos : Pos} (hg : Gl X "enumerate") (hm : X.mg "enumerate" = none) (ha : PA X [a] (tA X.K X.mg W f)) (ns : noStar [a] = true) :
    PI X (.Tuple elts kk tpos) (.Call (.Name "enumerate" p) [a] [] pos) (tI X.K X.mg W fun ρ h R Y => f ρ h (fun xs h1 => itW .enum xs h1 R) Y) :=
  (pi_enumA hg hm ha (by rw [noStar_each (noStar_cons ns).1]; rfl)).imp fun σ H Q ⟨ρ, h, R, Y, S, RE, w, lk, lx⟩ => ⟨ρ, h, _, Y, S, RE, w, fun vs H1 ds h1 k1 S1 q1 w1 => by
    match ds, w1 with
    | [.ref l], w1 =>
      obtain ⟨v, rfl, r1⟩ := reps1 q1
      rw [rep_ref] at r1; subst r1
      obtain ⟨xs, e, w1⟩ := optW_iff.1 (show optW (rdL h1 l) _ from w1)
      obtain ⟨vs, e2, _⟩ := S1.rd e
      exact ⟨l, vs, rfl, .inl ⟨.inl e2, lk _ _ _ _ k1 S1 (ite_ok l) w1⟩⟩
    | [.lst xs], w1 =>
      obtain ⟨v, rfl, r1⟩ := reps1 q1
      rw [rep_lst] at r1
      obtain ⟨l, vs, rfl, t, r⟩ := r1
      exact ⟨l, vs, rfl, .inl ⟨t.sq, lk _ _ _ _ k1 S1 (itef_ok t r) w1⟩⟩
    | [.tup xs], w1 =>
      obtain ⟨v, rfl, r1⟩ := reps1 q1
      rw [rep_tup] at r1
      obtain ⟨l, vs, rfl, t, r⟩ := r1
      exact ⟨l, vs, rfl, .inr ⟨t.sq, lk _ _ _ _ k1 S1 (ittup_ok t r) w1⟩⟩, lx⟩
theorem s_iZip {elts : List Expr} {kk : Nat} {tpos : Pos} (hg : Gl X "zip") (hm : X.mg "zip" = none) (ha : PA X [a, b] (tA X.K X.mg W f)) (ns : noStar [a, b] = true) :
    PI X (.Tuple elts kk tpos) (.Call (.Name "zip" p) [a, b] [] pos) (tI X.K X.mg W fun ρ h R Y => f ρ h (fun xs h1 => itW .zip xs h1 R) Y) :=
  (RZ.pi_zipA hg hm ha (by rw [noStar_each (noStar_cons ns).1]) (noStar_any _ _ (noStar_cons ns).2)).imp fun σ H Q ⟨ρ, h, R, Y, S, RE, w, lk, lx⟩ => ⟨ρ, h, _, Y, S, RE, w, fun vs H1 ds h1 k1 S1 q1 w1 => by
    match ds, w1 with
    | [.ref l, .ref m], w1 =>
      obtain ⟨v, v2, rfl, r1, r2⟩ := reps2 q1
      rw [rep_ref] at r1 r2; subst r1 r2
      obtain ⟨xs, e, w1⟩ := optW_iff.1 (show optW (rdL h1 l) _ from w1)
      obtain ⟨ys, e3, w1⟩ := optW_iff.1 w1
      obtain ⟨vs, e2, _⟩ := S1.rd e
      obtain ⟨ws, e4, _⟩ := S1.rd e3
      exact ⟨l, m, vs, ws, rfl, .inl ⟨.inl e2, .inl e4, lk _ _ _ _ k1 S1 (itz_ok l m) w1⟩⟩
    | [.lst xs, .lst ys], w1 =>
      obtain ⟨v, v2, rfl, r1, r2⟩ := reps2 q1
      rw [rep_lst] at r1 r2
      obtain ⟨l, vs, rfl, t, r⟩ := r1
      obtain ⟨m, ws, rfl, t', r'⟩ := r2
      exact ⟨l, m, vs, ws, rfl, .inl ⟨t.sq, t'.sq, lk _ _ _ _ k1 S1 (itzf_ok t r t' r') w1⟩⟩
    | [.tup xs, .tup ys], w1 =>
      obtain ⟨v, v2, rfl, r1, r2⟩ := reps2 q1
      rw [rep_tup] at r1 r2
      obtain ⟨l, vs, rfl, t, r⟩ := r1
      obtain ⟨m, ws, rfl, t', r'⟩ := r2
      exact ⟨l, m, vs, ws, rfl, .inr ⟨t.sq, t'.sq, lk _ _ _ _ k1 S1 (itztup_ok t r t' r') w1⟩⟩, lx⟩

/-! ### targets -/
def gTs : List Nat → TGs
  | [] => gNil
  | i :: is => gCons (gName i) (gTs is)
def gT (K : PySem.W.Frag) : Tg → TG
  | .nm i => gName i
  | .tp is => gTup K is.length (gTs is)
def slots : Tg → List Nat
  | .nm i => [i]
  | .tp is => is
theorem wipe_set {σ : L2.St} {i : Nat} {x : Option V} : ∀ {vs : List Nat}, i ∈ vs → wipe (σ.set i x) vs = wipe σ vs
  | [], h => by simp at h
  | v :: vs, h => by
    unfold L2.wipe
    by_cases hv : i ∈ vs
    · rw [wipe_set hv]
    · have e : v = i := by
        rcases List.mem_cons.mp h with e | e
        · exact e.symm
        · exact absurd e hv
      subst e
      have aux : ∀ (vs : List Nat) (σ : L2.St), v ∉ vs → wipe (σ.set v x) vs = (wipe σ vs).set v x := by
        intro vs
        induction vs with
        | nil => intro σ _; rfl
        | cons u us ih =>
          intro σ hn
          unfold L2.wipe
          have h1 : v ≠ u := fun e => hn (by simp [e])
          have h2 : v ∉ us := fun e => hn (by simp [e])
          rw [ih σ h2, List.set_comm _ _ h1]
      rw [aux vs σ hv, List.set_set]
theorem wipe_wipe (σ : L2.St) (vs ws : List Nat) (h : ∀ v ∈ vs, v ∈ ws) : wipe (wipe σ vs) ws = wipe σ ws := by
  induction vs with
  | nil => rfl
  | cons v vs ih =>
    show wipe ((wipe σ vs).set v none) ws = _
    rw [wipe_set (h v (by simp))]
    exact ih fun u hu => h u (by simp [hu])
theorem gTs_ok {K : PySem.W.Frag} {H : Hp} {R : En → Prop} {Q : L2.St → Hp → Prop} : ∀ {is : List Nat} {ds : List D} {vs : List V} {ρ : En} {σ : L2.St}, optW (setsE ρ is ds) R → RepE K H ρ σ → Reps K H ds vs →
    (∀ ρ1 σ1, RepE K H ρ1 σ1 → R ρ1 → (∀ ws : List Nat, (∀ i ∈ is, i ∈ ws) → wipe σ1 ws = wipe σ ws) → Q σ1 H) → gTs is vs σ H Q
  | [], [], vs, ρ, σ, w, RE, r, k => ⟨r.nil_inv, k ρ σ RE w fun _ _ => rfl⟩
  | [], _ :: _, _, _, _, w, _, _, _ => w.elim
  | _ :: _, [], _, _, _, w, _, _, _ => w.elim
  | i :: is, d :: ds, vs, ρ, σ, w, RE, r, k => by
    obtain ⟨v, us, rfl, r1, r2⟩ := r.cons_inv
    exact ⟨v, us, rfl, gTs_ok (is := is) (ds := ds) w (RE.set r1) r2 fun ρ1 σ1 h1 h2 h3 => k ρ1 σ1 h1 h2 fun ws hw => by
      rw [h3 ws fun j hj => hw j (by simp [hj]), wipe_set (hw i (by simp))]⟩
theorem setsE_len : ∀ {is : List Nat} {ds : List D} {ρ ρ1 : En}, setsE ρ is ds = some ρ1 → ds.length = is.length
  | [], [], _, _, _ => rfl
  | [], _ :: _, _, _, h => by cases h
  | _ :: _, [], _, _, h => by cases h
  | _ :: is, _ :: ds, _, _, h => by
    have := setsE_len (is := is) (ds := ds) h
    simp [this]
theorem gT_ok {K : PySem.W.Frag} {H : Hp} {t : Tg} {d : D} {x : V} {ρ : En} {σ : L2.St} {R : En → Prop} {Q : L2.St → Hp → Prop} (w : tgW t d ρ R) (RE : RepE K H ρ σ) (r : Rep K H d x)
    (k : ∀ ρ1 σ1, RepE K H ρ1 σ1 → R ρ1 → (∀ ws : List Nat, (∀ i ∈ slots t, i ∈ ws) → wipe σ1 ws = wipe σ ws) → Q σ1 H) : gT K t x σ H Q := by
  cases t with
  | nm i => exact k _ _ (RE.set r) w fun ws hw => wipe_set (hw i (by simp [slots]))
  | tp is =>
    cases d with
    | tup ds =>
      rw [rep_tup] at r
      obtain ⟨a, vs, rfl, t, r⟩ := r
      obtain ⟨ρ1, e, _⟩ := optW_iff.1 (show optW (setsE ρ is ds) R from w)
      exact ⟨a, vs, rfl, t.sq, by rw [← r.length]; exact setsE_len e, gTs_ok (show optW (setsE ρ is ds) R from w) RE r k⟩
    | non => exact w.elim
    | bl _ => exact w.elim
    | int _ => exact w.elim
    | str _ => exact w.elim
    | lst _ => exact w.elim
    | ref _ => exact w.elim

end
/-! ### comprehensions -/
section
variable {t : Tg} {c e : En → Hh → QD → Prop} {p : Addr} {ρ : En} {K : Hh → Prop}
def lcP (it : IT) (t : Tg) (c e : En → Hh → QD → Prop) (p : Addr) (ρ : En) (K : Hh → Prop) (m i : Nat) (h : Hh) : Prop := match it with
  | .seq xs => (m = xs.length - i + 1 ∧ i ≤ xs.length) ∧ lcL t c e p ρ K (xs.drop i) h
  | it => lcW it t c e p ρ K m i h
theorem lcP_of {it : IT} {h : Hh} (w : lcI it t c e p ρ K h) : ∃ m, lcP it t c e p ρ K m 0 h := by
  cases it with
  | seq xs => exact ⟨_, ⟨rfl, Nat.zero_le _⟩, w⟩
  | lst a => exact w
  | enu a => exact w
  | zip a b => exact w
theorem lcP_step {it : IT} {m i : Nat} {h : Hh} (w : lcP it t c e p ρ K m i h) : ∃ m', m = m' + 1 ∧ (match it.nx i h with
    | .stuck => False
    | .stop => K h
    | .go d => tgW t d ρ fun ρ1 => c ρ1 h fun b h1 => blW b fun b => if b = true then e ρ1 h1 fun y h2 => optW (wrL h2 p) fun acc => acc.length < sizeLine ∧ lcP it t c e p ρ K m' (i + 1) (up h2 p (.lst (acc ++ [y])))
        else lcP it t c e p ρ K m' (i + 1) h1) := by
  cases it with
  | seq xs =>
    obtain ⟨⟨h1, h2⟩, w⟩ := w
    refine ⟨xs.length - i, h1, ?_⟩
    show match nxL (some xs) i with
      | .stuck => False
      | .stop => K h
      | .go d => _
    by_cases hi : i < xs.length
    · have e1 : xs.drop i = xs[i] :: xs.drop (i + 1) := List.drop_eq_getElem_cons hi
      rw [e1] at w
      have e2 : nxL (some xs) i = .go xs[i] := by unfold nxL; simp [hi]
      rw [e2]
      have e3 : (lcP (.seq xs) t c e p ρ K (xs.length - i) (i + 1)) = lcL t c e p ρ K (xs.drop (i + 1)) := by
        funext h'
        exact propext ⟨fun z => z.2, fun z => ⟨⟨by omega, by omega⟩, z⟩⟩
      rw [e3]
      exact w
    · have e1 : xs.drop i = [] := List.drop_eq_nil_of_le (by omega)
      rw [e1] at w
      have e2 : nxL (some xs) i = .stop := by unfold nxL; simp [hi]
      rw [e2]
      exact w
  | lst a => cases m with
    | zero => exact w.elim
    | succ m => exact ⟨m, rfl, w⟩
  | enu a => cases m with
    | zero => exact w.elim
    | succ m => exact ⟨m, rfl, w⟩
  | zip a b => cases m with
    | zero => exact w.elim
    | succ m => exact ⟨m, rfl, w⟩
end
section
variable {t : Tg} {b : En → Hh → Ed → Prop} {K : Ed}
def frP (it : IT) (t : Tg) (b : En → Hh → Ed → Prop) (K : Ed) (m i : Nat) (ρ : En) (h : Hh) : Prop := match it with
  | .seq xs => (m = xs.length - i + 1 ∧ i ≤ xs.length) ∧ frL t b K (xs.drop i) ρ h
  | it => frW it t b K m i ρ h
theorem frP_of {it : IT} {ρ : En} {h : Hh} (w : frI it t b K ρ h) : ∃ m, frP it t b K m 0 ρ h := by
  cases it with
  | seq xs => exact ⟨_, ⟨rfl, Nat.zero_le _⟩, w⟩
  | lst a => exact w
  | enu a => exact w
  | zip a b => exact w
theorem frP_step {it : IT} {m i : Nat} {ρ : En} {h : Hh} (w : frP it t b K m i ρ h) : ∃ m', m = m' + 1 ∧ (match it.nx i h with
    | .stuck => False
    | .stop => K.nx ρ h
    | .go d => tgW t d ρ fun ρ1 => b ρ1 h { K with nx := frP it t b K m' (i + 1) }) := by
  cases it with
  | seq xs =>
    obtain ⟨⟨h1, h2⟩, w⟩ := w
    refine ⟨xs.length - i, h1, ?_⟩
    show match nxL (some xs) i with
      | .stuck => False
      | .stop => K.nx ρ h
      | .go d => _
    by_cases hi : i < xs.length
    · have e1 : xs.drop i = xs[i] :: xs.drop (i + 1) := List.drop_eq_getElem_cons hi
      rw [e1] at w
      have e2 : nxL (some xs) i = .go xs[i] := by unfold nxL; simp [hi]
      rw [e2]
      have e3 : (frP (.seq xs) t b K (xs.length - i) (i + 1)) = frL t b K (xs.drop (i + 1)) := by
        funext ρ' h'
        exact propext ⟨fun z => z.2, fun z => ⟨⟨by omega, by omega⟩, z⟩⟩
      rw [e3]
      exact w
    · have e1 : xs.drop i = [] := List.drop_eq_nil_of_le (by omega)
      rw [e1] at w
      have e2 : nxL (some xs) i = .stop := by unfold nxL; simp [hi]
      rw [e2]
      exact w
  | lst a => cases m with
    | zero => exact w.elim
    | succ m => exact ⟨m, rfl, w⟩
  | enu a => cases m with
    | zero => exact w.elim
    | succ m => exact ⟨m, rfl, w⟩
  | zip a b => cases m with
    | zero => exact w.elim
    | succ m => exact ⟨m, rfl, w⟩
end
section
variable {X : Cx} {W : WX} {pos p : Pos}
theorem s_lc {c : Option Expr} {fi : FI} {ft fe : FE} {t : Tg} {own : List (Str × Nat)} {scope : Scope} {ifs : List Expr} {e iter : Expr} (hc : X.calm = true) (hN : X.N.Nodup) (hi : PI X tg iter (tI X.K X.mg W fi)) (ok : BlkOk X.N X.env.scope scope own)
    (hsl : ∀ i ∈ slots t, i ∈ own.map (·.2))
    (hg : ∀ (s : Shared) (H : Hp) (C : Addr) (cl : List (Str × Addr)) (fp : List Addr), PG (X.blk s H scope (compEnvC scope cl C X.env) fp) tg (gT X.K t))
    (ht : ∀ (s : Shared) (H : Hp) (C : Addr) (cl : List (Str × Addr)) (fp : List Addr), PTs (X.blk s H scope (compEnvC scope cl C X.env) fp) ifs (tT X.K X.mg (fun _ _ _ _ => False) (bT ft)))
    (he : ∀ (s : Shared) (H : Hp) (C : Addr) (cl : List (Str × Addr)) (fp : List Addr), PE (X.blk s H scope (compEnvC scope cl C X.env) fp) e (tE X.K X.mg (fun _ _ _ _ => False) fe)) (hs : ∀ x, foldedSetIterable iter X.env x = pure x) :
    (∀ σ H Q, tE X.K X.mg W (fun ρ h Q Y => fi ρ h (fun it h2 => ∀ p, h2 p = none → lcI it t (fun ρ h Q => ft ρ h Q fun _ _ => False) (fun ρ h Q => fe ρ h Q fun _ _ => False) p (wipeE ρ (own.map (·.2))) (Q (.ref p)) (up h2 p (.lst []))) Y) σ H Q →
      tLc (tI X.K X.mg W fi) (gT X.K t) (tT X.K X.mg (fun _ _ _ _ => False) (bT ft)) (tE X.K X.mg (fun _ _ _ _ => False) fe) (own.map (·.2)) σ H Q) := by
  intro σ H Q ⟨ρ, h, R, Y, S, RE, w, lk, lx⟩
  refine ⟨ρ, h, _, Y, S, RE, w, fun J H1 it h1 k1 S1 io w1 D hD => ?_, lx⟩
  obtain ⟨n, w1⟩ := lcP_of (w1 D (S1.fresh hD))
  refine ⟨fun i m H2 => ∃ h2, TKeep H1 H2 ∧ Sim X.K H2 h2 ∧ lcP it t (fun ρ h Q => ft ρ h Q fun _ _ => False) (fun ρ h Q => fe ρ h Q fun _ _ => False) D (wipeE ρ (own.map (·.2))) (R (.ref D)) m i h2, ⟨n, _, TKeep.new hD, S1.lst (TKeep.new hD) .nil, w1⟩, ?_⟩
  rintro i m H2 ⟨h2, k2, S2, w2⟩
  obtain ⟨m, rfl, w2'⟩ := lcP_step w2
  clear w2
  split at w2'
  · exact w2'.elim
  · rename_i e
    exact .inl ⟨io.stop i H2 h2 k2 S2 e, (lk.keep (k1.trans k2)).same S2 (rep_ref.2 rfl) w2'⟩
  · rename_i d e
    obtain ⟨g1, g2⟩ := io.go i H2 h2 d k2 S2 e
    refine .inr ⟨g1, fun H' => ∃ h', TKeep H1 H' ∧ Sim X.K H' h' ∧ lcP it t (fun ρ h Q => ft ρ h Q fun _ _ => False) (fun ρ h Q => fe ρ h Q fun _ _ => False) D (wipeE ρ (own.map (·.2))) (R (.ref D)) m (i + 1) h', fun H' q => ⟨m, Nat.lt_succ_self _, q⟩, fun x H3 y => ?_⟩
    obtain ⟨k3, S3, r3⟩ := g2 x H3 y
    refine gT_ok w2' (((RE.keep (k1.trans k2)).wipe _).keep k3) r3 fun ρ1 σ1 RE1 w3 hw => ⟨by rw [hw _ hsl, wipe_wipe _ _ _ fun _ z => z], ?_⟩
    refine ⟨ρ1, h2, fun b h1 => if b = true then fe ρ1 h1 _ (fun _ _ => False) else _, _, S3, RE1, w3, fun b H4 h4 k4 S4 w4 => ?_, fun _ _ _ _ _ _ _ z => z⟩
    cases b with
    | true =>
      replace w4 := ifT w4
      refine iteT ?_
      refine ⟨ρ1, h4, _, _, S4, RE1.keep k4, w4, fun v H5 d5 h5 k5 S5 r5 w5 => ?_, fun _ _ _ _ _ _ _ z => z⟩
      obtain ⟨acc, e5, hz, w5⟩ := optW_iff.1 w5
      obtain ⟨vs, e6, rs⟩ := S5.wr e5
      have kk : TKeep H5 (upd H5 D (.lst (vs ++ [v]))) := TKeep.lst e6
      exact ⟨vs, e6, by rw [← rs.length]; exact hz, _, (k2.trans k3).trans (k4.trans (k5.trans kk)), S5.lst kk (rs.append (.cons r5 .nil)), w5⟩
    | false =>
      replace w4 := ifF w4
      refine iteF ?_
      exact ⟨h4, k2.trans (k3.trans k4), S4, w4⟩
end
end Lt

set_option maxHeartbeats 8000000
namespace Lt
open PySem PySem.Spec PyProof.Rows L2

/-! ### the checker -/
structure Tab where
  fns : List (Str × Nat)
  excs : List Str
  hcls : List Str := []
structure Sc where
  N : List Str
  sc : Scope
  fn : Option Scope
def visB (S : Sc) (x : Str) : Bool := match S.sc.names.lookup x with
  | some .local => true
  | some .cell => true
  | some .free => true
  | _ => false
def glB (S : Sc) (x : Str) : Bool := match S.sc.names.lookup x with
  | some .globalImplicit => true
  | _ => false
def plainB (x : Str) : Bool := !(x == ("__debug__" : Str)) && !(x == ("__classdict__" : Str))
def nmB (S : Sc) (i : Nat) (x : Str) : Bool := decide (S.N[i]? = some x) && visB S x && plainB x
def locB (S : Sc) (x : Str) : Bool := match S.sc.names.lookup x with
  | some .local => true
  | some .cell => (match S.fn with
    | none => true
    | some s => (match s.names.lookup x with
      | some .cell => true
      | _ => false))
  | _ => false
def okTs (S : Sc) : List Nat → List Expr → Bool
  | [] => fun es => es.isEmpty
  | i :: is => fun es => match es with
    | .Name x _ :: es => decide (S.N[i]? = some x) && locB S x && okTs S is es
    | _ => false
def okT (S : Sc) (t : Tg) (e : Expr) : Bool := match t with
  | .nm i => (match e with
    | .Name x _ => decide (S.N[i]? = some x) && locB S x
    | _ => false)
  | .tp is => (match e with
    | .Tuple es _ _ => okTs S is es
    | _ => false)
def opB (o : Bo) (p : Operator) : Bool := match o, p with
  | .add, .Add => true
  | .sub, .Sub => true
  | .mul, .Mult => true
  | .div, .FloorDiv => true
  | .mod, .Mod => true
  | .pow, .Pow => true
  | _, _ => false
def coB (o : Co) (p : CmpOp) : Bool := match o, p with
  | .eq, .Eq => true
  | .ne, .NotEq => true
  | .lt, .Lt => true
  | .le, .LtE => true
  | .gt, .Gt => true
  | .ge, .GtE => true
  | .isin, .In => true
  | .notin, .NotIn => true
  | _, _ => false
def biN : Bi → Str
  | .len => "len" | .abs => "abs" | .min2 => "min" | .max2 => "max" | .sum => "sum" | .any => "any" | .all => "all" | .list => "list" | .tuple => "tuple" | .int1 => "int" | .str1 => "str"
def biIn : Bi → Bool
  | .int1 => false
  | .str1 => false
  | _ => true
def mtN : Mt → Str
  | .index => "index" | .insert => "insert" | .append => "append" | .extend => "extend" | .pop => "pop" | .reverse => "reverse" | .clear => "clear"
def mt0 : Mt → Bool
  | .pop => true | .reverse => true | .clear => true | _ => false
def noSlice : Expr → Bool
  | .Slice .. => false
  | _ => true
/-- neither and, or, not, a comparison nor a conditional -/
def valB : Expr → Bool
  | .Name .. => true
  | .Call .. => true
  | .BinOp .. => true
  | .List .. => true
  | .ListComp .. => true
  | .Subscript .. => true
  | _ => false
def noSet : Expr → Bool
  | .Set .. => false
  | _ => true
def isTup : Expr → Bool
  | .Tuple .. => true
  | _ => false
def ikN : Ik → Str
  | .val => "" | .range1 => "range" | .range2 => "range" | .range3 => "range" | .enum => "enumerate" | .zip => "zip" | .rev => "reversed"
def ikL : Ik → Nat
  | .val => 1 | .range1 => 1 | .range2 => 2 | .range3 => 3 | .enum => 1 | .zip => 2 | .rev => 1
def tgNeed (k : Ik) (tg : Expr) : Bool := match k with
  | .enum => isTup tg
  | .zip => isTup tg
  | _ => true
/-- the argument expressions of a walk -/
def itArgs (S : Sc) (k : Ik) (tg iter : Expr) : Option (List Expr) := match k with
  | .val => some [iter]
  | k => (match iter with
    | .Call (.Name x _) es [] _ => if (decide (x = ikN k) && glB S x && decide (es.length = ikL k) && noStar es && tgNeed k tg) = true then some es else none
    | _ => none)
def partB (b : Expr → Bool) (lo : E) (l : Option Expr) : Bool := match lo with
  | .kN => l.isNone
  | _ => (match l with
    | some l => b l
    | none => false)
/-- the argument expressions of a pattern -/
def pxArgs (S : Sc) (k : Px) (e : Expr) : Option (List Expr) := match k with
  | .lrev => (match e with
    | .Call (.Name x _) [.Call (.Name y _) [a] [] _] [] _ => if (decide (x = "list") && decide (y = "reversed") && glB S x && glB S y && noStar [a]) = true then some [a] else none
    | _ => none)
  | .rpr => (match e with
    | .Call (.Name x _) [a] [] _ => if (decide (x = "repr") && glB S x && noStar [a]) = true then some [a] else none
    | _ => none)
mutual
def okE (T : Tab) : E → Sc → Expr → Bool
  | .kN => fun _ e => match e with
    | .Constant .none _ _ => true
    | _ => false
  | .kB b => fun _ e => match e with
    | .Constant (.bool c) _ _ => b == c
    | _ => false
  | .kI i => fun _ e => match e with
    | .Constant (.int c) _ _ => decide (i = c)
    | _ => false
  | .kS i => fun _ e => match e with
    | .Constant (.str c) _ _ => decide (i = c)
    | _ => false
  | .v i => fun S e => match e with
    | .Name x _ => nmB S i x
    | _ => false
  | .g x => fun S e => match e with
    | .Name y _ => decide (x = y) && glB S x && plainB x
    | _ => false
  | .op o a b => fun S e => match e with
    | .BinOp x p y _ => opB o p && okE T a S x && okE T b S y
    | _ => false
  | .neg a => fun S e => match e with
    | .UnaryOp .USub x _ => okE T a S x
    | _ => false
  | .cm o a b => fun S e => match e with
    | .Compare x [p] [y] _ => coB o p && !behindInMarks p y && okE T a S x && okE T b S y
    | _ => false
  | .cm2 o q a b c => fun S e => match e with
    | .Compare x [p1, p2] [y, z] _ => coB o p1 && coB q p2 && !lastMarks [p1, p2] [y, z] && okE T a S x && okE T b S y && okE T c S z
    | _ => false
  | .isN a => fun S e => match e with
    | .Compare x [.Is] [.Constant .none _ _] _ => okE T a S x
    | _ => false
  | .notN a => fun S e => match e with
    | .Compare x [.IsNot] [.Constant .none _ _] _ => okE T a S x
    | _ => false
  | .and as => fun S e => match e with
    | .BoolOp .And es _ => !es.isEmpty && okA T as S es
    | _ => false
  | .or as => fun S e => match e with
    | .BoolOp .Or es _ => !es.isEmpty && okA T as S es
    | _ => false
  | .not a => fun S e => match e with
    | .UnaryOp .Not x _ => okE T a S x
    | _ => false
  | .ite c a b => fun S e => match e with
    | .IfExp x y z _ => okE T c S x && okE T a S y && okE T b S z
    | _ => false
  | .tp as => fun S e => match e with
    | .Tuple es _ _ => noStar es && okA T as S es
    | _ => false
  | .ls as => fun S e => match e with
    | .List es _ => noStar es && okA T as S es
    | _ => false
  | .ix a i => fun S e => match e with
    | .Subscript x y _ => noSlice y && okE T a S x && okE T i S y
    | _ => false
  | .sl a lo hi => fun S e => match e with
    | .Subscript x (.Slice l u none _) _ => okE T a S x && partB (okE T lo S) lo l && partB (okE T hi S) hi u
    | _ => false
  | .call f as => fun S e => match e with
    | .Call (.Name x _) es [] _ => decide (f = x) && T.fns.any (fun p => decide (p.1 = f)) && glB S x && plainB x && noStar es && !es.isEmpty && okA T as S es
    | _ => false
  | .bi f as => fun S e => match e with
    | .Call (.Name x _) es [] _ => decide (x = biN f) && biIn f && glB S x && noStar es && !es.isEmpty && okA T as S es
    | _ => false
  | .mt m a as => fun S e => match e with
    | .Call (.Attribute o x ap) es [] cp => decide (x = mtN m) && noCall0 o && decide (es.length < 30) && (ap.endLine == cp.line) && noStar es && (mt0 m == es.isEmpty) && okE T a S o && okA T as S es
    | _ => false
  | .isT a t => fun S e => match e with
    | .Call (.Name x _) [y, .Name z _] [] _ => decide (x = "isinstance") && decide (z = Str.ofString (tyN t)) && glB S x && glB S z && noStar [y] && okE T a S y
    | _ => false
  | .lc k as t own c e => fun S pe => match pe with
    | .ListComp el [⟨tg, iter, ifs, 0⟩] scope _ => noSet iter && blkC S.N S.sc scope own && (slots t).all (fun i => (own.map (·.2)).contains i) && okT ⟨S.N, relS scope S.sc, some scope⟩ t tg && (match itArgs S k tg iter with
        | some es => okA T as S es
        | none => false) && (match ifs with
        | [] => (match c with
          | .kB true => true
          | _ => false)
        | [x] => okE T c ⟨S.N, relS scope S.sc, some scope⟩ x
        | _ => false) && okE T e ⟨S.N, relS scope S.sc, some scope⟩ el
    | _ => false
  | .fz e => fun S pe => valB pe && okE T e S pe
  | .px k as => fun S pe => valB pe && (match pxArgs S k pe with
    | some es => okA T as S es
    | none => false)
def okA (T : Tab) : Es → Sc → List Expr → Bool
  | .nil => fun _ es => es.isEmpty
  | .cons a r => fun S es => match es with
    | x :: es => noStar [x] && okE T a S x && okA T r S es
    | [] => false
end

/-! ### what a context knows -/
def bltN : List Str := ["len", "abs", "min", "max", "sum", "any", "all", "list", "tuple", "int", "bool", "str", "isinstance", "range", "enumerate", "zip", "reversed", "repr", "sorted"]
def ExcOk (K : PySem.W.Frag) (mg : Str → Option Value) (c : Str) : Prop := ∃ C : Addr, mg c = some (.ref C) ∧ PySem.W.excIn K C [.type "ValueError", .type "Exception", .type "BaseException", .type "object"] "ValueError.__new__" = true ∧ PySem.W.keepIn K (.ref C) = true ∧
  PySem.W.subIn K (.ref C) (.type "BaseException") = some true ∧ PySem.W.typeIn K (.ref C) = some (.type "type")
structure Ok (C : Cn) (T : Tab) (X : Cx) (W : WX) (S : Sc) : Prop where
  N : X.N = S.N
  nd : X.N.Nodup
  sc : X.env.scope = S.sc
  fn : ∀ x, (match S.fn with | none => true | some s => (match s.names.lookup x with | some .cell => true | _ => false)) = true → X.fn x = true
  calm : X.calm = true
  un : X.A.units + 65 < cLine
  gd : X.A.guards = some []
  tk : Takes X W
  calls : ∀ p ∈ T.fns, ∃ g fd ps k, X.mg p.1 = some (.ref g) ∧ PySem.W.keepIn X.K (.ref g) = true ∧ Binds X.K fd ps [] ∧ LtG.FnG X.prog X.w X.K X.mg X.base (L2.CX X.prog X.w) k g fd ps (spL X.K X.mg p.2 (C.call p.1)) ∧ Room k X.A ∧
    ∀ ds h R Y, C.call p.1 ds h R Y → ds.length = p.2
  blts : ∀ x ∈ bltN, X.mg x = none
  globs : ∀ x d, C.glob x = some d → ∃ u v, X.mg x = some u ∧ RelV v u ∧ ∀ H, Rep X.K H d v
  excs : ∀ c ∈ T.excs, ExcOk X.K X.mg c
theorem Ok.blk {C : Cn} {T : Tab} {X : Cx} {W : WX} {S : Sc} (O : Ok C T X W S) (scope : Scope) (s : Shared) (H : Hp) (a : Addr) (cl : List (Str × Addr)) (fp : List Addr) :
    Ok C T (X.blk s H scope (compEnvC scope cl a X.env) fp) (fun _ _ _ _ => False) ⟨S.N, relS scope S.sc, some scope⟩ where
  N := O.N
  nd := O.nd
  sc := by rw [← O.sc]; rfl
  fn := fun x h => by
    show (scope.names.lookup x == some .cell) = true
    have h' : (match scope.names.lookup x with | some .cell => true | _ => false) = true := h
    split at h'
    · rename_i e; rw [e]; rfl
    · exact absurd h' Bool.false_ne_true
  calm := O.calm
  un := O.un
  tk := takes0
  gd := O.gd
  calls := O.calls
  blts := O.blts
  globs := O.globs
  excs := O.excs
section
variable {C : Cn} {T : Tab} {X : Cx} {W : WX} {S : Sc}
theorem Ok.gl (O : Ok C T X W S) {x : Str} (h : glB S x = true) : Gl X x := by
  show X.env.scope.names.lookup x = _
  rw [O.sc]
  unfold glB at h
  split at h
  · assumption
  · exact absurd h Bool.false_ne_true
theorem Ok.vis (O : Ok C T X W S) {x : Str} (h : visB S x = true) : Vis X.env.scope x := by
  unfold Vis
  rw [O.sc]
  unfold visB at h
  split at h
  · exact .inl (by assumption)
  · exact .inr (.inl (by assumption))
  · exact .inr (.inr (by assumption))
  · exact absurd h Bool.false_ne_true
theorem plain1 {x : Str} (h : plainB x = true) : (x == ("__debug__" : Str)) = false := by
  unfold plainB at h
  rw [Bool.and_eq_true] at h
  simpa using h.1
theorem plain2 {x : Str} (h : plainB x = true) : (x == ("__classdict__" : Str)) = false := by
  unfold plainB at h
  rw [Bool.and_eq_true] at h
  simpa using h.2
theorem Ok.loc (O : Ok C T X W S) {x : Str} (h : locB S x = true) : L2.Loc X.env.scope x ∧ (X.fn x = true ∨ X.env.scope.names.lookup x = some .local) := by
  unfold L2.Loc
  rw [O.sc]
  unfold locB at h
  split at h
  · rename_i e; exact ⟨.inl e, .inr e⟩
  · rename_i e
    refine ⟨.inr e, .inl (O.fn x ?_)⟩
    split at h
    · rfl
    · exact h
  · exact absurd h Bool.false_ne_true
theorem Ok.pg (O : Ok C T X W S) {i : Nat} {x : Str} {pos : Pos} (h1 : S.N[i]? = some x) (h2 : locB S x = true) : PG X (.Name x pos) (gName i) :=
  pg_name O.nd (by rw [O.N]; exact h1) (O.loc h2).1 (O.loc h2).2
theorem okTs_ok (O : Ok C T X W S) : ∀ {is : List Nat} {es : List Expr}, okTs S is es = true → PGs X es (gTs is) ∧ (assignEach es X.env).length = is.length ∧ (assignEach es X.env).findIdx? (·.1) = none
  | [], es, h => by
    have e : es = [] := by simpa [okTs] using h
    subst e
    exact ⟨pgs_nil, rfl, rfl⟩
  | i :: is, es, h => by
    unfold okTs at h
    split at h
    · rename_i x p es'
      simp only [Bool.and_eq_true, decide_eq_true_eq] at h
      obtain ⟨⟨h1, h2⟩, h3⟩ := h
      obtain ⟨g, l, f⟩ := okTs_ok O h3
      refine ⟨pgs_cons (O.pg h1 h2) g, ?_, ?_⟩
      · show (assignEach es' X.env).length + 1 = is.length + 1
        rw [l]
      · show List.findIdx? (·.1) ((false, assign (.Name x p) X.env) :: assignEach es' X.env) = none
        rw [List.findIdx?_cons, f]; rfl
    · exact absurd h Bool.false_ne_true
theorem okT_ok (O : Ok C T X W S) {t : Tg} {e : Expr} (h : okT S t e = true) : PG X e (gT X.K t) := by
  cases t with
  | nm i =>
    simp only [okT] at h
    split at h
    · simp only [Bool.and_eq_true, decide_eq_true_eq] at h
      exact O.pg h.1 h.2
    · exact absurd h Bool.false_ne_true
  | tp is =>
    simp only [okT] at h
    split at h
    · obtain ⟨g, l, f⟩ := okTs_ok O h
      exact pg_tup O.calm g l f
    · exact absurd h Bool.false_ne_true
theorem noSlice_plain {b : Expr} (h : noSlice b = true) : PlainIx b := by
  intro o i
  cases b <;> first
    | rfl
    | exact absurd h Bool.false_ne_true
theorem noSet_fold {e : Expr} (h : noSet e = true) (env : Env) (x : Value) : foldedSetIterable e env x = pure x := by
  cases e <;> first
    | rfl
    | exact absurd h Bool.false_ne_true
theorem opB_ok {o : Bo} {p : Operator} (h : opB o p = true) : p = opOf o := by
  cases o <;> cases p <;> first
    | rfl
    | exact absurd h Bool.false_ne_true
theorem coB_ok {o : Co} {p : CmpOp} (h : coB o p = true) : p = coOf o := by
  cases o <;> cases p <;> first
    | rfl
    | exact absurd h Bool.false_ne_true
theorem Ok.blt (O : Ok C T X W S) {x : Str} (h : bltN.contains x = true) : X.mg x = none := O.blts x (by simpa using h)
theorem tyv_list (m : Mt) : ∀ d v H h, Sim X.K H h → Rep X.K H d v → mtT m d h → tyV X.K "list" v H := by
  intro d v H h Sm r ty
  cases d with
  | ref a =>
    have ty' : ∃ xs, rdL h a = some xs := by cases m <;> exact ty
    obtain ⟨xs, e⟩ := ty'
    obtain ⟨vs, h1, _⟩ := Sm.rd e
    rw [rep_ref] at r; subst r
    exact .inl ⟨rfl, vs, .inl h1⟩
  | lst xs =>
    obtain ⟨a, vs, rfl, t, _⟩ := lsL r
    exact .inl ⟨rfl, vs, t⟩
  | non => cases m <;> exact ty.elim
  | bl _ => cases m <;> exact ty.elim
  | int _ => cases m <;> exact ty.elim
  | str _ => cases m <;> exact ty.elim
  | tup _ => cases m <;> exact ty.elim
theorem tE_eq {X : Cx} {W : WX} {e : Expr} {f g : FE} (h : PE X e (tE X.K X.mg W f)) (q : g = f) : PE X e (tE X.K X.mg W g) := by rw [q]; exact h
theorem tT_eq {X : Cx} {W : WX} {e : Expr} {f g : FE} (h : PT X e (tT X.K X.mg W (bT f))) (q : g = f) : PT X e (tT X.K X.mg W (bT g)) := by rw [q]; exact h
theorem s_bi (O : Ok C T X W S) {f : Bi} {fa : FA} {a : Expr} {es : List Expr} {p pos : Pos} (hi : biIn f = true) (hg : Gl X (biN f)) (ha : PA X (a :: es) (tA X.K X.mg W fa)) (ns : noStar (a :: es) = true) :
    PE X (.Call (.Name (biN f) p) (a :: es) [] pos) (tE X.K X.mg W fun ρ h Q Y => fa ρ h (fun xs h1 => biW f xs h1 Q) Y) := by
  cases f <;> first
    | exact absurd hi Bool.false_ne_true
    | exact s_callB cr_len hg (O.blt (by decide +kernel)) (by decide +kernel) ha ns (by decide) (by decide)
    | exact s_callB cr_abs hg (O.blt (by decide +kernel)) (by decide +kernel) ha ns (by decide) (by decide)
    | exact s_callB (cr_min2 O.calm) hg (O.blt (by decide +kernel)) (by decide +kernel) ha ns (by decide) (by decide)
    | exact s_callB (cr_max2 O.calm) hg (O.blt (by decide +kernel)) (by decide +kernel) ha ns (by decide) (by decide)
    | exact s_callB (cr_sumR O.calm) hg (O.blt (by decide +kernel)) (by decide +kernel) ha ns (by decide) (by decide)
    | exact s_callB (cr_anyR O.calm) hg (O.blt (by decide +kernel)) (by decide +kernel) ha ns (by decide) (by decide)
    | exact s_callB (cr_allR O.calm) hg (O.blt (by decide +kernel)) (by decide +kernel) ha ns (by decide) (by decide)
    | exact s_callTy cr_list hg (O.blt (by decide +kernel)) (by decide +kernel) ha ns (by decide) (by decide)
    | exact s_callTy cr_tuple hg (O.blt (by decide +kernel)) (by decide +kernel) ha ns (by decide) (by decide)
theorem s_mtA (O : Ok C T X W S) {m : Mt} {fb : FE} {fa : FA} {b a : Expr} {es : List Expr} {ap cp : Pos} (h0 : mt0 m = false) (ho : PE X b (tE X.K X.mg W fb)) (ha : PA X (a :: es) (tA X.K X.mg W fa)) (hb : noCall0 b = true) (hl : (a :: es).length < 30) (hline : (ap.endLine == cp.line) = true) (ns : noStar (a :: es) = true) :
    PE X (.Call (.Attribute b (mtN m) ap) (a :: es) [] cp) (tE X.K X.mg W fun ρ h Q Y => fb ρ h (fun x h1 => mtT m x h1 ∧ fa ρ h1 (fun xs h2 => mtW m x xs h2 Q) Y) Y) := by
  cases m <;> first
    | exact absurd h0 (by decide)
    | exact s_mt PySem.F.plainAttrs_list PySem.F.slot_list_append PySem.F.type_list_append mt_appendR (tyv_list _) ho ha hb hl hline ns
    | exact s_mt PySem.F.plainAttrs_list PySem.F.slot_list_extend PySem.F.type_list_extend mt_extendR (tyv_list _) ho ha hb hl hline ns
    | exact s_mt PySem.F.plainAttrs_list PySem.F.slot_list_index PySem.F.type_list_index mt_indexR (tyv_list _) ho ha hb hl hline ns
    | exact s_mt PySem.F.plainAttrs_list PySem.F.slot_list_insert PySem.F.type_list_insert mt_insertR (tyv_list _) ho ha hb hl hline ns
theorem s_mtZ (O : Ok C T X W S) {m : Mt} {fb : FE} {b : Expr} {ap cp : Pos} (h0 : mt0 m = true) (ho : PE X b (tE X.K X.mg W fb)) (hb : noCall0 b = true) (hline : (ap.endLine == cp.line) = true) :
    PE X (.Call (.Attribute b (mtN m) ap) [] [] cp) (tE X.K X.mg W fun ρ h Q Y => fb ρ h (fun x h1 => mtT m x h1 ∧ mtW m x [] h1 Q) Y) := by
  cases m <;> first
    | exact absurd h0 (by decide)
    | exact s_mt0 PySem.F.plainAttrs_list PySem.F.slot_list_pop PySem.F.type_list_pop mt_popR (tyv_list _) ho hb hline
    | exact s_mt0 PySem.F.plainAttrs_list PySem.F.slot_list_reverse PySem.F.type_list_reverse mt_reverseR (tyv_list _) ho hb hline
    | exact s_mt0 PySem.F.plainAttrs_list PySem.F.slot_list_clear PySem.F.type_list_clear mt_clearR (tyv_list _) ho hb hline
/-- a walk, its arguments' reading known -/
theorem s_it (O : Ok C T X W S) {k : Ik} {as : Es} {tg iter : Expr} {es : List Expr} (h : itArgs S k tg iter = some es) (ha : PA X es (tA X.K X.mg W (wA C as))) (h1 : k = .val → ∀ a, as = .cons a .nil → PE X iter (tE X.K X.mg W (wE C a))) (h2 : k = .val → ∃ a, as = .cons a .nil) :
    PI X tg iter (tI X.K X.mg W fun ρ h R Y => wA C as ρ h (fun xs h1 => itW k xs h1 R) Y) := by
  have gen : k ≠ .val → ∃ p pos, iter = .Call (.Name (ikN k) p) es [] pos ∧ glB S (ikN k) = true ∧ es.length = ikL k ∧ noStar es = true ∧ (k = .enum ∨ k = .zip → ∃ el kk tp, tg = .Tuple el kk tp) := fun n1 => by
    unfold itArgs at h
    split at h
    · exact absurd rfl n1
    · split at h
      · rename_i x p es' pos
        split at h
        · rename_i q
          cases h
          simp only [Bool.and_eq_true, decide_eq_true_eq] at q
          obtain ⟨⟨⟨⟨q1, q2⟩, q3⟩, q4⟩, q5⟩ := q
          subst q1
          refine ⟨p, pos, rfl, q2, q3, q4, fun q => ?_⟩
          have q6 : isTup tg = true := by rcases q with rfl | rfl <;> exact q5
          unfold isTup at q6
          split at q6
          · exact ⟨_, _, _, rfl⟩
          · exact absurd q6 Bool.false_ne_true
        · cases h
      · cases h
  have one : ∀ {l : List Expr}, l.length = 1 → ∃ a, l = [a] := fun {l} q => match l, q with
    | [a], _ => ⟨a, rfl⟩
  have two : ∀ {l : List Expr}, l.length = 2 → ∃ a b, l = [a, b] := fun {l} q => match l, q with
    | [a, b], _ => ⟨a, b, rfl⟩
  have three : ∀ {l : List Expr}, l.length = 3 → ∃ a b c, l = [a, b, c] := fun {l} q => match l, q with
    | [a, b, c], _ => ⟨a, b, c, rfl⟩
  cases k with
  | val =>
    obtain ⟨a, e⟩ := h2 rfl
    subst e
    have q := s_iVal (tg := tg) (h1 rfl a rfl)
    have e2 : (fun ρ h R Y => wA C (.cons a .nil) ρ h (fun xs h1 => itW .val xs h1 R) Y : FI) = fun ρ h R Y => wE C a ρ h (fun x h1 => itW .val [x] h1 R) Y := by
      funext ρ h R Y
      simp only [wA]
    rw [e2]; exact q
  | rev =>
    obtain ⟨p, pos, rfl, q1, q2, q3, _⟩ := gen (by decide)
    obtain ⟨a, rfl⟩ := one q2
    exact s_iRev (O.gl q1) (O.blt (by decide +kernel)) ha q3
  | range3 =>
    obtain ⟨p, pos, rfl, q1, q2, q3, _⟩ := gen (by decide)
    obtain ⟨a, b, c, rfl⟩ := three q2
    exact s_iRange3 (O.gl q1) (O.blt (by decide +kernel)) ha q3
  | range1 =>
    obtain ⟨p, pos, rfl, q1, q2, q3, _⟩ := gen (by decide)
    obtain ⟨a, rfl⟩ := one q2
    exact s_iRange1 (O.gl q1) (O.blt (by decide +kernel)) ha q3
  | range2 =>
    obtain ⟨p, pos, rfl, q1, q2, q3, _⟩ := gen (by decide)
    obtain ⟨a, b, rfl⟩ := two q2
    exact s_iRange2 (O.gl q1) (O.blt (by decide +kernel)) ha q3
  | enum =>
    obtain ⟨p, pos, rfl, q1, q2, q3, q4⟩ := gen (by decide)
    obtain ⟨a, rfl⟩ := one q2
    obtain ⟨el, kk, tp, rfl⟩ := q4 (.inl rfl)
    exact s_iEnum (O.gl q1) (O.blt (by decide +kernel)) ha q3
  | zip =>
    obtain ⟨p, pos, rfl, q1, q2, q3, q4⟩ := gen (by decide)
    obtain ⟨a, b, rfl⟩ := two q2
    obtain ⟨el, kk, tp, rfl⟩ := q4 (.inr rfl)
    exact s_iZip (O.gl q1) (O.blt (by decide +kernel)) ha q3
end
end Lt

set_option maxHeartbeats 4000000
/-! list(reversed(a list or a tuple)) -/
namespace LtR
open PySem PySem.Spec PyProof.Rows L2
section
variable {P : Program} {W0 : World} {A : Around} {E : Value → Shared → Prop} {s : Shared}
/-- a new list is filled by an iterator whose steps are known, when the length hint is there to be had -/
theorem fill_by {I S c0 n : Nat} {fp wr : List Addr} {p : Nat → Value → Prop} {St : Nat → Heap → Prop} {res : Value} {R : Result → Shared → Prop} (W : Walks P W0 A.in1 I fp wr n p St) (hn : n ≤ sizeLine)
    (ty : s.TypeIs (.ref I) "list_reverseiterator") (hI : I ∈ fp) (st : St 0 s.heap) (fr : S ∉ fp) (hS : s.heap.get? S = some { cls := .type "list", data := .seq #[] c0 })
    (hint : ∀ Q : Bool → Shared → Prop, Q false s → wpAny (model P W0) A.in1 (Builtin.List.listLengthHint (.ref I)) Q (fun e s' => R (.error e) s') s)
    (k : ∀ h' tk acc c', (∀ b o, b ≠ S → b ∉ wr → s.heap.get? b = some o → h'.get? b = some o) → h'.get? S = some { cls := .type "list", dict := none, data := .seq acc c', slots := #[] } → ItemsOf p acc n → R (.ok (.ret res)) { s with heap := h', toks := tk }) :
    wpAny (model P W0) A.in1 (Builtin.List.listExtendWith (.ref S) (.ref I) res) (fun fin s' => match fin with | .done f => R (.ok f) s' | .again c' => c'.quiet = true ∧ codeAny (model P W0) A c' R s') (fun e s' => R (.error e) s') s := by
  have ne : S ≠ I := fun e => fr (by rw [e]; exact hI)
  have a1 : Builtin.List.listSameRef (.ref S) (.ref I) = false := by simp [Builtin.List.listSameRef, ne]
  unfold Builtin.List.listExtendWith
  refine wpAny_bind (wpAny_typeOf ty ?_)
  rw [if_neg (by rw [a1]; decide)]
  refine wpAny_bind (W.self 0 s _ _ st ?_)
  refine wpAny_bind (wpAny_holding (hint _ ?_))
  rw [if_neg (by decide)]
  refine wpAny_pure ⟨plainId_quiet F.plain_extend_loop _, codeAny_extend_loopS W.toS hn S fr res n 0 _ #[] c0 rfl (Nat.zero_le _) st hS (ItemsOf.nil _) fun s' acc c' mv g it => ?_⟩
  rw [Moved.eq_with mv]
  exact k s'.heap s'.toks acc c' (fun b o n1 n2 e => mv.heap b o (fun z => (List.mem_cons.1 z).elim n1 n2) e) g it
/-- list(iterator) -/
theorem list_by {I n : Nat} {fp wr : List Addr} {p : Nat → Value → Prop} {St : Nat → Heap → Prop} {Q : Value → Shared → Prop} (W : Walks P W0 A.in1.in1 I fp wr n p St) (hn : n ≤ sizeLine)
    (ty : s.TypeIs (.ref I) "list_reverseiterator") (hI : I ∈ fp) (st : St 0 s.heap) (lt : ∀ b ∈ fp, b < s.heap.objs.size)
    (hint : ∀ (s' : Shared) (Q : Bool → Shared → Prop) (E : Value → Shared → Prop), s'.TypeIs (.ref I) "list_reverseiterator" → St 0 s'.heap → Q false s' → wpAny (model P W0) A.in1.in1 (Builtin.List.listLengthHint (.ref I)) Q E s')
    (k : ∀ h' tk acc c', (∀ b o, b ∉ wr → s.heap.get? b = some o → h'.get? b = some o) → h'.get? s.heap.objs.size = some { cls := .type "list", dict := none, data := .seq acc c', slots := #[] } → ItemsOf p acc n → Q (.ref s.heap.objs.size) { s with heap := h', toks := tk }) :
    wpAny (model P W0) A (call (.type "list") [.ref I]) Q E s := by
  have fr : s.heap.objs.size ∉ fp := fun m => absurd (lt _ m) (Nat.lt_irrefl _)
  refine callType_codes (Q₁ := fun v t => v = .ref s.heap.objs.size ∧ t = { s with heap := s.heap.push { cls := .type "list", data := .seq #[] } }) F.called_list (F.typeCall_list_1 _) F.entry_list_init (code_list_new _ ⟨rfl, rfl⟩) fun v t q => ?_
  obtain ⟨rfl, rfl⟩ := q
  have g0 : (s.heap.push { cls := .type "list", data := .seq #[] }).get? s.heap.objs.size = some { cls := .type "list", data := .seq #[] } := Heap.get?_push_size _ rfl
  refine ⟨⟨_, g0, rfl⟩, F.args_list_init_2 _ _, ?_⟩
  show wpAny _ A.in1.in1 (do let old ← Builtin.List.listItems (.ref s.heap.objs.size); Builtin.List.listUpdate (.ref s.heap.objs.size) (fun _ => #[]); letGo old.toList.reverse; Builtin.List.listExtendWith (.ref s.heap.objs.size) (.ref I) .none) _ _ _
  refine wpAny_bind ?_
  unfold Builtin.List.listItems
  refine wpAny_bind (wpAny_seqItems g0 rfl (wpAny_pure ?_)); refine wpAny_bind (wpAny_updateSeq g0 rfl ?_); refine wpAny_bind (wpAny_letGo ?_)
  have kp : ∀ b o, b ≠ s.heap.objs.size → s.heap.get? b = some o → ((s.heap.push { cls := .type "list", data := .seq #[] }).update s.heap.objs.size (Obj.mapSeq (fun _ => (#[] : Array Value)))).get? b = some o :=
    fun b o z e => (Heap.get?_update_other _ _ (Ne.symm z)).trans (Heap.get?_push_of_some _ e)
  have kf : ∀ b ∈ fp, ∀ o, s.heap.get? b = some o → ((s.heap.push { cls := .type "list", data := .seq #[] }).update s.heap.objs.size (Obj.mapSeq (fun _ => (#[] : Array Value)))).get? b = some o :=
    fun b hb o e => kp b o (fun z => fr (z ▸ hb)) e
  obtain ⟨oT, eT, cT⟩ := id ty
  have st2 := W.frame 0 _ _ st kf
  refine fill_by (A := A.in1) W hn ⟨oT, kf I hI oT eT, cT⟩ hI st2 fr (Heap.get?_update_self (Obj.mapSeq (fun _ => (#[] : Array Value))) g0 rfl) (fun Q z => hint _ Q _ ⟨oT, kf I hI oT eT, cT⟩ st2 z) fun h' tk acc c' keep g it => ?_
  exact ⟨rfl, k h' tk acc c' (fun b o nw e => keep b o (Nat.ne_of_lt (Heap.lt_size e)) nw (kp b o (Nat.ne_of_lt (Heap.lt_size e)) e)) g it⟩
/-- the length hint of reversed(list): none is made use of -/
theorem hint_rl {I : Addr} {s : Shared} {Q : Bool → Shared → Prop} (ty : s.TypeIs (.ref I) "list_reverseiterator") (q : Q false s) : wpAny (model P W0) A (Builtin.List.listLengthHint (.ref I)) Q E s := by
  unfold Builtin.List.listLengthHint
  refine wpAny_bind (wpAny_specialOf ty RT.nolen_lri ?_)
  show wpAny _ _ (specialOf (Value.ref I) (Str.ofString "__length_hint__") >>= _) _ _ _
  refine wpAny_bind (wpAny_specialOf ty RT.hint_lri ?_)
  generalize hd : ("list_reverseiterator.__length_hint__" : String) = nm
  wp_delta
  rw [show splitId nm = some ("list_reverseiterator", "__length_hint__") from by rw [← hd]; decide +kernel]
  subst hd
  exact wpAny_bind (wpAny_isInstance (b := true) ty (by rw [isSubtype_type]; kernel_rfl) (wpAny_pure q))
end
end LtR

set_option maxHeartbeats 4000000
namespace LtR
open PySem PySem.Spec PyProof.Rows L2
section
variable {X : Cx}
/-- list(reversed(x)), x a list: a new list -/
def tLrev (K : PySem.W.Frag) (ta : TA) : TE := fun σ H Q => ta σ H fun vs H1 => ∃ (a : Addr) (xs : List V), vs = [.ref a] ∧ SqL K H1 a xs ∧ ∀ q, H1 q = none → Q (.ref q) (upd H1 q (.lst xs.reverse))
theorem pe_lrev {e : Expr} {ta : TA} {p p2 pos pos2 : Pos} (cal : X.calm = true) (g1 : Gl X "list") (m1 : X.mg "list" = none) (g2 : Gl X "reversed") (m2 : X.mg "reversed" = none) (ha : PA X [e] ta)
    (hs : starEach [e] X.env = (false, eval e X.env) :: starEach [] X.env) :
    PE X (.Call (.Name "list" p) [.Call (.Name "reversed" p2) [e] [] pos2] [] pos) (tLrev X.K ta) := by
  refine ⟨fun pins s σ H Q I h => ?_⟩
  refine Call_ (ld_blt I g1 m1 boot_list (PyProof.Rows.callWith_type1 (args_cons (Call_ (ld_blt I g2 m2 PyProof.Rows.boot_reversed (PyProof.Rows.callWith_type1 (thn (ha.run pos2 pins s σ H _ I h) fun us s1 ⟨vs, H1, I1, r1, q1⟩ => ?_) hs rfl))) rfl) rfl rfl))
  obtain ⟨a, xs, rfl, hq, q⟩ := q1
  cases r1 with
  | cons r rr =>
    cases rr
    cases r
    obtain ⟨its, rv, p', hz⟩ := I1.list hq
    refine call_reversed_list p'.isList (args_nil ?_)
    have kp : ∀ b o, s1.heap.get? b = some o → (s1.heap.push (revObj a ((its.toArray.size : Int) - 1))).get? b = some o := fun b o e => Heap.get?_push_of_some _ e
    have I2 : Inv X pins σ H1 { s1 with heap := s1.heap.push (revObj a ((its.toArray.size : Int) - 1)) } := I1.kept (t' := s1.toks) kp
    obtain ⟨f0, f1, f2, f3, f4, f5⟩ := I1.fpOk (H' := H1) (b := s1.heap.objs.size) (Nat.le_refl _) (I1.hok.fresh (Nat.le_refl _))
    have isl := p'.isList
    obtain ⟨ol, el, _⟩ := id isl
    have ne : a ≠ s1.heap.objs.size := Nat.ne_of_lt (Heap.lt_size el)
    have sz : its.toArray.size ≤ sizeLine := by rw [List.size_toArray, ← rv.length]; exact hz
    have e0 : ((its.toArray.size : Nat) : Int) - 1 - ((0 : Nat) : Int) = (its.toArray.size : Int) - 1 := by omega
    refine list_by (Walks.listRev (A := X.A.in1.in1) (show X.A.in1.in1.handled = none from I1.ok.hd cal) s1.heap.objs.size a ne its.toArray) sz (Heap.IsRevIter.typeIs (i := (its.toArray.size : Int) - 1) ⟨_, Heap.get?_push_size _ rfl, rfl, rfl⟩) (List.Mem.head _) ⟨Nat.zero_le _, by rw [e0]; exact ⟨_, Heap.get?_push_size _ rfl, rfl, rfl⟩, isl.push _⟩ (fun b hb => ?_) (fun s' Q E ty _ q => hint_rl ty q) fun h' tk acc c' keep g it => ?_
    · rcases List.mem_cons.1 hb with z | z
      · subst z; exact Heap.lt_size (Heap.get?_push_size s1.heap (o := revObj a ((its.toArray.size : Int) - 1)) rfl)
      · rw [List.mem_singleton] at z; subst z; exact Heap.lt_size (kp _ _ el)
    · refine ⟨.ref (s1.heap.push (revObj a ((its.toArray.size : Int) - 1))).objs.size, _, I2.turnedNew (t' := tk) (ch := [s1.heap.objs.size]) (T := (s1.heap.push (revObj a ((its.toArray.size : Int) - 1))).objs.size) (ob := .lst xs.reverse) (fun b o hb e => keep b o hb e) (fun b hb => ?_) (Nat.le_refl _) (show ObjOk X.prog X.w _ _ _ (.lst xs.reverse) from ⟨by rw [List.length_reverse]; exact hz, acc.toList, c', RT.vals_rev rv it, ?_⟩), rfl, q _ (I2.hok.fresh (Nat.le_refl _))⟩
      · rw [List.mem_singleton] at hb; subst hb; exact ⟨f0, f1, f2, f3, f4, f5⟩
      · rw [Array.toArray_toList]; exact g
end
section
variable {X : Cx}
/-- repr of data that hang together by lists and tuples -/
theorem call_repr (gd : X.A.guards = some []) (hu : X.A.units + 65 < cLine) : CallR X (.builtin "repr") (fun xs H Q => ∃ (a : Addr) (d : PyData), xs = [.ref a] ∧ Dp X.K H (.ref a) d ∧ (d.showable = true ∧ d.hasDict = false ∧ d.depth ≤ 60 ∧ d.shown.length ≤ sizeLine) ∧ Q (.str d.shown) H) := by
  intro pins s σ H xs us Q I r h
  obtain ⟨a, d, rfl, hd, ⟨g1, g2, g3, g4⟩, q⟩ := h
  cases r with
  | cons r1 rr =>
    cases rr
    obtain ⟨as, rd⟩ := Dp.reads I d _ _ hd r1
    cases r1
    exact repr_of_reads' rd g1 (PySem.PyData.noDict_hsm g2) gd (by omega) (fun b o e => e) (fun h' u tk keep => ⟨.str _, H, I.kept (t' := tk) keep, ⟨_, rfl⟩, q⟩) g4
end
end LtR

set_option maxHeartbeats 8000000
namespace Lt
open PySem PySem.Spec PyProof.Rows L2
section
variable {C : Cn} {T : Tab} {X : Cx} {W : WX} {S : Sc}
theorem ifB {α : Type} {b : Bool} {x y : α} (h : (if b = true then some x else none) = some y) : b = true ∧ x = y := by
  split at h
  · rename_i q; exact ⟨q, by cases h; rfl⟩
  · cases h
theorem s_lrev (O : Ok C T X W S) {e : Expr} {es : List Expr} {fa : FA} (h : pxArgs S .lrev e = some es) (ha : PA X es (tA X.K X.mg W fa)) : PE X e (tE X.K X.mg W fun ρ h Q Y => fa ρ h (fun xs h1 => pxW .lrev xs h1 Q) Y) := by
  simp only [pxArgs] at h
  split at h
  · have h := ifB h
    simp only [Bool.and_eq_true, decide_eq_true_eq] at h
    obtain ⟨⟨⟨⟨⟨rfl, rfl⟩, g1⟩, g2⟩, ns⟩, rfl⟩ := h
    exact (LtR.pe_lrev O.calm (O.gl g1) (O.blt (by decide +kernel)) (O.gl g2) (O.blt (by decide +kernel)) ha (noStar_each (noStar_cons ns).1 _)).imp fun σ H Q ⟨ρ, h, R, Y, Sm, RE, w, lk, lx⟩ => ⟨ρ, h, _, Y, Sm, RE, w, fun vs H1 ds h1 k1 S1 q1 w1 => by
      match ds, w1 with
      | [d], w1 =>
        obtain ⟨v, rfl, r1⟩ := reps1 q1
        obtain ⟨xs, e1, w2⟩ := optW_iff.1 w1
        obtain ⟨a, us, rfl, sq, rs⟩ := S1.ls r1 e1
        exact ⟨a, us, rfl, sq, (lk.keep k1).new S1 rs.reverse w2⟩, lx⟩
  · cases h
theorem rs_rpr (gd : X.A.guards = some []) (hu : X.A.units + 65 < cLine) : CallR X (.builtin "repr") (rs X.K (pxW .rpr)) := by
  intro pins s σ H vs us Q I r ⟨ds, h, R, Sm, rr, w, lk⟩
  match ds, w with
  | [x], w =>
    obtain ⟨d, sx, ip, g, w⟩ : ∃ d, seqD x = true ∧ IsP h x d ∧ (d.showable = true ∧ d.hasDict = false ∧ d.depth ≤ 60 ∧ d.shown.length ≤ sizeLine) ∧ R (.str d.shown) h := w
    obtain ⟨v, rfl, r1⟩ := reps1 rr
    have dp := ip.dp Sm d r1
    have ref : ∃ a, v = .ref a := by
      cases x <;> first
        | exact absurd sx Bool.false_ne_true
        | (rw [rep_ref] at r1; exact ⟨_, r1⟩)
        | (unfold Rep at r1; obtain ⟨a, _, e, _⟩ := r1; exact ⟨a, e⟩)
    obtain ⟨a, rfl⟩ := ref
    exact LtR.call_repr gd hu pins s σ H _ us Q I r ⟨a, d, rfl, dp, g, lk.same Sm (rep_str.2 rfl) w⟩
theorem s_rpr (O : Ok C T X W S) {e : Expr} {es : List Expr} {fa : FA} (h : pxArgs S .rpr e = some es) (ha : PA X es (tA X.K X.mg W fa)) : PE X e (tE X.K X.mg W fun ρ h Q Y => fa ρ h (fun xs h1 => pxW .rpr xs h1 Q) Y) := by
  simp only [pxArgs] at h
  split at h
  · have h := ifB h
    simp only [Bool.and_eq_true, decide_eq_true_eq] at h
    obtain ⟨⟨⟨rfl, g1⟩, ns⟩, rfl⟩ := h
    exact s_callB (rs_rpr O.gd O.un) (O.gl g1) (O.blt (by decide +kernel)) (by decide +kernel) ha ns (by decide +kernel) (by decide +kernel)
  · cases h
theorem s_px (O : Ok C T X W S) {k : Px} {e : Expr} {es : List Expr} {fa : FA} (h : pxArgs S k e = some es) (ha : PA X es (tA X.K X.mg W fa)) : PE X e (tE X.K X.mg W fun ρ h Q Y => fa ρ h (fun xs h1 => pxW k xs h1 Q) Y) := by
  cases k with
  | lrev => exact s_lrev O h ha
  | rpr => exact s_rpr O h ha
end
end Lt

set_option maxHeartbeats 8000000
namespace Lt
open PySem PySem.Spec PyProof.Rows L2
section
variable {T : Tab} (C : Cn)
/-- .. and its test, where the expression is no and, or, not, comparison -/
theorem both {X : Cx} {W : WX} {e : Expr} {f : FE} (h : PE X e (tE X.K X.mg W f)) (he : ∀ whole, isTrue e X.env whole = (do let v ← whole; standAt e.pos; holding [v] (truthy v))) :
    PE X e (tE X.K X.mg W f) ∧ PT X e (tT X.K X.mg W (bT f)) := ⟨h, s_val h he⟩
theorem an_eq (a : E) (r : Es) : wAn C (.cons a r) = anW (wE C a) (wAn C r) := by simp only [wAn]; rfl
theorem or_eq (a : E) (r : Es) : wOr C (.cons a r) = orW (wE C a) (wOr C r) := by simp only [wOr]; rfl
theorem s_partE {X : Cx} {W : WX} {S : Sc} (lo : E) (l : Option Expr) (ih : ∀ pe, okE T lo S pe = true → PE X pe (tE X.K X.mg W (wE C lo))) (h : partB (okE T lo S) lo l = true) :
    PO X l (tO X.K X.mg W (partW lo (wE C lo))) := by
  cases lo <;> first
    | (have e : l = none := by simpa [partB] using h
       subst e
       exact s_noPart)
    | (cases l with
       | none => exact absurd h Bool.false_ne_true
       | some l => exact s_part (ih l h))
theorem s_iteT {X : Cx} {W : WX} {c a b : Expr} {fa fb f : FE} {pos : Pos} (hc : PT X c (tT X.K X.mg W (bT f))) (ha : PT X a (tT X.K X.mg W (bT fa))) (hb : PT X b (tT X.K X.mg W (bT fb))) :
    PT X (.IfExp c a b pos) (tT X.K X.mg W (bT fun ρ h Q Y => f ρ h (fun x h1 => blW x fun d => if d = true then fa ρ h1 Q Y else fb ρ h1 Q Y) Y)) := by
  refine ⟨fun pins s σ H Q I hh => ?_⟩
  obtain ⟨ρ, h, R, Y, S, RE, w, lk, lx⟩ := hh
  refine PyProof.Rows.isTrue_IfExp (thn (hc.run pins s σ H (fun b H1 => ∃ h1, TKeep H H1 ∧ Sim X.K H1 h1 ∧ if b = true then bT fa ρ h1 R Y else bT fb ρ h1 R Y) I ⟨ρ, h, fun b h1 => if b = true then bT fa ρ h1 R Y else bT fb ρ h1 R Y, Y, S, RE, w, fun b H1 h1 k1 S1 w1 => ⟨h1, k1, S1, w1⟩, lx⟩) fun d s1 ⟨H1, I1, h1, k1, S1, q1⟩ => ?_)
  cases d with
  | true => exact ha.run pins s1 σ H1 Q I1 ⟨ρ, h1, R, Y, S1, RE.keep k1, ifT q1, fun b H2 h2 k2 => lk b H2 h2 (k1.trans k2), lx.keep k1⟩
  | false => exact hb.run pins s1 σ H1 Q I1 ⟨ρ, h1, R, Y, S1, RE.keep k1, ifF q1, fun b H2 h2 k2 => lk b H2 h2 (k1.trans k2), lx.keep k1⟩
mutual
theorem sE : ∀ (e : E) {X : Cx} {W : WX} {S : Sc} (O : Ok C T X W S) (pe : Expr), okE T e S pe = true → PE X pe (tE X.K X.mg W (wE C e)) ∧ PT X pe (tT X.K X.mg W (bT (wE C e)))
  | .kN, X, W, S, O, pe, h => by
    simp only [okE] at h
    split at h
    · simp only [wE]; exact both (s_const pe_non fun _ => rep_non.2 rfl) fun _ => rfl
    · exact absurd h Bool.false_ne_true
  | .kB b, X, W, S, O, pe, h => by
    simp only [okE] at h
    split at h
    · have e := eq_of_beq h; subst e
      simp only [wE]; exact both (s_const pe_bl fun _ => rep_bl.2 rfl) fun _ => rfl
    · exact absurd h Bool.false_ne_true
  | .kI b, X, W, S, O, pe, h => by
    simp only [okE] at h
    split at h
    · have e := of_decide_eq_true h; subst e
      simp only [wE]; exact both (s_const pe_int fun _ => rep_int.2 rfl) fun _ => rfl
    · exact absurd h Bool.false_ne_true
  | .kS b, X, W, S, O, pe, h => by
    simp only [okE] at h
    split at h
    · have e := of_decide_eq_true h; subst e
      simp only [wE]; exact both (s_const pe_str fun _ => rep_str.2 rfl) fun _ => rfl
    · exact absurd h Bool.false_ne_true
  | .v i, X, W, S, O, pe, h => by
    simp only [okE] at h
    split at h
    · rename_i x p
      unfold nmB at h
      simp only [Bool.and_eq_true, decide_eq_true_eq] at h
      obtain ⟨⟨h1, h2⟩, h3⟩ := h
      simp only [wE]; exact both (s_var (by rw [O.N]; exact h1) (O.vis h2) (plain1 h3) (plain2 h3)) fun _ => rfl
    · exact absurd h Bool.false_ne_true
  | .g x, X, W, S, O, pe, h => by
    simp only [okE] at h
    split at h
    · rename_i y p
      simp only [Bool.and_eq_true, decide_eq_true_eq] at h
      obtain ⟨⟨h1, h2⟩, h3⟩ := h
      subst h1
      simp only [wE]
      cases q : C.glob x with
      | none =>
        refine ⟨⟨fun pins s σ H Q I hh => ?_⟩, ⟨fun pins s σ H Q I hh => ?_⟩⟩
        · obtain ⟨ρ, h, R, Y, _, _, w, _⟩ := hh
          exact w.elim
        · obtain ⟨ρ, h, R, Y, _, _, w, _⟩ := hh
          exact w.elim
      | some d =>
        obtain ⟨u, v, e1, e2, e3⟩ := O.globs x d q
        exact both (s_const (pe_glob (O.gl h2) e1 e2 (plain1 h3)) e3) fun _ => rfl
    · exact absurd h Bool.false_ne_true
  | .op o a b, X, W, S, O, pe, h => by
    simp only [okE] at h
    split at h
    · simp only [Bool.and_eq_true] at h
      obtain ⟨⟨h1, h2⟩, h3⟩ := h
      rw [opB_ok h1]
      simp only [wE]; exact both (s_op o (sE a O _ h2).1 (sE b O _ h3).1) fun _ => rfl
    · exact absurd h Bool.false_ne_true
  | .neg a, X, W, S, O, pe, h => by
    simp only [okE] at h
    split at h
    · simp only [wE]; exact both (s_neg (sE a O _ h).1) fun _ => rfl
    · exact absurd h Bool.false_ne_true
  | .cm o a b, X, W, S, O, pe, h => by
    simp only [okE] at h
    split at h
    · simp only [Bool.and_eq_true, Bool.not_eq_true'] at h
      obtain ⟨⟨⟨h1, h2⟩, h3⟩, h4⟩ := h
      rw [coB_ok h1] at h2 ⊢
      simp only [wE]; exact ⟨s_cm O.un o (sE a O _ h3).1 (sE b O _ h4).1 h2, s_cmT O.un o (sE a O _ h3).1 (sE b O _ h4).1 h2⟩
    · exact absurd h Bool.false_ne_true
  | .cm2 o q a b c, X, W, S, O, pe, h => by
    simp only [okE] at h
    split at h
    · simp only [Bool.and_eq_true, Bool.not_eq_true'] at h
      obtain ⟨⟨⟨⟨⟨h1, h2⟩, h3⟩, h4⟩, h5⟩, h6⟩ := h
      rw [coB_ok h1, coB_ok h2] at h3 ⊢
      simp only [wE]; exact ⟨s_cm2 O.un o q (sE a O _ h4).1 (sE b O _ h5).1 (sE c O _ h6).1 h3, s_cm2T O.un o q (sE a O _ h4).1 (sE b O _ h5).1 (sE c O _ h6).1 h3⟩
    · exact absurd h Bool.false_ne_true
  | .isN a, X, W, S, O, pe, h => by
    simp only [okE] at h
    split at h
    · simp only [wE]; exact ⟨s_isN (sE a O _ h).1, s_isNT (sE a O _ h).1⟩
    · exact absurd h Bool.false_ne_true
  | .notN a, X, W, S, O, pe, h => by
    simp only [okE] at h
    split at h
    · simp only [wE]; exact ⟨s_notN (sE a O _ h).1, s_notNT (sE a O _ h).1⟩
    · exact absurd h Bool.false_ne_true
  | .and as, X, W, S, O, pe, h => by
    simp only [okE] at h
    split at h
    · simp only [Bool.and_eq_true, Bool.not_eq_true'] at h
      obtain ⟨h1, h2⟩ := h
      obtain ⟨q1, q2⟩ := sAn as O _ h2 h1
      simp only [wE]
      refine ⟨q2 _, (q1 _).pt.imp fun σ H Q ⟨ρ, h, R, Y, S, RE, w, lk, lx⟩ => ⟨ρ, h, R, Y, S, RE, w, lk, lx⟩⟩
    · exact absurd h Bool.false_ne_true
  | .or as, X, W, S, O, pe, h => by
    simp only [okE] at h
    split at h
    · simp only [Bool.and_eq_true, Bool.not_eq_true'] at h
      obtain ⟨h1, h2⟩ := h
      obtain ⟨q1, q2⟩ := sOr as O _ h2 h1
      simp only [wE]
      refine ⟨q2 _, (q1 _).pt.imp fun σ H Q ⟨ρ, h, R, Y, S, RE, w, lk, lx⟩ => ⟨ρ, h, R, Y, S, RE, w, lk, lx⟩⟩
    · exact absurd h Bool.false_ne_true
  | .not a, X, W, S, O, pe, h => by
    simp only [okE] at h
    split at h
    · simp only [wE]; exact ⟨s_not (sE a O _ h).1, s_notT (sE a O _ h).2⟩
    · exact absurd h Bool.false_ne_true
  | .ite c a b, X, W, S, O, pe, h => by
    simp only [okE] at h
    split at h
    · simp only [Bool.and_eq_true] at h
      obtain ⟨⟨h1, h2⟩, h3⟩ := h
      simp only [wE]; exact ⟨s_ite (sE c O _ h1).2 (sE a O _ h2).1 (sE b O _ h3).1, s_iteT (sE c O _ h1).2 (sE a O _ h2).2 (sE b O _ h3).2⟩
    · exact absurd h Bool.false_ne_true
  | .tp as, X, W, S, O, pe, h => by
    simp only [okE] at h
    split at h
    · simp only [Bool.and_eq_true] at h
      simp only [wE]; exact both (s_tup (sA as O _ h.2)) fun _ => rfl
    · exact absurd h Bool.false_ne_true
  | .ls as, X, W, S, O, pe, h => by
    simp only [okE] at h
    split at h
    · simp only [Bool.and_eq_true] at h
      simp only [wE]; exact both (s_lst (sA as O _ h.2)) fun _ => rfl
    · exact absurd h Bool.false_ne_true
  | .ix a i, X, W, S, O, pe, h => by
    simp only [okE] at h
    split at h
    · simp only [Bool.and_eq_true] at h
      obtain ⟨⟨h1, h2⟩, h3⟩ := h
      simp only [wE]; exact both (s_ix (sE a O _ h2).1 (sE i O _ h3).1 (noSlice_plain h1)) fun _ => rfl
    · exact absurd h Bool.false_ne_true
  | .sl a lo hi, X, W, S, O, pe, h => by
    simp only [okE] at h
    split at h
    · rename_i x l u p2 p1
      rw [Bool.and_eq_true, Bool.and_eq_true] at h
      obtain ⟨⟨h1, h2⟩, h3⟩ := h
      have hl := s_partE C (X := X) (W := W) lo l (fun pe h => (sE lo O pe h).1) h2
      have hh := s_partE C (X := X) (W := W) hi u (fun pe h => (sE hi O pe h).1) h3
      have q := s_sl (pos := p1) (p2 := p2) (sE a O _ h1).1 hl hh
      refine both (tE_eq q ?_) fun _ => rfl
      simp only [wE]
    · exact absurd h Bool.false_ne_true
  | .call f as, X, W, S, O, pe, h => by
    simp only [okE] at h
    split at h
    · rename_i x p es pos
      simp only [Bool.and_eq_true, Bool.not_eq_true', decide_eq_true_eq, List.any_eq_true] at h
      obtain ⟨⟨⟨⟨⟨⟨h1, q, hq, e⟩, h3⟩, h4⟩, h5⟩, h6⟩, h7⟩ := h
      subst h1
      obtain ⟨qf, qn⟩ := q
      simp only at e
      subst e
      obtain ⟨g, fd, ps, k, m1, m2, m3, m4, m5, m6⟩ := O.calls _ hq
      cases es with
      | nil => exact absurd h6 (by simp)
      | cons b es =>
        simp only [wE]
        refine both ((s_call O.tk O.gd m4 m5 (O.gl h3) m1 m2 m3 (sA as O _ h7) (plain1 h4) h5).imp fun σ H Q ⟨ρ, h, R, Y, Sm, RE, w, lk, lx⟩ => ⟨ρ, h, R, Y, Sm, RE, ?_, lk, lx⟩) fun _ => rfl
        have e : (fun xs h1 => C.call qf xs h1 R Y : List D → Hh → Prop) = fun xs h1 => xs.length = qn ∧ C.call qf xs h1 R Y := by
          funext xs h1
          exact propext ⟨fun z => ⟨m6 _ _ _ _ z, z⟩, fun z => z.2⟩
        show wA C as ρ h (fun xs h1 => xs.length = qn ∧ C.call qf xs h1 R Y) Y
        rw [← e]
        exact w
    · exact absurd h Bool.false_ne_true
  | .bi f as, X, W, S, O, pe, h => by
    simp only [okE] at h
    split at h
    · rename_i x p es pos
      simp only [Bool.and_eq_true, Bool.not_eq_true', decide_eq_true_eq] at h
      obtain ⟨⟨⟨⟨⟨h1, h2⟩, h3⟩, h4⟩, h5⟩, h6⟩ := h
      subst h1
      cases es with
      | nil => exact absurd h5 (by simp)
      | cons b es =>
        simp only [wE]
        exact both (s_bi O h2 (O.gl h3) (sA as O _ h6) h4) fun _ => rfl
    · exact absurd h Bool.false_ne_true
  | .mt m a as, X, W, S, O, pe, h => by
    simp only [okE] at h
    split at h
    · rename_i o x ap es cp
      simp only [Bool.and_eq_true, decide_eq_true_eq] at h
      obtain ⟨⟨⟨⟨⟨⟨⟨h1, h2⟩, h3⟩, h4⟩, h5⟩, h6⟩, h7⟩, h8⟩ := h
      subst h1
      have h6 := eq_of_beq h6
      simp only [wE]
      cases es with
      | nil =>
        have q := s_mtZ O (m := m) (ap := ap) (cp := cp) (by rw [h6]; rfl) (sE a O _ h7).1 h2 h4
        cases as with
        | nil =>
          simp only [wA]
          exact both q fun _ => rfl
        | cons b r => simp only [okA] at h8; exact absurd h8 Bool.false_ne_true
      | cons b es =>
        exact both (s_mtA O (by rw [h6]; rfl) (sE a O _ h7).1 (sA as O _ h8) h2 h3 h4 h5) fun _ => rfl
    · exact absurd h Bool.false_ne_true
  | .isT a t, X, W, S, O, pe, h => by
    simp only [okE] at h
    split at h
    · rename_i x p y z p2 pos
      simp only [Bool.and_eq_true, decide_eq_true_eq] at h
      obtain ⟨⟨⟨⟨⟨h1, h2⟩, h3⟩, h4⟩, h5⟩, h6⟩ := h
      subst h1 h2
      simp only [wE]
      exact both (s_isT t (O.gl h3) (O.blt (by decide +kernel)) (O.gl h4) (O.blt (by cases t <;> decide +kernel)) (sE a O _ h6).1 (noStar_cons h5).1) fun _ => rfl
    · exact absurd h Bool.false_ne_true
  | .lc k as t own c e, X, W, S, O, pe, h => by
    simp only [okE] at h
    split at h
    · rename_i el tg iter ifs scope pos
      simp only [Bool.and_eq_true] at h
      obtain ⟨⟨⟨⟨⟨⟨h1, h2⟩, h3⟩, h4⟩, h5⟩, h6⟩, h7⟩ := h
      split at h5
      · rename_i es q
        have hi : PI X tg iter (tI X.K X.mg W fun ρ h R Y => wA C as ρ h (fun xs h1 => itW k xs h1 R) Y) := by
          refine s_it O q (sA as O _ h5) (fun hk a ea => ?_) (fun hk => ?_)
          · subst hk ea
            cases q
            simp only [okA, Bool.and_eq_true] at h5
            have h5' := h5.1.2
            exact (sE a O _ h5').1
          · subst hk
            cases q
            cases as with
            | nil => simp only [okA] at h5; exact absurd h5 Bool.false_ne_true
            | cons a r =>
              cases r with
              | nil => exact ⟨a, rfl⟩
              | cons b r => simp only [okA, Bool.and_eq_true] at h5; exact absurd h5.2 Bool.false_ne_true
        have ok : BlkOk X.N X.env.scope scope own := by
          rw [O.N, O.sc]; exact blkOk_by h2
        have hsl : ∀ i ∈ slots t, i ∈ own.map (·.2) := fun i hi => by
          have := List.all_eq_true.mp h3 i hi
          simpa using this
        have hg := fun s H a cl fp => okT_ok (O.blk scope s H a cl fp) h4
        have ht : ∀ (s : Shared) (H : Hp) (a : Addr) (cl : List (Str × Addr)) (fp : List Addr), PTs (X.blk s H scope (compEnvC scope cl a X.env) fp) ifs (tT X.K X.mg (fun _ _ _ _ => False) (bT (wE C c))) := fun s H a cl fp => by
          split at h6
          · split at h6
            · simp only [wE]
              exact ⟨fun pins s σ H Q I ⟨ρ, h, R, Y, Sm, RE, w, lk, lx⟩ => pts_nil.run pins s σ H Q I (lk true H h (TKeep.refl H) Sm w)⟩
            · exact absurd h6 Bool.false_ne_true
          · exact pts_one (sE c (O.blk scope s H a cl fp) _ h6).2
          · exact absurd h6 Bool.false_ne_true
        have he := fun s H a cl fp => (sE e (O.blk scope s H a cl fp) _ h7).1
        refine both ((pe_lc O.calm O.nd hi ok hg ht he (noSet_fold h1 _)).imp fun σ H Q hh => s_lc (W := W) (c := none) O.calm O.nd hi ok hsl hg ht he (noSet_fold h1 _) σ H Q ?_) fun _ => rfl
        simp only [wE] at hh
        exact hh
      · exact absurd h5 Bool.false_ne_true
    · exact absurd h Bool.false_ne_true
  | .fz e, X, W, S, O, pe, h => by
    simp only [okE, Bool.and_eq_true] at h
    simp only [wE]
    exact both (s_fz (sE e O _ h.2).1) (by
      have h1 := h.1
      cases pe <;> first
        | exact absurd h1 Bool.false_ne_true
        | exact fun _ => rfl)
  | .px k as, X, W, S, O, pe, h => by
    simp only [okE, Bool.and_eq_true] at h
    simp only [wE]
    obtain ⟨h1, h2⟩ := h
    split at h2
    · rename_i es q
      exact both (s_px O q (sA as O _ h2)) (by
        cases pe <;> first
          | exact absurd h1 Bool.false_ne_true
          | exact fun _ => rfl)
    · exact absurd h2 Bool.false_ne_true
theorem sA : ∀ (as : Es) {X : Cx} {W : WX} {S : Sc} (O : Ok C T X W S) (es : List Expr), okA T as S es = true → PA X es (tA X.K X.mg W (wA C as))
  | .nil, X, W, S, O, es, h => by
    simp only [okA] at h
    have e : es = [] := by simpa using h
    subst e
    simp only [wA]; exact s_nil
  | .cons a r, X, W, S, O, es, h => by
    simp only [okA] at h
    split at h
    · simp only [Bool.and_eq_true] at h
      obtain ⟨⟨h1, h2⟩, h3⟩ := h
      simp only [wA]; exact s_cons (sE a O _ h2).1 (sA r O _ h3) (noStar_each (noStar_cons h1).1 _)
    · exact absurd h Bool.false_ne_true
theorem sAn : ∀ (as : Es) {X : Cx} {W : WX} {S : Sc} (O : Ok C T X W S) (es : List Expr), okA T as S es = true → es.isEmpty = false →
    (∀ pos, PW X (.BoolOp .And es pos) (tT X.K X.mg W (wAn C as))) ∧ ∀ pos, PE X (.BoolOp .And es pos) (tE X.K X.mg W (vT (wAn C as)))
  | .nil, X, W, S, O, es, h, ne => by
    simp only [okA] at h
    rw [h] at ne; cases ne
  | .cons a r, X, W, S, O, es, h, ne => by
    simp only [okA] at h
    split at h
    · rename_i x es
      simp only [Bool.and_eq_true] at h
      obtain ⟨⟨h1, h2⟩, h3⟩ := h
      rw [an_eq]
      obtain ⟨i1, i2⟩ := sE a O _ h2
      cases es with
      | nil =>
        cases r with
        | nil =>
          simp only [wAn]
          exact ⟨fun _ => an1T i2, fun _ => an1E i1⟩
        | cons b r => simp only [okA] at h3; exact absurd h3 Bool.false_ne_true
      | cons y es =>
        obtain ⟨j1, j2⟩ := sAn r O _ h3 rfl
        exact ⟨fun _ => anT i2 (j1 _), fun _ => anE i1 (j2 _)⟩
    · exact absurd h Bool.false_ne_true
theorem sOr : ∀ (as : Es) {X : Cx} {W : WX} {S : Sc} (O : Ok C T X W S) (es : List Expr), okA T as S es = true → es.isEmpty = false →
    (∀ pos, PW X (.BoolOp .Or es pos) (tT X.K X.mg W (wOr C as))) ∧ ∀ pos, PE X (.BoolOp .Or es pos) (tE X.K X.mg W (vT (wOr C as)))
  | .nil, X, W, S, O, es, h, ne => by
    simp only [okA] at h
    rw [h] at ne; cases ne
  | .cons a r, X, W, S, O, es, h, ne => by
    simp only [okA] at h
    split at h
    · rename_i x es
      simp only [Bool.and_eq_true] at h
      obtain ⟨⟨h1, h2⟩, h3⟩ := h
      rw [or_eq]
      obtain ⟨i1, i2⟩ := sE a O _ h2
      cases es with
      | nil =>
        cases r with
        | nil =>
          simp only [wOr]
          exact ⟨fun _ => or1T i2, fun _ => or1E i1⟩
        | cons b r => simp only [okA] at h3; exact absurd h3 Bool.false_ne_true
      | cons y es =>
        obtain ⟨j1, j2⟩ := sOr r O _ h3 rfl
        exact ⟨fun _ => orT i2 (j1 _), fun _ => orE i1 (j2 _)⟩
    · exact absurd h Bool.false_ne_true
end
end
end Lt

set_option maxHeartbeats 8000000
namespace Lt
open PySem PySem.Spec PyProof.Rows L2
def notComp : Expr → Bool
  | .ListComp .. => false
  | .SetComp .. => false
  | .DictComp .. => false
  | _ => true
theorem notComp_sw {e : Expr} (h : notComp e = true) (t : Option Expr) (l : Nat) (env : Env) : swapsWith e t l env = pure false := by
  cases e <;> first
    | rfl
    | exact absurd h Bool.false_ne_true
def lclB (S : Sc) (x : Str) : Bool := match S.sc.names.lookup x with
  | some .local => true
  | _ => false
theorem _root_.L2.PS.imp {X : Cx} {e : Stmt} {t t' : TS} (h : PS X e t) (k : ∀ D σ H, t' D σ H → t D σ H) : PS X e t' := ⟨fun pins s σ H D I q => h.run pins s σ H D I (k _ _ _ q)⟩
theorem _root_.L2.PSs.imp {X : Cx} {e : List Stmt} {t t' : TS} (h : PSs X e t) (k : ∀ D σ H, t' D σ H → t D σ H) : PSs X e t' := ⟨fun pins s σ H D I q => h.run pins s σ H D I (k _ _ _ q)⟩
/-- a class by its name: an own one or a built-in one -/
inductive ClsAt (mg : Str → Option Value) (c : Str) : V → Value → Prop where
  | own {C : Addr} (h : mg c = some (.ref C)) : ClsAt mg c (.ref C) (.ref C)
  | blt {n : String} (h : mg c = none) (b : bootBuiltins c = some (.type n)) (nn : c ≠ "__name__") : ClsAt mg c (.ty n) (.type n)
theorem ClsAt.v {mg : Str → Option Value} {c : Str} {v : V} {u : Value} (k : ClsAt mg c v u) : ClsV v u := by
  cases k with
  | own h => exact .own _
  | blt h b n => exact .ty _
/-- what is known of the classes of errors -/
structure ExFacts (K : PySem.W.Frag) (mg : Str → Option Value) (E : Ex) (cls : List Str) : Prop where
  at' : ∀ c ∈ cls, ∃ v u, ClsAt mg c v u
  rs : ∀ x ∈ E.excs, ∃ D, mg x = some (.ref D) ∧ ExcC K D ∧ ∀ c ∈ cls, ∀ v u, ClsAt mg c v u → PySem.W.kitOne K (.ref D) u = some (E.sub x c) ∧ PySem.W.exmOne K (.ref D) u = some (E.sub x c)
mutual
def okH (S : Sc) (en : Str) (cls : List Str) : HE → Expr → Bool
  | .kB b => fun e => match e with
    | .Constant (.bool c) _ _ => b == c
    | _ => false
  | .isE c => fun e => match e with
    | .Call (.Name x _) [.Name y _, .Name z _] [] _ => decide (x = "isinstance") && decide (y = en) && decide (z = c) && glB S x && visB S en && plainB en && glB S z && plainB z && cls.contains c
    | _ => false
  | .isT cs => fun e => match e with
    | .Call (.Name x _) [.Name y _, .Tuple es _ _] [] _ => decide (x = "isinstance") && decide (y = en) && glB S x && visB S en && plainB en && (cs.length == es.length) && (cs.zip es).all (fun p => match p.2 with
        | .Name z _ => decide (z = p.1) && glB S z && plainB z && cls.contains p.1
        | _ => false)
    | _ => false
  | .not a => fun e => match e with
    | .UnaryOp .Not x _ => okH S en cls a x
    | _ => false
  | .and as => fun e => match e with
    | .BoolOp .And es _ => !es.isEmpty && okHs S en cls as es
    | _ => false
  | .v i => fun e => match e with
    | .Name x _ => nmB S i x
    | _ => false
  | .tp as => fun e => match e with
    | .Tuple es _ _ => noStar es && okHs S en cls as es
    | _ => false
  | .ls as => fun e => match e with
    | .List es _ => noStar es && okHs S en cls as es
    | _ => false
def okHs (S : Sc) (en : Str) (cls : List Str) : HEs → List Expr → Bool
  | .nil => fun es => es.isEmpty
  | .cons a r => fun es => match es with
    | x :: es => noStar [x] && okH S en cls a x && okHs S en cls r es
    | [] => false
end
def okHS (S : Sc) (en : Str) (cls : List Str) : List HS → List Stmt → Bool
  | [], ss => ss.isEmpty
  | .set j e :: r, ss => match ss with
    | .Assign [.Name x _] pe _ :: ss => decide (S.N[j]? = some x) && lclB S x && decide (x ≠ en) && notComp pe && okH S en cls e pe && okHS S en cls r ss
    | _ => false
  | .app j e :: r, ss => match ss with
    | .Expr (.Call (.Attribute (.Name x _) m ap) [pe] [] cp) _ :: ss => nmB S j x && decide (m = "append") && (ap.endLine == cp.line) && decide (x ≠ en) && noStar [pe] && okH S en cls e pe && okHS S en cls r ss
    | _ => false

section
variable {X : Cx} {a : Addr} {oe : Obj} {pn : List (Addr × Obj)} {i : Nat} {cD : Addr} {E : Ex} {cls : List Str} {S : Sc} {en x : Str}
/-- the reading of what an except suite reckons: slot i holds the error -/
def tH (K : PySem.W.Frag) (i : Nat) (a : Addr) (f : En → Hh → QD → Prop) : TE := fun σ H Q => σ[i]? = some (some (.ref a)) ∧ ∃ ρ h R, Sim K H h ∧ RepE K H ρ σ ∧ f ρ h R ∧ LkV K H R Q
def tHA (K : PySem.W.Frag) (i : Nat) (a : Addr) (f : En → Hh → (List D → Hh → Prop) → Prop) : TA := fun σ H Q => σ[i]? = some (some (.ref a)) ∧ ∃ ρ h R, Sim K H h ∧ RepE K H ρ σ ∧ f ρ h R ∧
  ∀ vs H' ds h', TKeep H H' → Sim K H' h' → Reps K H' ds vs → R ds h' → Q vs H'
/-- what the suite's context knows -/
structure OkH (X : Cx) (S : Sc) (i : Nat) (en : Str) (E : Ex) (cls : List Str) (x : Str) (cD : Addr) (oe : Obj) : Prop where
  N : X.N = S.N
  nd : X.N.Nodup
  sc : X.env.scope = S.sc
  hi : X.N[i]? = some en
  hz : Zc (.ref cD) none oe
  hf : ∃ vs, oe.data = .fields vs
  ec : ExcC X.K cD
  isi : X.mg "isinstance" = none
  at' : ∀ c ∈ cls, ∃ v u, ClsAt X.mg c v u
  ki : ∀ c ∈ cls, ∀ v u, ClsAt X.mg c v u → PySem.W.kitOne X.K (.ref cD) u = some (E.sub x c)
theorem kitAny_of {K : PySem.W.Frag} {t : Value} {f : Str → Bool} : ∀ {cs : List Str} {us : List Value}, Paired (fun c u => PySem.W.kitOne K t u = some (f c)) cs us → PySem.W.kitAny K t us = some (cs.any f)
  | [], _, .nil => rfl
  | c :: cs, u :: us, .cons h r => by
    refine kitAny_cons h (fun e => ?_) (fun e => ?_)
    · rw [List.any_cons, e, Bool.false_or]; exact kitAny_of r
    · rw [List.any_cons, e, Bool.true_or]
theorem Ok.glS (sc : X.env.scope = S.sc) {x : Str} (h : glB S x = true) : Gl X x := by
  show X.env.scope.names.lookup x = _
  rw [sc]
  unfold glB at h
  split at h
  · assumption
  · exact absurd h Bool.false_ne_true
theorem visS (sc : X.env.scope = S.sc) {x : Str} (h : visB S x = true) : Vis X.env.scope x := by
  unfold Vis
  rw [sc]
  unfold visB at h
  split at h
  · exact .inl (by assumption)
  · exact .inr (.inl (by assumption))
  · exact .inr (.inr (by assumption))
  · exact absurd h Bool.false_ne_true
theorem pe_cls {X : Cx} {c : Str} {v : V} {u : Value} {p : Pos} (k : ClsAt X.mg c v u) (hg : Gl X c) (hp : plainB c = true) : PE X (.Name c p) (tC v) := by
  cases k with
  | own h => exact pe_glob hg h rfl (plain1 hp)
  | blt h b nn => exact pe_bltn hg h b rfl nn (plain1 hp)
/-- isinstance(e, (c1, c2, ..)) of the error that the suite holds -/
def rIsET (K : PySem.W.Frag) (D a : Addr) : List V → Hp → VK → Prop := fun xs H Q => ∃ (tp : Addr) (cs : List V) (us : List Value) (b : Bool), xs = [.ref a, .ref tp] ∧ H tp = some (.tup cs) ∧ Paired ClsV cs us ∧ PySem.W.kitAny K (.ref D) us = some b ∧ Q (.bl b) H
theorem call_isET {X : Cx} {a D : Addr} {oe : Obj} {pn : List (Addr × Obj)} (C : ExcC X.K D) (hz : Zc (.ref D) none oe) (hf : ∃ vs, oe.data = .fields vs) : CallR (X.suite a ((a, oe) :: pn)) (.builtin "isinstance") (rIsET X.K D a) := by
  intro pins s σ H xs us Q I r h
  obtain ⟨tp, cs, ws, b, rfl, hT, k, e, q⟩ := h
  obtain ⟨u1, u2, rfl, r1, r2⟩ := vals2 r
  cases (show u2 = Value.ref tp from r2)
  cases (show u1 = Value.ref a from r1)
  obtain ⟨_, its, rv, o, h1, h2, n, h3⟩ := (show ObjOk X.prog X.w H s.heap tp (.tup cs) from I.hok tp _ hT)
  have e3 := ClsV.all k rv
  subst e3
  obtain ⟨hget, _⟩ := I.pin (a, oe) (List.mem_append.mpr (.inl List.mem_cons_self))
  obtain ⟨vs, hv⟩ := hf
  have J : PySem.W.InstAt s.heap a oe D none := by
    obtain ⟨oc, od, oda, osl⟩ := oe
    obtain ⟨z1, z2⟩ := hz
    dsimp only at z1 z2 hv
    subst z1 z2 hv
    exact ⟨hget, rfl, rfl, trivial⟩
  obtain ⟨oc, od, dt, sl⟩ := o
  simp only at h2 h3
  subst h2 h3
  exact PySem.W.kia_tup (PySem.W.handS_kitx_exc C.hg C.hk C.hs C.hd C.ha C.hn C.ht C.hm) I.kIn J h1 e (fun z => nomatch z) fun tk => ⟨.bl b, H, I.kept (t' := tk) fun _ _ z => z, rfl, q⟩
theorem pa_clss {X : Cx} {cls : List Str} (sc : X.env.scope = S.sc) (at' : ∀ c ∈ cls, ∃ v u, ClsAt X.mg c v u) : ∀ {cs : List Str} {es : List Expr}, cs.length = es.length → ((cs.zip es).all (fun p => match p.2 with
        | .Name z _ => decide (z = p.1) && glB S z && plainB z && cls.contains p.1
        | _ => false)) = true → ∃ vs us, Paired (fun c (p : V × Value) => ClsAt X.mg c p.1 p.2 ∧ c ∈ cls) cs (vs.zip us) ∧ vs.length = us.length ∧ PA X es (fun σ H Q => Q vs H)
  | [], [], _, _ => ⟨[], [], .nil, rfl, pa_nil⟩
  | [], _ :: _, l, _ => nomatch l
  | _ :: _, [], l, _ => nomatch l
  | c :: cs, e :: es, l, h => by
    rw [List.zip_cons_cons, List.all_cons, Bool.and_eq_true] at h
    obtain ⟨h1, h2⟩ := h
    split at h1
    · rename_i z p q
      simp only at q
      subst q
      simp only [Bool.and_eq_true, decide_eq_true_eq] at h1
      obtain ⟨⟨⟨q1, q2⟩, q3⟩, q4⟩ := h1
      subst q1
      have q4 : z ∈ cls := by simpa using q4
      obtain ⟨v, u, k⟩ := at' z q4
      obtain ⟨vs, us, r, rl, pa⟩ := pa_clss sc at' (cs := cs) (es := es) (by simpa using l) h2
      refine ⟨v :: vs, u :: us, .cons ⟨k, q4⟩ r, by simp [rl], ?_⟩
      exact (pa_cons (pe_cls k (Ok.glS sc q2) q3) pa rfl).imp fun σ H Q q => q
    · exact absurd h1 Bool.false_ne_true
theorem cv_of (O : OkH X S i en E cls x cD oe) : ∀ {cs : List Str} {vs : List V} {us : List Value}, Paired (fun c (p : V × Value) => ClsAt X.mg c p.1 p.2 ∧ c ∈ cls) cs (vs.zip us) → vs.length = us.length →
    Paired ClsV vs us ∧ Paired (fun c u => PySem.W.kitOne X.K (.ref cD) u = some (E.sub x c)) cs us ∧ cs.length = vs.length
  | [], [], [], _, _ => ⟨.nil, .nil, rfl⟩
  | [], _ :: _, _ :: _, r, _ => nomatch r
  | _ :: _, [], [], r, _ => nomatch r
  | _, [], _ :: _, _, l => nomatch l
  | _, _ :: _, [], _, l => nomatch l
  | c :: cs, v :: vs, u :: us, r, l => by
    cases r with
    | cons q r =>
      obtain ⟨i1, i2, i3⟩ := cv_of O r (by simpa using l)
      exact ⟨.cons q.1.v i1, .cons (O.ki _ q.2 _ _ q.1) i2, by simp [i3]⟩
mutual
theorem sH (O : OkH X S i en E cls x cD oe) : ∀ (e : HE) (pe : Expr), okH S en cls e pe = true → PE (X.suite a ((a, oe) :: pn)) pe (tH X.K i a (hE (E.sub x) e))
  | .kB b, pe, h => by
    simp only [okH] at h
    split at h
    · have e := eq_of_beq h; subst e
      simp only [hE]
      exact pe_bl.imp fun σ H Q ⟨_, ρ, h, R, Sm, RE, w, lk⟩ => lk.same Sm (rep_bl.2 rfl) w
    · exact absurd h Bool.false_ne_true
  | .isE c, pe, h => by
    simp only [okH] at h
    split at h
    · rename_i x' p y p2 z p3 pos
      simp only [Bool.and_eq_true, decide_eq_true_eq] at h
      obtain ⟨⟨⟨⟨⟨⟨⟨⟨h1, h2⟩, h3⟩, h4⟩, h5⟩, h6⟩, h7⟩, h8⟩, h9⟩ := h
      subst h1 h2 h3
      have hc : z ∈ cls := by simpa using h9
      obtain ⟨v, u, k⟩ := O.at' z hc
      have kk := O.ki z hc v u k
      simp only [hE]
      have pv : PE (X.suite a ((a, oe) :: pn)) (.Name y p2) (tVar i) := pe_var O.hi (visS O.sc h5) (plain1 h6) (plain2 h6)
      have pc : PE (X.suite a ((a, oe) :: pn)) (.Name z p3) (tC v) := pe_cls k (Ok.glS O.sc h7) h8
      refine (pe_callB (call_isE O.ec O.hz O.hf) (Ok.glS O.sc h4) O.isi (by decide +kernel) (pa_cons pv (pa_cons pc pa_nil rfl) rfl) (by decide) (by decide) rfl rfl).imp fun σ H Q ⟨hs, ρ, h, R, Sm, RE, w, lk⟩ => ?_
      exact ⟨.ref a, hs, v, u, _, rfl, fun _ r => k.v.eq r, kk, lk.same Sm (rep_bl.2 rfl) w⟩
    · exact absurd h Bool.false_ne_true
  | .isT cs, pe, h => by
    simp only [okH] at h
    split at h
    · rename_i x' p y p2 es p3 p4 pos
      simp only [Bool.and_eq_true, decide_eq_true_eq] at h
      obtain ⟨⟨⟨⟨⟨⟨h1, h2⟩, h4⟩, h5⟩, h6⟩, h7⟩, h8⟩ := h
      subst h1 h2
      have h7 := eq_of_beq h7
      obtain ⟨vs, us, r, rl, pa⟩ := pa_clss (X := X.suite a ((a, oe) :: pn)) (cls := cls) O.sc O.at' h7 h8
      simp only [hE]
      have pv : PE (X.suite a ((a, oe) :: pn)) (.Name y p2) (tVar i) := pe_var O.hi (visS O.sc h5) (plain1 h6) (plain2 h6)
      have cv := cv_of O r rl
      refine (pe_callB (call_isET O.ec O.hz O.hf) (Ok.glS O.sc h4) O.isi (by decide +kernel) (pa_cons pv (pa_cons (pe_tup pa) pa_nil rfl) rfl) (by decide) (by decide) rfl rfl).imp fun σ H Q ⟨hs, ρ, h, R, Sm, RE, w, lk⟩ => ?_
      refine ⟨.ref a, hs, by rw [← cv.2.2]; exact w.1, fun tp htp => ⟨tp, vs, us, _, rfl, upd_same, cv.1, kitAny_of cv.2.1, ?_⟩⟩
      exact lk _ _ _ _ (TKeep.new htp) (Sm.tup htp) (rep_bl.2 rfl) w.2
    · exact absurd h Bool.false_ne_true
  | .not e, pe, h => by
    simp only [okH] at h
    split at h
    · simp only [hE]
      exact (pe_not (sH O e _ h)).imp fun σ H Q ⟨hs, ρ, h, R, Sm, RE, w, lk⟩ => ⟨hs, ρ, h, _, Sm, RE, w, fun v H1 d h1 k1 S1 q1 w1 => by
        have hz := blW_iff.1 w1; clear w1; obtain ⟨b, rfl, q3⟩ := hz
        rw [rep_bl] at q1
        exact ⟨b, q1, (lk.keep k1).same S1 (rep_bl.2 rfl) q3⟩⟩
    · exact absurd h Bool.false_ne_true
  | .and as, pe, h => by
    simp only [okH] at h
    split at h
    · simp only [Bool.and_eq_true, Bool.not_eq_true'] at h
      simp only [hE]
      exact sHN O as _ h.2 h.1 _
    · exact absurd h Bool.false_ne_true
  | .v j, pe, h => by
    simp only [okH] at h
    split at h
    · rename_i y p
      unfold nmB at h
      simp only [Bool.and_eq_true, decide_eq_true_eq] at h
      obtain ⟨⟨h1, h2⟩, h3⟩ := h
      simp only [hE]
      have pv : PE (X.suite a ((a, oe) :: pn)) (.Name y p) (tVar j) := pe_var (by show X.N[j]? = _; rw [O.N]; exact h1) (visS O.sc h2) (plain1 h3) (plain2 h3)
      exact pv.imp fun σ H Q ⟨hs, ρ, h, R, Sm, RE, w, lk⟩ => by
        have hz := optW_iff.1 w; clear w; obtain ⟨d, e, w⟩ := hz
        obtain ⟨v, e1, e2⟩ := RE.2 j d e
        exact ⟨v, e1, lk.same Sm e2 w⟩
    · exact absurd h Bool.false_ne_true
  | .tp as, pe, h => by
    simp only [okH] at h
    split at h
    · simp only [Bool.and_eq_true] at h
      simp only [hE]
      exact (pe_tup (sHA O as _ h.2)).imp fun σ H Q ⟨hs, ρ, h, R, Sm, RE, w, lk⟩ => ⟨hs, ρ, h, _, Sm, RE, w, fun vs H1 ds h1 k1 S1 q1 w1 => ⟨by rw [← q1.length]; exact w1.1, (lk.keep k1).tup S1 q1 w1.2⟩⟩
    · exact absurd h Bool.false_ne_true
  | .ls as, pe, h => by
    simp only [okH] at h
    split at h
    · simp only [Bool.and_eq_true] at h
      simp only [hE]
      exact (pe_lst (sHA O as _ h.2)).imp fun σ H Q ⟨hs, ρ, h, R, Sm, RE, w, lk⟩ => ⟨hs, ρ, h, _, Sm, RE, w, fun vs H1 ds h1 k1 S1 q1 w1 => ⟨by rw [← q1.length]; exact w1.1, (lk.keep k1).new S1 q1 w1.2⟩⟩
    · exact absurd h Bool.false_ne_true
theorem sHA (O : OkH X S i en E cls x cD oe) : ∀ (as : HEs) (es : List Expr), okHs S en cls as es = true → PA (X.suite a ((a, oe) :: pn)) es (tHA X.K i a (hA (E.sub x) as))
  | .nil, es, h => by
    simp only [okHs] at h
    have e : es = [] := by simpa using h
    subst e
    simp only [hA]
    exact pa_nil.imp fun σ H Q ⟨hs, ρ, h, R, Sm, RE, w, lk⟩ => lk [] H [] h (TKeep.refl H) Sm .nil w
  | .cons e r, es, h => by
    simp only [okHs] at h
    split at h
    · simp only [Bool.and_eq_true] at h
      obtain ⟨⟨h1, h2⟩, h3⟩ := h
      simp only [hA]
      exact (pa_cons (sH O e _ h2) (sHA O r _ h3) (noStar_each (noStar_cons h1).1 _)).imp fun σ H Q ⟨hs, ρ, h, R, Sm, RE, w, lk⟩ => ⟨hs, ρ, h, _, Sm, RE, w, fun v H1 d h1 k1 S1 q1 w1 => ⟨hs, ρ, h1, _, S1, RE.keep k1, w1, fun vs H2 ds h2 k2 S2 q2 w2 =>
        lk _ _ _ _ (k1.trans k2) S2 (.cons (q1.keep k2) q2) w2⟩⟩
    · exact absurd h Bool.false_ne_true
theorem sHN (O : OkH X S i en E cls x cD oe) : ∀ (as : HEs) (es : List Expr), okHs S en cls as es = true → es.isEmpty = false → ∀ pos, PE (X.suite a ((a, oe) :: pn)) (.BoolOp .And es pos) (tH X.K i a fun ρ h Q => hN (E.sub x) as ρ h fun b h1 => Q (.bl b) h1)
  | .nil, es, h, ne => by
    simp only [okHs] at h
    rw [h] at ne; cases ne
  | .cons e r, es, h, ne => by
    simp only [okHs] at h
    split at h
    · rename_i y es
      simp only [Bool.and_eq_true] at h
      obtain ⟨⟨h1, h2⟩, h3⟩ := h
      intro pos
      have i1 := sH O e _ h2
      cases es with
      | nil =>
        cases r with
        | nil =>
          simp only [hN]
          exact (pe_one i1).imp fun σ H Q ⟨hs, ρ, h, R, Sm, RE, w, lk⟩ => ⟨hs, ρ, h, _, Sm, RE, w, fun v H1 d h1 k1 S1 q1 w1 => by
            have hz := blW_iff.1 w1; clear w1; obtain ⟨b, rfl, w1⟩ := hz
            have w2 : R (.bl b) h1 := by cases b <;> exact w1
            exact lk _ _ _ _ k1 S1 q1 w2⟩
        | cons b r => simp only [okHs] at h3; exact absurd h3 Bool.false_ne_true
      | cons z es =>
        have j2 := sHN O r _ h3 rfl pos
        simp only [hN]
        exact (pe_and i1 j2).imp fun σ H Q ⟨hs, ρ, h, R, Sm, RE, w, lk⟩ => ⟨hs, ρ, h, _, Sm, RE, w, fun v H1 d h1 k1 S1 q1 w1 => by
          have hz := blW_iff.1 w1; clear w1; obtain ⟨b, rfl, w1⟩ := hz
          rw [rep_bl] at q1
          refine ⟨b, q1, ?_⟩
          cases b with
          | true => replace w1 := ifT w1; refine iteT ?_; exact ⟨hs, ρ, h1, _, S1, RE.keep k1, w1, lk.keep k1⟩
          | false => replace w1 := ifF w1; refine iteF ?_; exact (lk.keep k1).same S1 (rep_bl.2 rfl) w1⟩
    · exact absurd h Bool.false_ne_true
end
/-- the suite: slot i holds the error all along -/
def tHS (K : PySem.W.Frag) (i : Nat) (a : Addr) (f : En → Hh → (En → Hh → Prop) → Prop) : TS := fun Dn σ H => σ[i]? = some (some (.ref a)) ∧ ∃ ρ h R, Sim K H h ∧ RepE K H ρ σ ∧ f ρ h R ∧ ∀ σ' H' ρ' h', TKeep H H' → Sim K H' h' → RepE K H' ρ' σ' → R ρ' h' → Dn.nx σ' H'
theorem sHS (O : OkH X S i en E cls x cD oe) : ∀ (hs : List HS) (ss : List Stmt), okHS S en cls hs ss = true → PSs (X.suite a ((a, oe) :: pn)) ss (tHS X.K i a (hS (E.sub x) hs))
  | [], ss, h => by
    have e : ss = [] := by simpa [okHS] using h
    subst e
    exact pss_nil.imp fun Dn σ H ⟨_, ρ, h, R, Sm, RE, w, lk⟩ => lk _ _ _ _ (TKeep.refl H) Sm RE w
  | .set j e :: r, ss, h => by
    simp only [okHS] at h
    split at h
    · rename_i y p pe pos ss
      simp only [Bool.and_eq_true, decide_eq_true_eq] at h
      obtain ⟨⟨⟨⟨⟨h1, h2⟩, h3⟩, h4⟩, h5⟩, h6⟩ := h
      have hj : (X.suite a ((a, oe) :: pn)).N[j]? = some y := by show X.N[j]? = _; rw [O.N]; exact h1
      have hl : X.env.scope.names.lookup y = some .local := by
        rw [O.sc]
        unfold lclB at h2
        split at h2
        · assumption
        · exact absurd h2 Bool.false_ne_true
      have nji : j ≠ i := fun z => by
        subst z
        have := hj.symm.trans O.hi
        cases this; exact h3 rfl
      refine (pss_cons (ps_set (X := X.suite a ((a, oe) :: pn)) O.nd hj (.inl hl) (sH O e _ h5) (notComp_sw h4 _ _ _) (.inr hl)) (sHS O r _ h6)).imp fun Dn σ H ⟨hs, ρ, h, R, Sm, RE, w, lk⟩ => ?_
      exact ⟨hs, ρ, h, _, Sm, RE, w, fun v H1 d h1 k1 S1 q1 w1 => ⟨by rw [List.getElem?_set_ne nji]; exact hs, _, h1, _, S1, (RE.keep k1).set q1, w1, fun σ' H' ρ' h' k2 => lk σ' H' ρ' h' (k1.trans k2)⟩⟩
    · exact absurd h Bool.false_ne_true
  | .app j e :: r, ss, h => by
    simp only [okHS] at h
    split at h
    · rename_i y p m ap pe cp pos ss
      simp only [Bool.and_eq_true, decide_eq_true_eq] at h
      obtain ⟨⟨⟨⟨⟨⟨h1, h2⟩, h3⟩, h4⟩, h5⟩, h6⟩, h7⟩ := h
      subst h2
      unfold nmB at h1
      simp only [Bool.and_eq_true, decide_eq_true_eq] at h1
      obtain ⟨⟨a1, a2⟩, a3⟩ := h1
      have pv : PE (X.suite a ((a, oe) :: pn)) (.Name y p) (tVar j) := pe_var (by show X.N[j]? = _; rw [O.N]; exact a1) (visS O.sc a2) (plain1 a3) (plain2 a3)
      have pb := pe_bm (X := X.suite a ((a, oe) :: pn)) (cpos := cp) (apos := ap) PySem.F.plainAttrs_list PySem.F.slot_list_append PySem.F.type_list_append mt_appendR pv (pa_cons (sH O e _ h6) pa_nil (noStar_each (noStar_cons h5).1 _)) (noCall0_base rfl _ _ _) (by
        rw [noStar_all _ _ h5]; rfl) h3 (noStar_each (noStar_cons h5).1 _) (noStar_any _ _ (noStar_cons h5).2)
      refine (pss_cons (ps_expr pb rfl) (sHS O r _ h7)).imp fun Dn σ H ⟨hs, ρ, h, R, Sm, RE, w, lk⟩ => ?_
      obtain ⟨d, e1, w1, w2⟩ := optW_iff.1 (show optW (getE ρ j) fun x' => mtT .append x' h ∧ hE (E.sub x) e ρ h fun d h1 => mtW .append x' [d] h1 fun _ h2 => hS (E.sub x) r ρ h2 R from w)
      obtain ⟨v, e2, rv⟩ := RE.2 j d e1
      refine ⟨v, e2, tyv_list .append d v H h Sm rv w1, hs, ρ, h, _, Sm, RE, w2, fun v2 H2 d2 h2 k2 S2 q2 w3 => ⟨d, [d2], h2, _, S2, rv.keep k2, .cons q2 .nil, w3, fun v3 H3 d3 h3 k3 S3 q3 w4 => ⟨hs, ρ, h3, R, S3, RE.keep (k2.trans k3), w4, fun σ' H' ρ' h' k4 => lk σ' H' ρ' h' (k2.trans (k3.trans k4))⟩⟩⟩
    · exact absurd h Bool.false_ne_true
end
end Lt

set_option maxHeartbeats 8000000
namespace Lt
open PySem PySem.Spec PyProof.Rows L2

/-- a comprehension stored at a local name of the same line -/
def swB (S : Sc) (x : Str) (py : Pos) : Expr → Bool
  | .ListComp _ _ scope pos => lclB S x && (py.line == pos.line) && !(scope.names.any fun (n, k) => n == x && (k == .local || k == .cell))
  | _ => false
def cellB (S : Sc) (x : Str) : Bool := match S.sc.names.lookup x with
  | some .cell => true
  | _ => false
mutual
def okS (T : Tab) : S → Sc → Stmt → Bool
  | .pass => fun _ s => match s with
    | .Pass _ => true
    | _ => false
  | .ex e => fun S s => match s with
    | .Expr pe _ => notComp pe && okE T e S pe
    | _ => false
  | .as i e => fun S s => match s with
    | .Assign [.Name x py] pe _ => decide (S.N[i]? = some x) && locB S x && okE T e S pe && (notComp pe || cellB S x || (swB S x py pe && (match e with | .lc .. => true | _ => false)))
    | _ => false
  | .asT is e => fun S s => match s with
    | .Assign [tg] pe _ => isTup tg && !isTup pe && notComp pe && okT S (.tp is) tg && okE T e S pe
    | _ => false
  | .par i j a b => fun S s => match s with
    | .Assign [.Tuple [.Name x px, .Name y py] _ _] (.Tuple [p, q] _ _) _ => decide (S.N[i]? = some x) && decide (S.N[j]? = some y) && decide (i ≠ j) && decide (x ≠ y) && lclB S x && lclB S y && (px.line == py.line) && noStar [p, q] &&
        !([p, q].all (foldedForSure 8)) && !([p, q].all (constantsAlone 8)) && S.fn.isNone && okE T a S p && okE T b S q
    | _ => false
  | .asI a i e => fun S s => match s with
    | .Assign [.Subscript o ix _] pe _ => notComp pe && noSlice ix && okE T a S o && okE T i S ix && okE T e S pe
    | _ => false
  | .ret e => fun S s => match s with
    | .Return (some pe) _ => okE T e S pe
    | _ => false
  | .retN => fun _ s => match s with
    | .Return none _ => true
    | _ => false
  | .ite c a b => fun S s => match s with
    | .If pc pa pb _ => okE T c S pc && okB T a S pa && okB T b S pb
    | _ => false
  | .wh c b => fun S s => match s with
    | .While pc pb [] _ => okE T c S pc && okB T b S pb
    | _ => false
  | .fr k as t b => fun S s => match s with
    | .For tg iter pb [] _ => noSet iter && okT S t tg && (match itArgs S k tg iter with
      | some es => okA T as S es
      | none => false) && okB T b S pb
    | _ => false
  | .rs c => fun S s => match s with
    | .Raise (some (.Call (.Name x _) [.Constant (.str _) _ _] [] _)) none _ => decide (x = c) && glB S x && plainB x && T.excs.contains x
    | _ => false
  | .skip => fun _ _ => false
  | .seq _ _ => fun _ _ => false
  | .fz _ => fun _ _ => false
  | .fg _ => fun _ _ => false
  | .tr b c i hs => fun S s => match s with
    | .Try body [.ExceptHandler (some (.Name x _)) (some n) (s0 :: suite) _] [] [] _ => decide (x = c) && glB S x && plainB x && T.hcls.contains x && decide (S.N[i]? = some n) && lclB S n && okB T b S body && okHS S n T.hcls hs (s0 :: suite)
    | _ => false
def okB (T : Tab) : S → Sc → List Stmt → Bool
  | .skip => fun _ ss => ss.isEmpty
  | .seq (.fz i) r => fun S ss => okB T r S ss
  | .seq (.fg is) r => fun S ss => okB T r S ss
  | .seq a r => fun S ss => match ss with
    | s :: ss => okS T a S s && okB T r S ss
    | [] => false
  | _ => fun _ _ => false
end

structure LkS (K : PySem.W.Frag) (mg : Str → Option Value) (W : WX) (H : Hp) (E : Ed) (D : Ends) : Prop where
  nx : ∀ σ' H' ρ' h', TKeep H H' → Sim K H' h' → RepE K H' ρ' σ' → E.nx ρ' h' → D.nx σ' H'
  rt : LkV K H E.rt D.rt
  ex : ∀ c u σ' H' ρ' h', TKeep H H' → Sim K H' h' → RepE K H' ρ' σ' → mg c = some u → E.ex c ρ' h' → W u none σ' H'
theorem LkS.keep {K : PySem.W.Frag} {mg : Str → Option Value} {W : WX} {H H1 : Hp} {E : Ed} {D : Ends} (l : LkS K mg W H E D) (k : TKeep H H1) : LkS K mg W H1 E D :=
  ⟨fun σ' H' ρ' h' k1 => l.nx σ' H' ρ' h' (k.trans k1), l.rt.keep k, fun c u σ' H' ρ' h' k1 => l.ex c u σ' H' ρ' h' (k.trans k1)⟩
theorem LkS.lx {K : PySem.W.Frag} {mg : Str → Option Value} {W : WX} {H : Hp} {E : Ed} {D : Ends} {ρ : En} {σ : L2.St} (l : LkS K mg W H E D) (r : RepE K H ρ σ) : LkX K mg W σ H fun c h => E.ex c ρ h :=
  fun c u H' h' k S m q => l.ex c u σ H' ρ h' k S (r.keep k) m q
abbrev FS := En → Hh → Ed → Prop
def tS (K : PySem.W.Frag) (mg : Str → Option Value) (W : WX) (f : FS) : TS := fun D σ H => ∃ ρ h E, Sim K H h ∧ RepE K H ρ σ ∧ f ρ h E ∧ LkS K mg W H E D
section
variable {X : Cx} {W : WX} {a b e tg : Expr} {fa fb fe : FE} {pos : Pos} {st : Stmt} {ss : List Stmt} {f g : FS}
theorem st_skip : PSs X [] (tS X.K X.mg W fun ρ h K => K.nx ρ h) := pss_nil.imp fun D σ H ⟨ρ, h, E, S, RE, w, L⟩ => L.nx _ _ _ _ (TKeep.refl H) S RE w
theorem st_seq (h1 : PS X st (tS X.K X.mg W f)) (h2 : PSs X ss (tS X.K X.mg W g)) : PSs X (st :: ss) (tS X.K X.mg W fun ρ h K => f ρ h { K with nx := fun ρ1 h1 => g ρ1 h1 K }) :=
  (pss_cons h1 h2).imp fun D σ H ⟨ρ, h, E, S, RE, w, L⟩ => ⟨ρ, h, _, S, RE, w, ⟨fun σ' H' ρ' h' k1 S1 R1 q => ⟨ρ', h', E, S1, R1, q, L.keep k1⟩, L.rt, L.ex⟩⟩
theorem st_pass : PS X (.Pass pos) (tS X.K X.mg W fun ρ h K => K.nx ρ h) := ps_pass.imp fun D σ H ⟨ρ, h, E, S, RE, w, L⟩ => L.nx _ _ _ _ (TKeep.refl H) S RE w
theorem st_ex (he : PE X e (tE X.K X.mg W fe)) (hc : notComp e = true) : PS X (.Expr e pos) (tS X.K X.mg W fun ρ h K => fe ρ h (fun _ h1 => K.nx ρ h1) fun c h1 => K.ex c ρ h1) :=
  (ps_expr he (notComp_sw hc _ _ _)).imp fun D σ H ⟨ρ, h, E, S, RE, w, L⟩ => ⟨ρ, h, _, _, S, RE, w, fun v H1 d h1 k1 S1 r1 q1 => L.nx _ _ _ _ k1 S1 (RE.keep k1) q1, L.lx RE⟩
theorem as_aux {i : Nat} {t : TE} {D : Ends} {σ : L2.St} {H : Hp} (ht : ∀ σ H Q, tE X.K X.mg W fe σ H Q → t σ H Q) (hh : tS X.K X.mg W (fun ρ h K => fe ρ h (fun d h1 => K.nx (setE ρ i (some d)) h1) fun c h1 => K.ex c ρ h1) D σ H) : tAsg t (gName i) D σ H := by
  obtain ⟨ρ, h, E, S, RE, w, L⟩ := hh
  exact ht _ _ _ ⟨ρ, h, _, _, S, RE, w, fun v H1 d h1 k1 S1 r1 q1 => L.nx _ _ _ _ k1 S1 ((RE.keep k1).set r1) q1, L.lx RE⟩
theorem st_as {i : Nat} {x : Str} {p : Pos} (hN : X.N.Nodup) (hi : X.N[i]? = some x) (hx : L2.Loc X.env.scope x) (hf : X.fn x = true ∨ X.env.scope.names.lookup x = some .local) (he : PE X e (tE X.K X.mg W fe)) (hs : swapsWith e (some (.Name x p)) pos.line X.env = pure false) :
    PS X (.Assign [.Name x p] e pos) (tS X.K X.mg W fun ρ h K => fe ρ h (fun d h1 => K.nx (setE ρ i (some d)) h1) fun c h1 => K.ex c ρ h1) :=
  (ps_set hN hi hx he hs hf).imp fun D σ H hh => as_aux (fun _ _ _ z => z) hh
theorem st_asT {is : List Nat} (ht : isTup tg = true) (he : PE X e (tE X.K X.mg W fe)) (hg : PG X tg (gT X.K (.tp is))) (hc : notComp e = true) (hn : isTup e = false) :
    PS X (.Assign [tg] e pos) (tS X.K X.mg W fun ρ h K => fe ρ h (fun d h1 => tgW (.tp is) d ρ fun ρ1 => K.nx ρ1 h1) fun c h1 => K.ex c ρ h1) := by
  refine (ps_asg he hg ?_ ?_ ?_).imp fun D σ H ⟨ρ, h, E, S, RE, w, L⟩ => ⟨ρ, h, _, _, S, RE, w, fun v H1 d h1 k1 S1 r1 q1 => gT_ok q1 (RE.keep k1) r1 fun ρ1 σ1 R1 q2 _ => L.nx _ _ _ _ k1 S1 R1 q2, L.lx RE⟩
  · exact notComp_sw hc _ _ _
  · unfold isTup at ht
    split at ht
    · cases e <;> first
        | rfl
        | exact absurd hn (by simp [isTup])
    · exact absurd ht Bool.false_ne_true
  · unfold isTup at ht
    split at ht
    · rfl
    · exact absurd ht Bool.false_ne_true
theorem notStar_m {c : Expr} (hc : ∀ e p, c ≠ .Starred e p) : (match c with | .Starred .. => true | _ => false) = false := by
  cases c <;> first
    | rfl
    | exact absurd rfl (hc _ _)
theorem st_par {i j : Nat} {x y : Str} {px py pt pt2 : Pos} {kt k2 : Nat} (hc : X.calm = true) (hN : X.N.Nodup) (hi : X.N[i]? = some x) (hj : X.N[j]? = some y) (hij : i ≠ j) (hxy : x ≠ y)
    (hx : X.env.scope.names.lookup x = some .local) (hy : X.env.scope.names.lookup y = some .local) (hl : (px.line == py.line) = true) (ha : PE X a (tE X.K X.mg W fa)) (hb : PE X b (tE X.K X.mg W fb)) (ns : noStar [a, b] = true)
    (h1 : [a, b].all (foldedForSure 8) = false) (h2 : [a, b].all (constantsAlone 8) = false) (hk : X.env.blockKind = .function) :
    PS X (.Assign [.Tuple [.Name x px, .Name y py] kt pt] (.Tuple [a, b] k2 pt2) pos) (tS X.K X.mg W fun ρ h K => fa ρ h (fun x h1 => fb ρ h1 (fun y h2 => K.nx (setE (setE ρ i (some x)) j (some y)) h2) fun c h2 => K.ex c ρ h2) fun c h1 => K.ex c ρ h1) := by
  have hA : PA X [a, b] (tCons (tE X.K X.mg W fa) (tCons (tE X.K X.mg W fb) tNil)) := pa_cons ha (pa_cons hb pa_nil (noStar_each (noStar_cons (noStar_cons ns).2).1 _)) (noStar_each (noStar_cons ns).1 _)
  refine (ps_par hc hN hi hj hij hx hy hA ?_ rfl).imp fun D σ H ⟨ρ, h, E, S, RE, w, L⟩ => ⟨ρ, h, _, _, S, RE, w, fun v H1 d h1 k1 S1 r1 q1 => ⟨ρ, h1, _, _, S1, RE.keep k1, q1, fun v2 H2 d2 h2 k2 S2 r2 q2 => ?_, L.lx RE |>.keep k1⟩, L.lx RE⟩
  · obtain ⟨n1, n2⟩ := noStar_cons ns
    obtain ⟨n3, _⟩ := noStar_cons n2
    have kx : X.env.kindOf x = some .local := hx
    have ky : X.env.kindOf y = some .local := hy
    have e2 : (y == x) = false := beq_false_of_ne (Ne.symm hxy)
    unfold swappedStores
    simp only [hk, kx, ky, h1, h2]
    simp [Expr.pos, eq_of_beq hl, kx, ky, hxy, List.eraseDups, List.eraseDupsBy, List.eraseDupsBy.loop, Ne.symm hxy]
    intro h
    exact absurd (by rw [e2]; rfl) h
  · exact ⟨v, v2, rfl, L.nx _ _ _ _ (k1.trans k2) S2 ((((RE.keep k1).keep k2).set (r1.keep k2)).set r2) q2⟩
theorem RepE.upd_slot {K : PySem.W.Frag} {H : Hp} {ρ : En} {σ : L2.St} {i : Nat} {d : D} {v : V} (r : RepE K H ρ σ) (e : σ[i]? = some (some v)) (rd : Rep K H d v) : RepE K H (setE ρ i (some d)) σ := by
  have q := r.set (i := i) rd
  have e2 : σ.set i (some v) = σ := by
    apply List.ext_getElem?
    intro j
    by_cases h : i = j
    · subst h
      have hl : i < σ.length := by
        by_cases z : i < σ.length
        · exact z
        · rw [List.getElem?_eq_none (by omega)] at e; cases e
      rw [List.getElem?_set_self hl, e]
    · rw [List.getElem?_set_ne h]
  rwa [e2] at q
/-- a slot's list is made a value, no row of the text -/
theorem st_fzi {i : Nat} (h2 : PSs X ss (tS X.K X.mg W g)) : PSs X ss (tS X.K X.mg W fun ρ h K => optW (getE ρ i) fun d => frzW d h fun d1 h1 => g (setE ρ i (some d1)) h1 K) := by
  refine ⟨fun pins s σ H D I ⟨ρ, h, E, S, RE, w, L⟩ => ?_⟩
  obtain ⟨d, e, w⟩ := optW_iff.1 w
  obtain ⟨v, e1, r1⟩ := RE.2 i d e
  obtain ⟨H2, d2, h2', I2, k2, S2, q2, w2⟩ := frz_ok (R := fun d1 h1 => g (setE ρ i (some d1)) h1 E) I S r1 w
  exact h2.run pins s σ H2 D I2 ⟨_, h2', E, S2, (RE.keep k2).upd_slot e1 q2, w2, L.keep k2⟩
theorem RepE.forget {K : PySem.W.Frag} {H : Hp} {ρ : En} {σ : L2.St} (r : RepE K H ρ σ) : ∀ (vs : List Nat), RepE K H (wipeE ρ vs) σ
  | [] => r
  | v :: vs => by
    unfold wipeE
    have q := RepE.forget r vs
    refine ⟨by rw [setE_length]; exact q.1, fun j e h => ?_⟩
    rcases getE_set h with ⟨h1, h2⟩ | ⟨h1, h2⟩
    · cases h2
    · exact q.2 j e h2
/-- slots are forgotten, no row of the text -/
theorem st_fg {is : List Nat} (h2 : PSs X ss (tS X.K X.mg W g)) : PSs X ss (tS X.K X.mg W fun ρ h K => g (wipeE ρ is) h K) :=
  h2.imp fun D σ H ⟨ρ, h, E, S, RE, w, L⟩ => ⟨_, h, E, S, RE.forget is, w, L⟩
def tset (K : PySem.W.Frag) : TSet := fun o i v H Q => ∃ x y z h R, Sim K H h ∧ Rep K H x o ∧ Rep K H y i ∧ Rep K H z v ∧ asW x y z h R ∧ ∀ H' h', TKeep H H' → Sim K H' h' → R h' → Q H'
theorem set_ok : PSet X (tset X.K) := by
  intro pins s σ H o i v ov iv u Q I ro ri rv hh
  obtain ⟨x, y, z, h, R, S, r1, r2, r3, w, lk⟩ := hh
  cases x <;> cases y <;> first
    | exact w.elim
    | skip
  rw [rep_ref] at r1; rw [rep_int] at r2; subst r1 r2
  rename_i a k
  obtain ⟨xs, e, w⟩ := optW_iff.1 (show optW (wrL h a) fun xs => optW (ixN xs.length k) fun j => R (up h a (.lst (xs.set j z))) from w)
  obtain ⟨j, e2, w⟩ := optW_iff.1 w
  obtain ⟨vs, h1, r⟩ := S.wr e
  have kk : TKeep H (upd H a (.lst (vs.set j v))) := TKeep.lst h1
  exact set_list pins s σ H _ _ v ov iv u Q I ro ri rv ⟨a, vs, k, j, rfl, rfl, h1, by rw [← r.length]; exact e2, lk _ _ kk (S.lst kk (r.set j r3)) w⟩
theorem st_asI {o i : Expr} {fo fi : FE} {p : Pos} (ho : PE X o (tE X.K X.mg W fo)) (hi : PE X i (tE X.K X.mg W fi)) (he : PE X e (tE X.K X.mg W fe)) (hc : notComp e = true) (hs : noSlice i = true) :
    PS X (.Assign [.Subscript o i p] e pos) (tS X.K X.mg W fun ρ h K => fe ρ h (fun z h1 => fo ρ h1 (fun x h2 => fi ρ h2 (fun y h3 => asW x y z h3 fun h4 => K.nx ρ h4) fun c h1 => K.ex c ρ h1) fun c h1 => K.ex c ρ h1) fun c h1 => K.ex c ρ h1) := by
  have hg := pg_sub (pos := p) ho hi (set_ok (X := X)) (fun v => by
    cases i <;> first
      | rfl
      | exact absurd hs Bool.false_ne_true)
  refine (ps_asg (pos := pos) he hg (by exact notComp_sw hc (some (.Subscript o i p)) pos.line X.env) rfl rfl).imp fun D σ H ⟨ρ, h, E, S, RE, w, L⟩ => ⟨ρ, h, _, _, S, RE, w, fun v H1 d h1 k1 S1 r1 q1 => ⟨ρ, h1, _, _, S1, RE.keep k1, q1, fun v2 H2 d2 h2 k2 S2 r2 q2 => ⟨ρ, h2, _, _, S2, (RE.keep k1).keep k2, q2, fun v3 H3 d3 h3 k3 S3 r3 q3 => ?_, L.lx RE |>.keep (k1.trans k2)⟩, L.lx RE |>.keep k1⟩, L.lx RE⟩
  exact ⟨d2, d3, d, h3, _, S3, r2.keep k3, r3, r1.keep (k2.trans k3), q3, fun H' h' k4 S4 q4 => L.nx _ _ _ _ (k1.trans (k2.trans (k3.trans k4))) S4 (RE.keep (k1.trans (k2.trans (k3.trans k4)))) q4⟩
theorem st_ret (he : PE X e (tE X.K X.mg W fe)) : PS X (.Return (some e) pos) (tS X.K X.mg W fun ρ h K => fe ρ h K.rt fun c h1 => K.ex c ρ h1) :=
  (ps_ret he).imp fun D σ H ⟨ρ, h, E, S, RE, w, L⟩ => ⟨ρ, h, _, _, S, RE, w, L.rt, L.lx RE⟩
theorem st_retN : PS X (.Return none pos) (tS X.K X.mg W fun ρ h K => K.rt .non h) := ps_retN.imp fun D σ H ⟨ρ, h, E, S, RE, w, L⟩ => L.rt.same S (rep_non.2 rfl) w
theorem st_ite {c : Expr} {fc : FE} {pa pb : List Stmt} (hc : PT X c (tT X.K X.mg W (bT fc))) (ha : PSs X pa (tS X.K X.mg W f)) (hb : PSs X pb (tS X.K X.mg W g)) :
    PS X (.If c pa pb pos) (tS X.K X.mg W fun ρ h K => fc ρ h (fun d h1 => blW d fun d => if d = true then f ρ h1 K else g ρ h1 K) fun c h1 => K.ex c ρ h1) :=
  (ps_if hc ha hb).imp fun D σ H ⟨ρ, h, E, S, RE, w, L⟩ => ⟨ρ, h, fun b h1 => if b = true then f ρ h1 E else g ρ h1 E, _, S, RE, w, fun b H1 h1 k1 S1 w1 => by
    cases b with
    | true => replace w1 := ifT w1; refine iteT ?_; exact ⟨ρ, h1, E, S1, RE.keep k1, w1, L.keep k1⟩
    | false => replace w1 := ifF w1; refine iteF ?_; exact ⟨ρ, h1, E, S1, RE.keep k1, w1, L.keep k1⟩, L.lx RE⟩
theorem st_wh {c : Expr} {fc : FE} {pb : List Stmt} (hp : PassesOwn (model X.prog X.w) X.A X.env X.xe) (hc : PT X c (tT X.K X.mg W (bT fc))) (hb : PSs X pb (tS X.K X.mg W f)) :
    PS X (.While c pb [] pos) (tS X.K X.mg W fun ρ h K => whI fc f K ρ h) := by
  refine (ps_while hp hc hb).imp fun D σ H ⟨ρ, h, E, S, RE, ⟨n, w⟩, L⟩ => ?_
  refine ⟨fun m σ' H' => ∃ ρ' h', TKeep H H' ∧ Sim X.K H' h' ∧ RepE X.K H' ρ' σ' ∧ whW (fun ρ h Q => fc ρ h Q fun c h1 => E.ex c ρ h1) f E m ρ' h', ⟨n, ρ, h, TKeep.refl H, S, RE, w⟩, ?_⟩
  rintro m σ1 H1 ⟨ρ1, h1, k1, S1, R1, w1⟩
  cases m with
  | zero => exact w1.elim
  | succ m =>
    refine ⟨ρ1, h1, fun d h2 => if d = true then f ρ1 h2 { E with nx := whW (fun ρ h Q => fc ρ h Q fun c h1 => E.ex c ρ h1) f E m } else E.nx ρ1 h2, _, S1, R1, w1, fun b H2 h2 k2 S2 w2 => ?_, (L.keep k1).lx R1⟩
    cases b with
    | true =>
      replace w2 := ifT w2
      refine iteT ?_
      refine ⟨fun σ' H' => ∃ ρ' h', TKeep H H' ∧ Sim X.K H' h' ∧ RepE X.K H' ρ' σ' ∧ whW (fun ρ h Q => fc ρ h Q fun c h1 => E.ex c ρ h1) f E m ρ' h', fun σ' H' q => ⟨m, Nat.lt_succ_self _, q⟩, ρ1, h2, _, S2, R1.keep k2, w2, ⟨fun σ' H' ρ' h' k3 S3 R3 q => ⟨ρ', h', k1.trans (k2.trans k3), S3, R3, q⟩, L.rt.keep (k1.trans k2), (L.keep (k1.trans k2)).ex⟩⟩
    | false =>
      replace w2 := ifF w2
      refine iteF ?_
      exact L.nx _ _ _ _ (k1.trans k2) S2 (R1.keep k2) w2
theorem st_fr {iter : Expr} {fi : FI} {t : Tg} {pb : List Stmt} (hp : PassesOwn (model X.prog X.w) X.A X.env X.xe) (hc : X.calm = true) (hi : PI X tg iter (tI X.K X.mg W fi)) (hg : PG X tg (gT X.K t)) (hb : PSs X pb (tS X.K X.mg W f)) (hs : ∀ x, foldedSetIterable iter X.env x = pure x) :
    PS X (.For tg iter pb [] pos) (tS X.K X.mg W fun ρ h K => fi ρ h (fun it h2 => frI it t f K ρ h2) fun c h1 => K.ex c ρ h1) := by
  refine (ps_for hp hc hi hg hb hs).imp fun D σ H ⟨ρ, h, E, S, RE, w, L⟩ => ⟨ρ, h, _, _, S, RE, w, fun J H1 it h1 k1 S1 io w1 => ?_, L.lx RE⟩
  obtain ⟨n, w1⟩ := frP_of w1
  refine ⟨fun i m σ' H' => ∃ ρ' h', TKeep H1 H' ∧ Sim X.K H' h' ∧ RepE X.K H' ρ' σ' ∧ frP it t f E m i ρ' h', ⟨n, ρ, h1, TKeep.refl H1, S1, RE.keep k1, w1⟩, ?_⟩
  rintro i m σ2 H2 ⟨ρ2, h2, k2, S2, R2, w2⟩
  obtain ⟨m, rfl, w2'⟩ := frP_step w2
  clear w2
  split at w2'
  · exact w2'.elim
  · rename_i e
    exact .inl ⟨io.stop i H2 h2 k2 S2 e, L.nx _ _ _ _ (k1.trans k2) S2 R2 w2'⟩
  · rename_i d e
    obtain ⟨g1, g2⟩ := io.go i H2 h2 d k2 S2 e
    refine .inr ⟨g1, fun σ' H' => ∃ ρ' h', TKeep H1 H' ∧ Sim X.K H' h' ∧ RepE X.K H' ρ' σ' ∧ frP it t f E m (i + 1) ρ' h', fun σ' H' q => ⟨m, Nat.lt_succ_self _, q⟩, fun x H3 y => ?_⟩
    obtain ⟨k3, S3, r3⟩ := g2 x H3 y
    refine gT_ok w2' (R2.keep k3) r3 fun ρ1 σ1 RE1 w3 _ => ⟨ρ1, h2, _, S3, RE1, w3, ⟨fun σ' H' ρ' h' k4 S4 R4 q => ⟨ρ', h', k2.trans (k3.trans k4), S4, R4, q⟩, L.rt.keep (k1.trans (k2.trans k3)), (L.keep (k1.trans (k2.trans k3))).ex⟩⟩
end
end Lt

set_option maxHeartbeats 8000000
namespace Lt
open PySem PySem.Spec PyProof.Rows L2
section
variable {T : Tab} (C : Cn)
theorem lc_parts {X : Cx} {W : WX} {S : Sc} (O : Ok C T X W S) {k : Ik} {as : Es} {t : Tg} {own : List (Str × Nat)} {c e : E} {el : Expr} {gs : List Comprehension} {scope : Scope} {pos : Pos} (h : okE T (.lc k as t own c e) S (.ListComp el gs scope pos) = true) :
    ∃ tg iter ifs, gs = [⟨tg, iter, ifs, 0⟩] ∧ PI X tg iter (tI X.K X.mg W fun ρ h R Y => wA C as ρ h (fun xs h1 => itW k xs h1 R) Y) ∧ BlkOk X.N X.env.scope scope own ∧ (∀ i ∈ slots t, i ∈ own.map (·.2)) ∧
      (∀ (s : Shared) (H : Hp) (a : Addr) (cl : List (Str × Addr)) (fp : List Addr), PG (X.blk s H scope (compEnvC scope cl a X.env) fp) tg (gT X.K t)) ∧
      (∀ (s : Shared) (H : Hp) (a : Addr) (cl : List (Str × Addr)) (fp : List Addr), PTs (X.blk s H scope (compEnvC scope cl a X.env) fp) ifs (tT X.K X.mg (fun _ _ _ _ => False) (bT (wE C c)))) ∧
      (∀ (s : Shared) (H : Hp) (a : Addr) (cl : List (Str × Addr)) (fp : List Addr), PE (X.blk s H scope (compEnvC scope cl a X.env) fp) el (tE X.K X.mg (fun _ _ _ _ => False) (wE C e))) ∧ ∀ x, foldedSetIterable iter X.env x = pure x := by
  simp only [okE] at h
  split at h
  · rename_i el' tg iter ifs scope' pos' q
    cases q
    simp only [Bool.and_eq_true] at h
    obtain ⟨⟨⟨⟨⟨⟨h1, h2⟩, h3⟩, h4⟩, h5⟩, h6⟩, h7⟩ := h
    split at h5
    · rename_i es q
      refine ⟨tg, iter, ifs, rfl, ?_, ?_, ?_, fun s H a cl fp => okT_ok (O.blk _ s H a cl fp) h4, ?_, fun s H a cl fp => (sE C e (O.blk _ s H a cl fp) _ h7).1, noSet_fold h1 _⟩
      · refine s_it O q (sA C as O _ h5) (fun hk a ea => ?_) (fun hk => ?_)
        · subst hk ea
          cases q
          simp only [okA, Bool.and_eq_true] at h5
          have h5' := h5.1.2
          exact (sE C a O _ h5').1
        · subst hk
          cases q
          cases as with
          | nil => simp only [okA] at h5; exact absurd h5 Bool.false_ne_true
          | cons a r =>
            cases r with
            | nil => exact ⟨a, rfl⟩
            | cons b r => simp only [okA, Bool.and_eq_true] at h5; exact absurd h5.2 Bool.false_ne_true
      · rw [O.N, O.sc]; exact blkOk_by h2
      · exact fun i hi => by
          have := List.all_eq_true.mp h3 i hi
          simpa using this
      · intro s H a cl fp
        split at h6
        · split at h6
          · simp only [wE]
            exact ⟨fun pins s σ H Q I ⟨ρ, h, R, Y, Sm, RE, w, lk, lx⟩ => pts_nil.run pins s σ H Q I (lk true H h (TKeep.refl H) Sm w)⟩
          · exact absurd h6 Bool.false_ne_true
        · exact pts_one (sE C c (O.blk _ s H a cl fp) _ h6).2
        · exact absurd h6 Bool.false_ne_true
    · exact absurd h5 Bool.false_ne_true
  · exact absurd h Bool.false_ne_true
theorem cell_sw {e : Expr} {x : Str} {p : Pos} {l : Nat} {env : Env} (h : env.kindOf x = some .cell) : swapsWith e (some (.Name x p)) l env = pure false := by
  cases e <;> first
    | rfl
    | (have e : (NameKind.cell == NameKind.local) = false := rfl
       simp [swapsWith, h, e])
theorem swB_inv {S : Sc} {x : Str} {py : Pos} {e : Expr} (h : swB S x py e = true) : ∃ el gs scope pos, e = .ListComp el gs scope pos ∧ lclB S x = true ∧ (py.line == pos.line) = true ∧ (scope.names.any fun (n, k) => n == x && (k == .local || k == .cell)) = false := by
  unfold swB at h
  split at h
  · simp only [Bool.and_eq_true, Bool.not_eq_true'] at h
    obtain ⟨⟨l1, l2⟩, l3⟩ := h
    exact ⟨_, _, _, _, rfl, l1, l2, l3⟩
  · exact absurd h Bool.false_ne_true
structure OkS (C : Cn) (T : Tab) (X : Cx) (W : WX) (S : Sc) : Prop where
  o : Ok C T X W S
  po : PassesOwn (model X.prog X.w) X.A X.env X.xe
  kd : X.env.scope.kind = .function
  stk : X.stack = X.env :: X.outer
  frm : X.env.frame = some X.env.locals
  ef : ExFacts X.K X.mg C.ex T.hcls
mutual
theorem sS {X : Cx} {W : WX} {S : Sc} (O : OkS C T X W S) : ∀ (s : Lt.S) (st : Stmt), okS T s S st = true → PS X st (tS X.K X.mg W (wS C s))
  | .pass, st, h => by
    simp only [okS] at h
    split at h
    · simp only [wS]; exact st_pass
    · exact absurd h Bool.false_ne_true
  | .ex e, st, h => by
    simp only [okS] at h
    split at h
    · simp only [Bool.and_eq_true] at h
      simp only [wS]; exact st_ex (sE C e O.o _ h.2).1 h.1
    · exact absurd h Bool.false_ne_true
  | .as i e, st, h => by
    simp only [okS] at h
    split at h
    · rename_i x py pe spos
      simp only [Bool.and_eq_true, decide_eq_true_eq] at h
      obtain ⟨⟨⟨h1, h2⟩, h3⟩, h4⟩ := h
      have hi : X.N[i]? = some x := by rw [O.o.N]; exact h1
      simp only [wS]
      rcases Bool.or_eq_true _ _ ▸ h4 with h4 | h4
      · rcases Bool.or_eq_true _ _ ▸ h4 with h4 | h4
        · exact st_as O.o.nd hi (O.o.loc h2).1 (O.o.loc h2).2 (sE C e O.o _ h3).1 (notComp_sw h4 _ _ _)
        · refine st_as O.o.nd hi (O.o.loc h2).1 (O.o.loc h2).2 (sE C e O.o _ h3).1 (cell_sw ?_)
          show X.env.scope.names.lookup x = _
          rw [O.o.sc]
          unfold cellB at h4
          split at h4
          · assumption
          · exact absurd h4 Bool.false_ne_true
      · rw [Bool.and_eq_true] at h4
        obtain ⟨h6, h5⟩ := h4
        split at h5
        · rename_i k as t own c e
          · obtain ⟨el, gs, scope, pos, rfl, l1, l2, l3⟩ := swB_inv h6
            obtain ⟨tg, iter, ifs, rfl, hi', ok, hsl, hg, ht, he, hs⟩ := lc_parts C O.o h3
            have hyl : X.env.scope.names.lookup x = some .local := by
              rw [O.o.sc]
              unfold lclB at l1
              split at l1
              · assumption
              · exact absurd l1 Bool.false_ne_true
            refine (ps_setLc O.o.calm O.o.nd hi hyl (sw_true O.kd hyl l2 l3) hi' ok hg ht he hs).imp fun D σ H hh => as_aux (fe := wE C (.lc k as t own c e)) (fun σ H Q q => ?_) hh
            refine s_lc (W := W) (c := none) O.o.calm O.o.nd hi' ok hsl hg ht he hs σ H Q ?_
            simp only [wE] at q
            exact q
        · exact absurd h5 Bool.false_ne_true
    · exact absurd h Bool.false_ne_true
  | .asT is e, st, h => by
    simp only [okS] at h
    split at h
    · simp only [Bool.and_eq_true, Bool.not_eq_true'] at h
      obtain ⟨⟨⟨⟨h1, h2⟩, h3⟩, h4⟩, h5⟩ := h
      simp only [wS]; exact st_asT h1 (sE C e O.o _ h5).1 (okT_ok O.o h4) h3 h2
    · exact absurd h Bool.false_ne_true
  | .par i j a b, st, h => by
    simp only [okS] at h
    split at h
    · simp only [Bool.and_eq_true, Bool.not_eq_true', decide_eq_true_eq] at h
      obtain ⟨⟨⟨⟨⟨⟨⟨⟨⟨⟨⟨⟨h1, h2⟩, h3⟩, h4⟩, h5⟩, h6⟩, h7⟩, h8⟩, h9⟩, h10⟩, h11⟩, h12⟩, h13⟩ := h
      have lcl : ∀ {x : Str}, lclB S x = true → X.env.scope.names.lookup x = some .local := fun {x} l1 => by
        rw [O.o.sc]
        unfold lclB at l1
        split at l1
        · assumption
        · exact absurd l1 Bool.false_ne_true
      simp only [wS]
      exact st_par O.o.calm O.o.nd (by rw [O.o.N]; exact h1) (by rw [O.o.N]; exact h2) h3 h4 (lcl h5) (lcl h6) h7 (sE C a O.o _ h12).1 (sE C b O.o _ h13).1 h8 h9 h10 (by unfold Env.blockKind; rw [O.kd]; rfl)
    · exact absurd h Bool.false_ne_true
  | .asI a i e, st, h => by
    simp only [okS] at h
    split at h
    · simp only [Bool.and_eq_true] at h
      obtain ⟨⟨⟨⟨h1, h2⟩, h3⟩, h4⟩, h5⟩ := h
      simp only [wS]; exact st_asI (sE C a O.o _ h3).1 (sE C i O.o _ h4).1 (sE C e O.o _ h5).1 h1 h2
    · exact absurd h Bool.false_ne_true
  | .ret e, st, h => by
    simp only [okS] at h
    split at h
    · simp only [wS]; exact st_ret (sE C e O.o _ h).1
    · exact absurd h Bool.false_ne_true
  | .retN, st, h => by
    simp only [okS] at h
    split at h
    · simp only [wS]; exact st_retN
    · exact absurd h Bool.false_ne_true
  | .ite c a b, st, h => by
    simp only [okS] at h
    split at h
    · simp only [Bool.and_eq_true] at h
      obtain ⟨⟨h1, h2⟩, h3⟩ := h
      simp only [wS]; exact st_ite (sE C c O.o _ h1).2 (sB O a _ h2) (sB O b _ h3)
    · exact absurd h Bool.false_ne_true
  | .wh c b, st, h => by
    simp only [okS] at h
    split at h
    · simp only [Bool.and_eq_true] at h
      simp only [wS]; exact st_wh O.po (sE C c O.o _ h.1).2 (sB O b _ h.2)
    · exact absurd h Bool.false_ne_true
  | .fr k as t b, st, h => by
    simp only [okS] at h
    split at h
    · rename_i tg iter pb pos
      simp only [Bool.and_eq_true] at h
      obtain ⟨⟨⟨h1, h2⟩, h3⟩, h4⟩ := h
      split at h3
      · rename_i es q
        have hi : PI X tg iter (tI X.K X.mg W fun ρ h R Y => wA C as ρ h (fun xs h1 => itW k xs h1 R) Y) := by
          refine s_it O.o q (sA C as O.o _ h3) (fun hk a ea => ?_) (fun hk => ?_)
          · subst hk ea
            cases q
            simp only [okA, Bool.and_eq_true] at h3
            have h3' := h3.1.2
            exact (sE C a O.o _ h3').1
          · subst hk
            cases q
            cases as with
            | nil => simp only [okA] at h3; exact absurd h3 Bool.false_ne_true
            | cons a r =>
              cases r with
              | nil => exact ⟨a, rfl⟩
              | cons b r => simp only [okA, Bool.and_eq_true] at h3; exact absurd h3.2 Bool.false_ne_true
        simp only [wS]; exact st_fr O.po O.o.calm hi (okT_ok O.o h2) (sB O b _ h4) (noSet_fold h1 _)
      · exact absurd h3 Bool.false_ne_true
    · exact absurd h Bool.false_ne_true
  | .rs c, st, h => by
    simp only [okS] at h
    split at h
    · rename_i x p m j p2 pos pos'
      simp only [Bool.and_eq_true, decide_eq_true_eq] at h
      obtain ⟨⟨⟨h1, h2⟩, h3⟩, h4⟩ := h
      subst h1
      obtain ⟨a, gC, q1, kC, s1, s2⟩ := O.o.excs x (by simpa using h4)
      simp only [wS]
      exact (ps_raise O.o.calm O.o.tk (pmk_own PySem.F.excBase_ValueError q1 gC kC (raises_own s1 s2) (O.o.gl h2) (plain1 h3))).imp fun D σ H ⟨ρ, h, E, Sm, RE, w, L⟩ => L.ex _ _ _ _ _ _ (TKeep.refl H) Sm RE gC w
    · exact absurd h Bool.false_ne_true
  | .tr b c i hs, st, h => by
    simp only [okS] at h
    split at h
    · rename_i body x np n s0 suite pos' pos
      simp only [Bool.and_eq_true, decide_eq_true_eq] at h
      obtain ⟨⟨⟨⟨⟨⟨⟨h1, h2⟩, h3⟩, h4⟩, h5⟩, h6⟩, h7⟩, h8⟩ := h
      subst h1
      have hcl : x ∈ T.hcls := by simpa using h4
      obtain ⟨vc, uc, kc⟩ := O.ef.at' x hcl
      have hi : X.N[i]? = some n := by rw [O.o.N]; exact h5
      have hln : X.env.kindOf n = some .local := by
        show X.env.scope.names.lookup n = _
        rw [O.o.sc]
        unfold lclB at h6
        split at h6
        · assumption
        · exact absurd h6 Bool.false_ne_true
      have hnm : Names X x uc := by
        refine ⟨O.o.gl h2, plain1 h3, ?_⟩
        cases kc with
        | own e => exact .inl e
        | blt e b nn => exact .inr ⟨e, b, nn⟩
      have hb : ∀ (W' : WX) (pn : List (Addr × Obj)) (xe : Value → Shared → Prop), Takes (X.tr pn xe) W' → PassesOwn (model X.prog X.w) X.A X.env xe → PSs (X.tr pn xe) body (tS X.K X.mg W' (wS C b)) := fun W' pn xe tk po => by
        have O' : OkS C T (X.tr pn xe) W' S := ⟨⟨O.o.N, O.o.nd, O.o.sc, O.o.fn, O.o.calm, O.o.un, O.o.gd, tk, O.o.calls, O.o.blts, O.o.globs, O.o.excs⟩, po, O.kd, O.stk, O.frm, O.ef⟩
        exact sB O' b _ h7
      have hsu : ∀ (a : Addr) (oe : Obj) (cls : Value) (d : Option Addr) (pn : List (Addr × Obj)), Zc cls d oe → (∃ vs, oe.data = .fields vs) → PSs (X.suite a ((a, oe) :: pn)) (s0 :: suite)
          ((fun a cls d => fun Dn σ H => ∃ y cD, cls = .ref cD ∧ d = none ∧ X.mg y = some (.ref cD) ∧ y ∈ C.ex.excs ∧ tHS X.K i a (hS (C.ex.sub y) hs) Dn σ H : Addr → Value → Option Addr → TS) a cls d) := fun a oe cls d pn hz hf =>
        ⟨fun pins s σ H D I ⟨y, cD, e1, e2, e3, e4, q⟩ => by
          subst e1 e2
          obtain ⟨cD', m1, ec, kk⟩ := O.ef.rs y e4
          have := e3.symm.trans m1
          cases this
          exact (sHS (E := C.ex) (cls := T.hcls) (x := y) ⟨O.o.N, O.o.nd, O.o.sc, hi, hz, hf, ec, O.o.blts _ (by decide), O.ef.at', fun c hc v u k => (kk c hc v u k).1⟩ hs _ h8).run pins s σ H D I q⟩
      refine (ps_try_as (c := uc) O.stk O.frm O.o.nd hi hln hnm O.o.tk hb hsu).imp fun D σ H ⟨ρ, h, E, Sm, RE, w, L⟩ => ?_
      rw [wS] at w
      refine ⟨ρ, h, _, Sm, RE, w, ⟨L.nx, L.rt, fun y u σ' H' ρ' h' k S' R' m q => ?_⟩⟩
      obtain ⟨⟨q1, lt⟩, q2⟩ := q
      have hy : y ∈ C.ex.excs := by simpa using q1
      obtain ⟨cD, m1, ec, kk⟩ := O.ef.rs y hy
      have := m.symm.trans m1
      cases this
      obtain ⟨k1, k2⟩ := kk x hcl vc uc kc
      refine ⟨C.ex.sub y x, k2, fun e a na => ?_, fun e => ?_⟩
      · rw [if_pos e] at q2
        have li : i < σ'.length := by rw [← R'.1]; exact lt
        refine ⟨y, cD, rfl, rfl, m, hy, by rw [List.getElem?_set_self li], setE ρ' i none, h', _, S', ?_, q2, fun σ2 H2 ρ2 h2 k3 S3 R3 q3 => L.nx _ _ _ _ (k.trans k3) S3 R3.unset q3⟩
        refine ⟨by rw [setE_length, List.length_set]; exact R'.1, fun j d e' => ?_⟩
        rcases getE_set e' with ⟨z1, z2⟩ | ⟨z1, z2⟩
        · cases z2
        · obtain ⟨w', h3, h4⟩ := R'.2 j d z2
          exact ⟨w', by rw [List.getElem?_set_ne (Ne.symm z1)]; exact h3, h4⟩
      · rw [if_neg (by rw [e]; exact Bool.false_ne_true)] at q2
        exact L.ex _ _ _ _ _ _ k S' R' m q2
    · exact absurd h Bool.false_ne_true
  | .fg _, st, h => by simp only [okS] at h; exact absurd h Bool.false_ne_true
  | .skip, st, h => by simp only [okS] at h; exact absurd h Bool.false_ne_true
  | .seq _ _, st, h => by simp only [okS] at h; exact absurd h Bool.false_ne_true
  | .fz _, st, h => by simp only [okS] at h; exact absurd h Bool.false_ne_true
theorem sB {X : Cx} {W : WX} {S : Sc} (O : OkS C T X W S) : ∀ (s : Lt.S) (ss : List Stmt), okB T s S ss = true → PSs X ss (tS X.K X.mg W (wS C s))
  | .skip, ss, h => by
    simp only [okB] at h
    have e : ss = [] := by simpa using h
    subst e
    simp only [wS]; exact st_skip
  | .seq (.fz i) r, ss, h => by
    simp only [okB] at h
    simp only [wS]; exact st_fzi (sB O r _ h)
  | .seq (.fg is) r, ss, h => by
    simp only [okB] at h
    have q := st_fg (is := is) (sB O r _ h)
    simp only [wS]; exact q
  | .seq (.tr b c i hs) r, ss, h => by
    simp only [okB] at h
    split at h
    · simp only [Bool.and_eq_true] at h
      have q := st_seq (sS O (.tr b c i hs) _ h.1) (sB O r _ h.2)
      rw [wS]; exact q
    · exact absurd h Bool.false_ne_true
  | .seq (.pass) r, ss, h => by
    simp only [okB] at h
    split at h
    · simp only [Bool.and_eq_true] at h
      have q := st_seq (sS O (.pass) _ h.1) (sB O r _ h.2)
      rw [wS]; exact q
    · exact absurd h Bool.false_ne_true
  | .seq (.ex e) r, ss, h => by
    simp only [okB] at h
    split at h
    · simp only [Bool.and_eq_true] at h
      have q := st_seq (sS O (.ex e) _ h.1) (sB O r _ h.2)
      rw [wS]; exact q
    · exact absurd h Bool.false_ne_true
  | .seq (.as i e) r, ss, h => by
    simp only [okB] at h
    split at h
    · simp only [Bool.and_eq_true] at h
      have q := st_seq (sS O (.as i e) _ h.1) (sB O r _ h.2)
      rw [wS]; exact q
    · exact absurd h Bool.false_ne_true
  | .seq (.asT is e) r, ss, h => by
    simp only [okB] at h
    split at h
    · simp only [Bool.and_eq_true] at h
      have q := st_seq (sS O (.asT is e) _ h.1) (sB O r _ h.2)
      rw [wS]; exact q
    · exact absurd h Bool.false_ne_true
  | .seq (.par i j a b) r, ss, h => by
    simp only [okB] at h
    split at h
    · simp only [Bool.and_eq_true] at h
      have q := st_seq (sS O (.par i j a b) _ h.1) (sB O r _ h.2)
      rw [wS]; exact q
    · exact absurd h Bool.false_ne_true
  | .seq (.asI a i e) r, ss, h => by
    simp only [okB] at h
    split at h
    · simp only [Bool.and_eq_true] at h
      have q := st_seq (sS O (.asI a i e) _ h.1) (sB O r _ h.2)
      rw [wS]; exact q
    · exact absurd h Bool.false_ne_true
  | .seq (.ret e) r, ss, h => by
    simp only [okB] at h
    split at h
    · simp only [Bool.and_eq_true] at h
      have q := st_seq (sS O (.ret e) _ h.1) (sB O r _ h.2)
      rw [wS]; exact q
    · exact absurd h Bool.false_ne_true
  | .seq (.retN) r, ss, h => by
    simp only [okB] at h
    split at h
    · simp only [Bool.and_eq_true] at h
      have q := st_seq (sS O (.retN) _ h.1) (sB O r _ h.2)
      rw [wS]; exact q
    · exact absurd h Bool.false_ne_true
  | .seq (.ite c a b) r, ss, h => by
    simp only [okB] at h
    split at h
    · simp only [Bool.and_eq_true] at h
      have q := st_seq (sS O (.ite c a b) _ h.1) (sB O r _ h.2)
      rw [wS]; exact q
    · exact absurd h Bool.false_ne_true
  | .seq (.wh c b) r, ss, h => by
    simp only [okB] at h
    split at h
    · simp only [Bool.and_eq_true] at h
      have q := st_seq (sS O (.wh c b) _ h.1) (sB O r _ h.2)
      rw [wS]; exact q
    · exact absurd h Bool.false_ne_true
  | .seq (.fr k as t b) r, ss, h => by
    simp only [okB] at h
    split at h
    · simp only [Bool.and_eq_true] at h
      have q := st_seq (sS O (.fr k as t b) _ h.1) (sB O r _ h.2)
      rw [wS]; exact q
    · exact absurd h Bool.false_ne_true
  | .seq (.rs c) r, ss, h => by
    simp only [okB] at h
    split at h
    · simp only [Bool.and_eq_true] at h
      have q := st_seq (sS O (.rs c) _ h.1) (sB O r _ h.2)
      rw [wS]; exact q
    · exact absurd h Bool.false_ne_true
  | .seq (.skip) r, ss, h => by
    simp only [okB] at h
    split at h
    · simp only [Bool.and_eq_true] at h
      have q := st_seq (sS O (.skip) _ h.1) (sB O r _ h.2)
      rw [wS]; exact q
    · exact absurd h Bool.false_ne_true
  | .seq (.seq a b) r, ss, h => by
    simp only [okB] at h
    split at h
    · simp only [Bool.and_eq_true] at h
      have q := st_seq (sS O (.seq a b) _ h.1) (sB O r _ h.2)
      rw [wS]; exact q
    · exact absurd h Bool.false_ne_true
  | .pass, ss, h => by simp only [okB] at h; exact absurd h Bool.false_ne_true
  | .ex _, ss, h => by simp only [okB] at h; exact absurd h Bool.false_ne_true
  | .as _ _, ss, h => by simp only [okB] at h; exact absurd h Bool.false_ne_true
  | .asT _ _, ss, h => by simp only [okB] at h; exact absurd h Bool.false_ne_true
  | .par _ _ _ _, ss, h => by simp only [okB] at h; exact absurd h Bool.false_ne_true
  | .asI _ _ _, ss, h => by simp only [okB] at h; exact absurd h Bool.false_ne_true
  | .ret _, ss, h => by simp only [okB] at h; exact absurd h Bool.false_ne_true
  | .retN, ss, h => by simp only [okB] at h; exact absurd h Bool.false_ne_true
  | .ite _ _ _, ss, h => by simp only [okB] at h; exact absurd h Bool.false_ne_true
  | .wh _ _, ss, h => by simp only [okB] at h; exact absurd h Bool.false_ne_true
  | .fr _ _ _ _, ss, h => by simp only [okB] at h; exact absurd h Bool.false_ne_true
  | .fz _, ss, h => by simp only [okB] at h; exact absurd h Bool.false_ne_true
  | .fg _, ss, h => by simp only [okB] at h; exact absurd h Bool.false_ne_true
  | .tr _ _ _ _, ss, h => by simp only [okB] at h; exact absurd h Bool.false_ne_true
  | .rs _, ss, h => by simp only [okB] at h; exact absurd h Bool.false_ne_true
end
end

/-! ### functions -/
structure Fd where
  name : Str
  np : Nat
  N : List Str
  body : S
  gc : Bool := true
def startE (n : Nat) (ds : List D) : En := ds.map some ++ List.replicate (n - ds.length) none
/-- a def's ends; what it made is let go where gc -/
def edOf (gc : Bool) (h0 : Hh) (R : QD) (Y : XD) : Ed := match gc with
  | true => ⟨fun _ h => R .non (gcH h0 h), fun d h => R d (gcH h0 h), fun c _ h => Y c (gcH h0 h)⟩
  | false => ⟨fun _ h => R .non h, R, fun c _ h => Y c h⟩
def callL (P : List Fd) (G : Gn) : Nat → Str → List D → Hh → QD → XD → Prop
  | 0, _, _, _, _, _ => False
  | j + 1, f, ds, h, R, Y => match P.find? (fun d => d.name == f) with
    | some d => ds.length = d.np ∧ wS ⟨callL P G j, G.glob, G.ex⟩ d.body (startE d.N.length ds) h (edOf d.gc h R Y)
    | none => False
theorem find_name : ∀ {P : List Fd} {f : Str} {d : Fd}, P.find? (fun d => d.name == f) = some d → d ∈ P ∧ d.name = f
  | P, f, d, h => ⟨List.mem_of_find?_eq_some h, by have := List.find?_some h; simpa using this⟩
theorem getE_start {K : PySem.W.Frag} {H : Hp} : ∀ {ds : List D} {vs : List V} {m i : Nat} {d : D}, Reps K H ds vs → getE (ds.map some ++ List.replicate m none) i = some d → ∃ v, (vs.map some ++ List.replicate m none)[i]? = some (some v) ∧ Rep K H d v
  | [], vs, m, i, d, r, h => by
    exfalso
    rw [List.map_nil, List.nil_append] at h
    clear r
    induction m generalizing i with
    | zero => simp [getE] at h
    | succ m ih =>
      cases i with
      | zero => simp [List.replicate_succ, getE] at h
      | succ i => rw [List.replicate_succ] at h; exact ih (i := i) (by simpa [getE] using h)
  | e :: ds, vs, m, 0, d, r, h => by
    obtain ⟨v, w, rfl, r1, _⟩ := r.cons_inv
    have h' : some e = some d := h
    cases h'
    exact ⟨v, rfl, r1⟩
  | e :: ds, vs, m, i + 1, d, r, h => by
    obtain ⟨v, w, rfl, _, r2⟩ := r.cons_inv
    obtain ⟨u, h1, h2⟩ := getE_start (i := i) r2 (show getE (ds.map some ++ List.replicate m none) i = some d from h)
    exact ⟨u, by simpa using h1, h2⟩
structure Known (K : PySem.W.Frag) (mg : Str → Option Value) (T : Tab) (G : Gn) : Prop where
  blts : ∀ x ∈ bltN, mg x = none
  ef : ExFacts K mg G.ex T.hcls
  globs : ∀ x d, G.glob x = some d → ∃ u v, mg x = some u ∧ RelV v u ∧ ∀ H, Rep K H d v
  excs : ∀ c ∈ T.excs, ExcOk K mg c
structure DefOk (T : Tab) (d : Fd) (st : Stmt) : Prop where
  sc : FnScope d.N (d.N.take d.np) (defScope st)
  np : d.np ≤ d.N.length
  ok : okB T d.body ⟨d.N, defScope st, none⟩ (defBody st) = true
structure DefIn (K : PySem.W.Frag) (mg : Str → Option Value) (d : Fd) (st : Stmt) (f : Addr) (fd : FuncData) : Prop where
  g : mg d.name = some (.ref f)
  F : FunD K d.name d.name (defArgs st) (defBody st) (defScope st) [] [] f fd
  b : Binds K fd (d.N.take d.np) []
section
variable {P : Program} {w : World} {K : PySem.W.Frag} {mg : Str → Option Value} {base : Heap} {T : Tab} {G : Gn} {L : List Fd}
theorem levels (hT : ∀ p ∈ T.fns, ∃ d ∈ L, p = (d.name, d.np) ∧ L.find? (fun e => e.name == d.name) = some d) (Kn : Known K mg T G) (D : ∀ d ∈ L, ∃ st f fd, DefOk T d st ∧ DefIn K mg d st f fd) :
    ∀ (j : Nat) (d : Fd), d ∈ L → L.find? (fun e => e.name == d.name) = some d → ∃ st f fd, DefIn K mg d st f fd ∧ LtG.FnG P w K mg base (L2.CX P w) j f fd (d.N.take d.np) (spL K mg d.np (callL L G j d.name))
  | 0, d, hd, hf => by
    obtain ⟨st, f, fd, O, I⟩ := D d hd
    refine ⟨st, f, fd, I, ⟨fun vs H Q E h => ?_, fun A outer s H args us vs Q E _ _ _ _ _ h => ?_⟩⟩
    · obtain ⟨_, _, _, _, _, _, _, z, _⟩ := h
      exact z.elim
    · obtain ⟨_, _, _, _, _, _, _, z, _⟩ := h
      exact z.elim
  | j + 1, d, hd, hf => by
    have ih := levels hT Kn D j
    obtain ⟨st, f, fd, O, I⟩ := D d hd
    refine ⟨st, f, fd, I, LtG.fn_ofG I.F O.sc (fun vs H Q E h => ?_) fun cdv A outer s H vs Q E gd hr hsp => ?_⟩
    · obtain ⟨ds, h, R, Y, e, _, r, _⟩ := h
      rw [← r.length, e, List.length_take]
      exact (Nat.min_eq_left O.np).symm
    · obtain ⟨ds, h, R, Y, e, Sm, r, c, lk, lx⟩ := hsp
      have c' : (match L.find? (fun e => e.name == d.name) with
        | some d => ds.length = d.np ∧ wS ⟨callL L G j, G.glob, G.ex⟩ d.body (startE d.N.length ds) h (edOf d.gc h R Y)
        | none => False) := c
      rw [hf] at c'
      have OO : OkS ⟨callL L G j, G.glob, G.ex⟩ T (cxOf (L2.CX P w) P w K mg base d.N d.name (defScope st) f cdv A outer s H E) (fun cls d _ H => E cls d H) ⟨d.N, defScope st, none⟩ := by
        refine ⟨⟨rfl, O.sc.nd, rfl, fun _ _ => rfl, rfl, ?_, gd, takes_of rfl rfl rfl rfl, fun p hp => ?_, Kn.blts, Kn.globs, Kn.excs⟩, passes_of rfl, O.sc.kind, rfl, rfl, Kn.ef⟩
        · have := hr.un
          show (A.deeper (envOfC d.name (defScope st) s.heap.objs.size f cdv)).units + 65 < cLine
          omega
        · obtain ⟨d2, hd2, rfl, hf2⟩ := hT p hp
          obtain ⟨st2, f2, fd2, I2, F2⟩ := ih d2 hd2 hf2
          refine ⟨f2, fd2, _, j, I2.g, I2.F.kp, I2.b, F2, hr, fun ds h R Y z => ?_⟩
          cases j with
          | zero => exact z.elim
          | succ j =>
            have z' : (match L.find? (fun e => e.name == d2.name) with
              | some d => ds.length = d.np ∧ wS ⟨callL L G j, G.glob, G.ex⟩ d.body (startE d.N.length ds) h (edOf d.gc h R Y)
              | none => False) := z
            rw [hf2] at z'
            exact z'.1
      refine ⟨_, sB _ OO _ _ O.ok, startE d.N.length ds, h, _, Sm, ⟨?_, fun i d' e' => ?_⟩, c'.2, ?_⟩
      · have e2 := r.length
        unfold startE L2.start
        simp [e2]
      · unfold startE at e'
        unfold L2.start
        rw [← r.length]
        exact getE_start r e'
      · unfold edOf
        split
        · exact ⟨fun σ' H' ρ' h' k S' _ q => lk _ _ _ _ k S'.gc (rep_non.2 rfl) q, fun v H' d' h' k S' r q => lk _ _ _ _ k S'.gc r q, fun c u σ' H' ρ' h' k S' _ m q => lx c u H' _ k S'.gc m q⟩
        · exact ⟨fun σ' H' ρ' h' k S' _ q => lk _ _ _ _ k S' (rep_non.2 rfl) q, lk, fun c u σ' H' ρ' h' k S' _ m q => lx c u H' h' k S' m q⟩
/-- from a def that lets nothing out -/
theorem closed {k : Nat} {f : Addr} {fd : FuncData} {ps : List Str} {sp : Sp} (F : LtG.FnG P w K mg base (L2.CX P w) k f fd ps sp) : LtG.FnG P w K mg base CX0 k f fd ps (fun vs H Q _ => sp vs H Q fun _ _ _ => False) := by
  refine ⟨fun vs H Q E h => F.len vs H Q _ h, fun A outer s H args us vs Q E gd hr he hb hv hs => codeAny_mono (F.run A outer s H args us vs Q _ gd hr he hb hv hs) fun r s' hq => ?_⟩
  cases r with
  | error e =>
    obtain ⟨_, _, _, _, _, _, _, _, _, _, _, _, z⟩ := hq
    exact z.elim
  | ok fl => cases fl <;> exact hq
end
end Lt

set_option maxHeartbeats 4000000
namespace Lt
open PySem PySem.Spec PyProof.Rows L2
/-! ### a Hook with one more Bool -/
structure SaysL (fa : List He.Fa) (fn : List He.DefD) (ex : PySem.W.Frag → Bool) (K : PySem.W.Frag) : Prop where
  s : He.SaysD fa fn K
  e : ex K = true
def obsLG (n : Nat) (fa : List He.Fa) (fn : List He.DefD) (ex : PySem.W.Frag → Bool) (g : Addr → Option Obj) : Bool × He.AlD := (ex (He.frG g (He.asD g n)), He.obsDG n fa fn g)
def hookL (n : Nat) (fa : List He.Fa) (fn : List He.DefD) (ex : PySem.W.Frag → Bool) : PySem.W.Hook where
  α := Bool × He.AlD
  obs := fun s => obsLG n fa fn ex s.heap.get?
  val := fun _ => (true, He.valD fn)
  says := fun _ h => ∃ K : PySem.W.Frag, K.In h ∧ SaysL fa fn ex K
  of := fun _ _ e => ⟨_, He.frG_in, ⟨congrArg Prod.snd e, congrArg Prod.fst e⟩⟩
  keeps := fun _ _ _ ⟨K, hK, c⟩ k => ⟨K, PySem.W.Frag.In.keeps hK k, c⟩
theorem obsLG_eq {n : Nat} {fa : List He.Fa} {fn : List He.DefD} {ex : PySem.W.Frag → Bool} {g : Addr → Option Obj} {s : Shared} (h : ∀ a, g a = s.heap.get? a) : obsLG n fa fn ex g = (hookL n fa fn ex).obs s := by
  have e : g = s.heap.get? := funext h
  rw [e] <;> rfl
section
variable {K : PySem.W.Frag} {h : Heap} {mg : Str → Option Value}
theorem excOk_of (X : K.In h) (G : h.Ns mainGlobals mg) {x : Str} (c : (He.Fa.exc x).ok K = true) (g : (He.Fa.glo x).ok K = true) : ExcOk K mg x := by
  obtain ⟨a, b, d, e⟩ := He.exc_ok c
  exact ⟨_, He.glo_ok X G g, a, b, d, e⟩
/-- values without objects -/
def flatV0 : D → Option V
  | .non => some .non
  | .bl b => some (.bl b)
  | .int i => some (.int i)
  | .str x => some (.str x)
  | _ => none
theorem flat0_rep {H : Hp} {d : D} {v : V} (e : flatV0 d = some v) : Rep K H d v := by
  cases d <;> cases e
  · exact rep_non.2 rfl
  · exact rep_bl.2 rfl
  · exact rep_int.2 rfl
  · exact rep_str.2 rfl
theorem reps_flat {H : Hp} : ∀ {ds : List D} {vs : List V}, ds.map flatV0 = vs.map some → Reps K H ds vs
  | [], [], _ => Reps.nil
  | [], _ :: _, e => by cases e
  | _ :: _, [], e => by cases e
  | d :: ds, v :: vs, e => by
    simp only [List.map_cons, List.cons.injEq] at e
    exact .cons (flat0_rep e.1) (reps_flat e.2)
theorem glob_tup (X : K.In h) (G : h.Ns mainGlobals mg) {x : Str} {dvs : List He.Dv} {ds : List D} (g : (He.Fa.glo x).ok K = true) (t : He.tupB K x dvs = true) (r : ds.map flatV0 = (dvs.map (He.Dv.v K)).map some) :
    ∃ u v, mg x = some u ∧ RelV v u ∧ ∀ H, Rep K H (.tup ds) v := by
  refine ⟨_, .ref (He.ga K x), He.glo_ok X G g, rfl, fun H => rep_tup.2 ⟨_, dvs.map (He.Dv.v K), rfl, ?_, reps_flat r⟩⟩
  rcases He.tupB_ok t (fun _ => none) with (z | ⟨_, z⟩) | z
  · cases z
  · cases z
  · exact .inr z
theorem glob_int (X : K.In h) (G : h.Ns mainGlobals mg) {x : Str} {i : Int} (c : (He.Fa.int x i).ok K = true) : ∃ u v, mg x = some u ∧ RelV v u ∧ ∀ H, Rep K H (.int i) v := by
  obtain ⟨t, e⟩ := He.int_ok X G c
  exact ⟨_, .int i, e, ⟨t, rfl⟩, fun _ => rep_int.2 rfl⟩
theorem glob_str (X : K.In h) (G : h.Ns mainGlobals mg) {x z : Str} (c : (He.Fa.str x z).ok K = true) : ∃ u v, mg x = some u ∧ RelV v u ∧ ∀ H, Rep K H (.str z) v := by
  obtain ⟨t, e⟩ := He.str_ok X G c
  exact ⟨_, .str z, e, ⟨t, rfl⟩, fun _ => rep_str.2 rfl⟩
theorem DefIn.uniq {d : Fd} {st st' : Stmt} {f f' : Addr} {fd fd' : FuncData} (a : DefIn K mg d st f fd) (b : DefIn K mg d st' f' fd') : f = f' ∧ fd = fd' := by
  have e := a.g.symm.trans b.g
  cases e
  obtain ⟨_, _, _, _, _, _, _, _, _, _, _, q, _⟩ := a.F.ex
  obtain ⟨_, _, _, _, _, _, _, _, _, _, _, q', _⟩ := b.F.ex
  rw [q] at q'
  cases q'
  exact ⟨rfl, rfl⟩
def excCB (K : PySem.W.Frag) (C : Addr) : Bool := (PySem.W.findIn K (.ref C) "__getattribute__" == some (some (.builtin "BaseException.__getattribute__"))) && (PySem.W.findIn K (.ref C) "__getattr__" == some none) && (PySem.W.subIn K (.ref C) (.type "BaseException") == some true) && PySem.W.hasDictIn K C &&
  (PySem.W.findIn K (.ref C) "__class__" == some (some (.builtin "object.__class__"))) && (PySem.W.specialIn K (.builtin "object.__class__") "__get__" == some (some (.builtin "getset_descriptor.__get__"))) && (PySem.W.takesIn K (.builtin "object.__class__") == some true) && (PySem.W.mroIn K C (.type "object") == some true)
theorem exc_of {C : Addr} (h : excCB K C = true) : ExcC K C := by
  unfold excCB at h
  simp only [Bool.and_eq_true] at h
  obtain ⟨⟨⟨⟨⟨⟨⟨h1, h2⟩, h3⟩, h4⟩, h5⟩, h6⟩, h7⟩, h8⟩ := h
  exact ⟨eq_of_beq h1, eq_of_beq h2, eq_of_beq h3, h4, eq_of_beq h5, eq_of_beq h6, eq_of_beq h7, eq_of_beq h8⟩
def clsU (K : PySem.W.Frag) (c : Str) : Value := if c = "ValueError" then .type "ValueError" else .ref (He.ga K c)
def exB (K : PySem.W.Frag) (E : Ex) (cls : List Str) : Bool := E.excs.all fun x => excCB K (He.ga K x) && cls.all fun c => (PySem.W.kitOne K (.ref (He.ga K x)) (clsU K c) == some (E.sub x c)) && (PySem.W.exmOne K (.ref (He.ga K x)) (clsU K c) == some (E.sub x c))
theorem exFacts_of {E : Ex} {cls : List Str} (h : exB K E cls = true) (g : ∀ x ∈ E.excs, mg x = some (.ref (He.ga K x))) (gc : ∀ c ∈ cls, (c ≠ "ValueError" ∧ mg c = some (.ref (He.ga K c))) ∨ (c = "ValueError" ∧ mg c = none)) : ExFacts K mg E cls where
  at' := fun c hc => by
    rcases gc c hc with ⟨_, h⟩ | ⟨rfl, h⟩
    · exact ⟨_, _, .own h⟩
    · exact ⟨_, _, .blt (n := "ValueError") h (by decide +kernel) (by decide)⟩
  rs := fun x hx => by
    have q := List.all_eq_true.1 h x hx
    rw [Bool.and_eq_true] at q
    refine ⟨_, g x hx, exc_of q.1, fun c hc v u k => ?_⟩
    have q2 := List.all_eq_true.1 q.2 c hc
    rw [Bool.and_eq_true] at q2
    have eu : clsU K c = u := by
      unfold clsU
      rcases gc c hc with ⟨h1, h2⟩ | ⟨rfl, h2⟩
      · rw [if_neg h1]
        cases k with
        | own h => rw [h2] at h; cases h; rfl
        | blt h b n => rw [h2] at h; cases h
      · rw [if_pos rfl]
        cases k with
        | own h => rw [h2] at h; cases h
        | blt h b n =>
          have : bootBuiltins "ValueError" = some (.type "ValueError") := by decide +kernel
          rw [this] at b; cases b; rfl
    rw [eu] at q2
    exact ⟨eq_of_beq q2.1, eq_of_beq q2.2⟩
theorem reps_ints {H : Hp} : ∀ ns : List Int, Reps K H (ns.map D.int) (ns.map V.int)
  | [] => Reps.nil
  | n :: ns => .cons (rep_int.2 rfl) (reps_ints ns)
theorem law_end {P : Program} {w : World} {T : Tab} {G : Gn} {L : List Fd} {d : Fd} {J : Nat} {f : Addr} {fd : FuncData} {st : Stmt} {x : Str} (hT : ∀ p ∈ T.fns, ∃ d ∈ L, p = (d.name, d.np) ∧ L.find? (fun e => e.name == d.name) = some d) (Kn : Known K mg T G)
    (DD : ∀ d ∈ L, ∃ st f fd, DefOk T d st ∧ DefIn K mg d st f fd) (hd : d ∈ L) (hf : L.find? (fun e => e.name == d.name) = some d) (hn : d.np = 1) (I : DefIn K mg d st f fd) (hx : d.N.take d.np = [x])
    (LAW : ∀ ns : List Int, ns.length ≤ 63 → callL L G J d.name [.lst (ns.map D.int)] emp (fun d _ => d = .bl true) fun _ _ => False) :
    ∃ sp : Sp, (∀ (H : Hp) (a : Addr) (ns : List Int), ns.length ≤ 63 → Only H → SqL K H a (ns.map V.int) → sp [.ref a] H (fun v _ => v = .bl true) fun _ _ _ => False) ∧
      ∀ base : Heap, K.In base → base.Ns mainGlobals mg → LtG.FnG P w K mg base CX0 J f fd [x] sp := by
  refine ⟨fun vs H Q _ => spL K mg d.np (callL L G J d.name) vs H Q fun _ _ _ => False, fun H a ns hl hO hS => ?_, fun base _ _ => ?_⟩
  · refine ⟨[.lst (ns.map D.int)], emp, fun d _ => d = .bl true, fun _ _ => False, hn.symm, (fun _ _ e => nomatch e), Reps.cons (rep_lst.2 ⟨a, ns.map V.int, rfl, ?_, reps_ints ns⟩) Reps.nil, LAW ns hl, fun v H' d' h' _ _ r q => ?_, fun _ _ _ _ _ _ _ z => z⟩
    · rcases hS with (z | z) | z
      · rcases hO a with q | ⟨o, xs, q⟩
        · rw [q] at z; cases z
        · rw [q] at z; cases z
      · exact .inl z
      · exact .inr z
    · have q' : d' = .bl true := q
      subst q'
      exact rep_bl.1 r
  · obtain ⟨st', f', fd', I', F⟩ := levels (P := P) (w := w) (base := base) hT Kn DD J d hd hf
    obtain ⟨rfl, rfl⟩ := I.uniq I'
    have q := closed F
    rw [hx] at q
    exact q
end
end Lt

set_option maxHeartbeats 4000000
namespace Lt
open PySem PySem.Spec PyProof.Rows L2

/-! ### sizes -/
/-- below 2 ^ n -/
def B (n : Nat) (i : Int) : Prop := i.natAbs < 2 ^ n
instance {n : Nat} {i : Int} : Decidable (B n i) := inferInstanceAs (Decidable (i.natAbs < 2 ^ n))
theorem B.mono {m n : Nat} {i : Int} (h : B m i) (l : m ≤ n) : B n i := Nat.lt_of_lt_of_le h (Nat.pow_le_pow_right (by decide) l)
theorem B.neg {n : Nat} {i : Int} (h : B n i) : B n (-i) := by unfold B at *; omega
theorem B.mul {m n : Nat} {i j : Int} (h : B m i) (k : B n j) : B (m + n) (i * j) := L2.wide_lt h k
theorem B.add {m n : Nat} {i j : Int} (h : B m i) (k : B n j) : B (max m n + 1) (i + j) := by
  have h1 := h.mono (Nat.le_max_left m n)
  have h2 := k.mono (Nat.le_max_right m n)
  unfold B at *
  rw [Nat.pow_succ]; omega
theorem B.sub {m n : Nat} {i j : Int} (h : B m i) (k : B n j) : B (max m n + 1) (i - j) := by
  rw [Int.sub_eq_add_neg]; exact h.add k.neg
theorem B.ofle {n : Nat} {i j : Int} (h : B n j) (l : i.natAbs ≤ j.natAbs) : B n i := Nat.lt_of_le_of_lt l h
theorem B.mulOk {m n : Nat} {i j : Int} (h : B m i) (k : B n j) (l : m + n ≤ 900000) : IntMulOk i j :=
  (L2.wide_mul (a := m + 1) (b := n + 1) (Nat.lt_of_lt_of_le h (Nat.pow_le_pow_right (by decide) (by omega))) (Nat.lt_of_lt_of_le k (Nat.pow_le_pow_right (by decide) (by omega))) (by omega) (by omega) (by omega)).ok
theorem mulOk_r {i j : Int} (h : B 64 j) : IntMulOk i j := IntMulOk.of_right (intBits_le h)
theorem mulOk_l {i j : Int} (h : B 64 i) : IntMulOk i j := IntMulOk.of_left (intBits_le h)
theorem B.noPy {i j : Int} (h : B 9000 j) : Builtin.divisionGoesByPylong i j = false := PyProof.noPylong_of_log2 (Nat.lt_of_lt_of_le (PySem.Flt.log2_lt_of (by decide) h) (Nat.le_refl _))
theorem cpow {i : Int} {k : Nat} (h : B 64 i) (l : k ≤ 1000000) : CPow i k := ⟨by omega, by omega, h⟩

/-! ### positions -/
theorem atI_0 {α : Type} {x : α} {r : List α} : atI (x :: r) 0 = some x := by simp [atI, ixN]
theorem atI_1 {α : Type} {x y : α} {r : List α} : atI (x :: y :: r) 1 = some y := by
  have h : (1 : Int) < ((x :: y :: r).length : Nat) := by simp; omega
  simp only [atI, ixN]
  rw [if_pos (by decide), if_pos h]; rfl
theorem atI_2 {α : Type} {x y z : α} {r : List α} : atI (x :: y :: z :: r) 2 = some z := by
  have h : (2 : Int) < ((x :: y :: z :: r).length : Nat) := by simp; omega
  simp only [atI, ixN]
  rw [if_pos (by decide), if_pos h]; rfl
theorem atI_N {α : Type} {xs : List α} {i : Nat} : atI xs (i : Int) = xs[i]? := by
  unfold atI ixN
  rw [if_pos (by omega)]
  by_cases h : i < xs.length
  · rw [if_pos (by omega)]; simp
  · rw [if_neg (by omega)]; simp [List.getElem?_eq_none (by omega : xs.length ≤ i)]
theorem atI_map {α β : Type} {xs : List α} {f : α → β} {i : Int} : atI (xs.map f) i = (atI xs i).map f := by
  unfold atI
  rw [List.length_map]
  cases ixN xs.length i with
  | none => rfl
  | some j => simp
theorem atI_of {α : Type} {xs : List α} {i : Int} (h0 : 0 ≤ i) (h1 : i < xs.length) : atI xs i = xs[i.toNat]? := by
  have e : i = (i.toNat : Int) := (Int.toNat_of_nonneg h0).symm
  have q := atI_N (xs := xs) (i := i.toNat)
  rw [← e] at q; exact q

/-! ### data compared -/
mutual
def toP : D → Option PyData
  | .non => some .none
  | .bl b => some (.bool b)
  | .int i => some (.int i)
  | .str x => some (.str x)
  | .tup xs => (toPs xs).map .tuple
  | .lst xs => (toPs xs).map .list
  | .ref _ => none
def toPs : List D → Option (List PyData)
  | [] => some []
  | x :: r => (toP x).bind fun a => (toPs r).map fun b => a :: b
end
mutual
theorem toP_isP {h : Hh} : ∀ {x : D} {d : PyData}, toP x = some d → IsP h x d
  | .non, d, e => by simp only [toP, Option.some.injEq] at e; subst e; rw [IsP]
  | .bl b, d, e => by simp only [toP, Option.some.injEq] at e; subst e; rw [IsP]
  | .int b, d, e => by simp only [toP, Option.some.injEq] at e; subst e; rw [IsP]
  | .str b, d, e => by simp only [toP, Option.some.injEq] at e; subst e; rw [IsP]
  | .tup xs, d, e => by
    simp only [toP, Option.map_eq_some_iff] at e
    obtain ⟨ds, e1, rfl⟩ := e
    rw [IsP]; exact ⟨xs, rfl, toPs_isPs e1⟩
  | .lst xs, d, e => by
    simp only [toP, Option.map_eq_some_iff] at e
    obtain ⟨ds, e1, rfl⟩ := e
    rw [IsP]; exact ⟨xs, rfl, toPs_isPs e1⟩
  | .ref _, d, e => by simp only [toP] at e; cases e
theorem toPs_isPs {h : Hh} : ∀ {xs : List D} {ds : List PyData}, toPs xs = some ds → IsPs h xs ds
  | [], ds, e => by simp only [toPs, Option.some.injEq] at e; subst e; rw [IsPs]
  | x :: r, ds, e => by
    simp only [toPs, Option.bind_eq_some_iff, Option.map_eq_some_iff] at e
    obtain ⟨a, e1, b, e2, rfl⟩ := e
    rw [IsPs]; exact ⟨x, r, rfl, toP_isP e1, toPs_isPs e2⟩
end
mutual
theorem isP_inj {h : Hh} : ∀ {d e : PyData} {x : D}, IsP h x d → IsP h x e → d = e
  | .none, e, x, p, q => by rw [IsP] at p; subst p; cases e <;> simp [IsP, lsD] at q <;> rfl
  | .bool b, e, x, p, q => by rw [IsP] at p; subst p; cases e <;> simp [IsP, lsD] at q <;> simp [q]
  | .int b, e, x, p, q => by rw [IsP] at p; subst p; cases e <;> simp [IsP, lsD] at q <;> simp [q]
  | .str b, e, x, p, q => by rw [IsP] at p; subst p; cases e <;> simp [IsP, lsD] at q <;> simp [q]
  | .tuple ds, e, x, p, q => by
    rw [IsP] at p; obtain ⟨xs, rfl, p⟩ := p
    cases e with
    | tuple es => rw [IsP] at q; obtain ⟨ys, e, q⟩ := q; cases e; rw [isPs_inj p q]
    | _ => simp [IsP, lsD] at q
  | .list ds, e, x, p, q => by
    rw [IsP] at p; obtain ⟨xs, e1, p⟩ := p
    cases e with
    | list es => rw [IsP] at q; obtain ⟨ys, e, q⟩ := q; rw [e1] at e; cases e; rw [isPs_inj p q]
    | none => rw [IsP] at q; subst q; cases e1
    | bool _ => rw [IsP] at q; subst q; cases e1
    | int _ => rw [IsP] at q; subst q; cases e1
    | str _ => rw [IsP] at q; subst q; cases e1
    | tuple _ => rw [IsP] at q; obtain ⟨ys, rfl, q⟩ := q; cases e1
    | dict _ => rw [IsP] at q; exact q.elim
  | .dict _, e, x, p, q => by rw [IsP] at p; exact p.elim
theorem isPs_inj {h : Hh} : ∀ {ds es : List PyData} {xs : List D}, IsPs h xs ds → IsPs h xs es → ds = es
  | [], es, xs, p, q => by
    rw [IsPs] at p; subst p
    cases es with
    | nil => rfl
    | cons e es => rw [IsPs] at q; obtain ⟨_, _, e, _⟩ := q; cases e
  | d :: ds, es, xs, p, q => by
    rw [IsPs] at p; obtain ⟨x, r, rfl, p1, p2⟩ := p
    cases es with
    | nil => rw [IsPs] at q; cases q
    | cons e es =>
      rw [IsPs] at q; obtain ⟨y, s, z, q1, q2⟩ := q
      cases z
      rw [isP_inj p1 q1, isPs_inj p2 q2]
end
theorem eqW_P {x y : D} {h : Hh} {K : Bool → Prop} {d e : PyData} (p : IsP h x d) (q : IsP h y e) (s1 : SeqAt.shaped d = true) (s2 : SeqAt.shaped e = true) : eqW x y h K = K (PyData.eqv d e) := by
  apply propext
  constructor
  · rintro ⟨d', e', p', q', _, _, k⟩
    rw [isP_inj p p', isP_inj q q']; exact k
  · intro k; exact ⟨d, e, p, q, s1, s2, k⟩

/-! ### types whose values are data -/
class Py (α : Type) where
  d : α → D
  p : α → PyData
  ok : ∀ a, toP (d a) = some (p a)
  eq : ∀ a b, PyData.eqv (p a) (p b) = true ↔ a = b
  lay : ∀ a, (p a).canLay0 = true
  n : Nat
  dep : ∀ a, (p a).depth ≤ n
instance : Py Int where
  d := .int
  p := .int
  ok := fun _ => by rw [toP]
  eq := fun a b => by simp [PyData.eqv]
  lay := fun _ => by simp [PyData.canLay0]
  n := 0
  dep := fun _ => by simp [PyData.depth]
instance : Py Bool where
  d := .bl
  p := .bool
  ok := fun _ => by rw [toP]
  eq := fun a b => by simp [PyData.eqv]
  lay := fun _ => by simp [PyData.canLay0]
  n := 0
  dep := fun _ => by simp [PyData.depth]
theorem toPs_py {α : Type} [Py α] : ∀ xs : List α, toPs (xs.map Py.d) = some (xs.map Py.p)
  | [] => by simp [toPs]
  | x :: r => by simp [toPs, Py.ok, toPs_py r]
theorem eqv_py {α : Type} [Py α] : ∀ xs ys : List α, PyData.eqvAll (xs.map Py.p) (ys.map Py.p) = true ↔ xs = ys
  | [], [] => by simp [PyData.eqvAll]
  | [], _ :: _ => by simp [PyData.eqvAll]
  | _ :: _, [] => by simp [PyData.eqvAll]
  | x :: r, y :: s => by simp [PyData.eqvAll, Py.eq, eqv_py r s]
theorem lay_py {α : Type} [Py α] : ∀ xs : List α, PyData.canLayAll0 (xs.map Py.p) = true
  | [] => by simp [PyData.canLayAll0]
  | x :: r => by simp [PyData.canLayAll0, Py.lay, lay_py r]
theorem dep_py {α : Type} [Py α] : ∀ xs : List α, PyData.depthAll (xs.map Py.p) ≤ Py.n α
  | [] => by simp [PyData.depthAll]
  | x :: r => by simp only [List.map_cons, PyData.depthAll]; have := Py.dep x; have := dep_py r; omega
instance {α : Type} [Py α] : Py (List α) where
  d := fun xs => .lst (xs.map Py.d)
  p := fun xs => .list (xs.map Py.p)
  ok := fun xs => by rw [toP, toPs_py]; rfl
  eq := fun a b => by rw [PyData.eqv]; exact eqv_py a b
  lay := fun xs => by rw [PyData.canLay0]; exact lay_py xs
  n := Py.n α + 1
  dep := fun xs => by rw [PyData.depth]; have := dep_py xs; omega
/-- a tuple of things of one kind -/
structure Tu (α : Type) where
  l : List α
instance {α : Type} [Py α] : Py (Tu α) where
  d := fun xs => .tup (xs.l.map Py.d)
  p := fun xs => .tuple (xs.l.map Py.p)
  ok := fun xs => by rw [toP, toPs_py]; rfl
  eq := fun a b => by
    rw [PyData.eqv]
    have := eqv_py a.l b.l
    cases a; cases b; simp only [Tu.mk.injEq]; exact this
  lay := fun xs => by rw [PyData.canLay0]; exact lay_py xs.l
  n := Py.n α + 1
  dep := fun xs => by rw [PyData.depth]; have := dep_py xs.l; omega
instance {α β : Type} [Py α] [Py β] : Py (α × β) where
  d := fun x => .tup [Py.d x.1, Py.d x.2]
  p := fun x => .tuple [Py.p x.1, Py.p x.2]
  ok := fun x => by simp [toP, toPs, Py.ok]
  eq := fun a b => by
    simp [PyData.eqv, PyData.eqvAll, Py.eq, Prod.ext_iff]
  lay := fun x => by simp [PyData.canLay0, PyData.canLayAll0, Py.lay]
  n := max (Py.n α) (Py.n β) + 1
  dep := fun x => by
    simp only [PyData.depth, PyData.depthAll]
    have := Py.dep x.1; have := Py.dep x.2; omega
theorem eqW_py {α : Type} [Py α] [DecidableEq α] (hn : Py.n α ≤ 64) {a b : α} {h : Hh} {K : Bool → Prop} : eqW (Py.d a) (Py.d b) h K = K (decide (a = b)) := by
  have sh : ∀ x : α, SeqAt.shaped (Py.p x) = true := fun x => by
    unfold SeqAt.shaped
    rw [Py.lay, Bool.true_and]
    have := Py.dep x
    simp; omega
  rw [eqW_P (toP_isP (Py.ok a)) (toP_isP (Py.ok b)) (sh a) (sh b)]
  congr 1
  by_cases e : a = b
  · rw [(Py.eq a b).2 e, decide_eq_true e]
  · rw [decide_eq_false e]
    cases q : PyData.eqv (Py.p a) (Py.p b) with
    | true => exact absurd ((Py.eq a b).1 q) e
    | false => rfl

/-! ### loops that are known to the step -/
section
variable {σ α : Type} {t : Tg} {b : En → Hh → Ed → Prop} {K : Ed} {h : Hh}
theorem fr_det (st : σ → En) (f : α → D) (P : List α → σ → Prop) (F : List α → σ → Prop) (nil : ∀ s, P [] s → K.nx (st s) h = F [] s)
    (cons : ∀ a as s, P (a :: as) s → (∃ s', P as s' ∧ F as s' = F (a :: as) s ∧ ∀ W : En → Hh → Prop, (tgW t (f a) (st s) fun ρ1 => b ρ1 h { K with nx := W }) = W (st s') h) ∨
      ∀ W : En → Hh → Prop, (tgW t (f a) (st s) fun ρ1 => b ρ1 h { K with nx := W }) = F (a :: as) s) :
    ∀ (xs : List α) (s : σ), P xs s → frL t b K (xs.map f) (st s) h = F xs s
  | [], s, p => nil s p
  | a :: as, s, p => by
    rw [List.map_cons]
    unfold frL
    rcases cons a as s p with ⟨s', p', e, q⟩ | q
    · rw [q, fr_det st f P F nil cons as s' p', e]
    · exact q _
/-- the same, of the heap too -/
theorem fr_detH (st : σ → En) (hp : σ → Hh) (f : α → D) (P : List α → σ → Prop) (F : List α → σ → Prop) (nil : ∀ s, P [] s → K.nx (st s) (hp s) = F [] s)
    (cons : ∀ a as s, P (a :: as) s → (∃ s', P as s' ∧ F as s' = F (a :: as) s ∧ ∀ W : En → Hh → Prop, (tgW t (f a) (st s) fun ρ1 => b ρ1 (hp s) { K with nx := W }) = W (st s') (hp s')) ∨
      ∀ W : En → Hh → Prop, (tgW t (f a) (st s) fun ρ1 => b ρ1 (hp s) { K with nx := W }) = F (a :: as) s) :
    ∀ (xs : List α) (s : σ), P xs s → frL t b K (xs.map f) (st s) (hp s) = F xs s
  | [], s, p => nil s p
  | a :: as, s, p => by
    rw [List.map_cons]
    unfold frL
    rcases cons a as s p with ⟨s', p', e, q⟩ | q
    · rw [q, fr_detH st hp f P F nil cons as s' p', e]
    · exact q _
theorem wh_det {c : En → Hh → QD → XD → Prop} (st : σ → En) (P : σ → Prop) (F : σ → Prop) (m : σ → Nat)
    (step : ∀ s, P s → (∃ s', P s' ∧ m s' < m s ∧ F s' = F s ∧ ∀ W : En → Hh → Prop, c (st s) h (fun d h1 => blW d fun d => if d = true then b (st s) h1 { K with nx := W } else K.nx (st s) h1) (fun x h1 => K.ex x (st s) h1) = W (st s') h) ∨
      ∀ W : En → Hh → Prop, c (st s) h (fun d h1 => blW d fun d => if d = true then b (st s) h1 { K with nx := W } else K.nx (st s) h1) (fun x h1 => K.ex x (st s) h1) = F s) (s : σ) (p : P s) : whI c b K (st s) h = F s := by
  unfold whI
  apply propext
  constructor
  · rintro ⟨n, w⟩
    induction n generalizing s with
    | zero => exact w.elim
    | succ n ih =>
      have w' : c (st s) h (fun d h1 => blW d fun d => if d = true then b (st s) h1 { K with nx := whW (fun ρ h Q => c ρ h Q fun c h1 => K.ex c ρ h1) b K n } else K.nx (st s) h1) (fun x h1 => K.ex x (st s) h1) := w
      rcases step s p with ⟨s', p', _, e, q⟩ | q
      · rw [q] at w'; rw [← e]; exact ih s' p' w'
      · rw [q] at w'; exact w'
  · intro f
    have gen : ∀ n s, m s < n → P s → F s → whW (fun ρ h Q => c ρ h Q fun c h1 => K.ex c ρ h1) b K n (st s) h := by
      intro n
      induction n with
      | zero => intro s l; exact absurd l (Nat.not_lt_zero _)
      | succ n ih =>
        intro s l p f
        show c (st s) h (fun d h1 => blW d fun d => if d = true then b (st s) h1 { K with nx := whW (fun ρ h Q => c ρ h Q fun c h1 => K.ex c ρ h1) b K n } else K.nx (st s) h1) (fun x h1 => K.ex x (st s) h1)
        rcases step s p with ⟨s', p', l', e, q⟩ | q
        · rw [q]; exact ih s' (by omega) p' (by rw [e]; exact f)
        · rw [q]; exact f
    exact ⟨_, gen _ s (Nat.lt_succ_self _) p f⟩
/-- a comprehension whose items are known -/
theorem lc_det {c e : En → Hh → QD → Prop} {p : Addr} {ρ : En} {K : Hh → Prop} (f : α → D) (P : α → Prop) (g : α → Option D) (hp : h p = none)
    (step : ∀ a, P a → ∀ (h' : Hh) (N : Hh → Prop) (Y : D → Hh → Prop), (tgW t (f a) ρ fun ρ1 => c ρ1 h' fun b h1 => blW b fun b => if b = true then e ρ1 h1 Y else N h1) = match g a with
      | some y => Y y h'
      | none => N h') :
    ∀ (xs : List α) (acc : List D), (∀ a ∈ xs, P a) → acc.length + xs.length ≤ sizeLine → lcL t c e p ρ K (xs.map f) (up h p (.lst acc)) = K (up h p (.lst (acc ++ xs.filterMap g)))
  | [], acc, _, _ => by simp [lcL]
  | a :: as, acc, hP, hl => by
    rw [List.map_cons]
    unfold lcL
    rw [step a (hP a (by simp))]
    rw [List.length_cons] at hl
    cases q : g a with
    | none =>
      simp only
      rw [lc_det f P g hp step as acc (fun b hb => hP b (by simp [hb])) (by omega), List.filterMap_cons_none q]
    | some y =>
      simp only
      have e : wrL (up h p (.lst acc)) p = some acc := by unfold wrL; rw [up_same]
      rw [e, optW_some, up_up, lc_det f P g hp step as (acc ++ [y]) (fun b hb => hP b (by simp [hb])) (by rw [List.length_append, List.length_singleton]; omega), List.filterMap_cons_some q]
      have e2 : acc.length < sizeLine := by omega
      simp [e2]
theorem wrL_up {p : Addr} {xs : List D} : wrL (up h p (.lst xs)) p = some xs := by unfold wrL; rw [up_same]
theorem rdL_up {p : Addr} {xs : List D} : rdL (up h p (.lst xs)) p = some xs := by unfold rdL; rw [up_same]
theorem frz_non {Q : QD} : frzW .non h Q = Q .non h := rfl
theorem frz_bl {Q : QD} {b : Bool} : frzW (.bl b) h Q = Q (.bl b) h := rfl
theorem frz_int {Q : QD} {b : Int} : frzW (.int b) h Q = Q (.int b) h := rfl
theorem frz_str {Q : QD} {b : Str} : frzW (.str b) h Q = Q (.str b) h := rfl
theorem frz_tup {Q : QD} {b : List D} : frzW (.tup b) h Q = Q (.tup b) h := rfl
theorem frz_lst {Q : QD} {b : List D} : frzW (.lst b) h Q = Q (.lst b) h := rfl
theorem frz_up {Q : QD} {p : Addr} {xs : List D} : frzW (.ref p) (up h p (.lst xs)) Q = Q (.lst xs) (era (up h p (.lst xs)) p) := by
  simp only [frzW, wrL_up, optW_some]
/-- a new list at once a value -/
theorem all_free {p : Prop} : (∀ a, h a = none → p) = p := propext ⟨fun w => let ⟨a, e⟩ := h.free; w a e, fun w _ _ => w⟩
theorem frz_at {Q : QD} {p : Addr} {xs : List D} (hp : h p = none) : frzW (.ref p) (up h p (.lst xs)) Q = Q (.lst xs) h := by rw [frz_up, era_up hp]
theorem all_eq {A : Prop} {F : Addr → Prop} (e : ∀ p, h p = none → F p = A) : (∀ p, h p = none → F p) = A :=
  propext ⟨fun w => let ⟨p, hp⟩ := h.free; (e p hp).mp (w p hp), fun w p hp => (e p hp).mpr w⟩
theorem new_frz {R : D → Hh → Prop} {xs : List D} : (∀ p, h p = none → frzW (.ref p) (up h p (.lst xs)) R) = R (.lst xs) h :=
  propext ⟨fun w => by
    obtain ⟨p, e⟩ := h.free
    have := w p e
    simp only [frzW, wrL_up, optW_some, era_up e] at this
    exact this, fun w p e => by simp only [frzW, wrL_up, optW_some, era_up e]; exact w⟩
theorem lc_all {c e : En → Hh → QD → Prop} {ρ : En} {R : Addr → Hh → Prop} (f : α → D) (P : α → Prop) (g : α → Option D)
    (step : ∀ a, P a → ∀ (h' : Hh) (N : Hh → Prop) (Y : D → Hh → Prop), (tgW t (f a) ρ fun ρ1 => c ρ1 h' fun b h1 => blW b fun b => if b = true then e ρ1 h1 Y else N h1) = match g a with
      | some y => Y y h'
      | none => N h') (xs : List α) (hP : ∀ a ∈ xs, P a) (hl : xs.length ≤ sizeLine) :
    (∀ p, h p = none → lcI (.seq (xs.map f)) t c e p ρ (R p) (up h p (.lst []))) = ∀ p, h p = none → R p (up h p (.lst (xs.filterMap g))) := by
  apply propext
  have q := fun p (hp : h p = none) => lc_det (K := R p) f P g hp step xs [] hP (by simpa using hl)
  constructor
  · intro w p hp
    have w' := w p hp
    simp only [lcI] at w'
    rw [q p hp] at w'; simpa using w'
  · intro w p hp
    simp only [lcI]
    rw [q p hp]; simpa using w p hp
/-- without a condition -/
theorem lc_map {e : En → Hh → QD → Prop} {ρ : En} {R : Addr → Hh → Prop} (f : α → D) (P : α → Prop) (g : α → D)
    (step : ∀ a, P a → ∀ (h' : Hh) (Y : D → Hh → Prop), (tgW t (f a) ρ fun ρ1 => e ρ1 h' Y) = Y (g a) h') (xs : List α) (hP : ∀ a ∈ xs, P a) (hl : xs.length ≤ sizeLine) :
    (∀ p, h p = none → lcI (.seq (xs.map f)) t (fun _ h Q => Q (.bl true) h) e p ρ (R p) (up h p (.lst []))) = ∀ p, h p = none → R p (up h p (.lst (xs.map g))) := by
  rw [lc_all f P (fun a => some (g a)) (fun a pa h' N Y => ?_) xs hP hl]
  · rw [List.filterMap_eq_map']
  · have := step a pa h' Y
    simp only [blW, if_true]
    exact this
end

/-! ### fractions -/
abbrev Fr := Int × Int
abbrev frD (q : Fr) : D := .tup [.int q.1, .int q.2]
/-- top and bottom, each by their greatest common divisor -/
@[irreducible] def mk (t b : Int) : Fr := (t / (Int.gcd t b : Int), b / (Int.gcd t b : Int))
@[irreducible] def plusF (a b : Fr) : Fr := mk (a.1 * b.2 + b.1 * a.2) (a.2 * b.2)
@[irreducible] def minusF (a b : Fr) : Fr := mk (a.1 * b.2 - b.1 * a.2) (a.2 * b.2)
@[irreducible] def timesF (a b : Fr) : Fr := mk (a.1 * b.1) (a.2 * b.2)
structure Sz (n m : Nat) (q : Fr) : Prop where
  top : B n q.1
  pos : 0 < q.2
  bot : B m q.2
theorem Sz.mono {n m n' m' : Nat} {q : Fr} (h : Sz n m q) (l1 : n ≤ n') (l2 : m ≤ m') : Sz n' m' q := ⟨h.top.mono l1, h.pos, h.bot.mono l2⟩
theorem gcd_pos {t b : Int} (hb : 0 < b) : 0 < (Int.gcd t b : Int) := by
  have := Int.gcd_pos_of_ne_zero_right t (show b ≠ 0 by omega); omega
theorem B.div {n : Nat} {x g : Int} (h : B n x) : B n (x / g) := h.ofle (Int.natAbs_ediv_le_natAbs x g)
theorem B.gcd {m : Nat} {t b : Int} (hb : 0 < b) (h : B m b) : B m (Int.gcd t b : Int) := h.ofle (by
  have e : (Int.gcd t b) ∣ b.natAbs := Nat.gcd_dvd_right _ _
  have := Nat.le_of_dvd (by omega) e
  simpa using this)
theorem mk_sz {n m : Nat} {t b : Int} (ht : B n t) (hb : 0 < b) (h : B m b) : Sz n m (mk t b) := by
  rw [mk]
  refine ⟨ht.div, ?_, h.div⟩
  have hd : (Int.gcd t b : Int) ∣ b := Int.gcd_dvd_right _ _
  exact Int.ediv_pos_of_pos_of_dvd hb (Int.le_of_lt (gcd_pos hb)) hd
theorem plus_sz {n m k l : Nat} {a b : Fr} (ha : Sz n m a) (hb : Sz k l b) : Sz (max (n + l) (k + m) + 1) (m + l) (plusF a b) := by
  rw [plusF]
  exact mk_sz ((ha.top.mul hb.bot).add (hb.top.mul ha.bot)) (Int.mul_pos ha.pos hb.pos) (ha.bot.mul hb.bot)
theorem minus_sz {n m k l : Nat} {a b : Fr} (ha : Sz n m a) (hb : Sz k l b) : Sz (max (n + l) (k + m) + 1) (m + l) (minusF a b) := by
  rw [minusF]
  exact mk_sz ((ha.top.mul hb.bot).sub (hb.top.mul ha.bot)) (Int.mul_pos ha.pos hb.pos) (ha.bot.mul hb.bot)
theorem times_sz {n m k l : Nat} {a b : Fr} (ha : Sz n m a) (hb : Sz k l b) : Sz (n + k) (m + l) (timesF a b) := by
  rw [timesF]
  exact mk_sz (ha.top.mul hb.top) (Int.mul_pos ha.pos hb.pos) (ha.bot.mul hb.bot)
theorem abs_if (x : Int) : (if x < 0 then -x else x) = (x.natAbs : Int) := by split <;> omega
theorem fdiv_gcd {x t b : Int} (hb : 0 < b) : x.fdiv (Int.gcd t b) = x / (Int.gcd t b : Int) := Int.fdiv_eq_ediv_of_nonneg _ (by have := gcd_pos (t := t) hb; omega)
theorem fmod_pos {a b : Int} (hb : 0 ≤ b) : a.fmod b = a % b := Int.fmod_eq_emod_of_nonneg _ hb
theorem B.mod {n : Nat} {a b : Int} (h0 : 0 < b) (h : B n b) : B n (a % b) := h.ofle (by
  have := Int.emod_nonneg a (show b ≠ 0 by omega); have := Int.emod_lt_of_pos a h0; omega)

theorem eqW_bl {a b : Bool} {h : Hh} {K : Bool → Prop} : eqW (.bl a) (.bl b) h K = K (a == b) := by
  rw [show (a == b) = decide (a = b) from Bool.beq_eq_decide_eq a b]; exact eqW_py (α := Bool) (by decide)
theorem eqW_fr {a b : Fr} {h : Hh} {K : Bool → Prop} : eqW (frD a) (frD b) h K = K (decide (a = b)) := eqW_py (α := Fr) (by decide)
theorem eqW_frs {a b : List Fr} {h : Hh} {K : Bool → Prop} : eqW (.lst (a.map frD)) (.lst (b.map frD)) h K = K (decide (a = b)) := eqW_py (α := List Fr) (by decide)
theorem eqW_frss {a b : List (List Fr)} {h : Hh} {K : Bool → Prop} : eqW (.lst (a.map fun r => .lst (r.map frD))) (.lst (b.map fun r => .lst (r.map frD))) h K = K (decide (a = b)) := eqW_py (α := List (List Fr)) (by decide)

def sumF (qs : List Fr) : Fr := qs.foldl plusF (0, 1)
theorem sz_01 {n m : Nat} (hn : 1 ≤ n) (hm : 1 ≤ m) : Sz n m (0, 1) := Sz.mono (n := 1) (m := 1) ⟨by decide, by decide, by decide⟩ hn hm
theorem sum_step {n m i : Nat} {w q : Fr} (hq : Sz n m q) (hw : Sz (n + (m + 1) * i + 1) (m * i + 1) w) : Sz (n + (m + 1) * (i + 1) + 1) (m * (i + 1) + 1) (plusF w q) := by
  refine (plus_sz hw hq).mono ?_ ?_
  · have e : (m + 1) * (i + 1) = m * i + i + m + 1 := by rw [Nat.add_mul, Nat.mul_add]; omega
    have e2 : (m + 1) * i = m * i + i := by rw [Nat.add_mul]; omega
    rw [e, e2]; omega
  · rw [Nat.mul_add]; omega

/-! ### walks over lists that are told -/
theorem enuD_map {α : Type} {f : α → D} : ∀ (xs : List α) (k : Nat), enuD k (xs.map f) = (xs.zipIdx k).map fun p => .tup [.int p.2, f p.1]
  | [], k => by simp [enuD]
  | x :: r, k => by simp [enuD, enuD_map r (k + 1)]
theorem zipD_map {α β : Type} {f : α → D} {g : β → D} : ∀ (xs : List α) (ys : List β), zipD (xs.map f) (ys.map g) = (xs.zip ys).map fun p => .tup [f p.1, g p.2]
  | [], ys => by simp [zipD]
  | x :: r, [] => by simp [zipD]
  | x :: r, y :: s => by simp [zipD, zipD_map r s]
theorem rngD_eq : ∀ (n : Nat) (lo : Int), rngD lo n = (List.range n).map fun i => .int (lo + (i : Nat))
  | 0, lo => by simp [rngD]
  | n + 1, lo => by
    rw [rngD, rngD_eq n (lo + 1), List.range_succ_eq_map]
    simp only [List.map_cons, List.map_map, Int.natCast_zero, Int.add_zero]
    congr 1
    apply List.map_congr_left
    intro a _
    simp only [Function.comp, Nat.succ_eq_add_one]
    congr 1; omega
theorem rngD_0 (n : Nat) : rngD 0 n = (List.range n).map fun (i : Nat) => .int (i : Int) := by
  rw [rngD_eq]; apply List.map_congr_left; intro a _; simp
theorem cutD_map {α : Type} {f : α → D} {xs : List α} {lo hi : Option Int} : cutD (xs.map f) lo hi = ((xs.drop (HT.sIx xs.length 0 lo)).take (HT.sIx xs.length xs.length hi - HT.sIx xs.length 0 lo)).map f := by
  unfold cutD; rw [List.length_map, List.map_take, List.map_drop]
theorem cut_to {α : Type} {xs : List α} {k : Nat} : (xs.drop (HT.sIx xs.length 0 none)).take (HT.sIx xs.length xs.length (some (k : Int)) - HT.sIx xs.length 0 none) = xs.take k := by
  rw [HT.sIx_none, HT.sIx_nat, List.drop_zero, Nat.sub_zero]
  by_cases h : k ≤ xs.length
  · rw [Nat.min_eq_left h]
  · rw [Nat.min_eq_right (by omega), List.take_length, List.take_of_length_le (by omega)]
theorem cut_from {α : Type} {xs : List α} {k : Nat} : (xs.drop (HT.sIx xs.length 0 (some (k : Int)))).take (HT.sIx xs.length xs.length none - HT.sIx xs.length 0 (some (k : Int))) = xs.drop k := by
  rw [HT.sIx_none, HT.sIx_nat]
  by_cases h : k ≤ xs.length
  · rw [Nat.min_eq_left h, List.take_of_length_le (by rw [List.length_drop]; omega)]
  · rw [Nat.min_eq_right (by omega), List.drop_length, List.drop_of_length_le (by omega)]; simp
theorem cut_mid {α : Type} {xs : List α} {k l : Nat} : (xs.drop (HT.sIx xs.length 0 (some (k : Int)))).take (HT.sIx xs.length xs.length (some (l : Int)) - HT.sIx xs.length 0 (some (k : Int))) = (xs.drop k).take (l - k) := by
  rw [HT.sIx_nat, HT.sIx_nat]
  by_cases h : k ≤ xs.length
  · rw [Nat.min_eq_left h]
    by_cases h2 : l ≤ xs.length
    · rw [Nat.min_eq_left h2]
    · rw [Nat.min_eq_right (by omega), List.take_of_length_le (by rw [List.length_drop]; omega), List.take_of_length_le (by rw [List.length_drop]; omega)]
  · rw [Nat.min_eq_right (by omega : xs.length ≤ k), List.drop_length, List.drop_of_length_le (by omega)]; simp
end Lt
namespace Lt
open PySem PySem.Spec PyProof.Rows L2
/-! ### fractions by their values -/
def val (q : Fr) : Rat := (q.1 : Rat) / (q.2 : Rat)
/-- in lowest terms -/
structure Low (q : Fr) : Prop where
  pos : 0 < q.2
  cop : Int.gcd q.1 q.2 = 1
theorem mk_low {t b : Int} (hb : 0 < b) : Low (mk t b) := by
  have hg := gcd_pos (t := t) hb
  rw [mk]
  refine ⟨Int.ediv_pos_of_pos_of_dvd hb (Int.le_of_lt hg) (Int.gcd_dvd_right _ _), ?_⟩
  show Int.gcd (t / (Int.gcd t b : Int)) (b / (Int.gcd t b : Int)) = 1
  exact Int.gcd_ediv_gcd_ediv_gcd (by omega)
theorem mk_val {t b : Int} (hb : 0 < b) : val (mk t b) = (t : Rat) / (b : Rat) := by
  have hg := gcd_pos (t := t) hb
  have h1 : (Int.gcd t b : Int) * (t / (Int.gcd t b : Int)) = t := Int.mul_ediv_cancel' (Int.gcd_dvd_left _ _)
  have h2 : (Int.gcd t b : Int) * (b / (Int.gcd t b : Int)) = b := Int.mul_ediv_cancel' (Int.gcd_dvd_right _ _)
  have p2 := (mk_low (t := t) hb).pos
  rw [mk] at p2 ⊢
  show ((t / (Int.gcd t b : Int) : Int) : Rat) / ((b / (Int.gcd t b : Int) : Int) : Rat) = _
  have p3 : 0 < b / (Int.gcd t b : Int) := p2
  generalize (t / (Int.gcd t b : Int) : Int) = x at *
  generalize (b / (Int.gcd t b : Int) : Int) = y at *
  generalize (Int.gcd t b : Int) = g at *
  have e1 : (t : Rat) = (g : Rat) * (x : Rat) := by rw [← Rat.intCast_mul, h1]
  have e2 : (b : Rat) = (g : Rat) * (y : Rat) := by rw [← Rat.intCast_mul, h2]
  have ng : (g : Rat) ≠ 0 := by intro z; rw [← Rat.intCast_zero, Rat.intCast_inj] at z; omega
  have ny : (y : Rat) ≠ 0 := by intro z; rw [← Rat.intCast_zero, Rat.intCast_inj] at z; omega
  rw [e1, e2]
  grind
theorem dvd_cop {a b c : Int} (h : a ∣ b * c) (g : Int.gcd a b = 1) : a ∣ c := by
  rw [← Int.natAbs_dvd_natAbs] at h ⊢
  rw [Int.natAbs_mul] at h
  exact Nat.Coprime.dvd_of_dvd_mul_left g h
theorem low_ext {p q : Fr} (hp : Low p) (hq : Low q) (e : p.1 * q.2 = q.1 * p.2) : p = q := by
  have h1 : p.2 ∣ q.2 := by
    have : p.2 ∣ p.1 * q.2 := ⟨q.1, by rw [e]; exact Int.mul_comm _ _⟩
    exact dvd_cop this (by rw [Int.gcd_comm]; exact hp.cop)
  have h2 : q.2 ∣ p.2 := by
    have : q.2 ∣ q.1 * p.2 := ⟨p.1, by rw [← e]; exact Int.mul_comm _ _⟩
    exact dvd_cop this (by rw [Int.gcd_comm]; exact hq.cop)
  have h3 : p.2 = q.2 := Int.dvd_antisymm (Int.le_of_lt hp.pos) (Int.le_of_lt hq.pos) h1 h2
  have h4 : p.1 = q.1 := by
    rw [← h3] at e
    exact Int.eq_of_mul_eq_mul_right (by have := hp.pos; omega) e
  exact Prod.ext h4 h3
theorem val_inj {p q : Fr} (hp : Low p) (hq : Low q) (e : val p = val q) : p = q := by
  apply low_ext hp hq
  unfold val at e
  have np : (p.2 : Rat) ≠ 0 := by intro z; rw [← Rat.intCast_zero, Rat.intCast_inj] at z; have := hp.pos; omega
  have nq : (q.2 : Rat) ≠ 0 := by intro z; rw [← Rat.intCast_zero, Rat.intCast_inj] at z; have := hq.pos; omega
  have e2 : (p.1 : Rat) * (q.2 : Rat) = (q.1 : Rat) * (p.2 : Rat) := by grind
  rw [← Rat.intCast_mul, ← Rat.intCast_mul, Rat.intCast_inj] at e2
  exact e2
theorem plus_val {a b : Fr} (ha : 0 < a.2) (hb : 0 < b.2) : val (plusF a b) = val a + val b := by
  have na : (a.2 : Rat) ≠ 0 := by intro z; rw [← Rat.intCast_zero, Rat.intCast_inj] at z; omega
  have nb : (b.2 : Rat) ≠ 0 := by intro z; rw [← Rat.intCast_zero, Rat.intCast_inj] at z; omega
  unfold plusF
  rw [mk_val (Int.mul_pos ha hb)]
  unfold val
  simp only [Rat.intCast_add, Rat.intCast_mul]
  grind
theorem minus_val {a b : Fr} (ha : 0 < a.2) (hb : 0 < b.2) : val (minusF a b) = val a - val b := by
  have na : (a.2 : Rat) ≠ 0 := by intro z; rw [← Rat.intCast_zero, Rat.intCast_inj] at z; omega
  have nb : (b.2 : Rat) ≠ 0 := by intro z; rw [← Rat.intCast_zero, Rat.intCast_inj] at z; omega
  unfold minusF
  rw [mk_val (Int.mul_pos ha hb)]
  unfold val
  simp only [Rat.intCast_sub, Rat.intCast_mul]
  grind
theorem times_val {a b : Fr} (ha : 0 < a.2) (hb : 0 < b.2) : val (timesF a b) = val a * val b := by
  have na : (a.2 : Rat) ≠ 0 := by intro z; rw [← Rat.intCast_zero, Rat.intCast_inj] at z; omega
  have nb : (b.2 : Rat) ≠ 0 := by intro z; rw [← Rat.intCast_zero, Rat.intCast_inj] at z; omega
  unfold timesF
  rw [mk_val (Int.mul_pos ha hb)]
  unfold val
  simp only [Rat.intCast_mul]
  grind
theorem plus_low {a b : Fr} (ha : 0 < a.2) (hb : 0 < b.2) : Low (plusF a b) := by rw [plusF]; exact mk_low (Int.mul_pos ha hb)
theorem minus_low {a b : Fr} (ha : 0 < a.2) (hb : 0 < b.2) : Low (minusF a b) := by rw [minusF]; exact mk_low (Int.mul_pos ha hb)
theorem times_low {a b : Fr} (ha : 0 < a.2) (hb : 0 < b.2) : Low (timesF a b) := by rw [timesF]; exact mk_low (Int.mul_pos ha hb)
end Lt
namespace Lt
open PySem PySem.Spec PyProof.Rows L2
theorem wh_gcd2 {K : Ed} {A : Int → Prop} {C : Cn} {h : Hh} (hK : ∀ g, K.nx [some (.int g), some (.int 0)] h = A g) (a b : Nat) :
    whI (wE C (.cm .gt (.v 1) (.kI 0))) (wS C (.seq (.par 0 1 (.v 1) (.op .mod (.v 0) (.v 1))) .skip)) K [some (.int a), some (.int b)] h = A (Nat.gcd a b) := by
  refine wh_det (σ := Nat × Nat) (fun s => [some (.int s.1), some (.int s.2)]) (fun _ => True) (fun s => A (Nat.gcd s.1 s.2)) (fun s => s.2) (fun s _ => ?_) (a, b) trivial
  obtain ⟨a, b⟩ := s
  by_cases e : b = 0
  · subst e
    right; intro W
    simp [wE, wS, optW_some, getE, cmW, blW, hK]
  · left
    have e1 : (0 : Int) < b := by omega
    have e2 : (b : Int) ≠ 0 := by omega
    have e3 : (a : Int).fmod b = ((a % b : Nat) : Int) := by rw [Int.fmod_eq_emod_of_nonneg _ (by omega)]; rfl
    refine ⟨(b, a % b), trivial, Nat.mod_lt _ (by omega), ?_, fun W => ?_⟩
    · show A _ = A _
      rw [Nat.gcd_comm a b, Nat.gcd_rec b a, Nat.gcd_comm]
    · simp [wE, wS, optW_some, getE, setE, binW, cmW, blW, e1, e2, e3, e]
theorem wh_gcd4 {K : Ed} {A : Int → Prop} {C : Cn} {h : Hh} {x y : Option D} (hK : ∀ g, K.nx [x, y, some (.int g), some (.int 0)] h = A g) (a b : Nat) :
    whI (wE C (.cm .gt (.v 3) (.kI 0))) (wS C (.seq (.par 2 3 (.v 3) (.op .mod (.v 2) (.v 3))) .skip)) K [x, y, some (.int a), some (.int b)] h = A (Nat.gcd a b) := by
  refine wh_det (σ := Nat × Nat) (fun s => [x, y, some (.int s.1), some (.int s.2)]) (fun _ => True) (fun s => A (Nat.gcd s.1 s.2)) (fun s => s.2) (fun s _ => ?_) (a, b) trivial
  obtain ⟨a, b⟩ := s
  by_cases e : b = 0
  · subst e
    right; intro W
    simp [wE, wS, optW_some, getE, cmW, blW, hK]
  · left
    have e1 : (0 : Int) < b := by omega
    have e2 : (b : Int) ≠ 0 := by omega
    have e3 : (a : Int).fmod b = ((a % b : Nat) : Int) := by rw [Int.fmod_eq_emod_of_nonneg _ (by omega)]; rfl
    refine ⟨(b, a % b), trivial, Nat.mod_lt _ (by omega), ?_, fun W => ?_⟩
    · show A _ = A _
      rw [Nat.gcd_comm a b, Nat.gcd_rec b a, Nat.gcd_comm]
    · simp [wE, wS, optW_some, getE, setE, binW, cmW, blW, e1, e2, e3, e]
end Lt
namespace Lt
open PySem PySem.Spec PyProof.Rows L2
/-! ### lists laid one by one -/
theorem up_comm {h : Hh} {a b : Addr} {o u : O} (e : a ≠ b) : up (up h a o) b u = up (up h b u) a o := Hh.ext fun c => by
  by_cases z : c = b
  · subst z; rw [up_same, up_ne (Ne.symm e), up_same]
  · by_cases y : c = a
    · subst y; rw [up_ne z, up_same, up_same]
    · rw [up_ne z, up_ne y, up_ne y, up_ne z]
structure Arr (h h' : Hh) (ps : List Addr) (rows : List (List D)) : Prop where
  len : ps.length = rows.length
  nd : ps.Nodup
  new : ∀ p ∈ ps, h p = none
  get : ∀ (i : Nat) (p : Addr) (r : List D), ps[i]? = some p → rows[i]? = some r → h' p = some (.lst r)
  old : ∀ a, a ∉ ps → h' a = h a
section
variable {h h' : Hh} {ps : List Addr} {rows : List (List D)} {p : Addr} {r : List D} {i : Nat}
theorem Arr.nil : Arr h h [] [] := ⟨rfl, List.nodup_nil, fun _ z => by simp at z, fun i p r z => by simp at z, fun _ _ => rfl⟩
theorem Arr.notin (A : Arr h h' ps rows) (e : h' p = none) : p ∉ ps := fun z => by
  obtain ⟨i, hi, rfl⟩ := List.getElem_of_mem z
  have hr : i < rows.length := by rw [← A.len]; exact hi
  have := A.get i ps[i] rows[i] (List.getElem?_eq_getElem hi) (List.getElem?_eq_getElem hr)
  rw [e] at this; cases this
theorem Arr.snoc (A : Arr h h' ps rows) (e : h' p = none) : Arr h (up h' p (.lst r)) (ps ++ [p]) (rows ++ [r]) := by
  have ni := A.notin e
  refine ⟨by simp [A.len], ?_, fun q hq => ?_, fun i q s h1 h2 => ?_, fun a ha => ?_⟩
  · rw [List.nodup_append]; exact ⟨A.nd, by simp, fun a ha b hb => by simp at hb; subst hb; intro z; subst z; exact ni ha⟩
  · rcases List.mem_append.1 hq with z | z
    · exact A.new q z
    · simp at z; subst z; rw [← A.old q ni]; exact e
  · by_cases hi : i < ps.length
    · rw [List.getElem?_append_left hi] at h1
      rw [List.getElem?_append_left (A.len ▸ hi)] at h2
      rw [up_ne (fun z => by subst z; exact ni (List.mem_of_getElem? h1))]
      exact A.get i q s h1 h2
    · rw [List.getElem?_append_right (by omega)] at h1
      rw [List.getElem?_append_right (by rw [← A.len]; omega)] at h2
      have e1 : i - ps.length = 0 := by
        cases z : i - ps.length with
        | zero => rfl
        | succ n => rw [z] at h1; simp at h1
      rw [e1] at h1; rw [← A.len, e1] at h2
      simp at h1 h2; subst h1 h2
      exact up_same
  · have h1 : a ∉ ps := fun z => ha (by simp [z])
    have h2 : a ≠ p := fun z => ha (by simp [z])
    rw [up_ne h2]; exact A.old a h1
theorem Arr.rd (A : Arr h h' ps rows) (e : ps[i]? = some p) (e2 : rows[i]? = some r) : rdL h' p = some r := by
  unfold rdL; rw [A.get i p r e e2]
theorem Arr.wr (A : Arr h h' ps rows) (e : ps[i]? = some p) (e2 : rows[i]? = some r) : wrL h' p = some r := by
  unfold wrL; rw [A.get i p r e e2]
theorem Arr.set (A : Arr h h' ps rows) (e : ps[i]? = some p) : Arr h (up h' p (.lst r)) ps (rows.set i r) := by
  refine ⟨by simp [A.len], A.nd, A.new, fun j q s h1 h2 => ?_, fun a ha => ?_⟩
  · by_cases hij : i = j
    · subst hij
      rw [e] at h1; cases h1
      have hi : i < rows.length := by
        by_cases z : i < rows.length
        · exact z
        · rw [List.getElem?_eq_none (by rw [List.length_set]; omega)] at h2; cases h2
      rw [List.getElem?_set_self hi] at h2; cases h2
      exact up_same
    · rw [List.getElem?_set_ne hij] at h2
      rw [up_ne]
      · exact A.get j q s h1 h2
      · intro z; subst z
        exact hij ((List.getElem?_inj (by
          by_cases z : i < ps.length
          · exact z
          · rw [List.getElem?_eq_none (by omega)] at e; cases e) A.nd).1 (e.trans h1.symm))
  · rw [up_ne (fun z => by subst z; exact ha (List.mem_of_getElem? e))]; exact A.old a ha
theorem Arr.gc (A : Arr h h' ps rows) : gcH h h' = h := Hh.ext fun a => by
  by_cases z : h a = none
  · rw [gc_new z, z]
  · rw [gc_old z]
    exact A.old a fun y => z (A.new a y)
theorem Arr.isPs (A : Arr h h' ps rows) {ds : List (List PyData)} (e : rows.map toPs = ds.map some) : IsPs h' (ps.map D.ref) (ds.map PyData.list) := by
  have gen : ∀ (ps : List Addr) (rows : List (List D)) (ds : List (List PyData)), ps.length = rows.length → (∀ (i : Nat) p r, ps[i]? = some p → rows[i]? = some r → h' p = some (.lst r)) → rows.map toPs = ds.map some → IsPs h' (ps.map D.ref) (ds.map PyData.list) := by
    intro ps
    induction ps with
    | nil =>
      intro rows ds l _ e
      have : rows = [] := List.eq_nil_of_length_eq_zero l.symm
      subst this
      have : ds = [] := by cases ds with
        | nil => rfl
        | cons _ _ => simp at e
      subst this
      simp [IsPs]
    | cons p ps ih =>
      intro rows ds l g e
      match rows, ds, l, e with
      | r :: rows, d :: ds, l, e =>
        simp only [List.map_cons, List.cons.injEq] at e
        rw [List.map_cons, List.map_cons, IsPs]
        refine ⟨_, _, rfl, ?_, ih rows ds (by simpa using l) (fun i q s h1 h2 => g (i + 1) q s (by simpa using h1) (by simpa using h2)) e.2⟩
        rw [IsP]
        exact ⟨r, by simp only [lsD, rdL, g 0 p r rfl rfl], toPs_isPs e.1⟩
      | [], _, l, _ => simp at l
      | _ :: _, [], _, e => simp at e
  exact gen ps rows ds A.len A.get e
end
section
variable {σ α : Type} {t : Tg} {b : En → Hh → Ed → Prop} {K : Ed}
/-- a loop whose turns lay new objects -/
theorem fr_all (st : σ → En) (hp : σ → Hh) (f : α → D) (P : List α → σ → Prop) (F : List α → σ → Prop) (nil : ∀ s, P [] s → K.nx (st s) (hp s) = F [] s)
    (cons : ∀ a as s, P (a :: as) s → ∃ N : σ → Prop, (∃ s', N s') ∧ (∀ s', N s' → P as s' ∧ F as s' = F (a :: as) s) ∧ ∀ W : En → Hh → Prop, (tgW t (f a) (st s) fun ρ1 => b ρ1 (hp s) { K with nx := W }) = ∀ s', N s' → W (st s') (hp s')) :
    ∀ (xs : List α) (s : σ), P xs s → frL t b K (xs.map f) (st s) (hp s) = F xs s
  | [], s, p => nil s p
  | a :: as, s, p => by
    rw [List.map_cons]
    unfold frL
    obtain ⟨N, ⟨s0, n0⟩, hN, q⟩ := cons a as s p
    rw [q]
    apply propext
    constructor
    · intro w
      have := w s0 n0
      rw [fr_all st hp f P F nil cons as s0 (hN s0 n0).1, (hN s0 n0).2] at this
      exact this
    · intro w s' n'
      rw [fr_all st hp f P F nil cons as s' (hN s' n').1, (hN s' n').2]
      exact w
end
end Lt
namespace Lt
open PySem PySem.Spec PyProof.Rows L2
/-! ### loops, one way -/
section
variable {σ α : Type} {t : Tg} {b : En → Hh → Ed → Prop} {K : Ed}
theorem fr_go (st : σ → En) (hp : σ → Hh) (f : α → D) (I : List α → σ → Prop) (nil : ∀ s, I [] s → K.nx (st s) (hp s))
    (cons : ∀ a as s, I (a :: as) s → ∀ W : En → Hh → Prop, (∀ s', I as s' → W (st s') (hp s')) → tgW t (f a) (st s) fun ρ1 => b ρ1 (hp s) { K with nx := W }) :
    ∀ (xs : List α) (s : σ), I xs s → frL t b K (xs.map f) (st s) (hp s)
  | [], s, p => nil s p
  | a :: as, s, p => by
    rw [List.map_cons]
    unfold frL
    exact cons a as s p _ fun s' p' => fr_go st hp f I nil cons as s' p'
end
end Lt
namespace Lt
open PySem PySem.Spec PyProof.Rows L2
section
variable {α : Type} {t : Tg} {h : Hh}
/-- a comprehension whose items are known, that reads the heap -/
theorem lc_detH {c e : En → Hh → QD → Prop} {p : Addr} {ρ : En} {K : Hh → Prop} (f : α → D) (P : α → Prop) (g : α → Option D)
    (step : ∀ a, P a → ∀ (acc : List D) (N : Hh → Prop) (Y : D → Hh → Prop), (tgW t (f a) ρ fun ρ1 => c ρ1 (up h p (.lst acc)) fun b h1 => blW b fun b => if b = true then e ρ1 h1 Y else N h1) = match g a with
      | some y => Y y (up h p (.lst acc))
      | none => N (up h p (.lst acc))) :
    ∀ (xs : List α) (acc : List D), (∀ a ∈ xs, P a) → acc.length + xs.length ≤ sizeLine → lcL t c e p ρ K (xs.map f) (up h p (.lst acc)) = K (up h p (.lst (acc ++ xs.filterMap g)))
  | [], acc, _, _ => by simp [lcL]
  | a :: as, acc, hP, hl => by
    rw [List.map_cons]
    unfold lcL
    rw [step a (hP a (by simp)) acc]
    rw [List.length_cons] at hl
    cases q : g a with
    | none =>
      simp only
      rw [lc_detH f P g step as acc (fun b hb => hP b (by simp [hb])) (by omega), List.filterMap_cons_none q]
    | some y =>
      simp only
      have e : wrL (up h p (.lst acc)) p = some acc := by unfold wrL; rw [up_same]
      rw [e, optW_some, up_up, lc_detH f P g step as (acc ++ [y]) (fun b hb => hP b (by simp [hb])) (by rw [List.length_append, List.length_singleton]; omega), List.filterMap_cons_some q]
      have e2 : acc.length < sizeLine := by omega
      simp [e2]
theorem lc_allH {c e : En → Hh → QD → Prop} {ρ : En} {R : Addr → Hh → Prop} (f : α → D) (P : α → Prop) (g : α → Option D)
    (step : ∀ p, h p = none → ∀ a, P a → ∀ (acc : List D) (N : Hh → Prop) (Y : D → Hh → Prop), (tgW t (f a) ρ fun ρ1 => c ρ1 (up h p (.lst acc)) fun b h1 => blW b fun b => if b = true then e ρ1 h1 Y else N h1) = match g a with
      | some y => Y y (up h p (.lst acc))
      | none => N (up h p (.lst acc))) (xs : List α) (hP : ∀ a ∈ xs, P a) (hl : xs.length ≤ sizeLine) :
    (∀ p, h p = none → lcI (.seq (xs.map f)) t c e p ρ (R p) (up h p (.lst []))) = ∀ p, h p = none → R p (up h p (.lst (xs.filterMap g))) := by
  apply propext
  have q := fun p (hp : h p = none) => lc_detH (K := R p) f P g (step p hp) xs [] hP (by simpa using hl)
  constructor
  · intro w p hp
    have w' := w p hp
    simp only [lcI] at w'
    rw [q p hp] at w'; simpa using w'
  · intro w p hp
    simp only [lcI]
    rw [q p hp]; simpa using w p hp
theorem lc_mapH {e : En → Hh → QD → Prop} {ρ : En} {R : Addr → Hh → Prop} (f : α → D) (P : α → Prop) (g : α → D)
    (step : ∀ p, h p = none → ∀ a, P a → ∀ (acc : List D) (Y : D → Hh → Prop), (tgW t (f a) ρ fun ρ1 => e ρ1 (up h p (.lst acc)) Y) = Y (g a) (up h p (.lst acc))) (xs : List α) (hP : ∀ a ∈ xs, P a) (hl : xs.length ≤ sizeLine) :
    (∀ p, h p = none → lcI (.seq (xs.map f)) t (fun _ h Q => Q (.bl true) h) e p ρ (R p) (up h p (.lst []))) = ∀ p, h p = none → R p (up h p (.lst (xs.map g))) := by
  rw [lc_allH f P (fun a => some (g a)) (fun p hp a pa acc N Y => ?_) xs hP hl]
  · rw [List.filterMap_eq_map']
  · have := step p hp a pa acc Y
    simp only [blW, if_true]
    exact this
end
end Lt

namespace Lt
open PySem PySem.Spec PyProof.Rows L2
/-! ### what each operation comes to, by the forms of its arguments -/
section
variable {i j k : Int} {x y z : Str} {xs ys : List D} {a b : Addr} {h : Hh} {Q : QD} {d e : D} {bb cc : Bool}
theorem q_addI : binW .add (.int i) (.int j) h Q = Q (.int (i + j)) h := rfl
theorem q_addS : binW .add (.str x) (.str y) h Q = (x.length + y.length ≤ sizeLine ∧ Q (.str (x ++ y)) h) := rfl
theorem q_addT : binW .add (.tup xs) (.tup ys) h Q = (xs.length + ys.length ≤ sizeLine ∧ Q (.tup (xs ++ ys)) h) := rfl
theorem q_addL : binW .add (.lst xs) d h Q = optW (lsD h d) fun ys => xs.length + ys.length ≤ sizeLine ∧ ∀ p, h p = none → Q (.ref p) (up h p (.lst (xs ++ ys))) := by cases d <;> rfl
theorem q_addR : binW .add (.ref a) d h Q = optW (rdL h a) fun xs => optW (lsD h d) fun ys => xs.length + ys.length ≤ sizeLine ∧ ∀ p, h p = none → Q (.ref p) (up h p (.lst (xs ++ ys))) := by cases d <;> rfl
theorem q_subI : binW .sub (.int i) (.int j) h Q = Q (.int (i - j)) h := rfl
theorem q_mulI : binW .mul (.int i) (.int j) h Q = (IntMulOk i j ∧ Q (.int (i * j)) h) := rfl
theorem q_mulR : binW .mul (.ref a) (.int k) h Q = optW (rdL h a) fun xs => -(2 ^ 63) ≤ k ∧ k < 2 ^ 63 ∧ xs.length * k.toNat ≤ sizeLine ∧ ∀ p, h p = none → Q (.ref p) (up h p (.lst (List.replicate k.toNat xs).flatten)) := rfl
theorem q_mulL : binW .mul (.lst xs) (.int k) h Q = (-(2 ^ 63) ≤ k ∧ k < 2 ^ 63 ∧ xs.length * k.toNat ≤ sizeLine ∧ ∀ p, h p = none → Q (.ref p) (up h p (.lst (List.replicate k.toNat xs).flatten))) := rfl
theorem q_mulT : binW .mul (.tup xs) (.int k) h Q = ((-(2 ^ 63) ≤ k ∧ k ≤ 1000 ∧ xs.length ≤ 1000) ∧ Q (.tup (List.replicate k.toNat xs).flatten) h) := rfl
theorem q_divI : binW .div (.int i) (.int j) h Q = (j ≠ 0 ∧ Builtin.divisionGoesByPylong i j = false ∧ Q (.int (i.fdiv j)) h) := rfl
theorem q_modI : binW .mod (.int i) (.int j) h Q = (j ≠ 0 ∧ Q (.int (i.fmod j)) h) := rfl
theorem q_powI : binW .pow (.int i) (.int j) h Q = (CPow i j ∧ Q (.int (i ^ j.toNat)) h) := rfl
theorem q_neg : negW (.int i) h Q = Q (.int (-i)) h := rfl
theorem q_lt : cmW .lt (.int i) (.int j) h Q = Q (.bl (decide (i < j))) h := rfl
theorem q_le : cmW .le (.int i) (.int j) h Q = Q (.bl (decide (i ≤ j))) h := rfl
theorem q_gt : cmW .gt (.int i) (.int j) h Q = Q (.bl (decide (j < i))) h := rfl
theorem q_ge : cmW .ge (.int i) (.int j) h Q = Q (.bl (decide (j ≤ i))) h := rfl
theorem q_eqI : cmW .eq (.int i) (.int j) h Q = Q (.bl (decide (i = j))) h := rfl
theorem q_neI : cmW .ne (.int i) (.int j) h Q = Q (.bl (!decide (i = j))) h := rfl
theorem q_eqB : cmW .eq (.bl bb) d h Q = eqW (.bl bb) d h fun b => Q (.bl b) h := by cases d <;> rfl
theorem q_eqS : cmW .eq (.str x) (.str y) h Q = Q (.bl (decide (x = y))) h := rfl
theorem q_eqN : cmW .eq .non d h Q = eqW .non d h fun b => Q (.bl b) h := by cases d <;> rfl
theorem q_eqT : cmW .eq (.tup xs) d h Q = eqW (.tup xs) d h fun b => Q (.bl b) h := by cases d <;> rfl
theorem q_eqL : cmW .eq (.lst xs) d h Q = eqW (.lst xs) d h fun b => Q (.bl b) h := by cases d <;> rfl
theorem q_eqR : cmW .eq (.ref a) d h Q = eqW (.ref a) d h fun b => Q (.bl b) h := by cases d <;> rfl
theorem q_neB : cmW .ne (.bl bb) d h Q = eqW (.bl bb) d h fun b => Q (.bl (!b)) h := by cases d <;> rfl
theorem q_neS : cmW .ne (.str x) (.str y) h Q = Q (.bl (!decide (x = y))) h := rfl
theorem q_neN : cmW .ne .non d h Q = eqW .non d h fun b => Q (.bl (!b)) h := by cases d <;> rfl
theorem q_neT : cmW .ne (.tup xs) d h Q = eqW (.tup xs) d h fun b => Q (.bl (!b)) h := by cases d <;> rfl
theorem q_neL : cmW .ne (.lst xs) d h Q = eqW (.lst xs) d h fun b => Q (.bl (!b)) h := by cases d <;> rfl
theorem q_neR : cmW .ne (.ref a) d h Q = eqW (.ref a) d h fun b => Q (.bl (!b)) h := by cases d <;> rfl
theorem q_in : cmW .isin d e h Q = inW d e h fun b => Q (.bl b) h := by cases d <;> cases e <;> rfl
theorem q_notin : cmW .notin d e h Q = inW d e h fun b => Q (.bl (!b)) h := by cases d <;> cases e <;> rfl
theorem q_ixT : ixW (.tup xs) (.int i) h Q = optW (atI xs i) fun v => Q v h := rfl
theorem q_ixL : ixW (.lst xs) (.int i) h Q = optW (atI xs i) fun v => Q v h := rfl
theorem q_ixS : ixW (.str z) (.int i) h Q = (z.length ≤ sizeLine ∧ optW (atI z.cps.toList i) fun c => Q (.str ⟨#[c]⟩) h) := rfl
theorem q_ixR : ixW (.ref a) (.int i) h Q = optW (rdL h a) fun xs => optW (atI xs i) fun v => Q v h := rfl
variable {lo hi : Option Int}
theorem q_slT : slW (.tup xs) lo hi h Q = Q (.tup (cutD xs lo hi)) h := rfl
theorem q_slL : slW (.lst xs) lo hi h Q = ∀ p, h p = none → Q (.ref p) (up h p (.lst (cutD xs lo hi))) := rfl
theorem q_slR : slW (.ref a) lo hi h Q = optW (rdL h a) fun xs => ∀ p, h p = none → Q (.ref p) (up h p (.lst (cutD xs lo hi))) := rfl
theorem q_slS : slW (.str z) lo hi h Q = (z.length ≤ sizeLine ∧ Q (.str (cutS z lo hi)) h) := rfl
theorem q_intW {f : Int → Prop} : intW (.int i) f = f i := rfl
theorem q_blW {f : Bool → Prop} : blW (.bl bb) f = f bb := rfl
theorem q_lenT : biW .len [.tup xs] h Q = Q (.int (xs.length : Nat)) h := rfl
theorem q_lenS : biW .len [.str x] h Q = (x.length ≤ sizeLine ∧ Q (.int (x.length : Nat)) h) := rfl
theorem q_lenR : biW .len [.ref a] h Q = optW (rdL h a) fun xs => Q (.int (xs.length : Nat)) h := rfl
theorem q_lenL : biW .len [.lst xs] h Q = Q (.int (xs.length : Nat)) h := rfl
theorem q_abs : biW .abs [.int i] h Q = Q (.int (if i < 0 then -i else i)) h := rfl
theorem q_min2 : biW .min2 [.int i, .int j] h Q = Q (.int (if j < i then j else i)) h := rfl
theorem q_max2 : biW .max2 [.int i, .int j] h Q = Q (.int (if j > i then j else i)) h := rfl
theorem q_sumR : biW .sum [.ref a] h Q = optW (rdL h a) fun xs => optW (intsD xs) fun ns => Q (.int ns.sum) h := rfl
theorem q_sumL : biW .sum [.lst xs] h Q = optW (intsD xs) fun ns => Q (.int ns.sum) h := rfl
theorem q_sumT : biW .sum [.tup xs] h Q = optW (intsD xs) fun ns => Q (.int ns.sum) h := rfl
theorem q_anyR : biW .any [.ref a] h Q = optW (rdL h a) fun xs => optW (blsD xs) fun bs => Q (.bl (bs.any id)) h := rfl
theorem q_anyL : biW .any [.lst xs] h Q = optW (blsD xs) fun bs => Q (.bl (bs.any id)) h := rfl
theorem q_allR : biW .all [.ref a] h Q = optW (rdL h a) fun xs => optW (blsD xs) fun bs => Q (.bl (bs.all id)) h := rfl
theorem q_allL : biW .all [.lst xs] h Q = optW (blsD xs) fun bs => Q (.bl (bs.all id)) h := rfl
theorem q_listR : biW .list [.ref a] h Q = optW (rdL h a) fun xs => ∀ p, h p = none → Q (.ref p) (up h p (.lst xs)) := rfl
theorem q_listL : biW .list [.lst xs] h Q = ∀ p, h p = none → Q (.ref p) (up h p (.lst xs)) := rfl
theorem q_listT : biW .list [.tup xs] h Q = ∀ p, h p = none → Q (.ref p) (up h p (.lst xs)) := rfl
theorem q_tupR : biW .tuple [.ref a] h Q = optW (rdL h a) fun xs => Q (.tup xs) h := rfl
theorem q_tupL : biW .tuple [.lst xs] h Q = Q (.tup xs) h := rfl
theorem q_tupT : biW .tuple [.tup xs] h Q = Q (.tup xs) h := rfl
theorem q_tAp : mtT .append (.ref a) h = ∃ xs, rdL h a = some xs := rfl
theorem q_tEx : mtT .extend (.ref a) h = ∃ xs, rdL h a = some xs := rfl
theorem q_tPop : mtT .pop (.ref a) h = ∃ xs, rdL h a = some xs := rfl
theorem q_tRev : mtT .reverse (.ref a) h = ∃ xs, rdL h a = some xs := rfl
theorem q_tCl : mtT .clear (.ref a) h = ∃ xs, rdL h a = some xs := rfl
theorem q_mAp : mtW .append (.ref a) [d] h Q = optW (wrL h a) fun xs => xs.length < sizeLine ∧ Q .non (up h a (.lst (xs ++ [d]))) := rfl
theorem q_mEx : mtW .extend (.ref a) [d] h Q = optW (wrL h a) fun xs => optW (sqD h d) fun ys => xs.length + ys.length ≤ sizeLine ∧ Q .non (up h a (.lst (xs ++ ys))) := rfl
theorem q_sqT : sqD h (.tup xs) = some xs := rfl
theorem q_sqL : sqD h (.lst xs) = some xs := rfl
theorem q_sqR : sqD h (.ref a) = rdL h a := rfl
theorem q_lrev : pxW .lrev [d] h Q = optW (lsD h d) fun xs => ∀ p, h p = none → Q (.ref p) (up h p (.lst xs.reverse)) := rfl
theorem q_mPop : mtW .pop (.ref a) [] h Q = optW (wrL h a) fun xs => optW xs[xs.length - 1]? fun y => Q y (up h a (.lst xs.dropLast)) := rfl
theorem q_mRev : mtW .reverse (.ref a) [] h Q = optW (wrL h a) fun xs => Q .non (up h a (.lst xs.reverse)) := rfl
theorem q_mCl : mtW .clear (.ref a) [] h Q = optW (wrL h a) fun xs => Q .non (up h a (.lst [])) := rfl
theorem q_isN1 : isNon .non = true := rfl
theorem q_isN2 : isNon (.bl bb) = false := rfl
theorem q_isN3 : isNon (.int i) = false := rfl
theorem q_isN4 : isNon (.str x) = false := rfl
theorem q_isN5 : isNon (.tup xs) = false := rfl
theorem q_isN6 : isNon (.lst xs) = false := rfl
theorem q_isN7 : isNon (.ref a) = false := rfl
variable {t : Ty}
theorem q_ty1 : isTy h .non t = some false := rfl
theorem q_ty2 : isTy h (.bl bb) .int = some true := rfl
theorem q_ty3 : isTy h (.bl bb) .bool = some true := rfl
theorem q_ty4 : isTy h (.bl bb) .str = some false := rfl
theorem q_ty5 : isTy h (.bl bb) .tuple = some false := rfl
theorem q_ty6 : isTy h (.bl bb) .list = some false := rfl
theorem q_ty7 : isTy h (.int i) .int = some true := rfl
theorem q_ty8 : isTy h (.int i) .bool = some false := rfl
theorem q_ty9 : isTy h (.int i) .str = some false := rfl
theorem q_ty10 : isTy h (.int i) .tuple = some false := rfl
theorem q_ty11 : isTy h (.int i) .list = some false := rfl
theorem q_ty12 : isTy h (.str x) .int = some false := rfl
theorem q_ty13 : isTy h (.str x) .bool = some false := rfl
theorem q_ty14 : isTy h (.str x) .str = some true := rfl
theorem q_ty15 : isTy h (.str x) .tuple = some false := rfl
theorem q_ty16 : isTy h (.str x) .list = some false := rfl
theorem q_ty17 : isTy h (.tup xs) .int = some false := rfl
theorem q_ty18 : isTy h (.tup xs) .bool = some false := rfl
theorem q_ty19 : isTy h (.tup xs) .str = some false := rfl
theorem q_ty20 : isTy h (.tup xs) .tuple = some true := rfl
theorem q_ty21 : isTy h (.tup xs) .list = some false := rfl
theorem q_ty22 : isTy h (.lst xs) .int = some false := rfl
theorem q_ty23 : isTy h (.lst xs) .bool = some false := rfl
theorem q_ty24 : isTy h (.lst xs) .str = some false := rfl
theorem q_ty25 : isTy h (.lst xs) .tuple = some false := rfl
theorem q_ty26 : isTy h (.lst xs) .list = some true := rfl
variable {R : IT → Hh → Prop}
theorem q_itR : itW .val [.ref a] h R = optW (rdL h a) fun _ => R (.lst a) h := rfl
theorem q_itT : itW .val [.tup xs] h R = R (.seq xs) h := rfl
theorem q_itL : itW .val [.lst xs] h R = R (.seq xs) h := rfl
theorem q_rg1 : itW .range1 [.int j] h R = (-(2 ^ 62) ≤ j ∧ j < 2 ^ 62 ∧ R (.seq (rngD 0 j.toNat)) h) := rfl
theorem q_rg2 : itW .range2 [.int i, .int j] h R = ((-(2 ^ 62) ≤ i ∧ i < 2 ^ 62 ∧ -(2 ^ 62) ≤ j ∧ j < 2 ^ 62) ∧ R (.seq (rngD i (j - i).toNat)) h) := rfl
theorem q_rg3 : itW .range3 [.int i, .int j, .int k] h R = ((k ≠ 0 ∧ k.natAbs < 1073741824 ∧ Builtin.Range.small i j k = true ∧ 0 ≤ Builtin.Range.rangeSize i j k) ∧ R (.seq (rng3 i k (Builtin.Range.rangeSize i j k).toNat)) h) := rfl
theorem q_enR : itW .enum [.ref a] h R = optW (rdL h a) fun _ => R (.enu a) h := rfl
theorem q_enL : itW .enum [.lst xs] h R = R (.seq (enuD 0 xs)) h := rfl
theorem q_enT : itW .enum [.tup xs] h R = R (.seq (enuD 0 xs)) h := rfl
theorem q_zpT : itW .zip [.tup xs, .tup ys] h R = R (.seq (zipD xs ys)) h := rfl
theorem q_tIx : mtT .index (.lst xs) h = True := rfl
theorem q_tIxR : mtT .index (.ref a) h = ∃ xs, rdL h a = some xs := rfl
theorem q_tIn : mtT .insert (.ref a) h = ∃ xs, rdL h a = some xs := rfl
theorem q_mIx : mtW .index (.lst xs) [d] h Q = (flatD d = true ∧ xs.all flatD = true ∧ optW (idxD d xs) fun j => Q (.int (j : Nat)) h) := rfl
theorem q_mIxR : mtW .index (.ref a) [d] h Q = optW (rdL h a) fun xs => flatD d = true ∧ xs.all flatD = true ∧ optW (idxD d xs) fun j => Q (.int (j : Nat)) h := rfl
theorem q_mIn : mtW .insert (.ref a) [.int i, d] h Q = optW (wrL h a) fun xs => xs.length < sizeLine ∧ 0 ≤ i ∧ i < 2 ^ 63 ∧ Q .non (up h a (.lst (xs.take i.toNat ++ [d] ++ xs.drop i.toNat))) := rfl
theorem q_zpR : itW .zip [.ref a, .ref b] h R = optW (rdL h a) fun _ => optW (rdL h b) fun _ => R (.zip a b) h := rfl
theorem q_zpL : itW .zip [.lst xs, .lst ys] h R = R (.seq (zipD xs ys)) h := rfl
theorem q_rvL : itW .rev [.lst xs] h R = R (.seq xs.reverse) h := rfl
theorem q_rvT : itW .rev [.tup xs] h R = R (.seq xs.reverse) h := rfl
variable {ρ : En} {K : En → Prop} {is : List Nat} {n : Nat}
theorem q_tgN : tgW (.nm n) d ρ K = K (setE ρ n (some d)) := rfl
theorem q_tgT : tgW (.tp is) (.tup xs) ρ K = optW (setsE ρ is xs) K := rfl
theorem q_frS {t : Tg} {b : En → Hh → Ed → Prop} {E : Ed} : frI (.seq xs) t b E ρ h = frL t b E xs ρ h := rfl
theorem q_asR {R : Hh → Prop} : asW (.ref a) (.int i) d h R = optW (wrL h a) fun xs => optW (ixN xs.length i) fun j => R (up h a (.lst (xs.set j d))) := rfl
theorem q_lsL : lsD h (.lst xs) = some xs := rfl
theorem q_lsR : lsD h (.ref a) = rdL h a := rfl
theorem q_pN {f : En → Hh → QD → XD → Prop} : partW .kN f = fun _ h K _ => K none h := rfl
theorem q_pV {f : En → Hh → QD → XD → Prop} {i : Nat} : partW (.v i) f = fun ρ h K X => f ρ h (fun y h2 => intW y fun i => K (some i) h2) X := rfl
theorem q_pI {f : En → Hh → QD → XD → Prop} {i : Int} : partW (.kI i) f = fun ρ h K X => f ρ h (fun y h2 => intW y fun i => K (some i) h2) X := rfl
theorem q_pO {f : En → Hh → QD → XD → Prop} {o : Bo} {a b : E} : partW (.op o a b) f = fun ρ h K X => f ρ h (fun y h2 => intW y fun i => K (some i) h2) X := rfl
theorem q_pG {f : En → Hh → QD → XD → Prop} {a : E} : partW (.neg a) f = fun ρ h K X => f ρ h (fun y h2 => intW y fun i => K (some i) h2) X := rfl
theorem q_pX {f : En → Hh → QD → XD → Prop} {a b : E} : partW (.ix a b) f = fun ρ h K X => f ρ h (fun y h2 => intW y fun i => K (some i) h2) X := rfl
theorem q_pB {f : En → Hh → QD → XD → Prop} {o : Bi} {a : Es} : partW (.bi o a) f = fun ρ h K X => f ρ h (fun y h2 => intW y fun i => K (some i) h2) X := rfl
end
theorem q_set0 {v : Option D} {r : En} {x : Option D} : setE (v :: r) 0 x = x :: r := rfl
theorem q_setS {v : Option D} {r : En} {n : Nat} {x : Option D} : setE (v :: r) (n + 1) x = v :: setE r n x := rfl
end Lt
namespace Lt
open PySem PySem.Spec PyProof.Rows L2
/-! ### drawn numbers -/
def mixF (c p m : Int) : Int := (c * 48271 + 11) % p % m
theorem mixF_pos {c p m : Int} (hm : 0 < m) : 0 ≤ mixF c p m ∧ mixF c p m < m := ⟨Int.emod_nonneg _ (by omega), Int.emod_lt_of_pos _ hm⟩
/-! ### fractions with any bottom but nought -/
def mkS (t b : Int) : Fr := if b < 0 then mk (-t) (-b) else mk t b
@[irreducible] def overF (a b : Fr) : Fr := mkS (a.1 * b.2) (a.2 * b.1)
theorem mk_cross {t b : Int} (hb : 0 < b) : (mk t b).1 * b = t * (mk t b).2 := by
  rw [mk]
  show t / (Int.gcd t b : Int) * b = t * (b / (Int.gcd t b : Int))
  obtain ⟨u, hu⟩ := Int.gcd_dvd_left t b
  obtain ⟨v, hv⟩ := Int.gcd_dvd_right t b
  have hg := gcd_pos (t := t) hb
  generalize (Int.gcd t b : Int) = g at *
  subst hu hv
  rw [Int.mul_ediv_cancel_left _ (by omega), Int.mul_ediv_cancel_left _ (by omega)]
  grind
theorem mkS_cross {t b : Int} (hb : b ≠ 0) : (mkS t b).1 * b = t * (mkS t b).2 := by
  unfold mkS
  split
  · have := mk_cross (t := -t) (b := -b) (by omega)
    grind
  · exact mk_cross (by omega)
theorem mkS_low {t b : Int} (hb : b ≠ 0) : Low (mkS t b) := by
  unfold mkS
  split
  · exact mk_low (by omega)
  · exact mk_low (by omega)
theorem mkS_sz {n m : Nat} {t b : Int} (ht : B n t) (hb : b ≠ 0) (h : B m b) : Sz n m (mkS t b) := by
  unfold mkS
  split
  · exact mk_sz ht.neg (by omega) h.neg
  · exact mk_sz ht (by omega) h
theorem Low.gcd {q : Fr} (h : Low q) : (Int.gcd q.1 q.2 : Int) = 1 := by rw [h.cop]; rfl
theorem B.pow {n : Nat} {i : Int} (h : B n i) : ∀ k : Nat, B (n * k + 1) (i ^ k)
  | 0 => by rw [Int.pow_zero]; exact B.mono (m := 1) (by decide) (by omega)
  | k + 1 => by
    rw [Int.pow_succ]
    exact ((B.pow h k).mul h).mono (by rw [Nat.mul_add]; omega)
end Lt
namespace Lt
open PySem PySem.Spec PyProof.Rows L2
theorem rng3_map : ∀ (n : Nat) (lo c : Nat), rng3 (lo : Int) (c : Int) n = (List.range n).map fun k => D.int ((lo + k * c : Nat) : Int)
  | 0, lo, c => by simp [rng3]
  | n + 1, lo, c => by
    have e : ((lo : Int) + (c : Int)) = ((lo + c : Nat) : Int) := by omega
    rw [rng3, e, rng3_map n (lo + c) c, List.range_succ_eq_map]
    simp only [List.map_cons, List.map_map, Nat.zero_mul, Nat.add_zero]
    congr 1
    apply List.map_congr_left
    intro a _
    simp only [Function.comp, Nat.succ_eq_add_one]
    congr 2
    rw [Nat.add_mul]; omega
theorem minmax_if {n : Nat} {k : Nat} : (if (if (n : Int) > 1 then (n : Int) else 1) < (k : Int) then (if (n : Int) > 1 then (n : Int) else 1) else (k : Int)) = ((min k (max 1 n) : Nat) : Int) := by
  split <;> split <;> omega
end Lt

namespace Lt
open PySem PySem.Spec PyProof.Rows L2
/-! ### texts by their signs -/
def st (l : List Nat) : Str := ⟨l.toArray⟩
theorem st_len {l : List Nat} : (st l).length = l.length := by simp [st, Str.length]
theorem st_cps {l : List Nat} : (st l).cps.toList = l := by simp [st]
theorem st_inj {a b : List Nat} : st a = st b ↔ a = b := ⟨fun h => by have := congrArg (fun s : Str => s.cps.toList) h; simpa [st] using this, fun h => by rw [h]⟩
theorem st_app {a b : List Nat} : st a ++ st b = st (a ++ b) := by
  show Str.append _ _ = _
  unfold Str.append st
  simp
theorem st_one {c : Nat} : (⟨#[c]⟩ : Str) = st [c] := rfl
theorem st_of (s : Str) : s = st s.cps.toList := by cases s; simp [st]
theorem st_nil : Str.ofString "" = st [] := by decide +kernel
theorem st_cut {l : List Nat} {lo hi : Option Int} : cutS (st l) lo hi = st ((l.drop (HT.sIx l.length 0 lo)).take (HT.sIx l.length l.length hi - HT.sIx l.length 0 lo)) := by
  unfold cutS
  simp only [st_len]
  simp [st, Array.extract, List.extract_eq_take_drop]
theorem cut_last {α : Type} {xs : List α} : (xs.drop (HT.sIx xs.length 0 none)).take (HT.sIx xs.length xs.length (some (-1)) - HT.sIx xs.length 0 none) = xs.dropLast := by
  rw [HT.sIx_none, List.drop_zero, Nat.sub_zero, List.dropLast_eq_take]
  congr 1
  unfold HT.sIx
  simp
  omega
theorem nodup_range_map {α : Type} {f : Nat → α} {n : Nat} (h : ∀ x y, x < n → y < n → f x = f y → x = y) : ((List.range n).map f).Nodup := by
  refine List.pairwise_map.2 (List.Pairwise.imp_of_mem (fun {x y} hx hy lt e => ?_) List.pairwise_lt_range)
  have := h x y (List.mem_range.1 hx) (List.mem_range.1 hy) e
  omega
theorem abc_at {i : Int} (h0 : 0 ≤ i) (h1 : i < 26) : atI (Str.ofString "abcdefghijklmnopqrstuvwxyz").cps.toList i = some (97 + i.toNat) := by
  obtain ⟨n, rfl⟩ : ∃ n : Nat, i = n := ⟨i.toNat, by omega⟩
  have : ∀ k : Fin 26, (Str.ofString "abcdefghijklmnopqrstuvwxyz").cps.toList[k.val]? = some (97 + k.val) := by decide +kernel
  rw [atI_N]
  exact this ⟨n, by omega⟩
/-! ### drawn cells -/
def cellF (ns : List Int) (k : Int) : Int := if 0 < ns.length then ns[(k % ns.length).toNat]?.getD 0 else 0
def drawF (ns : List Int) (k p m : Int) : Int := ((cellF ns k + k * k) * 48271 + 11) % p % m
theorem drawF_pos {ns : List Int} {k p m : Int} (hm : 0 < m) : 0 ≤ drawF ns k p m ∧ drawF ns k p m < m := ⟨Int.emod_nonneg _ (by omega), Int.emod_lt_of_pos _ hm⟩
theorem idx {ns : List Int} {k : Int} (hl : 0 < ns.length) : atI ns (k.fmod ns.length) = some (cellF ns k) := by
  have h1 := Int.emod_nonneg k (b := ns.length) (by omega)
  have h2 := Int.emod_lt_of_pos k (b := ns.length) (by omega)
  rw [fmod_pos (by omega), atI_of h1 h2]
  have h3 : (k % ns.length).toNat < ns.length := by omega
  unfold cellF
  rw [if_pos hl, List.getElem?_eq_getElem h3]; rfl
/-! ### names of boxes -/
def turnF (ns : List Int) (k a p : Nat) : Int :=
  if p = a then (k : Int) + drawF ns 4 10069 26
  else (p : Int) * p + drawF ns 2 10039 26 + (if drawF ns 3 10061 2 = 0 then drawF ns (30 + k) 10067 26 else 0)
def sizeF (ns : List Int) (k a : Nat) : Nat := a + 1 + (if drawF ns 1 10009 2 = 0 then (drawF ns (20 + k) 10037 (8 - a)).toNat else 0)
def nameF (ns : List Int) (k a : Nat) : List Nat := (List.range (sizeF ns k a)).map fun p => 97 + (turnF ns k a p % 26).toNat
theorem sizeF_le {ns : List Int} {k a : Nat} (ha : a < 8) : a < sizeF ns k a ∧ sizeF ns k a ≤ 8 := by
  have q := drawF_pos (ns := ns) (k := 20 + k) (p := 10037) (m := 8 - a) (by omega)
  unfold sizeF
  split <;> omega
theorem nameF_len {ns : List Int} {k a : Nat} : (nameF ns k a).length = sizeF ns k a := by unfold nameF; simp
theorem nameF_at {ns : List Int} {k a : Nat} (ha : a < 8) : (nameF ns k a)[a]? = some (97 + ((k + drawF ns 4 10069 26) % 26).toNat) := by
  unfold nameF
  rw [List.getElem?_map, List.getElem?_range (sizeF_le ha).1]
  simp [turnF]
def letter (c : Nat) : Prop := 97 ≤ c ∧ c ≤ 122
theorem nameF_letter {ns : List Int} {k a : Nat} : ∀ c ∈ nameF ns k a, letter c := fun c hc => by
  unfold nameF at hc
  obtain ⟨p, _, rfl⟩ := List.mem_map.1 hc
  unfold letter
  omega
/-- the k-th box's name: the second may be the first with a letter more or less -/
def nameK (ns : List Int) (a k : Nat) : List Nat :=
  if k = 1 ∧ drawF ns 9 10369 3 = 0 then (if (nameF ns 0 a).length - 1 < 7 then nameF ns 0 a ++ [101] else (nameF ns 0 a).dropLast) else nameF ns k a
theorem nameK_len {ns : List Int} {a k : Nat} (ha : a < 8) : 1 ≤ (nameK ns a k).length ∧ (nameK ns a k).length ≤ 8 := by
  have h0 := sizeF_le (ns := ns) (k := 0) ha
  have hk := sizeF_le (ns := ns) (k := k) ha
  unfold nameK
  split
  · split
    · rw [List.length_append, nameF_len] at *; simp; omega
    · rw [List.length_dropLast, nameF_len] at *; omega
  · rw [nameF_len]; omega
theorem nameK_letter {ns : List Int} {a k : Nat} : ∀ c ∈ nameK ns a k, letter c := fun c hc => by
  unfold nameK at hc
  split at hc
  · split at hc
    · rcases List.mem_append.1 hc with z | z
      · exact nameF_letter c z
      · simp at z; subst z; unfold letter; omega
    · exact nameF_letter c (List.dropLast_subset _ hc)
  · exact nameF_letter c hc
/-- the letter at the drawn place tells the names -/
theorem at_ne {ns : List Int} {k l : Nat} (hk : k < 26) (hl : l < 26) (e : 97 + (((k : Int) + drawF ns 4 10069 26) % 26).toNat = 97 + (((l : Int) + drawF ns 4 10069 26) % 26).toNat) : k = l := by
  have q := drawF_pos (ns := ns) (k := 4) (p := 10069) (m := 26) (by decide)
  generalize drawF ns 4 10069 26 = d at *
  omega
theorem nameF_inj {ns : List Int} {a k l : Nat} (ha : a < 8) (hk : k < 26) (hl : l < 26) (e : nameF ns k a = nameF ns l a) : k = l := by
  have h1 := nameF_at (ns := ns) (k := k) ha
  have h2 := nameF_at (ns := ns) (k := l) ha
  rw [e, h2] at h1
  simp only [Option.some.injEq] at h1
  exact (at_ne hl hk h1).symm
theorem nameK_inj {ns : List Int} {a k l : Nat} (ha : a < 8) (hk : k < 26) (hl : l < 26) (e : nameK ns a k = nameK ns a l) : k = l := by
  have aux : ∀ {k : Nat}, k < 26 → k ≠ 1 → nameK ns a 1 = nameF ns k a → drawF ns 9 10369 3 = 0 → False := fun {k} hk h1 e d => by
    have s0 := sizeF_le (ns := ns) (k := 0) ha
    have sk := sizeF_le (ns := ns) (k := k) ha
    have a0 := nameF_at (ns := ns) (k := 0) ha
    have ak := nameF_at (ns := ns) (k := k) ha
    unfold nameK at e
    rw [if_pos ⟨rfl, d⟩] at e
    split at e
    · rename_i h7
      have z : (nameF ns 0 a ++ [101])[a]? = some (97 + ((0 + drawF ns 4 10069 26) % 26).toNat) := by
        rw [List.getElem?_append_left (by rw [nameF_len]; exact s0.1)]; exact a0
      rw [e, ak] at z
      simp only [Option.some.injEq] at z
      have := at_ne (ns := ns) (k := k) (l := 0) hk (by decide) z
      subst this
      have := congrArg List.length e
      simp at this
    · rename_i h7
      rw [nameF_len] at h7
      have l1 := congrArg List.length e
      rw [List.length_dropLast, nameF_len, nameF_len] at l1
      by_cases h : a < 7
      · have z : (nameF ns 0 a).dropLast[a]? = some (97 + ((0 + drawF ns 4 10069 26) % 26).toNat) := by
          rw [List.getElem?_dropLast, nameF_len, if_pos (by omega)]; exact a0
        rw [e, ak] at z
        simp only [Option.some.injEq] at z
        have := at_ne (ns := ns) (k := k) (l := 0) hk (by decide) z
        subst this
        omega
      · omega
  by_cases d : drawF ns 9 10369 3 = 0
  · by_cases h1 : k = 1
    · subst h1
      by_cases h2 : l = 1
      · exact h2.symm
      · have : nameK ns a l = nameF ns l a := by unfold nameK; rw [if_neg (fun z => h2 z.1)]
        rw [this] at e
        exact (aux hl h2 e d).elim
    · have : nameK ns a k = nameF ns k a := by unfold nameK; rw [if_neg (fun z => h1 z.1)]
      rw [this] at e
      by_cases h2 : l = 1
      · subst h2; exact (aux hk h1 e.symm d).elim
      · have : nameK ns a l = nameF ns l a := by unfold nameK; rw [if_neg (fun z => h2 z.1)]
        rw [this] at e
        exact nameF_inj ha hk hl e
  · have : ∀ k, nameK ns a k = nameF ns k a := fun k => by unfold nameK; rw [if_neg (fun z => d z.2)]
    rw [this, this] at e
    exact nameF_inj ha hk hl e
/-! ### boxes -/
abbrev Box := List Nat × Int
abbrev boxD (b : Box) : D := .tup [.str (st b.1), .int b.2]
def prodB (bs : List Box) : Int := (bs.map (·.2)).foldl (· * ·) 1
theorem prodB_nil : prodB [] = 1 := rfl
theorem prodB_snoc {bs : List Box} {b : Box} : prodB (bs ++ [b]) = prodB bs * b.2 := by unfold prodB; simp
/-- boxes as told -/
structure Boxes (bs : List Box) (most : Int) : Prop where
  n : bs.length ≤ 9
  nm : ∀ b ∈ bs, (1 ≤ b.1.length ∧ b.1.length ≤ 8) ∧ ∀ c ∈ b.1, letter c
  nd : (bs.map (·.1)).Nodup
  sz : ∀ b ∈ bs, 1 ≤ b.2 ∧ b.2 ≤ 9
  pr : prodB bs ≤ most
/-! ### operands, states -/
inductive Opd where
  | num (i : Int) | nm (l : List Nat)
  deriving DecidableEq
def opdD : Opd → D
  | .num i => .int i
  | .nm l => .str (st l)
/-- a name is a box's, a number has no more than so many bits -/
def OkO (bs : List Box) (n : Nat) : Opd → Prop
  | .num i => B n i
  | .nm l => l ∈ bs.map (·.1)
def worthF (bs : List Box) (σ : List Int) : Opd → Int
  | .num i => i
  | .nm l => match (bs.zip σ).find? fun q => decide (q.1.1 = l) with
    | some q => q.2
    | none => 0
abbrev stD (σ : List Int) : D := .tup (σ.map D.int)
structure StOk (bs : List Box) (σ : List Int) : Prop where
  len : bs.length = σ.length
  v : ∀ q ∈ bs.zip σ, 0 ≤ q.2 ∧ q.2 < q.1.2
theorem find_zip {l : List Nat} : ∀ {bs : List Box} {σ : List Int}, bs.length = σ.length → l ∈ bs.map (·.1) → ∃ (i : Nat) (q : Box × Int), bs.findIdx? (fun b => decide (b.1 = l)) = some i ∧ σ[i]? = some q.2 ∧ bs[i]? = some q.1 ∧ (bs.zip σ).find? (fun q => decide (q.1.1 = l)) = some q
  | [], _, _, h => by simp at h
  | _ :: _, [], e, _ => by simp at e
  | b :: bs, v :: σ, e, h => by
    by_cases c : b.1 = l
    · exact ⟨0, (b, v), by simp [List.findIdx?_cons, c], rfl, rfl, by simp [c]⟩
    · obtain ⟨i, q, h1, h2, h3, h4⟩ := find_zip (l := l) (bs := bs) (σ := σ) (by simpa using e) (by
        rw [List.map_cons, List.mem_cons] at h
        rcases h with h | h
        · exact absurd h.symm c
        · exact h)
      exact ⟨i + 1, q, by simp [List.findIdx?_cons, c, h1], by simpa using h2, by simpa using h3, by simp [c, h4]⟩
theorem worth_b {bs : List Box} {σ : List Int} {o : Opd} {n : Nat} {m : Int} (hs : StOk bs σ) (hb : Boxes bs m) (ho : OkO bs n o) (h4 : 4 ≤ n) : B n (worthF bs σ o) := by
  cases o with
  | num i => exact ho
  | nm l =>
    obtain ⟨i, q, _, _, h3, h⟩ := find_zip hs.len ho
    have e : worthF bs σ (.nm l) = q.2 := by
      show (match (bs.zip σ).find? (fun q => decide (q.1.1 = l)) with
        | some q => q.2
        | none => 0) = _
      rw [h]
    rw [e]
    have h1 := hs.v q (List.mem_of_find?_eq_some h)
    have h2 := hb.sz q.1 (List.mem_of_getElem? h3)
    exact B.mono (m := 4) (by unfold B; omega) h4
theorem idx_names {l : List Nat} : ∀ {bs : List Box}, idxD (.str (st l)) (bs.map fun b => .str (st b.1)) = bs.findIdx? fun b => decide (b.1 = l)
  | [] => rfl
  | b :: bs => by
    have ih := idx_names (l := l) (bs := bs)
    unfold idxD at ih ⊢
    rw [List.map_cons, List.findIdx?_cons, List.findIdx?_cons, ih]
    have e : eqD (.str (st b.1)) (.str (st l)) = decide (b.1 = l) := by
      show (st b.1 == st l) = _
      rw [Bool.eq_iff_iff]; simp [st_inj]
    rw [e]
theorem flat_names {bs : List Box} : (bs.map fun b => D.str (st b.1)).all flatD = true := by simp [flatD]
theorem s_signs : (Str.ofString "=" = Str.ofString "<") = False ∧ (Str.ofString "<" = Str.ofString "=") = False ∧ (Str.ofString "#" = Str.ofString "=") = False ∧ (Str.ofString "#" = Str.ofString "<") = False ∧
    (Str.ofString "-" = Str.ofString "+") = False ∧ (Str.ofString "*" = Str.ofString "+") = False ∧ (Str.ofString "*" = Str.ofString "-") = False ∧ (Str.ofString "+" = Str.ofString "-") = False :=
  ⟨eq_false (by decide +kernel), eq_false (by decide +kernel), eq_false (by decide +kernel), eq_false (by decide +kernel), eq_false (by decide +kernel), eq_false (by decide +kernel), eq_false (by decide +kernel), eq_false (by decide +kernel)⟩
/-- a reckoning's sign -/
inductive Sg where | plus | minus | times
  deriving DecidableEq
def Sg.s : Sg → Str
  | .plus => "+" | .minus => "-" | .times => "*"
def Sg.f : Sg → Int → Int → Int
  | .plus, a, b => a + b
  | .minus, a, b => a - b
  | .times, a, b => a * b
def Sg.i : Sg → Int
  | .plus => 0 | .minus => 1 | .times => 2
inductive Tg2 where | eq | lt | ne
  deriving DecidableEq
def Tg2.s : Tg2 → Str
  | .eq => "=" | .lt => "<" | .ne => "#"
def Tg2.f : Tg2 → Int → Int → Bool
  | .eq, a, b => decide (a = b)
  | .lt, a, b => decide (a < b)
  | .ne, a, b => !decide (a = b)
end Lt

namespace Lt
open PySem PySem.Spec PyProof.Rows L2
/-! ### programs -/
structure Tt where
  o : Opd
  s : Tg2
  u : Opd
inductive Rk where
  | one (o : Opd) | two (o : Opd) (s : Sg) (u : Opd)
def ttD (t : Tt) : D := .tup [opdD t.o, .str t.s.s, opdD t.u]
def rkD : Rk → D
  | .one o => .tup [opdD o]
  | .two o s u => .tup [opdD o, .str s.s, opdD u]
inductive Kd where
  | set (l : List Nat) (r : Rk) | draw (l : List Nat) (ws : List Int) | gain (o : Opd) | look (t : Tt) | pass
  | whil (t : Tt) | tim (n : Int) | iff (t : Tt) | hand
inductive Deed where
  | mk (k : Kd) (bs : List (List Deed))
def Deed.k : Deed → Kd
  | .mk k _ => k
def Deed.bs : Deed → List (List Deed)
  | .mk _ bs => bs
def Kd.w : Kd → Str
  | .set _ _ => Str.ofString "set" | .draw _ _ => Str.ofString "draw" | .gain _ => Str.ofString "gain" | .look _ => Str.ofString "look" | .pass => Str.ofString "pass"
  | .whil _ => Str.ofString "while" | .tim _ => Str.ofString "times" | .iff _ => Str.ofString "if" | .hand => Str.ofString "hand"
def Kd.d : Kd → List D → D
  | .set l r, _ => .tup [.str (Str.ofString "set"), .str (st l), rkD r]
  | .draw l ws, _ => .tup [.str (Str.ofString "draw"), .str (st l), .tup (ws.map D.int)]
  | .gain o, _ => .tup [.str (Str.ofString "gain"), opdD o]
  | .look t, _ => .tup [.str (Str.ofString "look"), ttD t]
  | .pass, _ => .tup [.str (Str.ofString "pass")]
  | .whil t, xs => .tup (.str (Str.ofString "while") :: ttD t :: xs)
  | .tim n, xs => .tup (.str (Str.ofString "times") :: .int n :: xs)
  | .iff t, xs => .tup (.str (Str.ofString "if") :: ttD t :: xs)
  | .hand, xs => .tup [.str (Str.ofString "hand"), .tup xs]
mutual
def deedD : Deed → D
  | .mk k bs => k.d (blksL bs)
def blkL : List Deed → List D
  | [] => []
  | d :: r => deedD d :: blkL r
def blksL : List (List Deed) → List D
  | [] => []
  | b :: r => .tup (blkL b) :: blksL r
end
abbrev blkD (b : List Deed) : D := .tup (b.map deedD)
theorem blkL_map : ∀ b : List Deed, blkL b = b.map deedD
  | [] => by rw [blkL, List.map_nil]
  | d :: r => by rw [blkL, blkL_map r, List.map_cons]
theorem blksL_map : ∀ bs : List (List Deed), blksL bs = bs.map blkD
  | [] => by rw [blksL, List.map_nil]
  | b :: r => by rw [blksL, blksL_map r, List.map_cons, blkL_map]
theorem deedD_eq {k : Kd} {bs : List (List Deed)} : deedD (.mk k bs) = k.d (bs.map blkD) := by rw [deedD, blksL_map]
/-- how many blocks -/
def Kd.ar : Kd → Nat → Prop
  | .whil _, n => n = 1
  | .tim _, n => n = 1
  | .iff _, n => n = 2
  | .hand, n => 2 ≤ n ∧ n ≤ 8
  | _, n => n = 0
def OkN (bx : List Box) : Opd → Prop
  | .num i => 0 ≤ i ∧ i < 10 ^ 9
  | .nm l => l ∈ bx.map (·.1)
theorem OkN.o {bx : List Box} : ∀ {o : Opd}, OkN bx o → OkO bx 32 o
  | .num i, h => by
    have h1 := h.1; have h2 := h.2
    show B 32 i
    unfold B; omega
  | .nm _, h => h
structure WtOk (z : Int) (ws : List Int) : Prop where
  len : (ws.length : Int) = z
  rg : ∀ w ∈ ws, 0 ≤ w ∧ w < 10 ^ 9
  pos : 0 < ws.sum
structure TtOk (bx : List Box) (t : Tt) : Prop where
  o : OkN bx t.o
  u : OkN bx t.u
def RkOk (bx : List Box) : Rk → Prop
  | .one o => OkN bx o
  | .two o _ u => OkN bx o ∧ OkN bx u
def Kd.ok (bx : List Box) : Kd → Prop
  | .set l r => l ∈ bx.map (·.1) ∧ RkOk bx r
  | .draw l ws => ∃ z, (l, z) ∈ bx ∧ WtOk z ws
  | .gain o => OkN bx o
  | .look t => TtOk bx t
  | .pass => True
  | .whil t => TtOk bx t
  | .tim n => 0 ≤ n ∧ n ≤ 60
  | .iff t => TtOk bx t
  | .hand => True
/-- a block, no more than n within one another -/
def OkB (bx : List Box) : Nat → List Deed → Prop
  | 0, b => b = []
  | n + 1, b => ∀ d ∈ b, d.k.ok bx ∧ d.k.ar d.bs.length ∧ ∀ c ∈ d.bs, OkB bx n c
section
variable {bx : List Box} {n m : Nat} {b c : List Deed} {d : Deed}
theorem OkB.nil : ∀ {n : Nat}, OkB bx n []
  | 0 => rfl
  | n + 1 => fun _ h => by cases h
theorem OkB.up : ∀ {n : Nat} {b : List Deed}, OkB bx n b → OkB bx (n + 1) b
  | 0, b, h => by rw [show b = [] from h]; exact .nil
  | n + 1, b, h => fun d hd => ⟨(h d hd).1, (h d hd).2.1, fun c hc => ((h d hd).2.2 c hc).up⟩
theorem OkB.mono (h : OkB bx n b) (l : n ≤ m) : OkB bx m b := by
  obtain ⟨k, rfl⟩ : ∃ k, m = n + k := ⟨m - n, by omega⟩
  clear l
  induction k with
  | zero => exact h
  | succ k ih => exact ih.up
theorem OkB.in (h : OkB bx n b) (hd : d ∈ b) : d.k.ok bx ∧ d.k.ar d.bs.length ∧ ∀ c ∈ d.bs, OkB bx (n - 1) c := by
  cases n with
  | zero => rw [show b = [] from h] at hd; cases hd
  | succ n => exact h d hd
theorem OkB.app (h : OkB bx n b) (k : OkB bx n c) : OkB bx n (b ++ c) := by
  cases n with
  | zero => rw [show b = [] from h, show c = [] from k]; exact rfl
  | succ n => exact fun d hd => (List.mem_append.1 hd).elim (h d) (k d)
theorem OkB.sub (h : OkB bx n b) (s : ∀ d ∈ c, d ∈ b) : OkB bx n c := by
  cases n with
  | zero =>
    rw [show b = [] from h] at s
    cases c with
    | nil => exact rfl
    | cons x r => exact absurd (s x (by simp)) (by simp)
  | succ n => exact fun d hd => h d (s d hd)
theorem OkB.one (k : Kd) (bs : List (List Deed)) (h : k.ok bx) (a : k.ar bs.length) (hb : ∀ c ∈ bs, OkB bx n c) : OkB bx (n + 1) [.mk k bs] := fun d hd => by
  rw [List.mem_singleton] at hd; subst hd; exact ⟨h, a, hb⟩
end
/-! ### lengths -/
def inTim : Kd → Int → Int
  | .tim n, x => (if n > 1 then n else 1) * (1 + x)
  | _, x => x
mutual
def lenD : Deed → Int
  | .mk k bs => 1 + inTim k (lenBs bs)
def lenB : List Deed → Int
  | [] => 0
  | d :: r => lenD d + lenB r
def lenBs : List (List Deed) → Int
  | [] => 0
  | b :: r => lenB b + lenBs r
end
mutual
def wtD : Deed → Nat
  | .mk _ bs => 1 + wtBs bs
def wtB : List Deed → Nat
  | [] => 1
  | d :: r => wtD d + wtB r
def wtBs : List (List Deed) → Nat
  | [] => 0
  | b :: r => wtB b + wtBs r
end
mutual
def hasD (w : Str) : Deed → Bool
  | .mk k bs => decide (k.w = w) || hasBs w bs
def hasB (w : Str) : List Deed → Bool
  | [] => false
  | d :: r => hasD w d || hasB w r
def hasBs (w : Str) : List (List Deed) → Bool
  | [] => false
  | b :: r => hasB w b || hasBs w r
end
theorem lenBs_sum : ∀ bs, lenBs bs = (bs.map lenB).sum
  | [] => by rw [lenBs]; rfl
  | b :: r => by rw [lenBs, lenBs_sum r]; rfl
theorem hasBs_any {w : Str} : ∀ bs, hasBs w bs = (bs.map (hasB w)).any id
  | [] => by rw [hasBs]; rfl
  | b :: r => by rw [hasBs, hasBs_any r]; rfl
theorem wtB_pos : ∀ b, 1 ≤ wtB b
  | [] => by rw [wtB]; exact Nat.le_refl _
  | d :: r => by rw [wtB]; have := wtB_pos r; omega
theorem wtD_pos : ∀ d, 1 ≤ wtD d
  | .mk k bs => by rw [wtD]; omega
theorem wtB_app : ∀ b c, wtB (b ++ c) + 1 = wtB b + wtB c
  | [], c => by rw [List.nil_append, wtB]; omega
  | d :: r, c => by rw [List.cons_append, wtB, wtB]; have := wtB_app r c; omega
theorem wtBs_app : ∀ b c, wtBs (b ++ c) = wtBs b + wtBs c
  | [], c => by rw [List.nil_append, wtBs]; omega
  | d :: r, c => by rw [List.cons_append, wtBs, wtBs, wtBs_app r c]; omega
theorem len_wtBs : ∀ bs, bs.length ≤ wtBs bs
  | [] => by rw [wtBs]; exact Nat.le_refl _
  | b :: r => by rw [wtBs, List.length_cons]; have := wtB_pos b; have := len_wtBs r; omega
theorem len_wtB : ∀ b, b.length + 1 ≤ wtB b
  | [] => by rw [wtB]; exact Nat.le_refl _
  | d :: r => by rw [wtB, List.length_cons]; have := wtD_pos d; have := len_wtB r; omega
theorem lenB_app : ∀ b c, lenB (b ++ c) = lenB b + lenB c
  | [], c => by rw [List.nil_append, lenB]; omega
  | d :: r, c => by rw [List.cons_append, lenB, lenB, lenB_app r c]; omega
theorem intsD_map : ∀ xs : List Int, intsD (xs.map D.int) = some xs
  | [] => rfl
  | x :: r => by rw [List.map_cons, intsD, intsD_map r]; rfl
theorem blsD_map : ∀ xs : List Bool, blsD (xs.map D.bl) = some xs
  | [] => rfl
  | x :: r => by rw [List.map_cons, blsD, blsD_map r]; rfl
mutual
theorem lenD_nn {bx : List Box} {n : Nat} : ∀ {d : Deed}, 0 ≤ lenD d
  | .mk k bs => by
    rw [lenD]
    have := lenBs_nn (bx := bx) (n := n) (bs := bs)
    cases k <;> simp only [inTim] <;> try omega
    rename_i q
    have : 0 ≤ (if q > 1 then q else 1) * (1 + lenBs bs) := Int.mul_nonneg (by split <;> omega) (by omega)
    omega
theorem lenB_nn {bx : List Box} {n : Nat} : ∀ {b : List Deed}, 0 ≤ lenB b
  | [] => by rw [lenB]; exact Int.le_refl _
  | d :: r => by rw [lenB]; have := lenD_nn (bx := bx) (n := n) (d := d); have := lenB_nn (bx := bx) (n := n) (b := r); omega
theorem lenBs_nn {bx : List Box} {n : Nat} : ∀ {bs : List (List Deed)}, 0 ≤ lenBs bs
  | [] => by rw [lenBs]; exact Int.le_refl _
  | b :: r => by rw [lenBs]; have := lenB_nn (bx := bx) (n := n) (b := b); have := lenBs_nn (bx := bx) (n := n) (bs := r); omega
end
/-! ### heaps of two lists -/
theorem wrL_upN {h : Hh} {a b : Addr} {o : O} (e : b ≠ a) : wrL (up h a o) b = wrL h b := by unfold wrL; rw [up_ne e]
theorem rdL_upN {h : Hh} {a b : Addr} {o : O} (e : b ≠ a) : rdL (up h a o) b = rdL h b := by unfold rdL; rw [up_ne e]
theorem up_swap {h : Hh} {a b : Addr} {o u v : O} (e : a ≠ b) : up (up (up h a o) b u) a v = up (up h a v) b u := by
  rw [up_comm e, up_up, up_comm (Ne.symm e)]
theorem pop_at {α : Type} {xs : List α} {x : α} : (xs ++ [x])[(xs ++ [x]).length - 1]? = some x := by simp
theorem pos_snoc {α : Type} {xs : List α} {x : α} : ((0 : Int) < ((xs ++ [x]).length : Nat)) = True := eq_true (by rw [List.length_append, List.length_singleton]; omega)
theorem atI_3 {α : Type} {x y z u : α} {r : List α} : atI (x :: y :: z :: u :: r) 3 = some u := by
  have h : (3 : Int) < ((x :: y :: z :: u :: r).length : Nat) := by simp; omega
  simp only [atI, ixN]
  rw [if_pos (by decide), if_pos h]; rfl
theorem len1 {α : Type} {xs : List α} (h : xs.length = 1) : ∃ x, xs = [x] := List.length_eq_one_iff.1 h
theorem len2 {α : Type} {xs : List α} (h : xs.length = 2) : ∃ x y, xs = [x, y] := by
  match xs, h with
  | [x, y], _ => exact ⟨x, y, rfl⟩
/-- a while, one way -/
theorem wh_go {σ : Type} {c : En → Hh → QD → XD → Prop} {b : En → Hh → Ed → Prop} {K : Ed} (st : σ → En) (hp : σ → Hh) (P : σ → Prop) (m : σ → Nat)
    (step : ∀ s, P s → ∀ W : En → Hh → Prop, (∀ s', P s' → m s' < m s → W (st s') (hp s')) → c (st s) (hp s) (fun d h1 => blW d fun d => if d = true then b (st s) h1 { K with nx := W } else K.nx (st s) h1) (fun x h1 => K.ex x (st s) h1)) (s : σ) (p : P s) : whI c b K (st s) (hp s) := by
  have gen : ∀ n s, m s < n → P s → whW (fun ρ h Q => c ρ h Q fun c h1 => K.ex c ρ h1) b K n (st s) (hp s) := by
    intro n
    induction n with
    | zero => intro s l; exact absurd l (Nat.not_lt_zero _)
    | succ n ih =>
      intro s l p
      show c (st s) (hp s) (fun d h1 => blW d fun d => if d = true then b (st s) h1 { K with nx := whW (fun ρ h Q => c ρ h Q fun c h1 => K.ex c ρ h1) b K n } else K.nx (st s) h1) (fun x h1 => K.ex x (st s) h1)
      exact step s p _ fun s' p' l' => ih s' (by omega) p'
  exact ⟨_, gen _ s (Nat.lt_succ_self _) p⟩
/-! ### stacks of blocks -/
def lenS (s : List (List Deed × Int)) : Int := (s.map fun q => q.2 * lenB q.1).sum
def wtS (s : List (List Deed × Int)) : Nat := (s.map fun q => wtB q.1).sum
theorem lenS_app {a b : List (List Deed × Int)} : lenS (a ++ b) = lenS a + lenS b := by unfold lenS; rw [List.map_append, List.sum_append]
theorem wtS_app {a b : List (List Deed × Int)} : wtS (a ++ b) = wtS a + wtS b := by unfold wtS; rw [List.map_append, List.sum_append]
theorem lenS_one {q : List Deed × Int} : lenS [q] = q.2 * lenB q.1 := by unfold lenS; simp
theorem wtS_one {q : List Deed × Int} : wtS [q] = wtB q.1 := by unfold wtS; simp
theorem len_wtS : ∀ s : List (List Deed × Int), s.length ≤ wtS s
  | [] => Nat.le_refl _
  | q :: r => by
    have e : wtS (q :: r) = wtB q.1 + wtS r := by unfold wtS; rw [List.map_cons, List.sum_cons]
    have := wtB_pos q.1; have := len_wtS r
    rw [e, List.length_cons]; omega
abbrev ptD (q : List Deed × Int) : D := .tup [blkD q.1, .int q.2]
theorem hasB_nil {w : Str} : hasB w [] = false := by rw [hasB]
theorem hasB_cons {w : Str} {d : Deed} {r : List Deed} : hasB w (d :: r) = (hasD w d || hasB w r) := by rw [hasB]
theorem wtBs_cons {b : List Deed} {r : List (List Deed)} : wtBs (b :: r) = wtB b + wtBs r := by rw [wtBs]
theorem deed_w {k : Kd} {xs : List D} : ∃ r, k.d xs = .tup (.str k.w :: r) := by cases k <;> exact ⟨_, rfl⟩
theorem ix_deed {d : Deed} {h : Hh} {Q : QD} : ixW (deedD d) (.int 0) h Q = Q (.str d.k.w) h := by
  obtain ⟨k, bs⟩ := d
  rw [deedD_eq]
  obtain ⟨r, e⟩ := deed_w (k := k) (xs := bs.map blkD)
  rw [e, q_ixT, atI_0, optW_some]; rfl
theorem wt_in {c : List Deed} : ∀ {bs : List (List Deed)}, c ∈ bs → wtB c ≤ wtBs bs
  | x :: r, h => by
    rw [wtBs]
    rcases List.mem_cons.1 h with e | e
    · subst e; omega
    · have := wt_in e; omega
theorem wtD_eq {d : Deed} : wtD d = 1 + wtBs d.bs := by obtain ⟨k, bs⟩ := d; rw [wtD]; rfl
theorem lenD_eq {d : Deed} : lenD d = 1 + inTim d.k (lenBs d.bs) := by obtain ⟨k, bs⟩ := d; rw [lenD]; rfl
theorem hasD_eq {d : Deed} {w : Str} : hasD w d = (decide (d.k.w = w) || hasBs w d.bs) := by obtain ⟨k, bs⟩ := d; rw [hasD]; rfl
theorem n_blocks {d : Deed} {m : Nat} (h : wtD d ≤ m) (l : m ≤ 100000) : d.bs.length ≤ sizeLine := Nat.le_trans (by
  rw [wtD_eq] at h
  have := len_wtBs d.bs
  omega : _ ≤ 100000) (by decide)
/-- times, or not -/
theorem tim_or (d : Deed) : (∃ n, d.k = .tim n ∧ d.k.w = Str.ofString "times") ∨ (¬ d.k.w = Str.ofString "times" ∧ ∀ x, inTim d.k x = x) := by
  obtain ⟨k, bs⟩ := d
  cases k with
  | tim n => exact .inl ⟨n, rfl, rfl⟩
  | _ => exact .inr ⟨by simp only [Deed.k, Kd.w]; decide +kernel, fun _ => rfl⟩
theorem ix_tim {d : Deed} {n : Int} {h : Hh} {Q : QD} (e : d.k = .tim n) : ixW (deedD d) (.int 1) h Q = Q (.int n) h := by
  obtain ⟨k, bs⟩ := d
  rw [show k = .tim n from e, deedD_eq]
  show ixW (.tup (.str (Str.ofString "times") :: .int n :: bs.map blkD)) (.int 1) h Q = _
  rw [q_ixT, atI_1, optW_some]
/-! ### words -/
theorem s_words : (Str.ofString "set" = Str.ofString "draw") = False ∧ (Str.ofString "set" = Str.ofString "gain") = False ∧ (Str.ofString "set" = Str.ofString "look") = False ∧ (Str.ofString "set" = Str.ofString "pass") = False ∧ (Str.ofString "set" = Str.ofString "while") = False ∧ (Str.ofString "set" = Str.ofString "times") = False ∧ (Str.ofString "set" = Str.ofString "if") = False ∧ (Str.ofString "set" = Str.ofString "hand") = False ∧ (Str.ofString "draw" = Str.ofString "set") = False ∧ (Str.ofString "draw" = Str.ofString "gain") = False ∧ (Str.ofString "draw" = Str.ofString "look") = False ∧ (Str.ofString "draw" = Str.ofString "pass") = False ∧ (Str.ofString "draw" = Str.ofString "while") = False ∧ (Str.ofString "draw" = Str.ofString "times") = False ∧ (Str.ofString "draw" = Str.ofString "if") = False ∧ (Str.ofString "draw" = Str.ofString "hand") = False ∧ (Str.ofString "gain" = Str.ofString "set") = False ∧ (Str.ofString "gain" = Str.ofString "draw") = False ∧ (Str.ofString "gain" = Str.ofString "look") = False ∧ (Str.ofString "gain" = Str.ofString "pass") = False ∧ (Str.ofString "gain" = Str.ofString "while") = False ∧ (Str.ofString "gain" = Str.ofString "times") = False ∧ (Str.ofString "gain" = Str.ofString "if") = False ∧ (Str.ofString "gain" = Str.ofString "hand") = False ∧ (Str.ofString "look" = Str.ofString "set") = False ∧ (Str.ofString "look" = Str.ofString "draw") = False ∧ (Str.ofString "look" = Str.ofString "gain") = False ∧ (Str.ofString "look" = Str.ofString "pass") = False ∧ (Str.ofString "look" = Str.ofString "while") = False ∧ (Str.ofString "look" = Str.ofString "times") = False ∧ (Str.ofString "look" = Str.ofString "if") = False ∧ (Str.ofString "look" = Str.ofString "hand") = False ∧ (Str.ofString "pass" = Str.ofString "set") = False ∧ (Str.ofString "pass" = Str.ofString "draw") = False ∧ (Str.ofString "pass" = Str.ofString "gain") = False ∧ (Str.ofString "pass" = Str.ofString "look") = False ∧ (Str.ofString "pass" = Str.ofString "while") = False ∧ (Str.ofString "pass" = Str.ofString "times") = False ∧ (Str.ofString "pass" = Str.ofString "if") = False ∧ (Str.ofString "pass" = Str.ofString "hand") = False ∧ (Str.ofString "while" = Str.ofString "set") = False ∧ (Str.ofString "while" = Str.ofString "draw") = False ∧ (Str.ofString "while" = Str.ofString "gain") = False ∧ (Str.ofString "while" = Str.ofString "look") = False ∧ (Str.ofString "while" = Str.ofString "pass") = False ∧ (Str.ofString "while" = Str.ofString "times") = False ∧ (Str.ofString "while" = Str.ofString "if") = False ∧ (Str.ofString "while" = Str.ofString "hand") = False ∧ (Str.ofString "times" = Str.ofString "set") = False ∧ (Str.ofString "times" = Str.ofString "draw") = False ∧ (Str.ofString "times" = Str.ofString "gain") = False ∧ (Str.ofString "times" = Str.ofString "look") = False ∧ (Str.ofString "times" = Str.ofString "pass") = False ∧ (Str.ofString "times" = Str.ofString "while") = False ∧ (Str.ofString "times" = Str.ofString "if") = False ∧ (Str.ofString "times" = Str.ofString "hand") = False ∧ (Str.ofString "if" = Str.ofString "set") = False ∧ (Str.ofString "if" = Str.ofString "draw") = False ∧ (Str.ofString "if" = Str.ofString "gain") = False ∧ (Str.ofString "if" = Str.ofString "look") = False ∧ (Str.ofString "if" = Str.ofString "pass") = False ∧ (Str.ofString "if" = Str.ofString "while") = False ∧ (Str.ofString "if" = Str.ofString "times") = False ∧ (Str.ofString "if" = Str.ofString "hand") = False ∧ (Str.ofString "hand" = Str.ofString "set") = False ∧ (Str.ofString "hand" = Str.ofString "draw") = False ∧ (Str.ofString "hand" = Str.ofString "gain") = False ∧ (Str.ofString "hand" = Str.ofString "look") = False ∧ (Str.ofString "hand" = Str.ofString "pass") = False ∧ (Str.ofString "hand" = Str.ofString "while") = False ∧ (Str.ofString "hand" = Str.ofString "times") = False ∧ (Str.ofString "hand" = Str.ofString "if") = False :=
  ⟨eq_false (by decide +kernel), eq_false (by decide +kernel), eq_false (by decide +kernel), eq_false (by decide +kernel), eq_false (by decide +kernel), eq_false (by decide +kernel), eq_false (by decide +kernel), eq_false (by decide +kernel), eq_false (by decide +kernel), eq_false (by decide +kernel), eq_false (by decide +kernel), eq_false (by decide +kernel), eq_false (by decide +kernel), eq_false (by decide +kernel), eq_false (by decide +kernel), eq_false (by decide +kernel), eq_false (by decide +kernel), eq_false (by decide +kernel), eq_false (by decide +kernel), eq_false (by decide +kernel), eq_false (by decide +kernel), eq_false (by decide +kernel), eq_false (by decide +kernel), eq_false (by decide +kernel), eq_false (by decide +kernel), eq_false (by decide +kernel), eq_false (by decide +kernel), eq_false (by decide +kernel), eq_false (by decide +kernel), eq_false (by decide +kernel), eq_false (by decide +kernel), eq_false (by decide +kernel), eq_false (by decide +kernel), eq_false (by decide +kernel), eq_false (by decide +kernel), eq_false (by decide +kernel), eq_false (by decide +kernel), eq_false (by decide +kernel), eq_false (by decide +kernel), eq_false (by decide +kernel), eq_false (by decide +kernel), eq_false (by decide +kernel), eq_false (by decide +kernel), eq_false (by decide +kernel), eq_false (by decide +kernel), eq_false (by decide +kernel), eq_false (by decide +kernel), eq_false (by decide +kernel), eq_false (by decide +kernel), eq_false (by decide +kernel), eq_false (by decide +kernel), eq_false (by decide +kernel), eq_false (by decide +kernel), eq_false (by decide +kernel), eq_false (by decide +kernel), eq_false (by decide +kernel), eq_false (by decide +kernel), eq_false (by decide +kernel), eq_false (by decide +kernel), eq_false (by decide +kernel), eq_false (by decide +kernel), eq_false (by decide +kernel), eq_false (by decide +kernel), eq_false (by decide +kernel), eq_false (by decide +kernel), eq_false (by decide +kernel), eq_false (by decide +kernel), eq_false (by decide +kernel), eq_false (by decide +kernel), eq_false (by decide +kernel), eq_false (by decide +kernel), eq_false (by decide +kernel)⟩
theorem ixN_N {n i : Nat} (h : i < n) : ixN n (i : Int) = some i := by
  unfold ixN; rw [if_pos (by omega), if_pos (by omega)]; simp
/-! ### texts in lists -/
theorem isPs_strs {h : Hh} : ∀ ws : List Str, IsPs h (ws.map D.str) (ws.map PyData.str)
  | [] => by simp [IsPs]
  | w :: r => by
    rw [List.map_cons, List.map_cons, IsPs]
    exact ⟨_, _, rfl, by rw [IsP], isPs_strs r⟩
def layS (x : Str) : Bool := (PyData.str x).canLay0
theorem layAll_strs : ∀ {ws : List Str}, (∀ w ∈ ws, layS w = true) → PyData.canLayAll0 (ws.map PyData.str) = true
  | [], _ => by simp [PyData.canLayAll0]
  | w :: r, h => by
    rw [List.map_cons, PyData.canLayAll0, layAll_strs fun x hx => h x (by simp [hx])]
    have := h w (by simp)
    unfold layS at this
    rw [this]; rfl
theorem dep_strs : ∀ {ws : List Str}, PyData.depthAll (ws.map PyData.str) = 0
  | [] => by simp [PyData.depthAll]
  | w :: r => by rw [List.map_cons, PyData.depthAll, dep_strs]; simp [PyData.depth]
theorem any_strs {x : Str} : ∀ {ws : List Str}, ((ws.map PyData.str).any fun z => PyData.eqv z (.str x)) = decide (x ∈ ws)
  | [] => by simp
  | w :: r => by
    rw [List.map_cons, List.any_cons, any_strs]
    rw [Bool.eq_iff_iff]
    simp only [PyData.eqv, Bool.or_eq_true, beq_iff_eq, decide_eq_true_eq, List.mem_cons]
    exact or_congr_left eq_comm
theorem in_strs {x : Str} {ws : List Str} {h : Hh} {K : Bool → Prop} (hx : layS x = true) (hw : ∀ w ∈ ws, layS w = true) : inW (.str x) (.lst (ws.map D.str)) h K = K (decide (x ∈ ws)) := by
  have p1 : IsP h (.str x) (.str x) := by rw [IsP]
  have p2 : IsP h (.lst (ws.map D.str)) (.list (ws.map PyData.str)) := by rw [IsP]; exact ⟨_, rfl, isPs_strs ws⟩
  have s1 : SeqAt.shaped (PyData.str x) = true := by
    unfold SeqAt.shaped
    unfold layS at hx
    rw [hx]; simp [PyData.depth]
  have s2 : SeqAt.shaped (.list (ws.map PyData.str)) = true := by
    unfold SeqAt.shaped
    rw [PyData.canLay0, layAll_strs hw, PyData.depth, dep_strs]; rfl
  apply propext
  constructor
  · rintro ⟨d, ds, q1, q2, _, _, k⟩
    rw [← isP_inj p1 q1] at k
    have e := isP_inj p2 q2
    simp only [PyData.list.injEq] at e
    rw [← e, any_strs] at k
    exact k
  · intro k
    exact ⟨_, _, p1, p2, s1, s2, by rw [any_strs]; exact k⟩
theorem lay_w {k : Kd} : layS k.w = true := by cases k <;> (simp only [Kd.w]; decide +kernel)
theorem frz_ref {p : Addr} {h : Hh} {Q : QD} : frzW (.ref p) h Q = optW (wrL h p) fun xs => Q (.lst xs) (era h p) := rfl
theorem lenS_all {w : Int} : ∀ {bs : List (List Deed)}, lenS (bs.map fun c => (c, w)) = w * lenBs bs
  | [] => by rw [lenBs, Int.mul_zero]; rfl
  | b :: r => by
    have e : lenS ((b :: r).map fun c => (c, w)) = w * lenB b + lenS (r.map fun c => (c, w)) := by unfold lenS; rw [List.map_cons, List.map_cons, List.sum_cons]
    rw [e, lenS_all, lenBs, Int.mul_add]
theorem wtS_all {w : Int} : ∀ {bs : List (List Deed)}, wtS (bs.map fun c => (c, w)) = wtBs bs
  | [] => by rw [wtBs]; rfl
  | b :: r => by
    have e : wtS ((b :: r).map fun c => (c, w)) = wtB b + wtS (r.map fun c => (c, w)) := by unfold wtS; rw [List.map_cons, List.map_cons, List.sum_cons]
    rw [e, wtS_all, wtBs]
theorem hasBs_app {w : Str} : ∀ {a b : List (List Deed)}, hasBs w (a ++ b) = (hasBs w a || hasBs w b)
  | [], b => by simp [hasBs]
  | x :: r, b => by rw [List.cons_append, hasBs, hasBs, hasBs_app, Bool.or_assoc]
theorem up_ne0 {h : Hh} {p q : Addr} {o : O} (e : up h p o q = none) : q ≠ p ∧ h q = none := by
  have n : q ≠ p := fun z => by subst z; rw [up_same] at e; cases e
  exact ⟨n, by rw [up_ne n] at e; exact e⟩
theorem sum_nn : ∀ {l : List Int}, (∀ w ∈ l, 0 ≤ w) → 0 ≤ l.sum
  | [], _ => Int.le_refl _
  | w :: r, h => by
    rw [List.sum_cons]
    have := h w (by simp); have := sum_nn fun x hx => h x (List.mem_cons_of_mem _ hx)
    omega
theorem sum_pos : ∀ {l : List Int} {v : Int}, (∀ w ∈ l, 0 ≤ w) → v ∈ l → 0 < v → 0 < l.sum
  | w :: r, v, h, hv, p => by
    rw [List.sum_cons]
    have := h w (by simp); have := sum_nn fun x hx => h x (List.mem_cons_of_mem _ hx)
    rcases List.mem_cons.1 hv with e | e
    · subst e; omega
    · have := sum_pos (fun x hx => h x (List.mem_cons_of_mem _ hx)) e p; omega
theorem wt_set {z v : Int} {l : List Int} {i : Nat} (hl : (l.length : Int) = z) (hr : ∀ w ∈ l, 0 ≤ w ∧ w < 10 ^ 9) (hi : i < l.length) (h0 : 0 < v) (h1 : v < 10 ^ 9) : WtOk z (l.set i v) := by
  have q : ∀ w ∈ l.set i v, 0 ≤ w ∧ w < 10 ^ 9 := fun w hw => by
    rcases List.mem_or_eq_of_mem_set hw with e | e
    · exact hr w e
    · subst e; exact ⟨by omega, h1⟩
  exact ⟨by rw [List.length_set]; exact hl, q, sum_pos (fun w hw => (q w hw).1) (List.mem_set hi v) h0⟩
def Tg2.i : Tg2 → Int
  | .eq => 0 | .lt => 1 | .ne => 2
theorem tg2_of {x : Int} (h0 : 0 ≤ x) (h1 : x < 3) : ∃ s : Tg2, x = s.i := by
  have : x = 0 ∨ x = 1 ∨ x = 2 := by omega
  rcases this with z | z | z
  · exact ⟨.eq, z⟩
  · exact ⟨.lt, z⟩
  · exact ⟨.ne, z⟩
theorem sg_of {x : Int} (h0 : 0 ≤ x) (h1 : x < 3) : ∃ s : Sg, x = s.i := by
  have : x = 0 ∨ x = 1 ∨ x = 2 := by omega
  rcases this with z | z | z
  · exact ⟨.plus, z⟩
  · exact ⟨.minus, z⟩
  · exact ⟨.times, z⟩
theorem sg_at (s : Sg) : atI (Str.ofString "+-*").cps.toList s.i = some (s.s.cps.toList.headD 0) := by cases s <;> decide +kernel
theorem sg_st (s : Sg) : (⟨#[s.s.cps.toList.headD 0]⟩ : Str) = s.s := by cases s <;> decide +kernel
theorem tg_at (s : Tg2) : atI (Str.ofString "=<#").cps.toList s.i = some (s.s.cps.toList.headD 0) := by cases s <;> decide +kernel
theorem tg_st (s : Tg2) : (⟨#[s.s.cps.toList.headD 0]⟩ : Str) = s.s := by cases s <;> decide +kernel
theorem sg_len : (Str.ofString "+-*").length ≤ sizeLine := by decide +kernel
theorem tg_len : (Str.ofString "=<#").length ≤ sizeLine := by decide +kernel
theorem OkB.single {bx : List Box} {n : Nat} {d : Deed} {r : List Deed} (h : OkB bx n [d]) (k : OkB bx n r) : OkB bx n (r ++ [d]) := k.app h
theorem wtB_one {d : Deed} : wtB [d] = wtD d + 1 := by rw [wtB, wtB]
end Lt

namespace Lt
open PySem PySem.Spec PyProof.Rows L2
/-! ### repr -/
theorem q_rpr {x : D} {d : PyData} {h : Hh} {Q : QD} (sx : seqD x = true) (hx : IsP h x d) (g : d.showable = true ∧ d.hasDict = false ∧ d.depth ≤ 60 ∧ d.shown.length ≤ sizeLine) : pxW .rpr [x] h Q = Q (.str d.shown) h :=
  propext ⟨fun ⟨d', _, ip, _, q⟩ => by rw [isP_inj hx ip]; exact q, fun q => ⟨d, sx, hx, g, q⟩⟩
/-- data of small ints, no more than so deep, no more than so much -/
structure Sm (c n m : Nat) (d : PyData) : Prop where
  sh : d.showable = true
  nd : d.hasDict = false
  dp : d.depth ≤ n
  ly : d.canLay0 = true
  wt : d.weight ≤ m
  it : d.intsShort c = true
structure Sms (c n m : Nat) (ds : List PyData) : Prop where
  sh : PyData.showableAll ds = true
  nd : PyData.hasDictAll ds = false
  dp : PyData.depthAll ds ≤ n
  ly : PyData.canLayAll0 ds = true
  wt : PyData.weightAll ds ≤ m
  it : PyData.intsShortAll c ds = true
theorem Sms.nil {c n m : Nat} : Sms c n m [] := ⟨rfl, rfl, by simp [PyData.depthAll], rfl, by simp [PyData.weightAll], rfl⟩
theorem Sms.cons {c n m k : Nat} {d : PyData} {ds : List PyData} (h : Sm c n m d) (r : Sms c n k ds) : Sms c n (m + 1 + k) (d :: ds) :=
  ⟨by rw [PyData.showableAll, h.sh, r.sh]; rfl, by rw [PyData.hasDictAll, h.nd, r.nd]; rfl, by rw [PyData.depthAll]; exact Nat.max_le.2 ⟨h.dp, r.dp⟩, by rw [PyData.canLayAll0, h.ly, r.ly]; rfl,
   by rw [PyData.weightAll]; have := h.wt; have := r.wt; omega, by rw [PyData.intsShortAll, h.it, r.it]; rfl⟩
theorem Sms.all {c n m : Nat} : ∀ {ds : List PyData}, (∀ d ∈ ds, Sm c n m d) → Sms c n (ds.length * (m + 1)) ds
  | [], _ => .nil
  | d :: ds, h => by
    have := Sms.cons (h d (by simp)) (Sms.all fun x hx => h x (List.mem_cons_of_mem _ hx))
    have e : (d :: ds).length * (m + 1) = m + 1 + ds.length * (m + 1) := by rw [List.length_cons, Nat.add_mul]; omega
    rw [e]; exact this
theorem Sms.tup {c n m : Nat} {ds : List PyData} (h : Sms c n m ds) : Sm c (n + 1) m (.tuple ds) :=
  ⟨by rw [PyData.showable]; exact h.sh, by rw [PyData.hasDict]; exact h.nd, by rw [PyData.depth]; have := h.dp; omega, by rw [PyData.canLay0]; exact h.ly, by rw [PyData.weight]; exact h.wt, by rw [PyData.intsShort]; exact h.it⟩
theorem Sms.lst {c n m : Nat} {ds : List PyData} (h : Sms c n m ds) : Sm c (n + 1) m (.list ds) :=
  ⟨by rw [PyData.showable]; exact h.sh, by rw [PyData.hasDict]; exact h.nd, by rw [PyData.depth]; have := h.dp; omega, by rw [PyData.canLay0]; exact h.ly, by rw [PyData.weight]; exact h.wt, by rw [PyData.intsShort]; exact h.it⟩
theorem sm_int {i : Int} (h0 : 0 ≤ i) (h1 : i < 10) : Sm 13 0 4 (.int i) := by
  have : i = 0 ∨ i = 1 ∨ i = 2 ∨ i = 3 ∨ i = 4 ∨ i = 5 ∨ i = 6 ∨ i = 7 ∨ i = 8 ∨ i = 9 := by omega
  rcases this with rfl | rfl | rfl | rfl | rfl | rfl | rfl | rfl | rfl | rfl <;> exact ⟨by decide +kernel, rfl, by decide +kernel, by decide +kernel, by decide +kernel, by decide +kernel⟩
theorem Sm.ok {n m : Nat} {d : PyData} (h : Sm 13 n m d) (hn : n ≤ 60) (hm : m ≤ 2 ^ 20) : d.showable = true ∧ d.hasDict = false ∧ d.depth ≤ 60 ∧ d.shown.length ≤ sizeLine := by
  refine ⟨h.sh, h.nd, Nat.le_trans h.dp hn, Nat.le_trans (shown_le13 (d := d) ?_ h.it) (by decide)⟩
  unfold PyData.layable0
  have := h.dp
  rw [h.ly, decide_eq_true (by omega), decide_eq_true (Nat.le_trans h.wt hm)]; rfl
/-- of great ints, not too much -/
theorem sm_intB {n m : Nat} {i : Int} (h : i.natAbs.log2 < 1920) (hm : i.natAbs.log2 + 1 ≤ m) : Sm 1921 n m (.int i) := by
  refine ⟨by rw [PyData.showable]; exact decide_eq_true h, rfl, by simp [PyData.depth], rfl, ?_, ?_⟩
  · rw [PyData.weight]; split <;> omega
  · rw [PyData.intsShort]
    refine decide_eq_true ?_
    rw [PyData.shown]
    exact int_text_len_1921 h
theorem log_lt {i : Int} {k : Nat} (hk : 1 ≤ k) (h : B k i) : i.natAbs.log2 < k := by
  unfold B at h
  by_cases z : i.natAbs = 0
  · rw [z]; have : Nat.log2 0 = 0 := by decide
    omega
  · exact (Nat.log2_lt z).2 (by omega)
theorem sm_B {n k : Nat} {i : Int} (hk : 1 ≤ k) (h9 : k ≤ 1920) (h : B k i) : Sm 1921 n k (.int i) := sm_intB (by have := log_lt hk h; omega) (by have := log_lt hk h; omega)
theorem Sm.okB {n m : Nat} {d : PyData} (h : Sm 1921 n m d) (hn : n ≤ 60) (hm : m ≤ 8000) : d.showable = true ∧ d.hasDict = false ∧ d.depth ≤ 60 ∧ d.shown.length ≤ sizeLine := by
  refine ⟨h.sh, h.nd, Nat.le_trans h.dp hn, ?_⟩
  have h2 := PyData.shown_le 1921 (by decide) d (PyData.leavesShort_of_canLay0 1921 d h.ly h.it)
  have h3 := h.wt
  exact Nat.le_trans (by omega : _ ≤ 16000000) (by decide)
/-- states -/
def stP (σ : List Int) : PyData := .tuple (σ.map .int)
theorem isPs_ints {h : Hh} : ∀ ns : List Int, IsPs h (ns.map D.int) (ns.map .int)
  | [] => by rw [List.map_nil, List.map_nil, IsPs]
  | n :: r => by rw [List.map_cons, List.map_cons, IsPs]; exact ⟨_, _, rfl, by rw [IsP], isPs_ints r⟩
theorem isP_st {h : Hh} {σ : List Int} : IsP h (stD σ) (stP σ) := by unfold stP; rw [IsP]; exact ⟨_, rfl, isPs_ints σ⟩
theorem isPs_sts {h : Hh} : ∀ ss : List (List Int), IsPs h (ss.map stD) (ss.map stP)
  | [] => by rw [List.map_nil, List.map_nil, IsPs]
  | σ :: r => by rw [List.map_cons, List.map_cons, IsPs]; exact ⟨_, _, rfl, isP_st, isPs_sts r⟩
theorem sm_st {σ : List Int} (h9 : σ.length ≤ 9) (h : ∀ i ∈ σ, 0 ≤ i ∧ i < 10) : Sm 13 1 45 (stP σ) := by
  have := Sms.all (c := 13) (n := 0) (m := 4) (ds := σ.map .int) fun d hd => by
    obtain ⟨i, hi, rfl⟩ := List.mem_map.1 hd
    exact sm_int (h i hi).1 (h i hi).2
  have t := this.tup
  exact ⟨t.sh, t.nd, t.dp, t.ly, Nat.le_trans t.wt (by rw [List.length_map]; omega), t.it⟩
theorem sm_sts {ss : List (List Int)} (hl : ss.length ≤ 1000) (h : ∀ σ ∈ ss, σ.length ≤ 9 ∧ ∀ i ∈ σ, 0 ≤ i ∧ i < 10) : Sm 13 2 46000 (.list (ss.map stP)) := by
  have := Sms.all (c := 13) (n := 1) (m := 45) (ds := ss.map stP) fun d hd => by
    obtain ⟨σ, hσ, rfl⟩ := List.mem_map.1 hd
    exact sm_st (h σ hσ).1 (h σ hσ).2
  have t := this.lst
  exact ⟨t.sh, t.nd, t.dp, t.ly, Nat.le_trans t.wt (by rw [List.length_map]; omega), t.it⟩
/-- the text of a list of states -/
def stsT (ss : List (List Int)) : Str := (PyData.list (ss.map stP)).shown
section
variable {h : Hh} {Q : QD} {ss : List (List Int)}
theorem rpr_sts (hl : ss.length ≤ 1000) (hs : ∀ σ ∈ ss, σ.length ≤ 9 ∧ ∀ i ∈ σ, 0 ≤ i ∧ i < 10) : pxW .rpr [.lst (ss.map stD)] h Q = Q (.str (stsT ss)) h :=
  q_rpr rfl (by rw [IsP]; exact ⟨_, rfl, isPs_sts ss⟩) ((sm_sts hl hs).ok (by decide) (by decide))
theorem rpr_stsR {p : Addr} (rd : rdL h p = some (ss.map stD)) (hl : ss.length ≤ 1000) (hs : ∀ σ ∈ ss, σ.length ≤ 9 ∧ ∀ i ∈ σ, 0 ≤ i ∧ i < 10) : pxW .rpr [.ref p] h Q = Q (.str (stsT ss)) h :=
  q_rpr rfl (by rw [IsP]; exact ⟨_, rd, isPs_sts ss⟩) ((sm_sts hl hs).ok (by decide) (by decide))
theorem rpr_st {σ : List Int} (h9 : σ.length ≤ 9) (hs : ∀ i ∈ σ, 0 ≤ i ∧ i < 10) : pxW .rpr [stD σ] h Q = Q (.str (stP σ).shown) h :=
  q_rpr rfl isP_st ((sm_st h9 hs).ok (by decide) (by decide))
end
end Lt
namespace Lt
open PySem PySem.Spec PyProof.Rows L2
/-! ### all states -/
def sz (b : Box) : Nat := b.2.toNat
def statesF : List Box → List (List Int) → List (List Int)
  | [], s => s
  | b :: r, s => statesF r (s.flatMap fun σ => (List.range (sz b)).map fun i : Nat => σ ++ [(i : Int)])
def prN : List Box → Nat
  | [] => 1
  | b :: r => sz b * prN r
def digF : List Box → Nat → List Int → List Int
  | [], _, σ => σ
  | b :: r, n, σ => digF r (n / sz b) (((n % sz b : Nat) : Int) :: σ)
def allF (bs : List Box) : List (List Int) := (List.range (prN bs)).map fun n => digF bs.reverse n []
theorem prN_snoc {b : Box} : ∀ bs, prN (bs ++ [b]) = prN bs * sz b
  | [] => by simp [prN]
  | x :: r => by rw [List.cons_append, prN, prN, prN_snoc r, Nat.mul_assoc]
theorem statesF_snoc {b : Box} : ∀ (bs : List Box) (s : List (List Int)), statesF (bs ++ [b]) s = (statesF bs s).flatMap fun σ => (List.range (sz b)).map fun i : Nat => σ ++ [(i : Int)]
  | [], s => rfl
  | x :: r, s => by rw [List.cons_append, statesF, statesF, statesF_snoc r]
theorem digF_acc : ∀ (bs : List Box) (n : Nat) (σ : List Int), digF bs n σ = digF bs n [] ++ σ
  | [], _, _ => rfl
  | b :: r, n, σ => by rw [digF, digF, digF_acc r _ (_ :: σ), digF_acc r _ [_]]; simp
theorem range_mul {b : Nat} : ∀ P, List.range (P * b) = (List.range P).flatMap fun q => (List.range b).map fun i => q * b + i
  | 0 => by simp
  | P + 1 => by
    rw [List.range_succ, List.flatMap_append, ← range_mul P, Nat.add_mul, Nat.one_mul, List.range_add]
    simp
theorem states_all {bs : List Box} (h : ∀ b ∈ bs, 0 < sz b) : statesF bs [[]] = allF bs := by
  have gen : ∀ n (bs : List Box), bs.length = n → (∀ b ∈ bs, 0 < sz b) → statesF bs [[]] = allF bs := by
    intro n
    induction n with
    | zero => intro bs e _; rw [List.length_eq_zero_iff.1 e]; rfl
    | succ n ih =>
      intro bs e h
      obtain ⟨r, b, rfl⟩ : ∃ r b, bs = r ++ [b] := by
        rcases List.eq_nil_or_concat bs with z | ⟨r, b, z⟩
        · subst z; simp at e
        · exact ⟨r, b, by rw [z, List.concat_eq_append]⟩
      have hb := h b (by simp)
      rw [statesF_snoc, ih r (by simpa using e) fun x hx => h x (by simp [hx])]
      unfold allF
      rw [prN_snoc, range_mul, List.map_flatMap, List.flatMap_map]
      congr 1
      funext q
      rw [List.map_map]
      apply List.map_congr_left
      intro i hi
      have hi := List.mem_range.1 hi
      simp only [Function.comp, List.reverse_append, List.reverse_cons, List.reverse_nil, List.nil_append, List.cons_append, digF]
      rw [digF_acc _ _ [_], Nat.mul_comm q, Nat.mul_add_mod, Nat.mod_eq_of_lt hi, Nat.mul_add_div hb, Nat.div_eq_of_lt hi, Nat.add_zero]
  exact gen _ bs rfl h
/-- small boxes -/
structure Bx (bs : List Box) : Prop where
  n : bs.length ≤ 9
  sz : ∀ b ∈ bs, 1 ≤ b.2 ∧ b.2 ≤ 9
  pr : prN bs ≤ 1000
theorem prN_prodB : ∀ {bs : List Box} {a : Int}, 0 ≤ a → (∀ b ∈ bs, 1 ≤ b.2) → (bs.map (·.2)).foldl (· * ·) a = a * (prN bs : Int)
  | [], a, _, _ => by simp [prN]
  | b :: r, a, h, hb => by
    have b0 := hb b (by simp)
    rw [List.map_cons, List.foldl_cons, prN_prodB (Int.mul_nonneg h (by omega)) fun x hx => hb x (by simp [hx]), prN, Int.natCast_mul]
    have : ((sz b : Nat) : Int) = b.2 := by unfold sz; omega
    rw [this, Int.mul_assoc]
theorem Boxes.bx {bs : List Box} {m : Int} (h : Boxes bs m) (hm : m ≤ 1000) : Bx bs := by
  refine ⟨h.n, h.sz, ?_⟩
  have e : prodB bs = 1 * (prN bs : Int) := prN_prodB (by decide) fun b hb => (h.sz b hb).1
  have := h.pr
  omega
theorem digF_st : ∀ {bs : List Box} {n : Nat} {σ : List Int}, (∀ b ∈ bs, 1 ≤ b.2 ∧ b.2 ≤ 9) → (∀ i ∈ σ, 0 ≤ i ∧ i < 10) → (digF bs n σ).length = bs.length + σ.length ∧ ∀ i ∈ digF bs n σ, 0 ≤ i ∧ i < 10
  | [], n, σ, _, h => by rw [digF]; exact ⟨by simp, h⟩
  | b :: r, n, σ, hb, h => by
    have b0 := hb b (by simp)
    rw [digF]
    have hz : 0 < Lt.sz b := by unfold Lt.sz; omega
    have hz9 : Lt.sz b ≤ 9 := by unfold Lt.sz; omega
    have := Nat.mod_lt n hz
    obtain ⟨h1, h2⟩ := digF_st (bs := r) (n := n / Lt.sz b) (σ := ((n % Lt.sz b : Nat) : Int) :: σ) (fun x hx => hb x (by simp [hx])) (fun i hi => by
      rcases List.mem_cons.1 hi with e | e
      · subst e; omega
      · exact h i e)
    exact ⟨by rw [h1, List.length_cons, List.length_cons]; omega, h2⟩
theorem Bx.st {bs : List Box} (h : Bx bs) : (allF bs).length ≤ 1000 ∧ ∀ σ ∈ allF bs, σ.length ≤ 9 ∧ ∀ i ∈ σ, 0 ≤ i ∧ i < 10 := by
  refine ⟨by unfold allF; rw [List.length_map, List.length_range]; exact h.pr, fun σ hσ => ?_⟩
  obtain ⟨n, _, rfl⟩ := List.mem_map.1 hσ
  obtain ⟨h1, h2⟩ := digF_st (bs := bs.reverse) (n := n) (σ := []) (fun b hb => h.sz b (List.mem_reverse.1 hb)) (fun i hi => by cases hi)
  exact ⟨by rw [h1, List.length_reverse]; have := h.n; simp only [List.length_nil]; omega, h2⟩
theorem prN_pos : ∀ {bs : List Box}, (∀ b ∈ bs, 1 ≤ b.2) → 1 ≤ prN bs
  | [], _ => Nat.le_refl 1
  | b :: r, h => by
    have b0 := h b (by simp)
    have := prN_pos fun x hx => h x (List.mem_cons_of_mem b hx)
    rw [prN]
    exact Nat.mul_pos (by unfold sz; omega) this
theorem prN_app : ∀ {a b : List Box}, prN (a ++ b) = prN a * prN b
  | [], b => by simp [prN]
  | x :: a, b => by rw [List.cons_append, prN, prN, prN_app, Nat.mul_assoc]
theorem statesF_len : ∀ {bs : List Box} {s : List (List Int)}, (statesF bs s).length = s.length * prN bs
  | [], s => by simp [statesF, prN]
  | b :: r, s => by
    rw [statesF, statesF_len, prN]
    have : (s.flatMap fun σ => (List.range (sz b)).map fun i : Nat => σ ++ [(i : Int)]).length = s.length * sz b := by
      induction s with
      | nil => simp
      | cons x t ih => rw [List.flatMap_cons, List.length_append, ih, List.length_map, List.length_range, List.length_cons, Nat.add_mul]; omega
    rw [this, Nat.mul_assoc]
end Lt

set_option maxHeartbeats 0
namespace Xk13
open PySem PySem.Spec PyProof.Rows L2 Lt
def b_divisor_1 : Lt.S := (.seq (.ret (.v 0)) .skip)
def b_divisor_2 : Lt.E := (.cm .gt (.v 1) (.kI 0))
def b_divisor_3 : Lt.S := (.seq (.par 0 1 (.v 1) (.op .mod (.v 0) (.v 1))) .skip)
def b_divisor : Lt.S := (.seq (.as 0 (.bi .abs (.cons (.v 0) .nil))) (.seq (.as 1 (.bi .abs (.cons (.v 1) .nil))) (.seq (.wh b_divisor_2 b_divisor_3) (.seq (.fg [1]) b_divisor_1))))
def f_divisor : Fd := ⟨"divisor", 2, ["one", "other"], b_divisor, true⟩
def b_fraction : Lt.S := (.seq (.ite (.cm .eq (.v 1) (.kI 0)) (.seq (.rs "NoNumber") .skip) .skip) (.seq (.ite (.cm .lt (.v 1) (.kI 0)) (.seq (.as 0 (.neg (.v 0))) (.seq (.as 1 (.neg (.v 1))) .skip)) .skip) (.seq (.as 2 (.call "divisor" (.cons (.v 0) (.cons (.v 1) .nil)))) (.seq (.ret (.tp (.cons (.op .div (.v 0) (.v 2)) (.cons (.op .div (.v 1) (.v 2)) .nil)))) .skip))))
def f_fraction : Fd := ⟨"fraction", 2, ["top", "bottom", "most"], b_fraction, true⟩
def b_place_of_1 : Lt.E := (.ix (.v 2) (.kI 0))
def b_place_of : Lt.S := (.seq (.ret (.mt .index (.lc .val (.cons (.v 0) .nil) (.nm 2) [("box", 2)] (.kB true) b_place_of_1) (.cons (.v 1) .nil))) .skip)
def f_place_of : Fd := ⟨"place_of", 2, ["boxes", "name", "box"], b_place_of, true⟩
def b_put_into : Lt.S := (.seq (.as 4 (.call "place_of" (.cons (.v 0) (.cons (.v 2) .nil)))) (.seq (.ret (.op .add (.op .add (.fz (.sl (.v 1) .kN (.v 4))) (.tp (.cons (.op .mod (.v 3) (.ix (.ix (.v 0) (.v 4)) (.kI 1))) .nil))) (.fz (.sl (.v 1) (.op .add (.v 4) (.kI 1)) .kN)))) .skip))
def f_put_into : Fd := ⟨"put_into", 4, ["boxes", "state", "name", "number", "at"], b_put_into, true⟩
def b_drawn_1 : Lt.S := (.seq (.ret (.fz (.v 5))) .skip)
def b_drawn_2 : Lt.S := (.seq (.ite (.cm .gt (.v 7) (.kI 0)) (.seq (.ex (.mt .append (.v 5) (.cons (.tp (.cons (.call "fraction" (.cons (.v 7) (.cons (.v 4) .nil))) (.cons (.call "put_into" (.cons (.v 0) (.cons (.v 1) (.cons (.v 2) (.cons (.v 6) .nil))))) .nil))) .nil))) .skip) .skip) (.seq (.fg [6, 7]) .skip))
def b_drawn : Lt.S := (.seq (.as 4 (.bi .sum (.cons (.v 3) .nil))) (.seq (.as 5 (.ls .nil)) (.seq (.fg [6, 7]) (.seq (.fr .enum (.cons (.v 3) .nil) (.tp [6, 7]) b_drawn_2) (.seq (.fg [6, 7]) b_drawn_1)))))
def f_drawn : Fd := ⟨"drawn", 4, ["boxes", "state", "name", "weights", "whole", "ways", "number", "weight"], b_drawn, true⟩
def b_law_draw : Lt.S := (.seq (.as 4 (.kI 0)) (.seq (.ite (.cm .gt (.bi .len (.cons (.v 0) .nil)) (.kI 0)) (.seq (.as 4 (.ix (.v 0) (.op .mod (.v 1) (.bi .len (.cons (.v 0) .nil))))) .skip) .skip) (.seq (.ret (.op .mod (.op .mod (.op .add (.op .mul (.op .add (.v 4) (.op .mul (.v 1) (.v 1))) (.kI 48271)) (.kI 11)) (.v 2)) (.v 3))) .skip)))
def f_law_draw : Fd := ⟨"_law_draw", 4, ["_law_script", "_law_k", "_law_prime", "_law_many", "_law_cell"], b_law_draw, true⟩
def b_law_name_1 : Lt.S := (.seq (.ret (.v 5)) .skip)
def b_law_name_2 : Lt.S := (.seq (.as 7 (.op .add (.op .mul (.v 6) (.v 6)) (.call "_law_draw" (.cons (.v 0) (.cons (.kI 2) (.cons (.kI 10039) (.cons (.kI 26) .nil))))))) (.seq (.ite (.cm .eq (.call "_law_draw" (.cons (.v 0) (.cons (.kI 3) (.cons (.kI 10061) (.cons (.kI 2) .nil))))) (.kI 0)) (.seq (.as 7 (.op .add (.v 7) (.call "_law_draw" (.cons (.v 0) (.cons (.op .add (.kI 30) (.v 1)) (.cons (.kI 10067) (.cons (.kI 26) .nil))))))) .skip) .skip) (.seq (.ite (.cm .eq (.v 6) (.v 2)) (.seq (.as 7 (.op .add (.v 1) (.call "_law_draw" (.cons (.v 0) (.cons (.kI 4) (.cons (.kI 10069) (.cons (.kI 26) .nil))))))) .skip) .skip) (.seq (.as 5 (.op .add (.v 5) (.ix (.v 3) (.op .mod (.v 7) (.kI 26))))) (.seq (.fg [6, 7]) .skip)))))
def b_law_name_3 : Lt.S := (.seq (.as 5 (.kS "")) (.seq (.fg [6, 7]) (.seq (.fr .range1 (.cons (.v 4) .nil) (.nm 6) b_law_name_2) (.seq (.fg [6, 7]) b_law_name_1))))
def b_law_name : Lt.S := (.seq (.as 3 (.kS "abcdefghijklmnopqrstuvwxyz")) (.seq (.as 4 (.op .add (.v 2) (.kI 1))) (.seq (.ite (.cm .eq (.call "_law_draw" (.cons (.v 0) (.cons (.kI 1) (.cons (.kI 10009) (.cons (.kI 2) .nil))))) (.kI 0)) (.seq (.as 4 (.op .add (.v 4) (.call "_law_draw" (.cons (.v 0) (.cons (.op .add (.kI 20) (.v 1)) (.cons (.kI 10037) (.cons (.op .sub (.kI 8) (.v 2)) .nil))))))) .skip) .skip) b_law_name_3)))
def f_law_name : Fd := ⟨"_law_name", 3, ["_law_script", "_law_k", "_law_at", "_law_letters", "_law_size", "_law_name_here", "_law_place", "_law_turn"], b_law_name, true⟩
def b_law_boxes_1 : Lt.S := (.seq (.ret (.bi .tuple (.cons (.v 4) .nil))) .skip)
def b_law_boxes_2 : Lt.S := (.seq (.as 7 (.op .add (.kI 1) (.call "_law_draw" (.cons (.v 0) (.cons (.op .add (.kI 6) (.v 6)) (.cons (.kI 10091) (.cons (.kI 9) .nil))))))) (.seq (.ite (.cm .gt (.op .mul (.v 5) (.v 7)) (.v 2)) (.seq (.as 7 (.kI 1)) .skip) .skip) (.seq (.as 5 (.op .mul (.v 5) (.v 7))) (.seq (.as 8 (.call "_law_name" (.cons (.v 0) (.cons (.v 6) (.cons (.v 3) .nil))))) (.seq (.ite (.and (.cons (.cm .eq (.v 6) (.kI 1)) (.cons (.cm .eq (.call "_law_draw" (.cons (.v 0) (.cons (.kI 9) (.cons (.kI 10369) (.cons (.kI 3) .nil))))) (.kI 0)) .nil))) (.seq (.as 8 (.fz (.sl (.ix (.ix (.v 4) (.kI 0)) (.kI 0)) .kN (.neg (.kI 1))))) (.seq (.ite (.cm .lt (.bi .len (.cons (.v 8) .nil)) (.kI 7)) (.seq (.as 8 (.op .add (.ix (.ix (.v 4) (.kI 0)) (.kI 0)) (.kS "e"))) .skip) .skip) .skip)) .skip) (.seq (.ex (.mt .append (.v 4) (.cons (.tp (.cons (.v 8) (.cons (.v 7) .nil))) .nil))) (.seq (.fg [6, 7, 8]) .skip)))))))
def b_law_boxes : Lt.S := (.seq (.as 3 (.call "_law_draw" (.cons (.v 0) (.cons (.kI 5) (.cons (.kI 10079) (.cons (.kI 8) .nil)))))) (.seq (.as 4 (.ls .nil)) (.seq (.as 5 (.kI 1)) (.seq (.fg [6, 7, 8]) (.seq (.fr .range1 (.cons (.v 1) .nil) (.nm 6) b_law_boxes_2) (.seq (.fg [5, 6, 7, 8]) b_law_boxes_1))))))
def f_law_boxes : Fd := ⟨"_law_boxes", 3, ["_law_script", "_law_count", "_law_most", "_law_at", "_law_boxes_here", "_law_many", "_law_k", "_law_size", "_law_name_here"], b_law_boxes, true⟩
def b_law_number : Lt.S := (.seq (.as 2 (.kI 0)) (.seq (.ite (.cm .gt (.bi .len (.cons (.v 0) .nil)) (.kI 0)) (.seq (.as 2 (.ix (.v 0) (.op .mod (.v 1) (.bi .len (.cons (.v 0) .nil))))) .skip) .skip) (.seq (.as 3 (.call "_law_draw" (.cons (.v 0) (.cons (.v 1) (.cons (.kI 10103) (.cons (.kI 4) .nil)))))) (.seq (.ite (.cm .eq (.v 3) (.kI 0)) (.seq (.ret (.op .add (.op .sub (.op .mod (.v 2) (.op .sub (.op .mul (.kI 2) (.op .pow (.kI 10) (.kI 60))) (.kI 1))) (.op .pow (.kI 10) (.kI 60))) (.kI 1))) .skip) .skip) (.seq (.ite (.cm .eq (.v 3) (.kI 1)) (.seq (.ret (.op .sub (.op .mod (.v 2) (.kI 41)) (.kI 20))) .skip) .skip) (.seq (.ret (.call "_law_draw" (.cons (.v 0) (.cons (.v 1) (.cons (.kI 10111) (.cons (.kI 9) .nil)))))) .skip))))))
def f_law_number : Fd := ⟨"_law_number", 2, ["_law_script", "_law_k", "_law_cell", "_law_way"], b_law_number, true⟩
def b_law_state_1 : Lt.E := (.call "_law_draw" (.cons (.v 0) (.cons (.op .add (.v 1) (.v 3)) (.cons (.kI 10141) (.cons (.ix (.v 4) (.kI 1)) .nil)))))
def b_law_state : Lt.S := (.seq (.ret (.bi .tuple (.cons (.fz (.lc .enum (.cons (.v 2) .nil) (.tp [3, 4]) [("_law_at", 3), ("_law_box", 4)] (.kB true) b_law_state_1)) .nil))) .skip)
def f_law_state : Fd := ⟨"_law_state", 3, ["_law_script", "_law_k", "_law_boxes_here", "_law_at", "_law_box"], b_law_state, true⟩
def b_law_put_1 : Lt.E := (.ite (.cm .eq (.v 3) (.v 1)) (.v 2) (.v 4))
def b_law_put : Lt.S := (.seq (.ret (.bi .tuple (.cons (.fz (.lc .enum (.cons (.v 0) .nil) (.tp [3, 4]) [("_law_k", 3), ("_law_old", 4)] (.kB true) b_law_put_1)) .nil))) .skip)
def f_law_put : Fd := ⟨"_law_put", 3, ["_law_state_here", "_law_at", "_law_number_here", "_law_k", "_law_old"], b_law_put, true⟩
def b_law_common_1 : Lt.S := (.seq (.ret (.v 0)) .skip)
def b_law_common_2 : Lt.E := (.cm .gt (.v 1) (.kI 0))
def b_law_common_3 : Lt.S := (.seq (.par 0 1 (.v 1) (.op .mod (.v 0) (.v 1))) .skip)
def b_law_common : Lt.S := (.seq (.wh b_law_common_2 b_law_common_3) (.seq (.fg [1]) b_law_common_1))
def f_law_common : Fd := ⟨"_law_common", 2, ["_law_one", "_law_other"], b_law_common, true⟩
def b_law_weights_1 : Lt.S := (.seq (.ite (.cm .eq (.bi .sum (.cons (.v 3) .nil)) (.kI 0)) (.seq (.asI (.v 3) (.call "_law_draw" (.cons (.v 0) (.cons (.v 1) (.cons (.kI 10177) (.cons (.v 2) .nil))))) (.kI 1)) .skip) .skip) (.seq (.ret (.bi .tuple (.cons (.v 3) .nil))) .skip))
def b_law_weights_2 : Lt.S := (.seq (.as 5 (.call "_law_draw" (.cons (.v 0) (.cons (.op .add (.v 1) (.v 4)) (.cons (.kI 10163) (.cons (.kI 4) .nil)))))) (.seq (.ite (.and (.cons (.cm .eq (.call "_law_draw" (.cons (.v 0) (.cons (.op .add (.v 1) (.v 4)) (.cons (.kI 10169) (.cons (.kI 7) .nil))))) (.kI 0)) (.cons (.cm .gt (.bi .len (.cons (.v 0) .nil)) (.kI 0)) .nil))) (.seq (.as 5 (.op .mod (.ix (.v 0) (.op .mod (.op .add (.v 1) (.v 4)) (.bi .len (.cons (.v 0) .nil)))) (.op .pow (.kI 10) (.kI 60)))) .skip) .skip) (.seq (.ex (.mt .append (.v 3) (.cons (.v 5) .nil))) (.seq (.fg [4, 5]) .skip))))
def b_law_weights : Lt.S := (.seq (.as 3 (.ls .nil)) (.seq (.fg [4, 5]) (.seq (.fr .range1 (.cons (.v 2) .nil) (.nm 4) b_law_weights_2) (.seq (.fg [4, 5]) b_law_weights_1))))
def f_law_weights : Fd := ⟨"_law_weights", 3, ["_law_script", "_law_k", "_law_size", "_law_weights_here", "_law_at", "_law_weight"], b_law_weights, true⟩
def b_law_ways_right_1 : Lt.S := (.seq (.ret (.and (.cons (.isT (.v 0) .list) (.cons (.cm .eq (.px .rpr (.cons (.v 0) .nil)) (.px .rpr (.cons (.v 5) .nil))) .nil)))) .skip)
def b_law_ways_right_2 : Lt.S := (.seq (.ite (.cm .gt (.v 7) (.kI 0)) (.seq (.as 8 (.call "_law_common" (.cons (.v 7) (.cons (.v 4) .nil)))) (.seq (.ex (.mt .append (.v 5) (.cons (.tp (.cons (.tp (.cons (.op .div (.v 7) (.v 8)) (.cons (.op .div (.v 4) (.v 8)) .nil))) (.cons (.call "_law_put" (.cons (.v 1) (.cons (.v 2) (.cons (.v 6) .nil)))) .nil))) .nil))) .skip)) .skip) (.seq (.fg [6, 7, 8]) .skip))
def b_law_ways_right : Lt.S := (.seq (.as 4 (.bi .sum (.cons (.v 3) .nil))) (.seq (.as 5 (.ls .nil)) (.seq (.fg [6, 7, 8]) (.seq (.fr .enum (.cons (.v 3) .nil) (.tp [6, 7]) b_law_ways_right_2) (.seq (.fg [6, 7, 8]) b_law_ways_right_1)))))
def f_law_ways_right : Fd := ⟨"_law_ways_right", 4, ["_law_found", "_law_state_here", "_law_at", "_law_weights_here", "_law_many", "_law_due", "_law_number_here", "_law_weight", "_law_most"], b_law_ways_right, true⟩
def b_law_1 : Lt.S := (.seq (.ret (.kB true)) .skip)
def b_law_2 : Lt.S := (.seq (.as 4 (.call "_law_draw" (.cons (.v 0) (.cons (.v 3) (.cons (.kI 10181) (.cons (.bi .len (.cons (.v 1) .nil)) .nil)))))) (.seq (.asT [6, 7] (.ix (.v 1) (.v 4))) (.seq (.as 5 (.call "_law_number" (.cons (.v 0) (.cons (.v 3) .nil)))) (.seq (.as 2 (.call "_law_put" (.cons (.v 2) (.cons (.op .mod (.op .add (.v 4) (.kI 1)) (.bi .len (.cons (.v 1) .nil))) (.cons (.call "_law_draw" (.cons (.v 0) (.cons (.v 3) (.cons (.kI 10193) (.cons (.ix (.ix (.v 1) (.op .mod (.op .add (.v 4) (.kI 1)) (.bi .len (.cons (.v 1) .nil)))) (.kI 1)) .nil))))) .nil))))) (.seq (.ite (.cm .ne (.px .rpr (.cons (.call "put_into" (.cons (.v 1) (.cons (.v 2) (.cons (.v 6) (.cons (.v 5) .nil))))) .nil)) (.px .rpr (.cons (.call "_law_put" (.cons (.v 2) (.cons (.v 4) (.cons (.op .mod (.v 5) (.v 7)) .nil)))) .nil))) (.seq (.ret (.kB false)) .skip) .skip) (.seq (.ite (.cm .eq (.op .mod (.v 3) (.kI 8)) (.kI 0)) (.seq (.as 8 (.call "_law_weights" (.cons (.v 0) (.cons (.v 3) (.cons (.v 7) .nil))))) (.seq (.ite (.not (.call "_law_ways_right" (.cons (.call "drawn" (.cons (.v 1) (.cons (.v 2) (.cons (.v 6) (.cons (.v 8) .nil))))) (.cons (.v 2) (.cons (.v 4) (.cons (.v 8) .nil)))))) (.seq (.ret (.kB false)) .skip) .skip) .skip)) .skip) (.seq (.fg [3, 4, 5, 6, 7, 8]) .skip)))))))
def b_law : Lt.S := (.seq (.as 1 (.call "_law_boxes" (.cons (.v 0) (.cons (.op .add (.kI 1) (.call "_law_draw" (.cons (.v 0) (.cons (.kI 7) (.cons (.kI 10093) (.cons (.kI 9) .nil)))))) (.cons (.kI 1000) .nil))))) (.seq (.as 2 (.call "_law_state" (.cons (.v 0) (.cons (.kI 8) (.cons (.v 1) .nil))))) (.seq (.fg [3, 4, 5, 6, 7, 8]) (.seq (.fr .range1 (.cons (.bi .min2 (.cons (.kI 60) (.cons (.bi .max2 (.cons (.kI 1) (.cons (.bi .len (.cons (.v 0) .nil)) .nil))) .nil))) .nil) (.nm 3) b_law_2) (.seq (.fg [2, 3, 4, 5, 6, 7, 8]) b_law_1)))))
def f_law : Fd := ⟨"law", 1, ["_law_script", "_law_boxes_here", "_law_state_here", "_law_k", "_law_at", "_law_number_here", "_law_name_here", "_law_size", "_law_weights_here"], b_law, true⟩
def L : List Fd := [f_divisor, f_fraction, f_place_of, f_put_into, f_drawn, f_law_draw, f_law_name, f_law_boxes, f_law_number, f_law_state, f_law_put, f_law_common, f_law_weights, f_law_ways_right, f_law]
def Ex0 : Ex := ⟨["NoNumber"], fun x c => [].contains (x, c)⟩
def G : Gn := ⟨fun x => none, Ex0⟩
theorem u_divisor {j : Nat} {ds : List D} {h : Hh} {R : QD} {Y : XD} : callL L G (j + 1) "divisor" ds h R Y = (ds.length = 2 ∧ wS ⟨callL L G j, G.glob, G.ex⟩ b_divisor (startE 2 ds) h (edOf true h R Y)) := rfl
theorem u_fraction {j : Nat} {ds : List D} {h : Hh} {R : QD} {Y : XD} : callL L G (j + 1) "fraction" ds h R Y = (ds.length = 2 ∧ wS ⟨callL L G j, G.glob, G.ex⟩ b_fraction (startE 3 ds) h (edOf true h R Y)) := rfl
theorem u_place_of {j : Nat} {ds : List D} {h : Hh} {R : QD} {Y : XD} : callL L G (j + 1) "place_of" ds h R Y = (ds.length = 2 ∧ wS ⟨callL L G j, G.glob, G.ex⟩ b_place_of (startE 3 ds) h (edOf true h R Y)) := rfl
theorem u_put_into {j : Nat} {ds : List D} {h : Hh} {R : QD} {Y : XD} : callL L G (j + 1) "put_into" ds h R Y = (ds.length = 4 ∧ wS ⟨callL L G j, G.glob, G.ex⟩ b_put_into (startE 5 ds) h (edOf true h R Y)) := rfl
theorem u_drawn {j : Nat} {ds : List D} {h : Hh} {R : QD} {Y : XD} : callL L G (j + 1) "drawn" ds h R Y = (ds.length = 4 ∧ wS ⟨callL L G j, G.glob, G.ex⟩ b_drawn (startE 8 ds) h (edOf true h R Y)) := rfl
theorem u_law_draw {j : Nat} {ds : List D} {h : Hh} {R : QD} {Y : XD} : callL L G (j + 1) "_law_draw" ds h R Y = (ds.length = 4 ∧ wS ⟨callL L G j, G.glob, G.ex⟩ b_law_draw (startE 5 ds) h (edOf true h R Y)) := rfl
theorem u_law_name {j : Nat} {ds : List D} {h : Hh} {R : QD} {Y : XD} : callL L G (j + 1) "_law_name" ds h R Y = (ds.length = 3 ∧ wS ⟨callL L G j, G.glob, G.ex⟩ b_law_name (startE 8 ds) h (edOf true h R Y)) := rfl
theorem u_law_boxes {j : Nat} {ds : List D} {h : Hh} {R : QD} {Y : XD} : callL L G (j + 1) "_law_boxes" ds h R Y = (ds.length = 3 ∧ wS ⟨callL L G j, G.glob, G.ex⟩ b_law_boxes (startE 9 ds) h (edOf true h R Y)) := rfl
theorem u_law_number {j : Nat} {ds : List D} {h : Hh} {R : QD} {Y : XD} : callL L G (j + 1) "_law_number" ds h R Y = (ds.length = 2 ∧ wS ⟨callL L G j, G.glob, G.ex⟩ b_law_number (startE 4 ds) h (edOf true h R Y)) := rfl
theorem u_law_state {j : Nat} {ds : List D} {h : Hh} {R : QD} {Y : XD} : callL L G (j + 1) "_law_state" ds h R Y = (ds.length = 3 ∧ wS ⟨callL L G j, G.glob, G.ex⟩ b_law_state (startE 5 ds) h (edOf true h R Y)) := rfl
theorem u_law_put {j : Nat} {ds : List D} {h : Hh} {R : QD} {Y : XD} : callL L G (j + 1) "_law_put" ds h R Y = (ds.length = 3 ∧ wS ⟨callL L G j, G.glob, G.ex⟩ b_law_put (startE 5 ds) h (edOf true h R Y)) := rfl
theorem u_law_common {j : Nat} {ds : List D} {h : Hh} {R : QD} {Y : XD} : callL L G (j + 1) "_law_common" ds h R Y = (ds.length = 2 ∧ wS ⟨callL L G j, G.glob, G.ex⟩ b_law_common (startE 2 ds) h (edOf true h R Y)) := rfl
theorem u_law_weights {j : Nat} {ds : List D} {h : Hh} {R : QD} {Y : XD} : callL L G (j + 1) "_law_weights" ds h R Y = (ds.length = 3 ∧ wS ⟨callL L G j, G.glob, G.ex⟩ b_law_weights (startE 6 ds) h (edOf true h R Y)) := rfl
theorem u_law_ways_right {j : Nat} {ds : List D} {h : Hh} {R : QD} {Y : XD} : callL L G (j + 1) "_law_ways_right" ds h R Y = (ds.length = 4 ∧ wS ⟨callL L G j, G.glob, G.ex⟩ b_law_ways_right (startE 9 ds) h (edOf true h R Y)) := rfl
theorem u_law {j : Nat} {ds : List D} {h : Hh} {R : QD} {Y : XD} : callL L G (j + 1) "law" ds h R Y = (ds.length = 1 ∧ wS ⟨callL L G j, G.glob, G.ex⟩ b_law (startE 9 ds) h (edOf true h R Y)) := rfl
theorem x_facts : G.ex.excs.contains "NoNumber" = true := by decide +kernel
end Xk13

set_option maxHeartbeats 1000000
namespace Xk13
open PySem PySem.Spec PyProof.Rows L2 Lt
section
variable {j lv : Nat} {h : Hh} {R : QD} {Y : XD}
theorem c_divisor {a b : Int} (hv : 1 ≤ lv) : callL L G lv "divisor" [.int a, .int b] h R Y = R (.int (Int.gcd a b)) h := by
  obtain ⟨j, rfl⟩ : ∃ j, lv = j + 1 := ⟨lv - 1, by omega⟩
  rw [u_divisor]
  simp -implicitDefEqProofs only [b_divisor, abs_if, wS, up_up, exists_eq', Lt.hE, Lt.hA, Lt.hN, Lt.hS, wipeE, Nat.le_add_left, Nat.reduceLeDiff, Lt.wE, wA, wAn, wOr, optW_some, getE, setE, setsE, edOf, startE, new_frz, all_free, frz_non, frz_bl, frz_int, frz_str, frz_tup, frz_lst, wrL_up, rdL_up, era_up, gc_up, atI_0, atI_1, atI_2, List.map_cons, List.map_nil, List.length_cons, List.length_nil, List.length_map, List.replicate, List.cons_append, List.nil_append, List.append_nil, Nat.sub_self, decide_eq_true_eq, decide_eq_false_iff_not, Bool.not_eq_true', Bool.not_eq_true, Bool.not_true, Bool.not_false, not_true_eq_false, not_false_eq_true, if_true, if_false, ite_true, ite_false, true_and, and_true, eq_self, reduceIte, Bool.false_eq_true, gc_self, up_same, Option.some.injEq, reduceCtorEq, List.getElem?_map, Option.map_some, Option.map_none, Nat.zero_add, Nat.reduceAdd, Nat.reduceSub, q_addI, q_addS, q_addT, q_addL, q_addR, q_subI, q_mulI, q_mulR, q_mulL, q_mulT, q_divI, q_modI, q_powI, q_neg, q_lt, q_le, q_gt, q_ge, q_eqI, q_neI, q_eqB, q_eqS, q_eqN, q_eqT, q_eqL, q_eqR, q_neB, q_neS, q_neN, q_neT, q_neL, q_neR, q_in, q_notin, q_ixT, q_ixL, q_ixS, q_ixR, q_slT, q_slL, q_slR, q_slS, q_intW, q_blW, q_lenT, q_lenS, q_lenR, q_lenL, q_abs, q_min2, q_max2, q_sumR, q_sumL, q_sumT, q_anyR, q_anyL, q_allR, q_allL, q_listR, q_listL, q_listT, q_tupR, q_tupL, q_tupT, q_tAp, q_tEx, q_tPop, q_tRev, q_tCl, q_mAp, q_mEx, q_sqT, q_sqL, q_sqR, q_lrev, q_mPop, q_mRev, q_mCl, q_isN1, q_isN2, q_isN3, q_isN4, q_isN5, q_isN6, q_isN7, q_ty1, q_ty2, q_ty3, q_ty4, q_ty5, q_ty6, q_ty7, q_ty8, q_ty9, q_ty10, q_ty11, q_ty12, q_ty13, q_ty14, q_ty15, q_ty16, q_ty17, q_ty18, q_ty19, q_ty20, q_ty21, q_ty22, q_ty23, q_ty24, q_ty25, q_ty26, q_itR, q_itT, q_itL, q_rg1, q_rg2, q_rg3, q_enR, q_enL, q_zpR, q_enT, q_zpT, q_tIx, q_tIxR, q_tIn, q_mIx, q_mIxR, q_mIn, q_zpL, q_rvL, q_rvT, q_tgN, q_tgT, q_frS, q_asR, q_lsL, q_lsR, q_pN, q_pV, q_pI, q_pO, q_pG, q_pX, q_pB]
  refine (wh_gcd2 (A := fun g => R (.int g) h) (fun g => ?_) _ _).trans rfl
  simp -implicitDefEqProofs only [b_divisor_1, wS, up_up, exists_eq', Lt.hE, Lt.hA, Lt.hN, Lt.hS, wipeE, Nat.le_add_left, Nat.reduceLeDiff, Lt.wE, wA, wAn, wOr, optW_some, getE, setE, setsE, edOf, startE, new_frz, all_free, frz_non, frz_bl, frz_int, frz_str, frz_tup, frz_lst, wrL_up, rdL_up, era_up, gc_up, atI_0, atI_1, atI_2, List.map_cons, List.map_nil, List.length_cons, List.length_nil, List.length_map, List.replicate, List.cons_append, List.nil_append, List.append_nil, Nat.sub_self, decide_eq_true_eq, decide_eq_false_iff_not, Bool.not_eq_true', Bool.not_eq_true, Bool.not_true, Bool.not_false, not_true_eq_false, not_false_eq_true, if_true, if_false, ite_true, ite_false, true_and, and_true, eq_self, reduceIte, Bool.false_eq_true, gc_self, up_same, Option.some.injEq, reduceCtorEq, List.getElem?_map, Option.map_some, Option.map_none, Nat.zero_add, Nat.reduceAdd, Nat.reduceSub, q_addI, q_addS, q_addT, q_addL, q_addR, q_subI, q_mulI, q_mulR, q_mulL, q_mulT, q_divI, q_modI, q_powI, q_neg, q_lt, q_le, q_gt, q_ge, q_eqI, q_neI, q_eqB, q_eqS, q_eqN, q_eqT, q_eqL, q_eqR, q_neB, q_neS, q_neN, q_neT, q_neL, q_neR, q_in, q_notin, q_ixT, q_ixL, q_ixS, q_ixR, q_slT, q_slL, q_slR, q_slS, q_intW, q_blW, q_lenT, q_lenS, q_lenR, q_lenL, q_abs, q_min2, q_max2, q_sumR, q_sumL, q_sumT, q_anyR, q_anyL, q_allR, q_allL, q_listR, q_listL, q_listT, q_tupR, q_tupL, q_tupT, q_tAp, q_tEx, q_tPop, q_tRev, q_tCl, q_mAp, q_mEx, q_sqT, q_sqL, q_sqR, q_lrev, q_mPop, q_mRev, q_mCl, q_isN1, q_isN2, q_isN3, q_isN4, q_isN5, q_isN6, q_isN7, q_ty1, q_ty2, q_ty3, q_ty4, q_ty5, q_ty6, q_ty7, q_ty8, q_ty9, q_ty10, q_ty11, q_ty12, q_ty13, q_ty14, q_ty15, q_ty16, q_ty17, q_ty18, q_ty19, q_ty20, q_ty21, q_ty22, q_ty23, q_ty24, q_ty25, q_ty26, q_itR, q_itT, q_itL, q_rg1, q_rg2, q_rg3, q_enR, q_enL, q_zpR, q_enT, q_zpT, q_tIx, q_tIxR, q_tIn, q_mIx, q_mIxR, q_mIn, q_zpL, q_rvL, q_rvT, q_tgN, q_tgT, q_frS, q_asR, q_lsL, q_lsR, q_pN, q_pV, q_pI, q_pO, q_pG, q_pX, q_pB]
theorem c_fraction {t b : Int} (hb : 0 < b) (h9 : B 9000 b) (hv : 2 ≤ lv) : callL L G lv "fraction" [.int t, .int b] h R Y = R (frD (mk t b)) h := by
  obtain ⟨j, rfl⟩ : ∃ j, lv = j + 2 := ⟨lv - 2, by omega⟩
  rw [u_fraction]
  have e0 : ¬ b = 0 := by omega
  have e1 : ¬ b < 0 := by omega
  have e2 : ¬ (Int.gcd t b : Int) = 0 := by have := gcd_pos (t := t) hb; omega
  have e3 : ∀ x, Builtin.divisionGoesByPylong x (Int.gcd t b) = false := fun x => (h9.gcd hb).noPy
  have e4 : 2 ≤ sizeLine := by decide
  simp -implicitDefEqProofs only [b_fraction, e0, e1, c_divisor, e2, e3, e4, ne_eq, not_false_eq_true, fdiv_gcd hb, frD, mk, wS, up_up, exists_eq', Lt.hE, Lt.hA, Lt.hN, Lt.hS, wipeE, Nat.le_add_left, Nat.reduceLeDiff, Lt.wE, wA, wAn, wOr, optW_some, getE, setE, setsE, edOf, startE, new_frz, all_free, frz_non, frz_bl, frz_int, frz_str, frz_tup, frz_lst, wrL_up, rdL_up, era_up, gc_up, atI_0, atI_1, atI_2, List.map_cons, List.map_nil, List.length_cons, List.length_nil, List.length_map, List.replicate, List.cons_append, List.nil_append, List.append_nil, Nat.sub_self, decide_eq_true_eq, decide_eq_false_iff_not, Bool.not_eq_true', Bool.not_eq_true, Bool.not_true, Bool.not_false, not_true_eq_false, not_false_eq_true, if_true, if_false, ite_true, ite_false, true_and, and_true, eq_self, reduceIte, Bool.false_eq_true, gc_self, up_same, Option.some.injEq, reduceCtorEq, List.getElem?_map, Option.map_some, Option.map_none, Nat.zero_add, Nat.reduceAdd, Nat.reduceSub, q_addI, q_addS, q_addT, q_addL, q_addR, q_subI, q_mulI, q_mulR, q_mulL, q_mulT, q_divI, q_modI, q_powI, q_neg, q_lt, q_le, q_gt, q_ge, q_eqI, q_neI, q_eqB, q_eqS, q_eqN, q_eqT, q_eqL, q_eqR, q_neB, q_neS, q_neN, q_neT, q_neL, q_neR, q_in, q_notin, q_ixT, q_ixL, q_ixS, q_ixR, q_slT, q_slL, q_slR, q_slS, q_intW, q_blW, q_lenT, q_lenS, q_lenR, q_lenL, q_abs, q_min2, q_max2, q_sumR, q_sumL, q_sumT, q_anyR, q_anyL, q_allR, q_allL, q_listR, q_listL, q_listT, q_tupR, q_tupL, q_tupT, q_tAp, q_tEx, q_tPop, q_tRev, q_tCl, q_mAp, q_mEx, q_sqT, q_sqL, q_sqR, q_lrev, q_mPop, q_mRev, q_mCl, q_isN1, q_isN2, q_isN3, q_isN4, q_isN5, q_isN6, q_isN7, q_ty1, q_ty2, q_ty3, q_ty4, q_ty5, q_ty6, q_ty7, q_ty8, q_ty9, q_ty10, q_ty11, q_ty12, q_ty13, q_ty14, q_ty15, q_ty16, q_ty17, q_ty18, q_ty19, q_ty20, q_ty21, q_ty22, q_ty23, q_ty24, q_ty25, q_ty26, q_itR, q_itT, q_itL, q_rg1, q_rg2, q_rg3, q_enR, q_enL, q_zpR, q_enT, q_zpT, q_tIx, q_tIxR, q_tIn, q_mIx, q_mIxR, q_mIn, q_zpL, q_rvL, q_rvT, q_tgN, q_tgT, q_frS, q_asR, q_lsL, q_lsR, q_pN, q_pV, q_pI, q_pO, q_pG, q_pX, q_pB]
theorem c_law_draw {ns : List Int} {k p m : Int} (hk : B 32 k) (hp : 0 < p) (hm : 0 < m) (hv : 1 ≤ lv) : callL L G lv "_law_draw" [.lst (ns.map D.int), .int k, .int p, .int m] h R Y = R (.int (drawF ns k p m)) h := by
  obtain ⟨j, rfl⟩ : ∃ j, lv = j + 1 := ⟨lv - 1, by omega⟩
  rw [u_law_draw]
  have e2 : IntMulOk k k := mulOk_r (hk.mono (by decide))
  have e3 : ∀ x, IntMulOk x 48271 := fun x => mulOk_r (by decide)
  have e4 : ¬ p = 0 := by omega
  have e5 : ¬ m = 0 := by omega
  have f1 : ∀ x : Int, x.fmod p = x % p := fun x => fmod_pos (by omega)
  have f2 : ∀ x : Int, x.fmod m = x % m := fun x => fmod_pos (by omega)
  simp -implicitDefEqProofs only [b_law_draw, gt_iff_lt, wS, up_up, exists_eq', Lt.hE, Lt.hA, Lt.hN, Lt.hS, wipeE, Nat.le_add_left, Nat.reduceLeDiff, Lt.wE, wA, wAn, wOr, optW_some, getE, setE, setsE, edOf, startE, new_frz, all_free, frz_non, frz_bl, frz_int, frz_str, frz_tup, frz_lst, wrL_up, rdL_up, era_up, gc_up, atI_0, atI_1, atI_2, List.map_cons, List.map_nil, List.length_cons, List.length_nil, List.length_map, List.replicate, List.cons_append, List.nil_append, List.append_nil, Nat.sub_self, decide_eq_true_eq, decide_eq_false_iff_not, Bool.not_eq_true', Bool.not_eq_true, Bool.not_true, Bool.not_false, not_true_eq_false, not_false_eq_true, if_true, if_false, ite_true, ite_false, true_and, and_true, eq_self, reduceIte, Bool.false_eq_true, gc_self, up_same, Option.some.injEq, reduceCtorEq, List.getElem?_map, Option.map_some, Option.map_none, Nat.zero_add, Nat.reduceAdd, Nat.reduceSub, q_addI, q_addS, q_addT, q_addL, q_addR, q_subI, q_mulI, q_mulR, q_mulL, q_mulT, q_divI, q_modI, q_powI, q_neg, q_lt, q_le, q_gt, q_ge, q_eqI, q_neI, q_eqB, q_eqS, q_eqN, q_eqT, q_eqL, q_eqR, q_neB, q_neS, q_neN, q_neT, q_neL, q_neR, q_in, q_notin, q_ixT, q_ixL, q_ixS, q_ixR, q_slT, q_slL, q_slR, q_slS, q_intW, q_blW, q_lenT, q_lenS, q_lenR, q_lenL, q_abs, q_min2, q_max2, q_sumR, q_sumL, q_sumT, q_anyR, q_anyL, q_allR, q_allL, q_listR, q_listL, q_listT, q_tupR, q_tupL, q_tupT, q_tAp, q_tEx, q_tPop, q_tRev, q_tCl, q_mAp, q_mEx, q_sqT, q_sqL, q_sqR, q_lrev, q_mPop, q_mRev, q_mCl, q_isN1, q_isN2, q_isN3, q_isN4, q_isN5, q_isN6, q_isN7, q_ty1, q_ty2, q_ty3, q_ty4, q_ty5, q_ty6, q_ty7, q_ty8, q_ty9, q_ty10, q_ty11, q_ty12, q_ty13, q_ty14, q_ty15, q_ty16, q_ty17, q_ty18, q_ty19, q_ty20, q_ty21, q_ty22, q_ty23, q_ty24, q_ty25, q_ty26, q_itR, q_itT, q_itL, q_rg1, q_rg2, q_rg3, q_enR, q_enL, q_zpR, q_enT, q_zpT, q_tIx, q_tIxR, q_tIn, q_mIx, q_mIxR, q_mIn, q_zpL, q_rvL, q_rvT, q_tgN, q_tgT, q_frS, q_asR, q_lsL, q_lsR, q_pN, q_pV, q_pI, q_pO, q_pG, q_pX, q_pB]
  by_cases e : 0 < ns.length
  · have e1 : (0 : Int) < ns.length := by omega
    have e6 : ¬ (ns.length : Int) = 0 := by omega
    simp -implicitDefEqProofs only [e1, e6, idx e, e2, e3, e4, e5, f1, f2, drawF, atI_map, ne_eq, not_false_eq_true, wS, up_up, exists_eq', Lt.hE, Lt.hA, Lt.hN, Lt.hS, wipeE, Nat.le_add_left, Nat.reduceLeDiff, Lt.wE, wA, wAn, wOr, optW_some, getE, setE, setsE, edOf, startE, new_frz, all_free, frz_non, frz_bl, frz_int, frz_str, frz_tup, frz_lst, wrL_up, rdL_up, era_up, gc_up, atI_0, atI_1, atI_2, List.map_cons, List.map_nil, List.length_cons, List.length_nil, List.length_map, List.replicate, List.cons_append, List.nil_append, List.append_nil, Nat.sub_self, decide_eq_true_eq, decide_eq_false_iff_not, Bool.not_eq_true', Bool.not_eq_true, Bool.not_true, Bool.not_false, not_true_eq_false, not_false_eq_true, if_true, if_false, ite_true, ite_false, true_and, and_true, eq_self, reduceIte, Bool.false_eq_true, gc_self, up_same, Option.some.injEq, reduceCtorEq, List.getElem?_map, Option.map_some, Option.map_none, Nat.zero_add, Nat.reduceAdd, Nat.reduceSub, q_addI, q_addS, q_addT, q_addL, q_addR, q_subI, q_mulI, q_mulR, q_mulL, q_mulT, q_divI, q_modI, q_powI, q_neg, q_lt, q_le, q_gt, q_ge, q_eqI, q_neI, q_eqB, q_eqS, q_eqN, q_eqT, q_eqL, q_eqR, q_neB, q_neS, q_neN, q_neT, q_neL, q_neR, q_in, q_notin, q_ixT, q_ixL, q_ixS, q_ixR, q_slT, q_slL, q_slR, q_slS, q_intW, q_blW, q_lenT, q_lenS, q_lenR, q_lenL, q_abs, q_min2, q_max2, q_sumR, q_sumL, q_sumT, q_anyR, q_anyL, q_allR, q_allL, q_listR, q_listL, q_listT, q_tupR, q_tupL, q_tupT, q_tAp, q_tEx, q_tPop, q_tRev, q_tCl, q_mAp, q_mEx, q_sqT, q_sqL, q_sqR, q_lrev, q_mPop, q_mRev, q_mCl, q_isN1, q_isN2, q_isN3, q_isN4, q_isN5, q_isN6, q_isN7, q_ty1, q_ty2, q_ty3, q_ty4, q_ty5, q_ty6, q_ty7, q_ty8, q_ty9, q_ty10, q_ty11, q_ty12, q_ty13, q_ty14, q_ty15, q_ty16, q_ty17, q_ty18, q_ty19, q_ty20, q_ty21, q_ty22, q_ty23, q_ty24, q_ty25, q_ty26, q_itR, q_itT, q_itL, q_rg1, q_rg2, q_rg3, q_enR, q_enL, q_zpR, q_enT, q_zpT, q_tIx, q_tIxR, q_tIn, q_mIx, q_mIxR, q_mIn, q_zpL, q_rvL, q_rvT, q_tgN, q_tgT, q_frS, q_asR, q_lsL, q_lsR, q_pN, q_pV, q_pI, q_pO, q_pG, q_pX, q_pB]
  · have e1 : ¬ (0 : Int) < ns.length := by omega
    simp -implicitDefEqProofs only [e1, e, cellF, drawF, e2, e3, e4, e5, f1, f2, ne_eq, not_false_eq_true, wS, up_up, exists_eq', Lt.hE, Lt.hA, Lt.hN, Lt.hS, wipeE, Nat.le_add_left, Nat.reduceLeDiff, Lt.wE, wA, wAn, wOr, optW_some, getE, setE, setsE, edOf, startE, new_frz, all_free, frz_non, frz_bl, frz_int, frz_str, frz_tup, frz_lst, wrL_up, rdL_up, era_up, gc_up, atI_0, atI_1, atI_2, List.map_cons, List.map_nil, List.length_cons, List.length_nil, List.length_map, List.replicate, List.cons_append, List.nil_append, List.append_nil, Nat.sub_self, decide_eq_true_eq, decide_eq_false_iff_not, Bool.not_eq_true', Bool.not_eq_true, Bool.not_true, Bool.not_false, not_true_eq_false, not_false_eq_true, if_true, if_false, ite_true, ite_false, true_and, and_true, eq_self, reduceIte, Bool.false_eq_true, gc_self, up_same, Option.some.injEq, reduceCtorEq, List.getElem?_map, Option.map_some, Option.map_none, Nat.zero_add, Nat.reduceAdd, Nat.reduceSub, q_addI, q_addS, q_addT, q_addL, q_addR, q_subI, q_mulI, q_mulR, q_mulL, q_mulT, q_divI, q_modI, q_powI, q_neg, q_lt, q_le, q_gt, q_ge, q_eqI, q_neI, q_eqB, q_eqS, q_eqN, q_eqT, q_eqL, q_eqR, q_neB, q_neS, q_neN, q_neT, q_neL, q_neR, q_in, q_notin, q_ixT, q_ixL, q_ixS, q_ixR, q_slT, q_slL, q_slR, q_slS, q_intW, q_blW, q_lenT, q_lenS, q_lenR, q_lenL, q_abs, q_min2, q_max2, q_sumR, q_sumL, q_sumT, q_anyR, q_anyL, q_allR, q_allL, q_listR, q_listL, q_listT, q_tupR, q_tupL, q_tupT, q_tAp, q_tEx, q_tPop, q_tRev, q_tCl, q_mAp, q_mEx, q_sqT, q_sqL, q_sqR, q_lrev, q_mPop, q_mRev, q_mCl, q_isN1, q_isN2, q_isN3, q_isN4, q_isN5, q_isN6, q_isN7, q_ty1, q_ty2, q_ty3, q_ty4, q_ty5, q_ty6, q_ty7, q_ty8, q_ty9, q_ty10, q_ty11, q_ty12, q_ty13, q_ty14, q_ty15, q_ty16, q_ty17, q_ty18, q_ty19, q_ty20, q_ty21, q_ty22, q_ty23, q_ty24, q_ty25, q_ty26, q_itR, q_itT, q_itL, q_rg1, q_rg2, q_rg3, q_enR, q_enL, q_zpR, q_enT, q_zpT, q_tIx, q_tIxR, q_tIn, q_mIx, q_mIxR, q_mIn, q_zpL, q_rvL, q_rvT, q_tgN, q_tgT, q_frS, q_asR, q_lsL, q_lsR, q_pN, q_pV, q_pI, q_pO, q_pG, q_pX, q_pB]
theorem p_law_name {ns : List Int} {k a n : Nat} (hk : k ≤ 100) (ha : a < 8) (hn : n ≤ 8) :
    wS ⟨callL L G (j + 1), G.glob, G.ex⟩ b_law_name_3 [some (.lst (ns.map D.int)), some (.int k), some (.int a), some (.str (Str.ofString "abcdefghijklmnopqrstuvwxyz")), some (.int n), none, none, none] h (edOf true h R Y) = R (.str (st ((List.range n).map fun p => 97 + (turnF ns k a p % 26).toNat))) h := by
  have b1 : (-(2 ^ 62) ≤ (n : Int)) = True := eq_true (by omega)
  have b2 : ((n : Int) < 2 ^ 62) = True := eq_true (by omega)
  have b3 : Int.toNat (n : Int) = n := by omega
  simp -implicitDefEqProofs only [b_law_name_3, b1, b2, b3, rngD_0, st_nil, wS, up_up, exists_eq', Lt.hE, Lt.hA, Lt.hN, Lt.hS, wipeE, Nat.le_add_left, Nat.reduceLeDiff, Lt.wE, wA, wAn, wOr, optW_some, getE, setE, setsE, edOf, startE, new_frz, all_free, frz_non, frz_bl, frz_int, frz_str, frz_tup, frz_lst, wrL_up, rdL_up, era_up, gc_up, atI_0, atI_1, atI_2, List.map_cons, List.map_nil, List.length_cons, List.length_nil, List.length_map, List.replicate, List.cons_append, List.nil_append, List.append_nil, Nat.sub_self, decide_eq_true_eq, decide_eq_false_iff_not, Bool.not_eq_true', Bool.not_eq_true, Bool.not_true, Bool.not_false, not_true_eq_false, not_false_eq_true, if_true, if_false, ite_true, ite_false, true_and, and_true, eq_self, reduceIte, Bool.false_eq_true, gc_self, up_same, Option.some.injEq, reduceCtorEq, List.getElem?_map, Option.map_some, Option.map_none, Nat.zero_add, Nat.reduceAdd, Nat.reduceSub, q_addI, q_addS, q_addT, q_addL, q_addR, q_subI, q_mulI, q_mulR, q_mulL, q_mulT, q_divI, q_modI, q_powI, q_neg, q_lt, q_le, q_gt, q_ge, q_eqI, q_neI, q_eqB, q_eqS, q_eqN, q_eqT, q_eqL, q_eqR, q_neB, q_neS, q_neN, q_neT, q_neL, q_neR, q_in, q_notin, q_ixT, q_ixL, q_ixS, q_ixR, q_slT, q_slL, q_slR, q_slS, q_intW, q_blW, q_lenT, q_lenS, q_lenR, q_lenL, q_abs, q_min2, q_max2, q_sumR, q_sumL, q_sumT, q_anyR, q_anyL, q_allR, q_allL, q_listR, q_listL, q_listT, q_tupR, q_tupL, q_tupT, q_tAp, q_tEx, q_tPop, q_tRev, q_tCl, q_mAp, q_mEx, q_sqT, q_sqL, q_sqR, q_lrev, q_mPop, q_mRev, q_mCl, q_isN1, q_isN2, q_isN3, q_isN4, q_isN5, q_isN6, q_isN7, q_ty1, q_ty2, q_ty3, q_ty4, q_ty5, q_ty6, q_ty7, q_ty8, q_ty9, q_ty10, q_ty11, q_ty12, q_ty13, q_ty14, q_ty15, q_ty16, q_ty17, q_ty18, q_ty19, q_ty20, q_ty21, q_ty22, q_ty23, q_ty24, q_ty25, q_ty26, q_itR, q_itT, q_itL, q_rg1, q_rg2, q_rg3, q_enR, q_enL, q_zpR, q_enT, q_zpT, q_tIx, q_tIxR, q_tIn, q_mIx, q_mIxR, q_mIn, q_zpL, q_rvL, q_rvT, q_tgN, q_tgT, q_frS, q_asR, q_lsL, q_lsR, q_pN, q_pV, q_pI, q_pO, q_pG, q_pX, q_pB]
  refine fr_det (σ := List Nat) (fun s => [some (.lst (ns.map D.int)), some (.int k), some (.int a), some (.str (Str.ofString "abcdefghijklmnopqrstuvwxyz")), some (.int n), some (.str (st s)), none, none]) (fun p : Nat => .int (p : Int)) (fun as s => s.length + as.length ≤ 8 ∧ ∀ p ∈ as, p < 8) (fun as s => R (.str (st (s ++ as.map fun p => 97 + (turnF ns k a p % 26).toNat))) h) (fun s _ => ?_) (fun p as s I => ?_) (List.range n) [] ⟨by simpa using hn, fun p hp => by have := List.mem_range.1 hp; omega⟩
  · simp -implicitDefEqProofs only [b_law_name_1, wS, up_up, exists_eq', Lt.hE, Lt.hA, Lt.hN, Lt.hS, wipeE, Nat.le_add_left, Nat.reduceLeDiff, Lt.wE, wA, wAn, wOr, optW_some, getE, setE, setsE, edOf, startE, new_frz, all_free, frz_non, frz_bl, frz_int, frz_str, frz_tup, frz_lst, wrL_up, rdL_up, era_up, gc_up, atI_0, atI_1, atI_2, List.map_cons, List.map_nil, List.length_cons, List.length_nil, List.length_map, List.replicate, List.cons_append, List.nil_append, List.append_nil, Nat.sub_self, decide_eq_true_eq, decide_eq_false_iff_not, Bool.not_eq_true', Bool.not_eq_true, Bool.not_true, Bool.not_false, not_true_eq_false, not_false_eq_true, if_true, if_false, ite_true, ite_false, true_and, and_true, eq_self, reduceIte, Bool.false_eq_true, gc_self, up_same, Option.some.injEq, reduceCtorEq, List.getElem?_map, Option.map_some, Option.map_none, Nat.zero_add, Nat.reduceAdd, Nat.reduceSub, q_addI, q_addS, q_addT, q_addL, q_addR, q_subI, q_mulI, q_mulR, q_mulL, q_mulT, q_divI, q_modI, q_powI, q_neg, q_lt, q_le, q_gt, q_ge, q_eqI, q_neI, q_eqB, q_eqS, q_eqN, q_eqT, q_eqL, q_eqR, q_neB, q_neS, q_neN, q_neT, q_neL, q_neR, q_in, q_notin, q_ixT, q_ixL, q_ixS, q_ixR, q_slT, q_slL, q_slR, q_slS, q_intW, q_blW, q_lenT, q_lenS, q_lenR, q_lenL, q_abs, q_min2, q_max2, q_sumR, q_sumL, q_sumT, q_anyR, q_anyL, q_allR, q_allL, q_listR, q_listL, q_listT, q_tupR, q_tupL, q_tupT, q_tAp, q_tEx, q_tPop, q_tRev, q_tCl, q_mAp, q_mEx, q_sqT, q_sqL, q_sqR, q_lrev, q_mPop, q_mRev, q_mCl, q_isN1, q_isN2, q_isN3, q_isN4, q_isN5, q_isN6, q_isN7, q_ty1, q_ty2, q_ty3, q_ty4, q_ty5, q_ty6, q_ty7, q_ty8, q_ty9, q_ty10, q_ty11, q_ty12, q_ty13, q_ty14, q_ty15, q_ty16, q_ty17, q_ty18, q_ty19, q_ty20, q_ty21, q_ty22, q_ty23, q_ty24, q_ty25, q_ty26, q_itR, q_itT, q_itL, q_rg1, q_rg2, q_rg3, q_enR, q_enL, q_zpR, q_enT, q_zpT, q_tIx, q_tIxR, q_tIn, q_mIx, q_mIxR, q_mIn, q_zpL, q_rvL, q_rvT, q_tgN, q_tgT, q_frS, q_asR, q_lsL, q_lsR, q_pN, q_pV, q_pI, q_pO, q_pG, q_pX, q_pB]
  · left
    have hp := I.2 p (by simp)
    have e1 : s.length + 1 ≤ sizeLine := Nat.le_trans (by have := I.1; simp only [List.length_cons] at this; omega : _ ≤ 9) (by decide)
    have e2 : (Str.ofString "abcdefghijklmnopqrstuvwxyz").length ≤ sizeLine := by decide +kernel
    have e3 : IntMulOk (p : Int) p := mulOk_r (by unfold B; omega)
    have e8 : IntMulOk (a : Int) a := mulOk_r (by unfold B; omega)
    have e4 : ∀ x : Int, x.fmod 26 = x % 26 := fun x => fmod_pos (by decide)
    have e5 : ∀ x : Int, atI (Str.ofString "abcdefghijklmnopqrstuvwxyz").cps.toList (x % 26) = some (97 + (x % 26).toNat) := fun x => abc_at (by omega) (by omega)
    have e6 : ¬ (26 : Int) = 0 := by decide
    have e7 : ((p : Int) = a) = (p = a) := propext ⟨fun z => by omega, fun z => by omega⟩
    refine ⟨s ++ [97 + (turnF ns k a p % 26).toNat], ⟨by have := I.1; simp only [List.length_cons, List.length_append, List.length_nil] at this ⊢; omega, fun q hq => I.2 q (by simp [hq])⟩, by simp, fun W => ?_⟩
    by_cases c1 : drawF ns 3 10061 2 = 0 <;> by_cases c2 : p = a <;>
      simp -implicitDefEqProofs only [b_law_name_2, e1, e2, e3, e8, e4, e5, e6, e7, ne_eq, not_false_eq_true, c1, c2, turnF, c_law_draw (k := 2) (p := 10039) (m := 26) (by decide) (by decide) (by decide), c_law_draw (k := 3) (p := 10061) (m := 2) (by decide) (by decide) (by decide), c_law_draw (k := 4) (p := 10069) (m := 26) (by decide) (by decide) (by decide), c_law_draw (k := 30 + (k : Int)) (p := 10067) (m := 26) (by unfold B; omega) (by decide) (by decide), st_one, st_len, st_app, Int.add_zero, wS, up_up, exists_eq', Lt.hE, Lt.hA, Lt.hN, Lt.hS, wipeE, Nat.le_add_left, Nat.reduceLeDiff, Lt.wE, wA, wAn, wOr, optW_some, getE, setE, setsE, edOf, startE, new_frz, all_free, frz_non, frz_bl, frz_int, frz_str, frz_tup, frz_lst, wrL_up, rdL_up, era_up, gc_up, atI_0, atI_1, atI_2, List.map_cons, List.map_nil, List.length_cons, List.length_nil, List.length_map, List.replicate, List.cons_append, List.nil_append, List.append_nil, Nat.sub_self, decide_eq_true_eq, decide_eq_false_iff_not, Bool.not_eq_true', Bool.not_eq_true, Bool.not_true, Bool.not_false, not_true_eq_false, not_false_eq_true, if_true, if_false, ite_true, ite_false, true_and, and_true, eq_self, reduceIte, Bool.false_eq_true, gc_self, up_same, Option.some.injEq, reduceCtorEq, List.getElem?_map, Option.map_some, Option.map_none, Nat.zero_add, Nat.reduceAdd, Nat.reduceSub, q_addI, q_addS, q_addT, q_addL, q_addR, q_subI, q_mulI, q_mulR, q_mulL, q_mulT, q_divI, q_modI, q_powI, q_neg, q_lt, q_le, q_gt, q_ge, q_eqI, q_neI, q_eqB, q_eqS, q_eqN, q_eqT, q_eqL, q_eqR, q_neB, q_neS, q_neN, q_neT, q_neL, q_neR, q_in, q_notin, q_ixT, q_ixL, q_ixS, q_ixR, q_slT, q_slL, q_slR, q_slS, q_intW, q_blW, q_lenT, q_lenS, q_lenR, q_lenL, q_abs, q_min2, q_max2, q_sumR, q_sumL, q_sumT, q_anyR, q_anyL, q_allR, q_allL, q_listR, q_listL, q_listT, q_tupR, q_tupL, q_tupT, q_tAp, q_tEx, q_tPop, q_tRev, q_tCl, q_mAp, q_mEx, q_sqT, q_sqL, q_sqR, q_lrev, q_mPop, q_mRev, q_mCl, q_isN1, q_isN2, q_isN3, q_isN4, q_isN5, q_isN6, q_isN7, q_ty1, q_ty2, q_ty3, q_ty4, q_ty5, q_ty6, q_ty7, q_ty8, q_ty9, q_ty10, q_ty11, q_ty12, q_ty13, q_ty14, q_ty15, q_ty16, q_ty17, q_ty18, q_ty19, q_ty20, q_ty21, q_ty22, q_ty23, q_ty24, q_ty25, q_ty26, q_itR, q_itT, q_itL, q_rg1, q_rg2, q_rg3, q_enR, q_enL, q_zpR, q_enT, q_zpT, q_tIx, q_tIxR, q_tIn, q_mIx, q_mIxR, q_mIn, q_zpL, q_rvL, q_rvT, q_tgN, q_tgT, q_frS, q_asR, q_lsL, q_lsR, q_pN, q_pV, q_pI, q_pO, q_pG, q_pX, q_pB]
theorem c_law_name {ns : List Int} {k a : Nat} (hk : k ≤ 100) (ha : a < 8) (hv : 2 ≤ lv) : callL L G lv "_law_name" [.lst (ns.map D.int), .int k, .int a] h R Y = R (.str (st (nameF ns k a))) h := by
  obtain ⟨j, rfl⟩ : ∃ j, lv = j + 2 := ⟨lv - 2, by omega⟩
  rw [u_law_name]
  have q := drawF_pos (ns := ns) (k := 20 + k) (p := 10037) (m := 8 - a) (by omega)
  simp -implicitDefEqProofs only [b_law_name, c_law_draw (k := 1) (p := 10009) (m := 2) (by decide) (by decide) (by decide), c_law_draw (k := 20 + (k : Int)) (p := 10037) (m := 8 - (a : Int)) (by unfold B; omega) (by decide) (by omega), wS, up_up, exists_eq', Lt.hE, Lt.hA, Lt.hN, Lt.hS, wipeE, Nat.le_add_left, Nat.reduceLeDiff, Lt.wE, wA, wAn, wOr, optW_some, getE, setE, setsE, edOf, startE, new_frz, all_free, frz_non, frz_bl, frz_int, frz_str, frz_tup, frz_lst, wrL_up, rdL_up, era_up, gc_up, atI_0, atI_1, atI_2, List.map_cons, List.map_nil, List.length_cons, List.length_nil, List.length_map, List.replicate, List.cons_append, List.nil_append, List.append_nil, Nat.sub_self, decide_eq_true_eq, decide_eq_false_iff_not, Bool.not_eq_true', Bool.not_eq_true, Bool.not_true, Bool.not_false, not_true_eq_false, not_false_eq_true, if_true, if_false, ite_true, ite_false, true_and, and_true, eq_self, reduceIte, Bool.false_eq_true, gc_self, up_same, Option.some.injEq, reduceCtorEq, List.getElem?_map, Option.map_some, Option.map_none, Nat.zero_add, Nat.reduceAdd, Nat.reduceSub, q_addI, q_addS, q_addT, q_addL, q_addR, q_subI, q_mulI, q_mulR, q_mulL, q_mulT, q_divI, q_modI, q_powI, q_neg, q_lt, q_le, q_gt, q_ge, q_eqI, q_neI, q_eqB, q_eqS, q_eqN, q_eqT, q_eqL, q_eqR, q_neB, q_neS, q_neN, q_neT, q_neL, q_neR, q_in, q_notin, q_ixT, q_ixL, q_ixS, q_ixR, q_slT, q_slL, q_slR, q_slS, q_intW, q_blW, q_lenT, q_lenS, q_lenR, q_lenL, q_abs, q_min2, q_max2, q_sumR, q_sumL, q_sumT, q_anyR, q_anyL, q_allR, q_allL, q_listR, q_listL, q_listT, q_tupR, q_tupL, q_tupT, q_tAp, q_tEx, q_tPop, q_tRev, q_tCl, q_mAp, q_mEx, q_sqT, q_sqL, q_sqR, q_lrev, q_mPop, q_mRev, q_mCl, q_isN1, q_isN2, q_isN3, q_isN4, q_isN5, q_isN6, q_isN7, q_ty1, q_ty2, q_ty3, q_ty4, q_ty5, q_ty6, q_ty7, q_ty8, q_ty9, q_ty10, q_ty11, q_ty12, q_ty13, q_ty14, q_ty15, q_ty16, q_ty17, q_ty18, q_ty19, q_ty20, q_ty21, q_ty22, q_ty23, q_ty24, q_ty25, q_ty26, q_itR, q_itT, q_itL, q_rg1, q_rg2, q_rg3, q_enR, q_enL, q_zpR, q_enT, q_zpT, q_tIx, q_tIxR, q_tIn, q_mIx, q_mIxR, q_mIn, q_zpL, q_rvL, q_rvT, q_tgN, q_tgT, q_frS, q_asR, q_lsL, q_lsR, q_pN, q_pV, q_pI, q_pO, q_pG, q_pX, q_pB]
  unfold nameF sizeF
  split
  · rw [show ((a : Int) + 1 + drawF ns (20 + k) 10037 (8 - a)) = ((a + 1 + (drawF ns (20 + k) 10037 (8 - a)).toNat : Nat) : Int) by omega]
    exact p_law_name hk ha (by omega)
  · rw [show ((a : Int) + 1) = ((a + 1 + 0 : Nat) : Int) by omega]
    exact p_law_name hk ha (by omega)
theorem p_law_boxes {ns : List Int} {a c most : Nat} {p : Addr} (hp : h p = none) (ha : a < 8) (hc : c ≤ 9) (hm : 1 ≤ most) (hm2 : most ≤ 100000) (H : ∀ bs : List Box, Boxes bs most → bs.length = c → R (.tup (bs.map boxD)) h) :
    frL (.nm 6) (wS ⟨callL L G (j + 2), G.glob, G.ex⟩ b_law_boxes_2) ⟨fun ρ1 h1 => wS ⟨callL L G (j + 2), G.glob, G.ex⟩ b_law_boxes_1 (wipeE ρ1 [5, 6, 7, 8]) h1 (edOf true h R Y), fun d h1 => R d (gcH h h1), fun c h1 h2 => Y c (gcH h h2)⟩ ((List.range c).map fun i : Nat => .int (i : Int))
      [some (.lst (ns.map D.int)), some (.int c), some (.int most), some (.int a), some (.ref p), some (.int 1), none, none, none] (up h p (.lst [])) := by
  refine fr_go (σ := List Box) (fun s => [some (.lst (ns.map D.int)), some (.int c), some (.int most), some (.int a), some (.ref p), some (.int (prodB s)), none, none, none]) (fun s => up h p (.lst (s.map boxD))) (fun i : Nat => .int (i : Int))
    (fun as s => as = (List.range c).drop s.length ∧ s.length + as.length = c ∧ s.map (·.1) = (List.range s.length).map (nameK ns a) ∧ (∀ b ∈ s, 1 ≤ b.2 ∧ b.2 ≤ 9) ∧ 1 ≤ prodB s ∧ prodB s ≤ most) (fun s I => ?_) (fun i as s I W hW => ?_) (List.range c) [] ⟨by simp, by simp, by simp, by simp, by rw [prodB_nil]; decide, by rw [prodB_nil]; omega⟩
  · obtain ⟨-, i2, i3, i4, i5, i6⟩ := I
    have i2 : s.length = c := by simpa using i2
    simp -implicitDefEqProofs only [b_law_boxes_1, gc_up hp, wS, up_up, exists_eq', Lt.hE, Lt.hA, Lt.hN, Lt.hS, wipeE, Nat.le_add_left, Nat.reduceLeDiff, Lt.wE, wA, wAn, wOr, optW_some, getE, setE, setsE, edOf, startE, new_frz, all_free, frz_non, frz_bl, frz_int, frz_str, frz_tup, frz_lst, wrL_up, rdL_up, era_up, gc_up, atI_0, atI_1, atI_2, List.map_cons, List.map_nil, List.length_cons, List.length_nil, List.length_map, List.replicate, List.cons_append, List.nil_append, List.append_nil, Nat.sub_self, decide_eq_true_eq, decide_eq_false_iff_not, Bool.not_eq_true', Bool.not_eq_true, Bool.not_true, Bool.not_false, not_true_eq_false, not_false_eq_true, if_true, if_false, ite_true, ite_false, true_and, and_true, eq_self, reduceIte, Bool.false_eq_true, gc_self, up_same, Option.some.injEq, reduceCtorEq, List.getElem?_map, Option.map_some, Option.map_none, Nat.zero_add, Nat.reduceAdd, Nat.reduceSub, q_addI, q_addS, q_addT, q_addL, q_addR, q_subI, q_mulI, q_mulR, q_mulL, q_mulT, q_divI, q_modI, q_powI, q_neg, q_lt, q_le, q_gt, q_ge, q_eqI, q_neI, q_eqB, q_eqS, q_eqN, q_eqT, q_eqL, q_eqR, q_neB, q_neS, q_neN, q_neT, q_neL, q_neR, q_in, q_notin, q_ixT, q_ixL, q_ixS, q_ixR, q_slT, q_slL, q_slR, q_slS, q_intW, q_blW, q_lenT, q_lenS, q_lenR, q_lenL, q_abs, q_min2, q_max2, q_sumR, q_sumL, q_sumT, q_anyR, q_anyL, q_allR, q_allL, q_listR, q_listL, q_listT, q_tupR, q_tupL, q_tupT, q_tAp, q_tEx, q_tPop, q_tRev, q_tCl, q_mAp, q_mEx, q_sqT, q_sqL, q_sqR, q_lrev, q_mPop, q_mRev, q_mCl, q_isN1, q_isN2, q_isN3, q_isN4, q_isN5, q_isN6, q_isN7, q_ty1, q_ty2, q_ty3, q_ty4, q_ty5, q_ty6, q_ty7, q_ty8, q_ty9, q_ty10, q_ty11, q_ty12, q_ty13, q_ty14, q_ty15, q_ty16, q_ty17, q_ty18, q_ty19, q_ty20, q_ty21, q_ty22, q_ty23, q_ty24, q_ty25, q_ty26, q_itR, q_itT, q_itL, q_rg1, q_rg2, q_rg3, q_enR, q_enL, q_zpR, q_enT, q_zpT, q_tIx, q_tIxR, q_tIn, q_mIx, q_mIxR, q_mIn, q_zpL, q_rvL, q_rvT, q_tgN, q_tgT, q_frS, q_asR, q_lsL, q_lsR, q_pN, q_pV, q_pI, q_pO, q_pG, q_pX, q_pB]
    refine H s ⟨by omega, fun b hb => ?_, ?_, i4, i6⟩ i2
    · have : b.1 ∈ s.map (·.1) := List.mem_map_of_mem hb
      rw [i3] at this
      obtain ⟨k, _, e⟩ := List.mem_map.1 this
      rw [← e]
      exact ⟨nameK_len ha, nameK_letter⟩
    · rw [i3]
      exact nodup_range_map fun x y hx hy e => nameK_inj ha (by omega) (by omega) e
  · obtain ⟨i1, i2, i3, i4, i5, i6⟩ := I
    have il : i = s.length := by
      have := congrArg List.head? i1
      rw [List.head?_drop, List.head?_cons] at this
      by_cases z : s.length < c
      · rw [List.getElem?_range z] at this; cases this; rfl
      · rw [List.getElem?_eq_none (by simp; omega)] at this; cases this
    subst il
    simp only [List.length_cons] at i2
    have e9 : s.length < sizeLine := Nat.lt_of_lt_of_le (by omega : _ < 10) (by decide)
    have e2 : 2 ≤ sizeLine := by decide
    have q := drawF_pos (ns := ns) (k := 6 + (s.length : Int)) (p := 10091) (m := 9) (by decide)
    have key : ∀ z : Int, 1 ≤ z → z ≤ 9 → prodB s * z ≤ most → W [some (.lst (ns.map D.int)), some (.int c), some (.int most), some (.int a), some (.ref p), some (.int (prodB s * z)), none, none, none] (up h p (.lst (s.map boxD ++ [.tup [.str (st (nameK ns a s.length)), .int z]]))) := fun z h1 h2 h3 => by
      have e : prodB (s ++ [(nameK ns a s.length, z)]) = prodB s * z := prodB_snoc
      have := hW (s ++ [(nameK ns a s.length, z)]) ⟨?_, ?_, ?_, ?_, ?_, ?_⟩
      · rw [e] at this
        simpa using this
      · rw [List.length_append, ← List.drop_drop, ← i1]; rfl
      · simp only [List.length_append, List.length_cons, List.length_nil]; omega
      · rw [List.map_append, i3, List.length_append]; simp [List.range_succ]
      · intro b hb
        rcases List.mem_append.1 hb with y | y
        · exact i4 b y
        · simp at y; subst y; exact ⟨h1, h2⟩
      · rw [e]
        have := Int.mul_le_mul i5 h1 (by decide) (by omega)
        simpa using this
      · rw [e]; exact h3
    have bp : B 64 (prodB s) := by unfold B; omega
    have mo : ∀ x : Int, IntMulOk (prodB s) x := fun x => mulOk_l bp
    have e7 : ((s.length : Int) = 1) = (s.length = 1) := propext ⟨fun z => by omega, fun z => by omega⟩
    have rest : ∀ z : Int, (W [some (.lst (ns.map D.int)), some (.int c), some (.int most), some (.int a), some (.ref p), some (.int (prodB s * z)), none, none, none] (up h p (.lst (s.map boxD ++ [.tup [.str (st (nameK ns a s.length)), .int z]])))) → _ := fun z hz => hz
    simp -implicitDefEqProofs only [b_law_boxes_2, gt_iff_lt, c_law_draw (k := 6 + (s.length : Int)) (p := 10091) (m := 9) (by unfold B; omega) (by decide) (by decide), c_law_name (k := s.length) (a := a) (by omega) ha, c_law_draw (k := 9) (p := 10369) (m := 3) (by decide) (by decide) (by decide), mo, e2, e7, wS, up_up, exists_eq', Lt.hE, Lt.hA, Lt.hN, Lt.hS, wipeE, Nat.le_add_left, Nat.reduceLeDiff, Lt.wE, wA, wAn, wOr, optW_some, getE, setE, setsE, edOf, startE, new_frz, all_free, frz_non, frz_bl, frz_int, frz_str, frz_tup, frz_lst, wrL_up, rdL_up, era_up, gc_up, atI_0, atI_1, atI_2, List.map_cons, List.map_nil, List.length_cons, List.length_nil, List.length_map, List.replicate, List.cons_append, List.nil_append, List.append_nil, Nat.sub_self, decide_eq_true_eq, decide_eq_false_iff_not, Bool.not_eq_true', Bool.not_eq_true, Bool.not_true, Bool.not_false, not_true_eq_false, not_false_eq_true, if_true, if_false, ite_true, ite_false, true_and, and_true, eq_self, reduceIte, Bool.false_eq_true, gc_self, up_same, Option.some.injEq, reduceCtorEq, List.getElem?_map, Option.map_some, Option.map_none, Nat.zero_add, Nat.reduceAdd, Nat.reduceSub, q_addI, q_addS, q_addT, q_addL, q_addR, q_subI, q_mulI, q_mulR, q_mulL, q_mulT, q_divI, q_modI, q_powI, q_neg, q_lt, q_le, q_gt, q_ge, q_eqI, q_neI, q_eqB, q_eqS, q_eqN, q_eqT, q_eqL, q_eqR, q_neB, q_neS, q_neN, q_neT, q_neL, q_neR, q_in, q_notin, q_ixT, q_ixL, q_ixS, q_ixR, q_slT, q_slL, q_slR, q_slS, q_intW, q_blW, q_lenT, q_lenS, q_lenR, q_lenL, q_abs, q_min2, q_max2, q_sumR, q_sumL, q_sumT, q_anyR, q_anyL, q_allR, q_allL, q_listR, q_listL, q_listT, q_tupR, q_tupL, q_tupT, q_tAp, q_tEx, q_tPop, q_tRev, q_tCl, q_mAp, q_mEx, q_sqT, q_sqL, q_sqR, q_lrev, q_mPop, q_mRev, q_mCl, q_isN1, q_isN2, q_isN3, q_isN4, q_isN5, q_isN6, q_isN7, q_ty1, q_ty2, q_ty3, q_ty4, q_ty5, q_ty6, q_ty7, q_ty8, q_ty9, q_ty10, q_ty11, q_ty12, q_ty13, q_ty14, q_ty15, q_ty16, q_ty17, q_ty18, q_ty19, q_ty20, q_ty21, q_ty22, q_ty23, q_ty24, q_ty25, q_ty26, q_itR, q_itT, q_itL, q_rg1, q_rg2, q_rg3, q_enR, q_enL, q_zpR, q_enT, q_zpT, q_tIx, q_tIxR, q_tIn, q_mIx, q_mIxR, q_mIn, q_zpL, q_rvL, q_rvT, q_tgN, q_tgT, q_frS, q_asR, q_lsL, q_lsR, q_pN, q_pV, q_pI, q_pO, q_pG, q_pX, q_pB]
    by_cases c1 : s.length = 1 ∧ drawF ns 9 10369 3 = 0
    · obtain ⟨c1, c2⟩ := c1
      obtain ⟨⟨bn, bz⟩, rfl⟩ := List.length_eq_one_iff.1 c1
      have n0 : bn = nameF ns 0 a := by
        have z : nameK ns a 0 = nameF ns 0 a := by unfold nameK; rw [if_neg (fun y => absurd y.1 (by decide))]
        have y : [bn] = [nameK ns a 0] := i3
        rw [z] at y
        simpa using y
      subst n0
      have l0 := nameF_len (ns := ns) (k := 0) (a := a)
      have l1 := (sizeF_le (ns := ns) (k := 0) ha).2
      have f1 : (nameF ns 0 a).length ≤ sizeLine := Nat.le_trans (by omega : _ ≤ 8) (by decide)
      have f3 : (nameF ns 0 a).dropLast.length ≤ sizeLine := Nat.le_trans (by rw [List.length_dropLast]; omega : _ ≤ 8) (by decide)
      have f4 : Str.ofString "e" = st [101] := by decide +kernel
      have f5 : (((nameF ns 0 a).dropLast.length : Int) < 7) = ((nameF ns 0 a).length - 1 < 7) := by rw [List.length_dropLast]; exact propext ⟨fun z => by omega, fun z => by omega⟩
      have f7 : (nameF ns 0 a).length + 1 ≤ sizeLine := Nat.le_trans (by omega : _ ≤ 9) (by decide)
      have sl : 1 < sizeLine := by decide
      have nk : nameK ns a 1 = if (nameF ns 0 a).length - 1 < 7 then nameF ns 0 a ++ [101] else (nameF ns 0 a).dropLast := by unfold nameK; rw [if_pos ⟨rfl, c2⟩]
      simp only [List.length_cons, List.length_nil, Nat.zero_add, nk, List.map_cons, List.map_nil, List.cons_append, List.nil_append] at key q
      have k1 := key 1 (by decide) (by decide)
      have k2 := key _ (by omega : (1 : Int) ≤ 1 + drawF ns (6 + ((1 : Nat) : Int)) 10091 9) (by omega)
      simp -implicitDefEqProofs only [c2, List.length_cons, List.length_nil, Nat.zero_add, List.map_cons, List.map_nil, f1, f3, f4, f5, f7, st_len, st_app, st_cut, cut_last, exists_eq', boxD, sl, wS, up_up, exists_eq', Lt.hE, Lt.hA, Lt.hN, Lt.hS, wipeE, Nat.le_add_left, Nat.reduceLeDiff, Lt.wE, wA, wAn, wOr, optW_some, getE, setE, setsE, edOf, startE, new_frz, all_free, frz_non, frz_bl, frz_int, frz_str, frz_tup, frz_lst, wrL_up, rdL_up, era_up, gc_up, atI_0, atI_1, atI_2, List.map_cons, List.map_nil, List.length_cons, List.length_nil, List.length_map, List.replicate, List.cons_append, List.nil_append, List.append_nil, Nat.sub_self, decide_eq_true_eq, decide_eq_false_iff_not, Bool.not_eq_true', Bool.not_eq_true, Bool.not_true, Bool.not_false, not_true_eq_false, not_false_eq_true, if_true, if_false, ite_true, ite_false, true_and, and_true, eq_self, reduceIte, Bool.false_eq_true, gc_self, up_same, Option.some.injEq, reduceCtorEq, List.getElem?_map, Option.map_some, Option.map_none, Nat.zero_add, Nat.reduceAdd, Nat.reduceSub, q_addI, q_addS, q_addT, q_addL, q_addR, q_subI, q_mulI, q_mulR, q_mulL, q_mulT, q_divI, q_modI, q_powI, q_neg, q_lt, q_le, q_gt, q_ge, q_eqI, q_neI, q_eqB, q_eqS, q_eqN, q_eqT, q_eqL, q_eqR, q_neB, q_neS, q_neN, q_neT, q_neL, q_neR, q_in, q_notin, q_ixT, q_ixL, q_ixS, q_ixR, q_slT, q_slL, q_slR, q_slS, q_intW, q_blW, q_lenT, q_lenS, q_lenR, q_lenL, q_abs, q_min2, q_max2, q_sumR, q_sumL, q_sumT, q_anyR, q_anyL, q_allR, q_allL, q_listR, q_listL, q_listT, q_tupR, q_tupL, q_tupT, q_tAp, q_tEx, q_tPop, q_tRev, q_tCl, q_mAp, q_mEx, q_sqT, q_sqL, q_sqR, q_lrev, q_mPop, q_mRev, q_mCl, q_isN1, q_isN2, q_isN3, q_isN4, q_isN5, q_isN6, q_isN7, q_ty1, q_ty2, q_ty3, q_ty4, q_ty5, q_ty6, q_ty7, q_ty8, q_ty9, q_ty10, q_ty11, q_ty12, q_ty13, q_ty14, q_ty15, q_ty16, q_ty17, q_ty18, q_ty19, q_ty20, q_ty21, q_ty22, q_ty23, q_ty24, q_ty25, q_ty26, q_itR, q_itT, q_itL, q_rg1, q_rg2, q_rg3, q_enR, q_enL, q_zpR, q_enT, q_zpT, q_tIx, q_tIxR, q_tIn, q_mIx, q_mIxR, q_mIn, q_zpL, q_rvL, q_rvT, q_tgN, q_tgT, q_frS, q_asR, q_lsL, q_lsR, q_pN, q_pV, q_pI, q_pO, q_pG, q_pX, q_pB]
      split <;> split
      · rename_i z1 z2; have := k1 (by omega); rw [if_pos z2] at this; exact this
      · rename_i z1 z2; have := k1 (by omega); rw [if_neg z2] at this; exact this
      · rename_i z1 z2; have := k2 (by omega); rw [if_pos z2] at this; exact this
      · rename_i z1 z2; have := k2 (by omega); rw [if_neg z2] at this; exact this
    · have nk : nameK ns a s.length = nameF ns s.length a := by unfold nameK; rw [if_neg c1]
      rw [nk] at key
      have k1 := key 1 (by decide) (by decide)
      have k2 := key (1 + drawF ns (6 + (s.length : Int)) 10091 9) (by omega) (by omega)
      have sp : (if s.length = 1 then (if drawF ns 9 10369 3 = 0 then False else True) else True) := by
        split
        · rename_i y
          split
          · rename_i z; exact c1 ⟨y, z⟩
          · trivial
        · trivial
      by_cases c2 : s.length = 1
      · have c3 : ¬ drawF ns 9 10369 3 = 0 := fun z => c1 ⟨c2, z⟩
        simp -implicitDefEqProofs only [c3, c2, exists_eq', List.length_map, c2 ▸ e9, wS, up_up, exists_eq', Lt.hE, Lt.hA, Lt.hN, Lt.hS, wipeE, Nat.le_add_left, Nat.reduceLeDiff, Lt.wE, wA, wAn, wOr, optW_some, getE, setE, setsE, edOf, startE, new_frz, all_free, frz_non, frz_bl, frz_int, frz_str, frz_tup, frz_lst, wrL_up, rdL_up, era_up, gc_up, atI_0, atI_1, atI_2, List.map_cons, List.map_nil, List.length_cons, List.length_nil, List.length_map, List.replicate, List.cons_append, List.nil_append, List.append_nil, Nat.sub_self, decide_eq_true_eq, decide_eq_false_iff_not, Bool.not_eq_true', Bool.not_eq_true, Bool.not_true, Bool.not_false, not_true_eq_false, not_false_eq_true, if_true, if_false, ite_true, ite_false, true_and, and_true, eq_self, reduceIte, Bool.false_eq_true, gc_self, up_same, Option.some.injEq, reduceCtorEq, List.getElem?_map, Option.map_some, Option.map_none, Nat.zero_add, Nat.reduceAdd, Nat.reduceSub, q_addI, q_addS, q_addT, q_addL, q_addR, q_subI, q_mulI, q_mulR, q_mulL, q_mulT, q_divI, q_modI, q_powI, q_neg, q_lt, q_le, q_gt, q_ge, q_eqI, q_neI, q_eqB, q_eqS, q_eqN, q_eqT, q_eqL, q_eqR, q_neB, q_neS, q_neN, q_neT, q_neL, q_neR, q_in, q_notin, q_ixT, q_ixL, q_ixS, q_ixR, q_slT, q_slL, q_slR, q_slS, q_intW, q_blW, q_lenT, q_lenS, q_lenR, q_lenL, q_abs, q_min2, q_max2, q_sumR, q_sumL, q_sumT, q_anyR, q_anyL, q_allR, q_allL, q_listR, q_listL, q_listT, q_tupR, q_tupL, q_tupT, q_tAp, q_tEx, q_tPop, q_tRev, q_tCl, q_mAp, q_mEx, q_sqT, q_sqL, q_sqR, q_lrev, q_mPop, q_mRev, q_mCl, q_isN1, q_isN2, q_isN3, q_isN4, q_isN5, q_isN6, q_isN7, q_ty1, q_ty2, q_ty3, q_ty4, q_ty5, q_ty6, q_ty7, q_ty8, q_ty9, q_ty10, q_ty11, q_ty12, q_ty13, q_ty14, q_ty15, q_ty16, q_ty17, q_ty18, q_ty19, q_ty20, q_ty21, q_ty22, q_ty23, q_ty24, q_ty25, q_ty26, q_itR, q_itT, q_itL, q_rg1, q_rg2, q_rg3, q_enR, q_enL, q_zpR, q_enT, q_zpT, q_tIx, q_tIxR, q_tIn, q_mIx, q_mIxR, q_mIn, q_zpL, q_rvL, q_rvT, q_tgN, q_tgT, q_frS, q_asR, q_lsL, q_lsR, q_pN, q_pV, q_pI, q_pO, q_pG, q_pX, q_pB]
        simp only [c2] at k1 k2
        split
        · exact k1 (by omega)
        · rename_i z; exact k2 (by omega)
      · simp -implicitDefEqProofs only [c2, exists_eq', List.length_map, e9, wS, up_up, exists_eq', Lt.hE, Lt.hA, Lt.hN, Lt.hS, wipeE, Nat.le_add_left, Nat.reduceLeDiff, Lt.wE, wA, wAn, wOr, optW_some, getE, setE, setsE, edOf, startE, new_frz, all_free, frz_non, frz_bl, frz_int, frz_str, frz_tup, frz_lst, wrL_up, rdL_up, era_up, gc_up, atI_0, atI_1, atI_2, List.map_cons, List.map_nil, List.length_cons, List.length_nil, List.length_map, List.replicate, List.cons_append, List.nil_append, List.append_nil, Nat.sub_self, decide_eq_true_eq, decide_eq_false_iff_not, Bool.not_eq_true', Bool.not_eq_true, Bool.not_true, Bool.not_false, not_true_eq_false, not_false_eq_true, if_true, if_false, ite_true, ite_false, true_and, and_true, eq_self, reduceIte, Bool.false_eq_true, gc_self, up_same, Option.some.injEq, reduceCtorEq, List.getElem?_map, Option.map_some, Option.map_none, Nat.zero_add, Nat.reduceAdd, Nat.reduceSub, q_addI, q_addS, q_addT, q_addL, q_addR, q_subI, q_mulI, q_mulR, q_mulL, q_mulT, q_divI, q_modI, q_powI, q_neg, q_lt, q_le, q_gt, q_ge, q_eqI, q_neI, q_eqB, q_eqS, q_eqN, q_eqT, q_eqL, q_eqR, q_neB, q_neS, q_neN, q_neT, q_neL, q_neR, q_in, q_notin, q_ixT, q_ixL, q_ixS, q_ixR, q_slT, q_slL, q_slR, q_slS, q_intW, q_blW, q_lenT, q_lenS, q_lenR, q_lenL, q_abs, q_min2, q_max2, q_sumR, q_sumL, q_sumT, q_anyR, q_anyL, q_allR, q_allL, q_listR, q_listL, q_listT, q_tupR, q_tupL, q_tupT, q_tAp, q_tEx, q_tPop, q_tRev, q_tCl, q_mAp, q_mEx, q_sqT, q_sqL, q_sqR, q_lrev, q_mPop, q_mRev, q_mCl, q_isN1, q_isN2, q_isN3, q_isN4, q_isN5, q_isN6, q_isN7, q_ty1, q_ty2, q_ty3, q_ty4, q_ty5, q_ty6, q_ty7, q_ty8, q_ty9, q_ty10, q_ty11, q_ty12, q_ty13, q_ty14, q_ty15, q_ty16, q_ty17, q_ty18, q_ty19, q_ty20, q_ty21, q_ty22, q_ty23, q_ty24, q_ty25, q_ty26, q_itR, q_itT, q_itL, q_rg1, q_rg2, q_rg3, q_enR, q_enL, q_zpR, q_enT, q_zpT, q_tIx, q_tIxR, q_tIn, q_mIx, q_mIxR, q_mIn, q_zpL, q_rvL, q_rvT, q_tgN, q_tgT, q_frS, q_asR, q_lsL, q_lsR, q_pN, q_pV, q_pI, q_pO, q_pG, q_pX, q_pB]
        split
        · exact k1 (by omega)
        · rename_i z; exact k2 (by omega)
theorem c_law_boxes {ns : List Int} {c most : Nat} (hc : c ≤ 9) (hm : 1 ≤ most) (hm2 : most ≤ 100000) (H : ∀ bs : List Box, Boxes bs most → bs.length = c → R (.tup (bs.map boxD)) h) (hv : 3 ≤ lv) : callL L G lv "_law_boxes" [.lst (ns.map D.int), .int c, .int most] h R Y := by
  obtain ⟨j, rfl⟩ : ∃ j, lv = j + 3 := ⟨lv - 3, by omega⟩
  rw [u_law_boxes]
  have q := drawF_pos (ns := ns) (k := 5) (p := 10079) (m := 8) (by decide)
  obtain ⟨a, ea⟩ : ∃ a : Nat, drawF ns 5 10079 8 = a := ⟨(drawF ns 5 10079 8).toNat, by omega⟩
  have b1 : (-(2 ^ 62) ≤ (c : Int)) = True := eq_true (by omega)
  have b2 : ((c : Int) < 2 ^ 62) = True := eq_true (by omega)
  have b3 : Int.toNat (c : Int) = c := by omega
  have e0 : 0 ≤ sizeLine := by decide
  simp -implicitDefEqProofs only [b_law_boxes, c_law_draw (k := 5) (p := 10079) (m := 8) (by decide) (by decide) (by decide), ea, b1, b2, b3, e0, rngD_0, wS, up_up, exists_eq', Lt.hE, Lt.hA, Lt.hN, Lt.hS, wipeE, Nat.le_add_left, Nat.reduceLeDiff, Lt.wE, wA, wAn, wOr, optW_some, getE, setE, setsE, edOf, startE, new_frz, all_free, frz_non, frz_bl, frz_int, frz_str, frz_tup, frz_lst, wrL_up, rdL_up, era_up, gc_up, atI_0, atI_1, atI_2, List.map_cons, List.map_nil, List.length_cons, List.length_nil, List.length_map, List.replicate, List.cons_append, List.nil_append, List.append_nil, Nat.sub_self, decide_eq_true_eq, decide_eq_false_iff_not, Bool.not_eq_true', Bool.not_eq_true, Bool.not_true, Bool.not_false, not_true_eq_false, not_false_eq_true, if_true, if_false, ite_true, ite_false, true_and, and_true, eq_self, reduceIte, Bool.false_eq_true, gc_self, up_same, Option.some.injEq, reduceCtorEq, List.getElem?_map, Option.map_some, Option.map_none, Nat.zero_add, Nat.reduceAdd, Nat.reduceSub, q_addI, q_addS, q_addT, q_addL, q_addR, q_subI, q_mulI, q_mulR, q_mulL, q_mulT, q_divI, q_modI, q_powI, q_neg, q_lt, q_le, q_gt, q_ge, q_eqI, q_neI, q_eqB, q_eqS, q_eqN, q_eqT, q_eqL, q_eqR, q_neB, q_neS, q_neN, q_neT, q_neL, q_neR, q_in, q_notin, q_ixT, q_ixL, q_ixS, q_ixR, q_slT, q_slL, q_slR, q_slS, q_intW, q_blW, q_lenT, q_lenS, q_lenR, q_lenL, q_abs, q_min2, q_max2, q_sumR, q_sumL, q_sumT, q_anyR, q_anyL, q_allR, q_allL, q_listR, q_listL, q_listT, q_tupR, q_tupL, q_tupT, q_tAp, q_tEx, q_tPop, q_tRev, q_tCl, q_mAp, q_mEx, q_sqT, q_sqL, q_sqR, q_lrev, q_mPop, q_mRev, q_mCl, q_isN1, q_isN2, q_isN3, q_isN4, q_isN5, q_isN6, q_isN7, q_ty1, q_ty2, q_ty3, q_ty4, q_ty5, q_ty6, q_ty7, q_ty8, q_ty9, q_ty10, q_ty11, q_ty12, q_ty13, q_ty14, q_ty15, q_ty16, q_ty17, q_ty18, q_ty19, q_ty20, q_ty21, q_ty22, q_ty23, q_ty24, q_ty25, q_ty26, q_itR, q_itT, q_itL, q_rg1, q_rg2, q_rg3, q_enR, q_enL, q_zpR, q_enT, q_zpT, q_tIx, q_tIxR, q_tIn, q_mIx, q_mIxR, q_mIn, q_zpL, q_rvL, q_rvT, q_tgN, q_tgT, q_frS, q_asR, q_lsL, q_lsR, q_pN, q_pV, q_pI, q_pO, q_pG, q_pX, q_pB]
  exact fun p hp => p_law_boxes hp (by omega) hc hm hm2 H
theorem c_law_state {ns : List Int} {bs : List Box} {m : Int} {k : Nat} (hb : Boxes bs m) (hk : k ≤ 1000) (H : ∀ σ, StOk bs σ → R (stD σ) h) (hv : 2 ≤ lv) : callL L G lv "_law_state" [.lst (ns.map D.int), .int k, .tup (bs.map boxD)] h R Y := by
  obtain ⟨j, rfl⟩ : ∃ j, lv = j + 2 := ⟨lv - 2, by omega⟩
  rw [u_law_state]
  simp -implicitDefEqProofs only [b_law_state, enuD_map, wS, up_up, exists_eq', Lt.hE, Lt.hA, Lt.hN, Lt.hS, wipeE, Nat.le_add_left, Nat.reduceLeDiff, Lt.wE, wA, wAn, wOr, optW_some, getE, setE, setsE, edOf, startE, new_frz, all_free, frz_non, frz_bl, frz_int, frz_str, frz_tup, frz_lst, wrL_up, rdL_up, era_up, gc_up, atI_0, atI_1, atI_2, List.map_cons, List.map_nil, List.length_cons, List.length_nil, List.length_map, List.replicate, List.cons_append, List.nil_append, List.append_nil, Nat.sub_self, decide_eq_true_eq, decide_eq_false_iff_not, Bool.not_eq_true', Bool.not_eq_true, Bool.not_true, Bool.not_false, not_true_eq_false, not_false_eq_true, if_true, if_false, ite_true, ite_false, true_and, and_true, eq_self, reduceIte, Bool.false_eq_true, gc_self, up_same, Option.some.injEq, reduceCtorEq, List.getElem?_map, Option.map_some, Option.map_none, Nat.zero_add, Nat.reduceAdd, Nat.reduceSub, q_addI, q_addS, q_addT, q_addL, q_addR, q_subI, q_mulI, q_mulR, q_mulL, q_mulT, q_divI, q_modI, q_powI, q_neg, q_lt, q_le, q_gt, q_ge, q_eqI, q_neI, q_eqB, q_eqS, q_eqN, q_eqT, q_eqL, q_eqR, q_neB, q_neS, q_neN, q_neT, q_neL, q_neR, q_in, q_notin, q_ixT, q_ixL, q_ixS, q_ixR, q_slT, q_slL, q_slR, q_slS, q_intW, q_blW, q_lenT, q_lenS, q_lenR, q_lenL, q_abs, q_min2, q_max2, q_sumR, q_sumL, q_sumT, q_anyR, q_anyL, q_allR, q_allL, q_listR, q_listL, q_listT, q_tupR, q_tupL, q_tupT, q_tAp, q_tEx, q_tPop, q_tRev, q_tCl, q_mAp, q_mEx, q_sqT, q_sqL, q_sqR, q_lrev, q_mPop, q_mRev, q_mCl, q_isN1, q_isN2, q_isN3, q_isN4, q_isN5, q_isN6, q_isN7, q_ty1, q_ty2, q_ty3, q_ty4, q_ty5, q_ty6, q_ty7, q_ty8, q_ty9, q_ty10, q_ty11, q_ty12, q_ty13, q_ty14, q_ty15, q_ty16, q_ty17, q_ty18, q_ty19, q_ty20, q_ty21, q_ty22, q_ty23, q_ty24, q_ty25, q_ty26, q_itR, q_itT, q_itL, q_rg1, q_rg2, q_rg3, q_enR, q_enL, q_zpR, q_enT, q_zpT, q_tIx, q_tIxR, q_tIn, q_mIx, q_mIxR, q_mIn, q_zpL, q_rvL, q_rvT, q_tgN, q_tgT, q_frS, q_asR, q_lsL, q_lsR, q_pN, q_pV, q_pI, q_pO, q_pG, q_pX, q_pB]
  rw [lc_map (fun p : Box × Nat => .tup [.int p.2, boxD p.1]) (fun p => p.2 < 9 ∧ 1 ≤ p.1.2) (fun p => .int (drawF ns (k + p.2) 10141 p.1.2)) (fun p hp h' Y => ?_) _ (fun p hp => ?_) (by rw [List.length_zipIdx]; exact Nat.le_trans hb.n (by decide))]
  · simp -implicitDefEqProofs only [eq_self, wS, up_up, exists_eq', Lt.hE, Lt.hA, Lt.hN, Lt.hS, wipeE, Nat.le_add_left, Nat.reduceLeDiff, Lt.wE, wA, wAn, wOr, optW_some, getE, setE, setsE, edOf, startE, new_frz, all_free, frz_non, frz_bl, frz_int, frz_str, frz_tup, frz_lst, wrL_up, rdL_up, era_up, gc_up, atI_0, atI_1, atI_2, List.map_cons, List.map_nil, List.length_cons, List.length_nil, List.length_map, List.replicate, List.cons_append, List.nil_append, List.append_nil, Nat.sub_self, decide_eq_true_eq, decide_eq_false_iff_not, Bool.not_eq_true', Bool.not_eq_true, Bool.not_true, Bool.not_false, not_true_eq_false, not_false_eq_true, if_true, if_false, ite_true, ite_false, true_and, and_true, eq_self, reduceIte, Bool.false_eq_true, gc_self, up_same, Option.some.injEq, reduceCtorEq, List.getElem?_map, Option.map_some, Option.map_none, Nat.zero_add, Nat.reduceAdd, Nat.reduceSub, q_addI, q_addS, q_addT, q_addL, q_addR, q_subI, q_mulI, q_mulR, q_mulL, q_mulT, q_divI, q_modI, q_powI, q_neg, q_lt, q_le, q_gt, q_ge, q_eqI, q_neI, q_eqB, q_eqS, q_eqN, q_eqT, q_eqL, q_eqR, q_neB, q_neS, q_neN, q_neT, q_neL, q_neR, q_in, q_notin, q_ixT, q_ixL, q_ixS, q_ixR, q_slT, q_slL, q_slR, q_slS, q_intW, q_blW, q_lenT, q_lenS, q_lenR, q_lenL, q_abs, q_min2, q_max2, q_sumR, q_sumL, q_sumT, q_anyR, q_anyL, q_allR, q_allL, q_listR, q_listL, q_listT, q_tupR, q_tupL, q_tupT, q_tAp, q_tEx, q_tPop, q_tRev, q_tCl, q_mAp, q_mEx, q_sqT, q_sqL, q_sqR, q_lrev, q_mPop, q_mRev, q_mCl, q_isN1, q_isN2, q_isN3, q_isN4, q_isN5, q_isN6, q_isN7, q_ty1, q_ty2, q_ty3, q_ty4, q_ty5, q_ty6, q_ty7, q_ty8, q_ty9, q_ty10, q_ty11, q_ty12, q_ty13, q_ty14, q_ty15, q_ty16, q_ty17, q_ty18, q_ty19, q_ty20, q_ty21, q_ty22, q_ty23, q_ty24, q_ty25, q_ty26, q_itR, q_itT, q_itL, q_rg1, q_rg2, q_rg3, q_enR, q_enL, q_zpR, q_enT, q_zpT, q_tIx, q_tIxR, q_tIn, q_mIx, q_mIxR, q_mIn, q_zpL, q_rvL, q_rvT, q_tgN, q_tgT, q_frS, q_asR, q_lsL, q_lsR, q_pN, q_pV, q_pI, q_pO, q_pG, q_pX, q_pB]
    have e : (bs.zipIdx.map fun p => D.int (drawF ns (k + p.2) 10141 p.1.2)) = (bs.zipIdx.map fun p => drawF ns (k + p.2) 10141 p.1.2).map D.int := by rw [List.map_map]; rfl
    rw [e]
    refine H _ ⟨by simp, fun q hq => ?_⟩
    obtain ⟨i, hi, e2⟩ := List.getElem_of_mem hq
    simp only [List.length_zip, List.length_map, List.length_zipIdx] at hi
    have h1 : i < bs.length := by omega
    rw [← e2]
    simp only [List.getElem_zip, List.getElem_map, List.getElem_zipIdx]
    exact drawF_pos (by have := (hb.sz bs[i] (List.getElem_mem h1)).1; omega)
  · simp -implicitDefEqProofs only [b_law_state_1, c_law_draw (k := (k : Int) + (p.2 : Int)) (p := 10141) (m := p.1.2) (by have := hp.1; unfold B; omega) (by decide) (by have := hp.2; omega), wS, up_up, exists_eq', Lt.hE, Lt.hA, Lt.hN, Lt.hS, wipeE, Nat.le_add_left, Nat.reduceLeDiff, Lt.wE, wA, wAn, wOr, optW_some, getE, setE, setsE, edOf, startE, new_frz, all_free, frz_non, frz_bl, frz_int, frz_str, frz_tup, frz_lst, wrL_up, rdL_up, era_up, gc_up, atI_0, atI_1, atI_2, List.map_cons, List.map_nil, List.length_cons, List.length_nil, List.length_map, List.replicate, List.cons_append, List.nil_append, List.append_nil, Nat.sub_self, decide_eq_true_eq, decide_eq_false_iff_not, Bool.not_eq_true', Bool.not_eq_true, Bool.not_true, Bool.not_false, not_true_eq_false, not_false_eq_true, if_true, if_false, ite_true, ite_false, true_and, and_true, eq_self, reduceIte, Bool.false_eq_true, gc_self, up_same, Option.some.injEq, reduceCtorEq, List.getElem?_map, Option.map_some, Option.map_none, Nat.zero_add, Nat.reduceAdd, Nat.reduceSub, q_addI, q_addS, q_addT, q_addL, q_addR, q_subI, q_mulI, q_mulR, q_mulL, q_mulT, q_divI, q_modI, q_powI, q_neg, q_lt, q_le, q_gt, q_ge, q_eqI, q_neI, q_eqB, q_eqS, q_eqN, q_eqT, q_eqL, q_eqR, q_neB, q_neS, q_neN, q_neT, q_neL, q_neR, q_in, q_notin, q_ixT, q_ixL, q_ixS, q_ixR, q_slT, q_slL, q_slR, q_slS, q_intW, q_blW, q_lenT, q_lenS, q_lenR, q_lenL, q_abs, q_min2, q_max2, q_sumR, q_sumL, q_sumT, q_anyR, q_anyL, q_allR, q_allL, q_listR, q_listL, q_listT, q_tupR, q_tupL, q_tupT, q_tAp, q_tEx, q_tPop, q_tRev, q_tCl, q_mAp, q_mEx, q_sqT, q_sqL, q_sqR, q_lrev, q_mPop, q_mRev, q_mCl, q_isN1, q_isN2, q_isN3, q_isN4, q_isN5, q_isN6, q_isN7, q_ty1, q_ty2, q_ty3, q_ty4, q_ty5, q_ty6, q_ty7, q_ty8, q_ty9, q_ty10, q_ty11, q_ty12, q_ty13, q_ty14, q_ty15, q_ty16, q_ty17, q_ty18, q_ty19, q_ty20, q_ty21, q_ty22, q_ty23, q_ty24, q_ty25, q_ty26, q_itR, q_itT, q_itL, q_rg1, q_rg2, q_rg3, q_enR, q_enL, q_zpR, q_enT, q_zpT, q_tIx, q_tIxR, q_tIn, q_mIx, q_mIxR, q_mIn, q_zpL, q_rvL, q_rvT, q_tgN, q_tgT, q_frS, q_asR, q_lsL, q_lsR, q_pN, q_pV, q_pI, q_pO, q_pG, q_pX, q_pB]
  · have h1 := List.snd_lt_of_mem_zipIdx hp
    have h2 := List.fst_mem_of_mem_zipIdx hp
    exact ⟨by have := hb.n; omega, (hb.sz _ h2).1⟩
theorem c_law_number {ns : List Int} {k : Nat} (hk : k ≤ 1000) (H : ∀ i, B 201 i → R (.int i) h) (hv : 2 ≤ lv) : callL L G lv "_law_number" [.lst (ns.map D.int), .int k] h R Y := by
  obtain ⟨j, rfl⟩ : ∃ j, lv = j + 2 := ⟨lv - 2, by omega⟩
  rw [u_law_number]
  have w1 : CPow 10 60 := ⟨by decide, by decide, by decide⟩
  have i1 : Int.toNat 60 = 60 := rfl
  have m2 : ∀ x, IntMulOk 2 x := fun x => mulOk_l (by decide)
  have f1 : ∀ x : Int, x.fmod (2 * 10 ^ 60 - 1) = x % (2 * 10 ^ 60 - 1) := fun x => fmod_pos (by decide)
  have f5 : ∀ x : Int, x.fmod 41 = x % 41 := fun x => fmod_pos (by decide)
  have n1 : ¬ (2 * (10 : Int) ^ 60 - 1 = 0) := by decide
  have n5 : ¬ ((41 : Int) = 0) := by decide
  have bk : B 32 (k : Int) := by unfold B; omega
  have q := drawF_pos (ns := ns) (k := k) (p := 10111) (m := 9) (by decide)
  have h1 : ∀ x : Int, R (.int (x % (2 * 10 ^ 60 - 1) - 10 ^ 60 + 1)) h := fun x => H _ (by
    have := Int.emod_nonneg x (b := 2 * 10 ^ 60 - 1) (by decide)
    have := Int.emod_lt_of_pos x (b := 2 * 10 ^ 60 - 1) (by decide)
    unfold B; omega)
  have h2 : ∀ x : Int, R (.int (x % 41 - 20)) h := fun x => H _ (by unfold B; omega)
  have h3 := H (drawF ns k 10111 9) (by unfold B; omega)
  by_cases e : 0 < ns.length
  · have e1 : (0 : Int) < ns.length := by omega
    have e6 : ¬ (ns.length : Int) = 0 := by omega
    simp -implicitDefEqProofs only [b_law_number, gt_iff_lt, e1, e6, atI_map, idx e, w1, i1, m2, f1, f5, n1, n5, ne_eq, not_false_eq_true, c_law_draw (k := (k : Int)) (p := 10103) (m := 4) bk (by decide) (by decide), c_law_draw (k := (k : Int)) (p := 10111) (m := 9) bk (by decide) (by decide), wS, up_up, exists_eq', Lt.hE, Lt.hA, Lt.hN, Lt.hS, wipeE, Nat.le_add_left, Nat.reduceLeDiff, Lt.wE, wA, wAn, wOr, optW_some, getE, setE, setsE, edOf, startE, new_frz, all_free, frz_non, frz_bl, frz_int, frz_str, frz_tup, frz_lst, wrL_up, rdL_up, era_up, gc_up, atI_0, atI_1, atI_2, List.map_cons, List.map_nil, List.length_cons, List.length_nil, List.length_map, List.replicate, List.cons_append, List.nil_append, List.append_nil, Nat.sub_self, decide_eq_true_eq, decide_eq_false_iff_not, Bool.not_eq_true', Bool.not_eq_true, Bool.not_true, Bool.not_false, not_true_eq_false, not_false_eq_true, if_true, if_false, ite_true, ite_false, true_and, and_true, eq_self, reduceIte, Bool.false_eq_true, gc_self, up_same, Option.some.injEq, reduceCtorEq, List.getElem?_map, Option.map_some, Option.map_none, Nat.zero_add, Nat.reduceAdd, Nat.reduceSub, q_addI, q_addS, q_addT, q_addL, q_addR, q_subI, q_mulI, q_mulR, q_mulL, q_mulT, q_divI, q_modI, q_powI, q_neg, q_lt, q_le, q_gt, q_ge, q_eqI, q_neI, q_eqB, q_eqS, q_eqN, q_eqT, q_eqL, q_eqR, q_neB, q_neS, q_neN, q_neT, q_neL, q_neR, q_in, q_notin, q_ixT, q_ixL, q_ixS, q_ixR, q_slT, q_slL, q_slR, q_slS, q_intW, q_blW, q_lenT, q_lenS, q_lenR, q_lenL, q_abs, q_min2, q_max2, q_sumR, q_sumL, q_sumT, q_anyR, q_anyL, q_allR, q_allL, q_listR, q_listL, q_listT, q_tupR, q_tupL, q_tupT, q_tAp, q_tEx, q_tPop, q_tRev, q_tCl, q_mAp, q_mEx, q_sqT, q_sqL, q_sqR, q_lrev, q_mPop, q_mRev, q_mCl, q_isN1, q_isN2, q_isN3, q_isN4, q_isN5, q_isN6, q_isN7, q_ty1, q_ty2, q_ty3, q_ty4, q_ty5, q_ty6, q_ty7, q_ty8, q_ty9, q_ty10, q_ty11, q_ty12, q_ty13, q_ty14, q_ty15, q_ty16, q_ty17, q_ty18, q_ty19, q_ty20, q_ty21, q_ty22, q_ty23, q_ty24, q_ty25, q_ty26, q_itR, q_itT, q_itL, q_rg1, q_rg2, q_rg3, q_enR, q_enL, q_zpR, q_enT, q_zpT, q_tIx, q_tIxR, q_tIn, q_mIx, q_mIxR, q_mIn, q_zpL, q_rvL, q_rvT, q_tgN, q_tgT, q_frS, q_asR, q_lsL, q_lsR, q_pN, q_pV, q_pI, q_pO, q_pG, q_pX, q_pB]
    split
    · exact h1 _
    · split
      · exact h2 _
      · exact h3
  · have e1 : ¬ (0 : Int) < ns.length := by omega
    simp -implicitDefEqProofs only [b_law_number, gt_iff_lt, e1, w1, i1, m2, f1, f5, n1, n5, ne_eq, not_false_eq_true, c_law_draw (k := (k : Int)) (p := 10103) (m := 4) bk (by decide) (by decide), c_law_draw (k := (k : Int)) (p := 10111) (m := 9) bk (by decide) (by decide), wS, up_up, exists_eq', Lt.hE, Lt.hA, Lt.hN, Lt.hS, wipeE, Nat.le_add_left, Nat.reduceLeDiff, Lt.wE, wA, wAn, wOr, optW_some, getE, setE, setsE, edOf, startE, new_frz, all_free, frz_non, frz_bl, frz_int, frz_str, frz_tup, frz_lst, wrL_up, rdL_up, era_up, gc_up, atI_0, atI_1, atI_2, List.map_cons, List.map_nil, List.length_cons, List.length_nil, List.length_map, List.replicate, List.cons_append, List.nil_append, List.append_nil, Nat.sub_self, decide_eq_true_eq, decide_eq_false_iff_not, Bool.not_eq_true', Bool.not_eq_true, Bool.not_true, Bool.not_false, not_true_eq_false, not_false_eq_true, if_true, if_false, ite_true, ite_false, true_and, and_true, eq_self, reduceIte, Bool.false_eq_true, gc_self, up_same, Option.some.injEq, reduceCtorEq, List.getElem?_map, Option.map_some, Option.map_none, Nat.zero_add, Nat.reduceAdd, Nat.reduceSub, q_addI, q_addS, q_addT, q_addL, q_addR, q_subI, q_mulI, q_mulR, q_mulL, q_mulT, q_divI, q_modI, q_powI, q_neg, q_lt, q_le, q_gt, q_ge, q_eqI, q_neI, q_eqB, q_eqS, q_eqN, q_eqT, q_eqL, q_eqR, q_neB, q_neS, q_neN, q_neT, q_neL, q_neR, q_in, q_notin, q_ixT, q_ixL, q_ixS, q_ixR, q_slT, q_slL, q_slR, q_slS, q_intW, q_blW, q_lenT, q_lenS, q_lenR, q_lenL, q_abs, q_min2, q_max2, q_sumR, q_sumL, q_sumT, q_anyR, q_anyL, q_allR, q_allL, q_listR, q_listL, q_listT, q_tupR, q_tupL, q_tupT, q_tAp, q_tEx, q_tPop, q_tRev, q_tCl, q_mAp, q_mEx, q_sqT, q_sqL, q_sqR, q_lrev, q_mPop, q_mRev, q_mCl, q_isN1, q_isN2, q_isN3, q_isN4, q_isN5, q_isN6, q_isN7, q_ty1, q_ty2, q_ty3, q_ty4, q_ty5, q_ty6, q_ty7, q_ty8, q_ty9, q_ty10, q_ty11, q_ty12, q_ty13, q_ty14, q_ty15, q_ty16, q_ty17, q_ty18, q_ty19, q_ty20, q_ty21, q_ty22, q_ty23, q_ty24, q_ty25, q_ty26, q_itR, q_itT, q_itL, q_rg1, q_rg2, q_rg3, q_enR, q_enL, q_zpR, q_enT, q_zpT, q_tIx, q_tIxR, q_tIn, q_mIx, q_mIxR, q_mIn, q_zpL, q_rvL, q_rvT, q_tgN, q_tgT, q_frS, q_asR, q_lsL, q_lsR, q_pN, q_pV, q_pI, q_pO, q_pG, q_pX, q_pB]
    split
    · exact h1 0
    · split
      · exact h2 0
      · exact h3
theorem c_place_of {bs : List Box} {l : List Nat} {i : Nat} (hb : bs.length ≤ 9) (hi : bs.findIdx? (fun b => decide (b.1 = l)) = some i) (hv : 1 ≤ lv) : callL L G lv "place_of" [.tup (bs.map boxD), .str (st l)] h R Y = R (.int i) h := by
  obtain ⟨j, rfl⟩ : ∃ j, lv = j + 1 := ⟨lv - 1, by omega⟩
  rw [u_place_of]
  simp -implicitDefEqProofs only [b_place_of, wS, up_up, exists_eq', Lt.hE, Lt.hA, Lt.hN, Lt.hS, wipeE, Nat.le_add_left, Nat.reduceLeDiff, Lt.wE, wA, wAn, wOr, optW_some, getE, setE, setsE, edOf, startE, new_frz, all_free, frz_non, frz_bl, frz_int, frz_str, frz_tup, frz_lst, wrL_up, rdL_up, era_up, gc_up, atI_0, atI_1, atI_2, List.map_cons, List.map_nil, List.length_cons, List.length_nil, List.length_map, List.replicate, List.cons_append, List.nil_append, List.append_nil, Nat.sub_self, decide_eq_true_eq, decide_eq_false_iff_not, Bool.not_eq_true', Bool.not_eq_true, Bool.not_true, Bool.not_false, not_true_eq_false, not_false_eq_true, if_true, if_false, ite_true, ite_false, true_and, and_true, eq_self, reduceIte, Bool.false_eq_true, gc_self, up_same, Option.some.injEq, reduceCtorEq, List.getElem?_map, Option.map_some, Option.map_none, Nat.zero_add, Nat.reduceAdd, Nat.reduceSub, q_addI, q_addS, q_addT, q_addL, q_addR, q_subI, q_mulI, q_mulR, q_mulL, q_mulT, q_divI, q_modI, q_powI, q_neg, q_lt, q_le, q_gt, q_ge, q_eqI, q_neI, q_eqB, q_eqS, q_eqN, q_eqT, q_eqL, q_eqR, q_neB, q_neS, q_neN, q_neT, q_neL, q_neR, q_in, q_notin, q_ixT, q_ixL, q_ixS, q_ixR, q_slT, q_slL, q_slR, q_slS, q_intW, q_blW, q_lenT, q_lenS, q_lenR, q_lenL, q_abs, q_min2, q_max2, q_sumR, q_sumL, q_sumT, q_anyR, q_anyL, q_allR, q_allL, q_listR, q_listL, q_listT, q_tupR, q_tupL, q_tupT, q_tAp, q_tEx, q_tPop, q_tRev, q_tCl, q_mAp, q_mEx, q_sqT, q_sqL, q_sqR, q_lrev, q_mPop, q_mRev, q_mCl, q_isN1, q_isN2, q_isN3, q_isN4, q_isN5, q_isN6, q_isN7, q_ty1, q_ty2, q_ty3, q_ty4, q_ty5, q_ty6, q_ty7, q_ty8, q_ty9, q_ty10, q_ty11, q_ty12, q_ty13, q_ty14, q_ty15, q_ty16, q_ty17, q_ty18, q_ty19, q_ty20, q_ty21, q_ty22, q_ty23, q_ty24, q_ty25, q_ty26, q_itR, q_itT, q_itL, q_rg1, q_rg2, q_rg3, q_enR, q_enL, q_zpR, q_enT, q_zpT, q_tIx, q_tIxR, q_tIn, q_mIx, q_mIxR, q_mIn, q_zpL, q_rvL, q_rvT, q_tgN, q_tgT, q_frS, q_asR, q_lsL, q_lsR, q_pN, q_pV, q_pI, q_pO, q_pG, q_pX, q_pB]
  rw [lc_map boxD (fun _ => True) (fun b => .str (st b.1)) (fun b _ h' Y => ?_) bs (fun _ _ => trivial) (Nat.le_trans hb (by decide))]
  · refine all_eq fun p hp => ?_
    have f1 : flatD (.str (st l)) = true := rfl
    simp -implicitDefEqProofs only [gc_up hp, idx_names, flat_names, hi, f1, wS, up_up, exists_eq', Lt.hE, Lt.hA, Lt.hN, Lt.hS, wipeE, Nat.le_add_left, Nat.reduceLeDiff, Lt.wE, wA, wAn, wOr, optW_some, getE, setE, setsE, edOf, startE, new_frz, all_free, frz_non, frz_bl, frz_int, frz_str, frz_tup, frz_lst, wrL_up, rdL_up, era_up, gc_up, atI_0, atI_1, atI_2, List.map_cons, List.map_nil, List.length_cons, List.length_nil, List.length_map, List.replicate, List.cons_append, List.nil_append, List.append_nil, Nat.sub_self, decide_eq_true_eq, decide_eq_false_iff_not, Bool.not_eq_true', Bool.not_eq_true, Bool.not_true, Bool.not_false, not_true_eq_false, not_false_eq_true, if_true, if_false, ite_true, ite_false, true_and, and_true, eq_self, reduceIte, Bool.false_eq_true, gc_self, up_same, Option.some.injEq, reduceCtorEq, List.getElem?_map, Option.map_some, Option.map_none, Nat.zero_add, Nat.reduceAdd, Nat.reduceSub, q_addI, q_addS, q_addT, q_addL, q_addR, q_subI, q_mulI, q_mulR, q_mulL, q_mulT, q_divI, q_modI, q_powI, q_neg, q_lt, q_le, q_gt, q_ge, q_eqI, q_neI, q_eqB, q_eqS, q_eqN, q_eqT, q_eqL, q_eqR, q_neB, q_neS, q_neN, q_neT, q_neL, q_neR, q_in, q_notin, q_ixT, q_ixL, q_ixS, q_ixR, q_slT, q_slL, q_slR, q_slS, q_intW, q_blW, q_lenT, q_lenS, q_lenR, q_lenL, q_abs, q_min2, q_max2, q_sumR, q_sumL, q_sumT, q_anyR, q_anyL, q_allR, q_allL, q_listR, q_listL, q_listT, q_tupR, q_tupL, q_tupT, q_tAp, q_tEx, q_tPop, q_tRev, q_tCl, q_mAp, q_mEx, q_sqT, q_sqL, q_sqR, q_lrev, q_mPop, q_mRev, q_mCl, q_isN1, q_isN2, q_isN3, q_isN4, q_isN5, q_isN6, q_isN7, q_ty1, q_ty2, q_ty3, q_ty4, q_ty5, q_ty6, q_ty7, q_ty8, q_ty9, q_ty10, q_ty11, q_ty12, q_ty13, q_ty14, q_ty15, q_ty16, q_ty17, q_ty18, q_ty19, q_ty20, q_ty21, q_ty22, q_ty23, q_ty24, q_ty25, q_ty26, q_itR, q_itT, q_itL, q_rg1, q_rg2, q_rg3, q_enR, q_enL, q_zpR, q_enT, q_zpT, q_tIx, q_tIxR, q_tIn, q_mIx, q_mIxR, q_mIn, q_zpL, q_rvL, q_rvT, q_tgN, q_tgT, q_frS, q_asR, q_lsL, q_lsR, q_pN, q_pV, q_pI, q_pO, q_pG, q_pX, q_pB]
  · simp -implicitDefEqProofs only [b_place_of_1, wS, up_up, exists_eq', Lt.hE, Lt.hA, Lt.hN, Lt.hS, wipeE, Nat.le_add_left, Nat.reduceLeDiff, Lt.wE, wA, wAn, wOr, optW_some, getE, setE, setsE, edOf, startE, new_frz, all_free, frz_non, frz_bl, frz_int, frz_str, frz_tup, frz_lst, wrL_up, rdL_up, era_up, gc_up, atI_0, atI_1, atI_2, List.map_cons, List.map_nil, List.length_cons, List.length_nil, List.length_map, List.replicate, List.cons_append, List.nil_append, List.append_nil, Nat.sub_self, decide_eq_true_eq, decide_eq_false_iff_not, Bool.not_eq_true', Bool.not_eq_true, Bool.not_true, Bool.not_false, not_true_eq_false, not_false_eq_true, if_true, if_false, ite_true, ite_false, true_and, and_true, eq_self, reduceIte, Bool.false_eq_true, gc_self, up_same, Option.some.injEq, reduceCtorEq, List.getElem?_map, Option.map_some, Option.map_none, Nat.zero_add, Nat.reduceAdd, Nat.reduceSub, q_addI, q_addS, q_addT, q_addL, q_addR, q_subI, q_mulI, q_mulR, q_mulL, q_mulT, q_divI, q_modI, q_powI, q_neg, q_lt, q_le, q_gt, q_ge, q_eqI, q_neI, q_eqB, q_eqS, q_eqN, q_eqT, q_eqL, q_eqR, q_neB, q_neS, q_neN, q_neT, q_neL, q_neR, q_in, q_notin, q_ixT, q_ixL, q_ixS, q_ixR, q_slT, q_slL, q_slR, q_slS, q_intW, q_blW, q_lenT, q_lenS, q_lenR, q_lenL, q_abs, q_min2, q_max2, q_sumR, q_sumL, q_sumT, q_anyR, q_anyL, q_allR, q_allL, q_listR, q_listL, q_listT, q_tupR, q_tupL, q_tupT, q_tAp, q_tEx, q_tPop, q_tRev, q_tCl, q_mAp, q_mEx, q_sqT, q_sqL, q_sqR, q_lrev, q_mPop, q_mRev, q_mCl, q_isN1, q_isN2, q_isN3, q_isN4, q_isN5, q_isN6, q_isN7, q_ty1, q_ty2, q_ty3, q_ty4, q_ty5, q_ty6, q_ty7, q_ty8, q_ty9, q_ty10, q_ty11, q_ty12, q_ty13, q_ty14, q_ty15, q_ty16, q_ty17, q_ty18, q_ty19, q_ty20, q_ty21, q_ty22, q_ty23, q_ty24, q_ty25, q_ty26, q_itR, q_itT, q_itL, q_rg1, q_rg2, q_rg3, q_enR, q_enL, q_zpR, q_enT, q_zpT, q_tIx, q_tIxR, q_tIn, q_mIx, q_mIxR, q_mIn, q_zpL, q_rvL, q_rvT, q_tgN, q_tgT, q_frS, q_asR, q_lsL, q_lsR, q_pN, q_pV, q_pI, q_pO, q_pG, q_pX, q_pB]
/-- a state with another number at a place -/
theorem c_put_into {bs : List Box} {σ : List Int} {l : List Nat} {i : Nat} {v z : Int} (hb : bs.length ≤ 9) (hs : bs.length = σ.length) (hi : bs.findIdx? (fun b => decide (b.1 = l)) = some i) (hz : (bs[i]?).map (·.2) = some z) (h1 : 1 ≤ z) (hv : 2 ≤ lv) :
    callL L G lv "put_into" [.tup (bs.map boxD), stD σ, .str (st l), .int v] h R Y = R (stD (σ.take i ++ [v % z] ++ σ.drop (i + 1))) h := by
  obtain ⟨j, rfl⟩ : ∃ j, lv = j + 2 := ⟨lv - 2, by omega⟩
  obtain ⟨b, e1, rfl⟩ := Option.map_eq_some_iff.1 hz
  have a1 : atI (bs.map boxD) (i : Int) = some (boxD b) := by rw [atI_N, List.getElem?_map, e1]; rfl
  have c1 : cutD (σ.map D.int) none (some (i : Int)) = (σ.take i).map D.int := by rw [cutD_map, cut_to]
  have c2 : cutD (σ.map D.int) (some ((i : Int) + 1)) none = (σ.drop (i + 1)).map D.int := by rw [cutD_map, show ((i : Int) + 1) = ((i + 1 : Nat) : Int) by omega, cut_from]
  have nz : ¬ b.2 = 0 := by omega
  have fm : v.fmod b.2 = v % b.2 := fmod_pos (by omega)
  have z1 : (σ.take i).length + 1 ≤ sizeLine := Nat.le_trans (by rw [List.length_take]; omega : _ ≤ 20) (by decide)
  have z2 : (σ.take i).length + 1 + (σ.drop (i + 1)).length ≤ sizeLine := Nat.le_trans (by rw [List.length_take, List.length_drop]; omega : _ ≤ 40) (by decide)
  have s1 : 1 ≤ sizeLine := by decide
  have e2 : stD (σ.take i ++ [v % b.2] ++ σ.drop (i + 1)) = .tup ((σ.take i).map D.int ++ [.int (v % b.2)] ++ (σ.drop (i + 1)).map D.int) := by simp [stD]
  rw [u_put_into, e2]
  simp -implicitDefEqProofs only [b_put_into, s1, c_place_of hb hi, a1, c1, c2, nz, fm, List.length_append, z1, z2, ne_eq, not_false_eq_true, wS, up_up, exists_eq', Lt.hE, Lt.hA, Lt.hN, Lt.hS, wipeE, Nat.le_add_left, Nat.reduceLeDiff, Lt.wE, wA, wAn, wOr, optW_some, getE, setE, setsE, edOf, startE, new_frz, all_free, frz_non, frz_bl, frz_int, frz_str, frz_tup, frz_lst, wrL_up, rdL_up, era_up, gc_up, atI_0, atI_1, atI_2, List.map_cons, List.map_nil, List.length_cons, List.length_nil, List.length_map, List.replicate, List.cons_append, List.nil_append, List.append_nil, Nat.sub_self, decide_eq_true_eq, decide_eq_false_iff_not, Bool.not_eq_true', Bool.not_eq_true, Bool.not_true, Bool.not_false, not_true_eq_false, not_false_eq_true, if_true, if_false, ite_true, ite_false, true_and, and_true, eq_self, reduceIte, Bool.false_eq_true, gc_self, up_same, Option.some.injEq, reduceCtorEq, List.getElem?_map, Option.map_some, Option.map_none, Nat.zero_add, Nat.reduceAdd, Nat.reduceSub, q_addI, q_addS, q_addT, q_addL, q_addR, q_subI, q_mulI, q_mulR, q_mulL, q_mulT, q_divI, q_modI, q_powI, q_neg, q_lt, q_le, q_gt, q_ge, q_eqI, q_neI, q_eqB, q_eqS, q_eqN, q_eqT, q_eqL, q_eqR, q_neB, q_neS, q_neN, q_neT, q_neL, q_neR, q_in, q_notin, q_ixT, q_ixL, q_ixS, q_ixR, q_slT, q_slL, q_slR, q_slS, q_intW, q_blW, q_lenT, q_lenS, q_lenR, q_lenL, q_abs, q_min2, q_max2, q_sumR, q_sumL, q_sumT, q_anyR, q_anyL, q_allR, q_allL, q_listR, q_listL, q_listT, q_tupR, q_tupL, q_tupT, q_tAp, q_tEx, q_tPop, q_tRev, q_tCl, q_mAp, q_mEx, q_sqT, q_sqL, q_sqR, q_lrev, q_mPop, q_mRev, q_mCl, q_isN1, q_isN2, q_isN3, q_isN4, q_isN5, q_isN6, q_isN7, q_ty1, q_ty2, q_ty3, q_ty4, q_ty5, q_ty6, q_ty7, q_ty8, q_ty9, q_ty10, q_ty11, q_ty12, q_ty13, q_ty14, q_ty15, q_ty16, q_ty17, q_ty18, q_ty19, q_ty20, q_ty21, q_ty22, q_ty23, q_ty24, q_ty25, q_ty26, q_itR, q_itT, q_itL, q_rg1, q_rg2, q_rg3, q_enR, q_enL, q_zpR, q_enT, q_zpT, q_tIx, q_tIxR, q_tIn, q_mIx, q_mIxR, q_mIn, q_zpL, q_rvL, q_rvT, q_tgN, q_tgT, q_frS, q_asR, q_lsL, q_lsR, q_pN, q_pV, q_pI, q_pO, q_pG, q_pX, q_pB]
theorem c_law_put13 {σ : List Int} {i : Nat} {v : Int} (h9 : σ.length ≤ 9) (hv : 1 ≤ lv) : callL L G lv "_law_put" [stD σ, .int (i : Int), .int v] h R Y = R (stD (σ.set i v)) h := by
  obtain ⟨j, rfl⟩ : ∃ j, lv = j + 1 := ⟨lv - 1, by omega⟩
  rw [u_law_put]
  simp -implicitDefEqProofs only [b_law_put, enuD_map, wS, up_up, exists_eq', Lt.hE, Lt.hA, Lt.hN, Lt.hS, wipeE, Nat.le_add_left, Nat.reduceLeDiff, Lt.wE, wA, wAn, wOr, optW_some, getE, setE, setsE, edOf, startE, new_frz, all_free, frz_non, frz_bl, frz_int, frz_str, frz_tup, frz_lst, wrL_up, rdL_up, era_up, gc_up, atI_0, atI_1, atI_2, List.map_cons, List.map_nil, List.length_cons, List.length_nil, List.length_map, List.replicate, List.cons_append, List.nil_append, List.append_nil, Nat.sub_self, decide_eq_true_eq, decide_eq_false_iff_not, Bool.not_eq_true', Bool.not_eq_true, Bool.not_true, Bool.not_false, not_true_eq_false, not_false_eq_true, if_true, if_false, ite_true, ite_false, true_and, and_true, eq_self, reduceIte, Bool.false_eq_true, gc_self, up_same, Option.some.injEq, reduceCtorEq, List.getElem?_map, Option.map_some, Option.map_none, Nat.zero_add, Nat.reduceAdd, Nat.reduceSub, q_addI, q_addS, q_addT, q_addL, q_addR, q_subI, q_mulI, q_mulR, q_mulL, q_mulT, q_divI, q_modI, q_powI, q_neg, q_lt, q_le, q_gt, q_ge, q_eqI, q_neI, q_eqB, q_eqS, q_eqN, q_eqT, q_eqL, q_eqR, q_neB, q_neS, q_neN, q_neT, q_neL, q_neR, q_in, q_notin, q_ixT, q_ixL, q_ixS, q_ixR, q_slT, q_slL, q_slR, q_slS, q_intW, q_blW, q_lenT, q_lenS, q_lenR, q_lenL, q_abs, q_min2, q_max2, q_sumR, q_sumL, q_sumT, q_anyR, q_anyL, q_allR, q_allL, q_listR, q_listL, q_listT, q_tupR, q_tupL, q_tupT, q_tAp, q_tEx, q_tPop, q_tRev, q_tCl, q_mAp, q_mEx, q_sqT, q_sqL, q_sqR, q_lrev, q_mPop, q_mRev, q_mCl, q_isN1, q_isN2, q_isN3, q_isN4, q_isN5, q_isN6, q_isN7, q_ty1, q_ty2, q_ty3, q_ty4, q_ty5, q_ty6, q_ty7, q_ty8, q_ty9, q_ty10, q_ty11, q_ty12, q_ty13, q_ty14, q_ty15, q_ty16, q_ty17, q_ty18, q_ty19, q_ty20, q_ty21, q_ty22, q_ty23, q_ty24, q_ty25, q_ty26, q_itR, q_itT, q_itL, q_rg1, q_rg2, q_rg3, q_enR, q_enL, q_zpR, q_enT, q_zpT, q_tIx, q_tIxR, q_tIn, q_mIx, q_mIxR, q_mIn, q_zpL, q_rvL, q_rvT, q_tgN, q_tgT, q_frS, q_asR, q_lsL, q_lsR, q_pN, q_pV, q_pI, q_pO, q_pG, q_pX, q_pB]
  rw [lc_map (fun p : Int × Nat => .tup [.int p.2, .int p.1]) (fun _ => True) (fun p => .int (if p.2 = i then v else p.1)) (fun p _ h' Y => ?_) _ (fun _ _ => trivial) (by rw [List.length_zipIdx]; exact Nat.le_trans h9 (by decide))]
  · have e : (σ.zipIdx.map fun p => D.int (if p.2 = i then v else p.1)) = (σ.set i v).map D.int := by
      apply List.ext_getElem
      · simp
      · intro n h1 h2
        simp only [List.getElem_map, List.getElem_zipIdx, List.getElem_set, Nat.zero_add]
        by_cases c : n = i
        · subst c; simp
        · simp [c, Ne.symm c]
    rw [e]
    simp -implicitDefEqProofs only [eq_self, wS, up_up, exists_eq', Lt.hE, Lt.hA, Lt.hN, Lt.hS, wipeE, Nat.le_add_left, Nat.reduceLeDiff, Lt.wE, wA, wAn, wOr, optW_some, getE, setE, setsE, edOf, startE, new_frz, all_free, frz_non, frz_bl, frz_int, frz_str, frz_tup, frz_lst, wrL_up, rdL_up, era_up, gc_up, atI_0, atI_1, atI_2, List.map_cons, List.map_nil, List.length_cons, List.length_nil, List.length_map, List.replicate, List.cons_append, List.nil_append, List.append_nil, Nat.sub_self, decide_eq_true_eq, decide_eq_false_iff_not, Bool.not_eq_true', Bool.not_eq_true, Bool.not_true, Bool.not_false, not_true_eq_false, not_false_eq_true, if_true, if_false, ite_true, ite_false, true_and, and_true, eq_self, reduceIte, Bool.false_eq_true, gc_self, up_same, Option.some.injEq, reduceCtorEq, List.getElem?_map, Option.map_some, Option.map_none, Nat.zero_add, Nat.reduceAdd, Nat.reduceSub, q_addI, q_addS, q_addT, q_addL, q_addR, q_subI, q_mulI, q_mulR, q_mulL, q_mulT, q_divI, q_modI, q_powI, q_neg, q_lt, q_le, q_gt, q_ge, q_eqI, q_neI, q_eqB, q_eqS, q_eqN, q_eqT, q_eqL, q_eqR, q_neB, q_neS, q_neN, q_neT, q_neL, q_neR, q_in, q_notin, q_ixT, q_ixL, q_ixS, q_ixR, q_slT, q_slL, q_slR, q_slS, q_intW, q_blW, q_lenT, q_lenS, q_lenR, q_lenL, q_abs, q_min2, q_max2, q_sumR, q_sumL, q_sumT, q_anyR, q_anyL, q_allR, q_allL, q_listR, q_listL, q_listT, q_tupR, q_tupL, q_tupT, q_tAp, q_tEx, q_tPop, q_tRev, q_tCl, q_mAp, q_mEx, q_sqT, q_sqL, q_sqR, q_lrev, q_mPop, q_mRev, q_mCl, q_isN1, q_isN2, q_isN3, q_isN4, q_isN5, q_isN6, q_isN7, q_ty1, q_ty2, q_ty3, q_ty4, q_ty5, q_ty6, q_ty7, q_ty8, q_ty9, q_ty10, q_ty11, q_ty12, q_ty13, q_ty14, q_ty15, q_ty16, q_ty17, q_ty18, q_ty19, q_ty20, q_ty21, q_ty22, q_ty23, q_ty24, q_ty25, q_ty26, q_itR, q_itT, q_itL, q_rg1, q_rg2, q_rg3, q_enR, q_enL, q_zpR, q_enT, q_zpT, q_tIx, q_tIxR, q_tIn, q_mIx, q_mIxR, q_mIn, q_zpL, q_rvL, q_rvT, q_tgN, q_tgT, q_frS, q_asR, q_lsL, q_lsR, q_pN, q_pV, q_pI, q_pO, q_pG, q_pX, q_pB]
  · by_cases c : p.2 = i
    · have c' : ((p.2 : Int) = (i : Int)) = True := eq_true (by omega)
      simp -implicitDefEqProofs only [b_law_put_1, c, c', wS, up_up, exists_eq', Lt.hE, Lt.hA, Lt.hN, Lt.hS, wipeE, Nat.le_add_left, Nat.reduceLeDiff, Lt.wE, wA, wAn, wOr, optW_some, getE, setE, setsE, edOf, startE, new_frz, all_free, frz_non, frz_bl, frz_int, frz_str, frz_tup, frz_lst, wrL_up, rdL_up, era_up, gc_up, atI_0, atI_1, atI_2, List.map_cons, List.map_nil, List.length_cons, List.length_nil, List.length_map, List.replicate, List.cons_append, List.nil_append, List.append_nil, Nat.sub_self, decide_eq_true_eq, decide_eq_false_iff_not, Bool.not_eq_true', Bool.not_eq_true, Bool.not_true, Bool.not_false, not_true_eq_false, not_false_eq_true, if_true, if_false, ite_true, ite_false, true_and, and_true, eq_self, reduceIte, Bool.false_eq_true, gc_self, up_same, Option.some.injEq, reduceCtorEq, List.getElem?_map, Option.map_some, Option.map_none, Nat.zero_add, Nat.reduceAdd, Nat.reduceSub, q_addI, q_addS, q_addT, q_addL, q_addR, q_subI, q_mulI, q_mulR, q_mulL, q_mulT, q_divI, q_modI, q_powI, q_neg, q_lt, q_le, q_gt, q_ge, q_eqI, q_neI, q_eqB, q_eqS, q_eqN, q_eqT, q_eqL, q_eqR, q_neB, q_neS, q_neN, q_neT, q_neL, q_neR, q_in, q_notin, q_ixT, q_ixL, q_ixS, q_ixR, q_slT, q_slL, q_slR, q_slS, q_intW, q_blW, q_lenT, q_lenS, q_lenR, q_lenL, q_abs, q_min2, q_max2, q_sumR, q_sumL, q_sumT, q_anyR, q_anyL, q_allR, q_allL, q_listR, q_listL, q_listT, q_tupR, q_tupL, q_tupT, q_tAp, q_tEx, q_tPop, q_tRev, q_tCl, q_mAp, q_mEx, q_sqT, q_sqL, q_sqR, q_lrev, q_mPop, q_mRev, q_mCl, q_isN1, q_isN2, q_isN3, q_isN4, q_isN5, q_isN6, q_isN7, q_ty1, q_ty2, q_ty3, q_ty4, q_ty5, q_ty6, q_ty7, q_ty8, q_ty9, q_ty10, q_ty11, q_ty12, q_ty13, q_ty14, q_ty15, q_ty16, q_ty17, q_ty18, q_ty19, q_ty20, q_ty21, q_ty22, q_ty23, q_ty24, q_ty25, q_ty26, q_itR, q_itT, q_itL, q_rg1, q_rg2, q_rg3, q_enR, q_enL, q_zpR, q_enT, q_zpT, q_tIx, q_tIxR, q_tIn, q_mIx, q_mIxR, q_mIn, q_zpL, q_rvL, q_rvT, q_tgN, q_tgT, q_frS, q_asR, q_lsL, q_lsR, q_pN, q_pV, q_pI, q_pO, q_pG, q_pX, q_pB]
    · have c' : ((p.2 : Int) = (i : Int)) = False := eq_false (by omega)
      simp -implicitDefEqProofs only [b_law_put_1, c, c', wS, up_up, exists_eq', Lt.hE, Lt.hA, Lt.hN, Lt.hS, wipeE, Nat.le_add_left, Nat.reduceLeDiff, Lt.wE, wA, wAn, wOr, optW_some, getE, setE, setsE, edOf, startE, new_frz, all_free, frz_non, frz_bl, frz_int, frz_str, frz_tup, frz_lst, wrL_up, rdL_up, era_up, gc_up, atI_0, atI_1, atI_2, List.map_cons, List.map_nil, List.length_cons, List.length_nil, List.length_map, List.replicate, List.cons_append, List.nil_append, List.append_nil, Nat.sub_self, decide_eq_true_eq, decide_eq_false_iff_not, Bool.not_eq_true', Bool.not_eq_true, Bool.not_true, Bool.not_false, not_true_eq_false, not_false_eq_true, if_true, if_false, ite_true, ite_false, true_and, and_true, eq_self, reduceIte, Bool.false_eq_true, gc_self, up_same, Option.some.injEq, reduceCtorEq, List.getElem?_map, Option.map_some, Option.map_none, Nat.zero_add, Nat.reduceAdd, Nat.reduceSub, q_addI, q_addS, q_addT, q_addL, q_addR, q_subI, q_mulI, q_mulR, q_mulL, q_mulT, q_divI, q_modI, q_powI, q_neg, q_lt, q_le, q_gt, q_ge, q_eqI, q_neI, q_eqB, q_eqS, q_eqN, q_eqT, q_eqL, q_eqR, q_neB, q_neS, q_neN, q_neT, q_neL, q_neR, q_in, q_notin, q_ixT, q_ixL, q_ixS, q_ixR, q_slT, q_slL, q_slR, q_slS, q_intW, q_blW, q_lenT, q_lenS, q_lenR, q_lenL, q_abs, q_min2, q_max2, q_sumR, q_sumL, q_sumT, q_anyR, q_anyL, q_allR, q_allL, q_listR, q_listL, q_listT, q_tupR, q_tupL, q_tupT, q_tAp, q_tEx, q_tPop, q_tRev, q_tCl, q_mAp, q_mEx, q_sqT, q_sqL, q_sqR, q_lrev, q_mPop, q_mRev, q_mCl, q_isN1, q_isN2, q_isN3, q_isN4, q_isN5, q_isN6, q_isN7, q_ty1, q_ty2, q_ty3, q_ty4, q_ty5, q_ty6, q_ty7, q_ty8, q_ty9, q_ty10, q_ty11, q_ty12, q_ty13, q_ty14, q_ty15, q_ty16, q_ty17, q_ty18, q_ty19, q_ty20, q_ty21, q_ty22, q_ty23, q_ty24, q_ty25, q_ty26, q_itR, q_itT, q_itL, q_rg1, q_rg2, q_rg3, q_enR, q_enL, q_zpR, q_enT, q_zpT, q_tIx, q_tIxR, q_tIn, q_mIx, q_mIxR, q_mIn, q_zpL, q_rvL, q_rvT, q_tgN, q_tgT, q_frS, q_asR, q_lsL, q_lsR, q_pN, q_pV, q_pI, q_pO, q_pG, q_pX, q_pB]
theorem c_law_common {a b : Nat} (hv : 1 ≤ lv) : callL L G lv "_law_common" [.int (a : Int), .int (b : Int)] h R Y = R (.int (Nat.gcd a b : Nat)) h := by
  obtain ⟨j, rfl⟩ : ∃ j, lv = j + 1 := ⟨lv - 1, by omega⟩
  rw [u_law_common]
  simp -implicitDefEqProofs only [b_law_common, wS, up_up, exists_eq', Lt.hE, Lt.hA, Lt.hN, Lt.hS, wipeE, Nat.le_add_left, Nat.reduceLeDiff, Lt.wE, wA, wAn, wOr, optW_some, getE, setE, setsE, edOf, startE, new_frz, all_free, frz_non, frz_bl, frz_int, frz_str, frz_tup, frz_lst, wrL_up, rdL_up, era_up, gc_up, atI_0, atI_1, atI_2, List.map_cons, List.map_nil, List.length_cons, List.length_nil, List.length_map, List.replicate, List.cons_append, List.nil_append, List.append_nil, Nat.sub_self, decide_eq_true_eq, decide_eq_false_iff_not, Bool.not_eq_true', Bool.not_eq_true, Bool.not_true, Bool.not_false, not_true_eq_false, not_false_eq_true, if_true, if_false, ite_true, ite_false, true_and, and_true, eq_self, reduceIte, Bool.false_eq_true, gc_self, up_same, Option.some.injEq, reduceCtorEq, List.getElem?_map, Option.map_some, Option.map_none, Nat.zero_add, Nat.reduceAdd, Nat.reduceSub, q_addI, q_addS, q_addT, q_addL, q_addR, q_subI, q_mulI, q_mulR, q_mulL, q_mulT, q_divI, q_modI, q_powI, q_neg, q_lt, q_le, q_gt, q_ge, q_eqI, q_neI, q_eqB, q_eqS, q_eqN, q_eqT, q_eqL, q_eqR, q_neB, q_neS, q_neN, q_neT, q_neL, q_neR, q_in, q_notin, q_ixT, q_ixL, q_ixS, q_ixR, q_slT, q_slL, q_slR, q_slS, q_intW, q_blW, q_lenT, q_lenS, q_lenR, q_lenL, q_abs, q_min2, q_max2, q_sumR, q_sumL, q_sumT, q_anyR, q_anyL, q_allR, q_allL, q_listR, q_listL, q_listT, q_tupR, q_tupL, q_tupT, q_tAp, q_tEx, q_tPop, q_tRev, q_tCl, q_mAp, q_mEx, q_sqT, q_sqL, q_sqR, q_lrev, q_mPop, q_mRev, q_mCl, q_isN1, q_isN2, q_isN3, q_isN4, q_isN5, q_isN6, q_isN7, q_ty1, q_ty2, q_ty3, q_ty4, q_ty5, q_ty6, q_ty7, q_ty8, q_ty9, q_ty10, q_ty11, q_ty12, q_ty13, q_ty14, q_ty15, q_ty16, q_ty17, q_ty18, q_ty19, q_ty20, q_ty21, q_ty22, q_ty23, q_ty24, q_ty25, q_ty26, q_itR, q_itT, q_itL, q_rg1, q_rg2, q_rg3, q_enR, q_enL, q_zpR, q_enT, q_zpT, q_tIx, q_tIxR, q_tIn, q_mIx, q_mIxR, q_mIn, q_zpL, q_rvL, q_rvT, q_tgN, q_tgT, q_frS, q_asR, q_lsL, q_lsR, q_pN, q_pV, q_pI, q_pO, q_pG, q_pX, q_pB]
  refine (wh_gcd2 (A := fun g => R (.int g) h) (fun g => ?_) a b).trans rfl
  simp -implicitDefEqProofs only [b_law_common_1, wS, up_up, exists_eq', Lt.hE, Lt.hA, Lt.hN, Lt.hS, wipeE, Nat.le_add_left, Nat.reduceLeDiff, Lt.wE, wA, wAn, wOr, optW_some, getE, setE, setsE, edOf, startE, new_frz, all_free, frz_non, frz_bl, frz_int, frz_str, frz_tup, frz_lst, wrL_up, rdL_up, era_up, gc_up, atI_0, atI_1, atI_2, List.map_cons, List.map_nil, List.length_cons, List.length_nil, List.length_map, List.replicate, List.cons_append, List.nil_append, List.append_nil, Nat.sub_self, decide_eq_true_eq, decide_eq_false_iff_not, Bool.not_eq_true', Bool.not_eq_true, Bool.not_true, Bool.not_false, not_true_eq_false, not_false_eq_true, if_true, if_false, ite_true, ite_false, true_and, and_true, eq_self, reduceIte, Bool.false_eq_true, gc_self, up_same, Option.some.injEq, reduceCtorEq, List.getElem?_map, Option.map_some, Option.map_none, Nat.zero_add, Nat.reduceAdd, Nat.reduceSub, q_addI, q_addS, q_addT, q_addL, q_addR, q_subI, q_mulI, q_mulR, q_mulL, q_mulT, q_divI, q_modI, q_powI, q_neg, q_lt, q_le, q_gt, q_ge, q_eqI, q_neI, q_eqB, q_eqS, q_eqN, q_eqT, q_eqL, q_eqR, q_neB, q_neS, q_neN, q_neT, q_neL, q_neR, q_in, q_notin, q_ixT, q_ixL, q_ixS, q_ixR, q_slT, q_slL, q_slR, q_slS, q_intW, q_blW, q_lenT, q_lenS, q_lenR, q_lenL, q_abs, q_min2, q_max2, q_sumR, q_sumL, q_sumT, q_anyR, q_anyL, q_allR, q_allL, q_listR, q_listL, q_listT, q_tupR, q_tupL, q_tupT, q_tAp, q_tEx, q_tPop, q_tRev, q_tCl, q_mAp, q_mEx, q_sqT, q_sqL, q_sqR, q_lrev, q_mPop, q_mRev, q_mCl, q_isN1, q_isN2, q_isN3, q_isN4, q_isN5, q_isN6, q_isN7, q_ty1, q_ty2, q_ty3, q_ty4, q_ty5, q_ty6, q_ty7, q_ty8, q_ty9, q_ty10, q_ty11, q_ty12, q_ty13, q_ty14, q_ty15, q_ty16, q_ty17, q_ty18, q_ty19, q_ty20, q_ty21, q_ty22, q_ty23, q_ty24, q_ty25, q_ty26, q_itR, q_itT, q_itL, q_rg1, q_rg2, q_rg3, q_enR, q_enL, q_zpR, q_enT, q_zpT, q_tIx, q_tIxR, q_tIn, q_mIx, q_mIxR, q_mIn, q_zpL, q_rvL, q_rvT, q_tgN, q_tgT, q_frS, q_asR, q_lsL, q_lsR, q_pN, q_pV, q_pI, q_pO, q_pG, q_pX, q_pB]
/-! ### the ways of a draw -/
abbrev wayD (q : Fr × List Int) : D := .tup [frD q.1, stD q.2]
def wayP (q : Fr × List Int) : PyData := .tuple [.tuple [.int q.1.1, .int q.1.2], stP q.2]
def waysR (S : Int) (σ : List Int) (i : Nat) (ws : List (Int × Nat)) : List (Fr × List Int) := ws.filterMap fun p => if 0 < p.1 then some (mk p.1 S, σ.set i (p.2 : Int)) else none
theorem waysR_pos {S : Int} {σ : List Int} {i : Nat} {p : Int × Nat} {r : List (Int × Nat)} (h : 0 < p.1) : waysR S σ i (p :: r) = (mk p.1 S, σ.set i (p.2 : Int)) :: waysR S σ i r := by
  unfold waysR; rw [List.filterMap_cons, if_pos h]
theorem waysR_neg {S : Int} {σ : List Int} {i : Nat} {p : Int × Nat} {r : List (Int × Nat)} (h : ¬ 0 < p.1) : waysR S σ i (p :: r) = waysR S σ i r := by
  unfold waysR; rw [List.filterMap_cons, if_neg h]
structure Wt (z : Nat) (ws : List Int) : Prop where
  len : ws.length = z
  rg : ∀ w ∈ ws, 0 ≤ w ∧ w < 10 ^ 60
  pos : 0 < ws.sum
theorem Wt.sum {z : Nat} {ws : List Int} (w : Wt z ws) (h9 : z ≤ 9) : B 204 ws.sum := by
  have h1 : ∀ (l : List Int), (∀ x ∈ l, 0 ≤ x ∧ x < 10 ^ 60) → l.sum ≤ l.length * 10 ^ 60 := by
    intro l
    induction l with
    | nil => intro _; simp
    | cons a r ih =>
      intro hl
      have := ih fun x hx => hl x (List.mem_cons_of_mem _ hx)
      have := (hl a (by simp)).2
      rw [List.sum_cons, List.length_cons, Int.natCast_add, Int.add_mul]
      simp only [Int.cast_ofNat_Int, Int.one_mul]
      omega
  have := h1 ws w.rg
  have h2 : ((ws.length : Nat) : Int) * 10 ^ 60 ≤ 9 * 10 ^ 60 := Int.mul_le_mul_of_nonneg_right (by rw [w.len]; omega) (by decide)
  have := w.pos
  unfold B
  omega
structure Pl (bs : List Box) (σ : List Int) (l : List Nat) (i : Nat) (z : Nat) : Prop where
  n : bs.length ≤ 9
  s : bs.length = σ.length
  at' : bs.findIdx? (fun b => decide (b.1 = l)) = some i
  z' : (bs[i]?).map (·.2) = some (z : Int)
  z1 : 1 ≤ z
  z9 : z ≤ 9
theorem Pl.lt {bs : List Box} {σ : List Int} {l : List Nat} {i z : Nat} (h : Pl bs σ l i z) : i < σ.length := by
  obtain ⟨b, e, _⟩ := Option.map_eq_some_iff.1 h.z'
  have := (List.getElem?_eq_some_iff.1 e).1
  have := h.s; omega
theorem c_put13 {bs : List Box} {σ : List Int} {l : List Nat} {i z : Nat} {v : Int} (p : Pl bs σ l i z) (hv : 2 ≤ lv) :
    callL L G lv "put_into" [.tup (bs.map boxD), stD σ, .str (st l), .int v] h R Y = R (stD (σ.set i (v % (z : Int)))) h := by
  rw [c_put_into p.n p.s p.at' p.z' (by have := p.z1; omega) hv]
  have e : σ.set i (v % (z : Int)) = σ.take i ++ [v % (z : Int)] ++ σ.drop (i + 1) := by
    rw [List.set_eq_take_append_cons_drop, if_pos p.lt, List.append_assoc, List.singleton_append]
  rw [e]
theorem c_drawn {bs : List Box} {σ : List Int} {l : List Nat} {i z : Nat} {ws : List Int} (p : Pl bs σ l i z) (w : Wt z ws) (hv : 3 ≤ lv) :
    callL L G lv "drawn" [.tup (bs.map boxD), stD σ, .str (st l), .tup (ws.map D.int)] h R Y = R (.lst ((waysR ws.sum σ i ws.zipIdx).map wayD)) h := by
  obtain ⟨j, rfl⟩ : ∃ j, lv = j + 3 := ⟨lv - 3, by omega⟩
  rw [u_drawn]
  have s0 : 0 ≤ sizeLine := by decide
  have s2 : 2 ≤ sizeLine := by decide
  have s9 : B 9000 ws.sum := (w.sum p.z9).mono (by decide)
  simp -implicitDefEqProofs only [b_drawn, s0, intsD_map, enuD_map, wS, up_up, exists_eq', Lt.hE, Lt.hA, Lt.hN, Lt.hS, wipeE, Nat.le_add_left, Nat.reduceLeDiff, Lt.wE, wA, wAn, wOr, optW_some, getE, setE, setsE, edOf, startE, new_frz, all_free, frz_non, frz_bl, frz_int, frz_str, frz_tup, frz_lst, wrL_up, rdL_up, era_up, gc_up, atI_0, atI_1, atI_2, List.map_cons, List.map_nil, List.length_cons, List.length_nil, List.length_map, List.replicate, List.cons_append, List.nil_append, List.append_nil, Nat.sub_self, decide_eq_true_eq, decide_eq_false_iff_not, Bool.not_eq_true', Bool.not_eq_true, Bool.not_true, Bool.not_false, not_true_eq_false, not_false_eq_true, if_true, if_false, ite_true, ite_false, true_and, and_true, eq_self, reduceIte, Bool.false_eq_true, gc_self, up_same, Option.some.injEq, reduceCtorEq, List.getElem?_map, Option.map_some, Option.map_none, Nat.zero_add, Nat.reduceAdd, Nat.reduceSub, q_addI, q_addS, q_addT, q_addL, q_addR, q_subI, q_mulI, q_mulR, q_mulL, q_mulT, q_divI, q_modI, q_powI, q_neg, q_lt, q_le, q_gt, q_ge, q_eqI, q_neI, q_eqB, q_eqS, q_eqN, q_eqT, q_eqL, q_eqR, q_neB, q_neS, q_neN, q_neT, q_neL, q_neR, q_in, q_notin, q_ixT, q_ixL, q_ixS, q_ixR, q_slT, q_slL, q_slR, q_slS, q_intW, q_blW, q_lenT, q_lenS, q_lenR, q_lenL, q_abs, q_min2, q_max2, q_sumR, q_sumL, q_sumT, q_anyR, q_anyL, q_allR, q_allL, q_listR, q_listL, q_listT, q_tupR, q_tupL, q_tupT, q_tAp, q_tEx, q_tPop, q_tRev, q_tCl, q_mAp, q_mEx, q_sqT, q_sqL, q_sqR, q_lrev, q_mPop, q_mRev, q_mCl, q_isN1, q_isN2, q_isN3, q_isN4, q_isN5, q_isN6, q_isN7, q_ty1, q_ty2, q_ty3, q_ty4, q_ty5, q_ty6, q_ty7, q_ty8, q_ty9, q_ty10, q_ty11, q_ty12, q_ty13, q_ty14, q_ty15, q_ty16, q_ty17, q_ty18, q_ty19, q_ty20, q_ty21, q_ty22, q_ty23, q_ty24, q_ty25, q_ty26, q_itR, q_itT, q_itL, q_rg1, q_rg2, q_rg3, q_enR, q_enL, q_zpR, q_enT, q_zpT, q_tIx, q_tIxR, q_tIn, q_mIx, q_mIxR, q_mIn, q_zpL, q_rvL, q_rvT, q_tgN, q_tgT, q_frS, q_asR, q_lsL, q_lsR, q_pN, q_pV, q_pI, q_pO, q_pG, q_pX, q_pB]
  refine all_eq fun q hq => ?_
  refine (fr_detH (σ := List (Fr × List Int)) (fun s => [some (.tup (bs.map boxD)), some (stD σ), some (.str (st l)), some (.tup (ws.map D.int)), some (.int ws.sum), some (.ref q), none, none]) (fun s => up h q (.lst (s.map wayD)))
    (fun p : Int × Nat => .tup [.int p.2, .int p.1]) (fun as s => (∀ x ∈ as, x.2 < z) ∧ s.length + as.length ≤ 9) (fun as s => R (.lst ((s ++ waysR ws.sum σ i as).map wayD)) h) (fun s _ => ?_) (fun a as s I => .inl ?_) ws.zipIdx [] ⟨fun x hx => ?_, ?_⟩).trans ?_
  · simp -implicitDefEqProofs only [b_drawn_1, frz_up, era_up hq, gc_self, wS, up_up, exists_eq', Lt.hE, Lt.hA, Lt.hN, Lt.hS, wipeE, Nat.le_add_left, Nat.reduceLeDiff, Lt.wE, wA, wAn, wOr, optW_some, getE, setE, setsE, edOf, startE, new_frz, all_free, frz_non, frz_bl, frz_int, frz_str, frz_tup, frz_lst, wrL_up, rdL_up, era_up, gc_up, atI_0, atI_1, atI_2, List.map_cons, List.map_nil, List.length_cons, List.length_nil, List.length_map, List.replicate, List.cons_append, List.nil_append, List.append_nil, Nat.sub_self, decide_eq_true_eq, decide_eq_false_iff_not, Bool.not_eq_true', Bool.not_eq_true, Bool.not_true, Bool.not_false, not_true_eq_false, not_false_eq_true, if_true, if_false, ite_true, ite_false, true_and, and_true, eq_self, reduceIte, Bool.false_eq_true, gc_self, up_same, Option.some.injEq, reduceCtorEq, List.getElem?_map, Option.map_some, Option.map_none, Nat.zero_add, Nat.reduceAdd, Nat.reduceSub, q_addI, q_addS, q_addT, q_addL, q_addR, q_subI, q_mulI, q_mulR, q_mulL, q_mulT, q_divI, q_modI, q_powI, q_neg, q_lt, q_le, q_gt, q_ge, q_eqI, q_neI, q_eqB, q_eqS, q_eqN, q_eqT, q_eqL, q_eqR, q_neB, q_neS, q_neN, q_neT, q_neL, q_neR, q_in, q_notin, q_ixT, q_ixL, q_ixS, q_ixR, q_slT, q_slL, q_slR, q_slS, q_intW, q_blW, q_lenT, q_lenS, q_lenR, q_lenL, q_abs, q_min2, q_max2, q_sumR, q_sumL, q_sumT, q_anyR, q_anyL, q_allR, q_allL, q_listR, q_listL, q_listT, q_tupR, q_tupL, q_tupT, q_tAp, q_tEx, q_tPop, q_tRev, q_tCl, q_mAp, q_mEx, q_sqT, q_sqL, q_sqR, q_lrev, q_mPop, q_mRev, q_mCl, q_isN1, q_isN2, q_isN3, q_isN4, q_isN5, q_isN6, q_isN7, q_ty1, q_ty2, q_ty3, q_ty4, q_ty5, q_ty6, q_ty7, q_ty8, q_ty9, q_ty10, q_ty11, q_ty12, q_ty13, q_ty14, q_ty15, q_ty16, q_ty17, q_ty18, q_ty19, q_ty20, q_ty21, q_ty22, q_ty23, q_ty24, q_ty25, q_ty26, q_itR, q_itT, q_itL, q_rg1, q_rg2, q_rg3, q_enR, q_enL, q_zpR, q_enT, q_zpT, q_tIx, q_tIxR, q_tIn, q_mIx, q_mIxR, q_mIn, q_zpL, q_rvL, q_rvT, q_tgN, q_tgT, q_frS, q_asR, q_lsL, q_lsR, q_pN, q_pV, q_pI, q_pO, q_pG, q_pX, q_pB]
    unfold waysR
    simp only [List.filterMap_nil, List.append_nil]
  · obtain ⟨i1, i2⟩ := I
    rw [List.length_cons] at i2
    have l1 : s.length < sizeLine := by exact Nat.lt_of_le_of_lt (by omega : _ ≤ 9) (by decide)
    by_cases c : 0 < a.1
    · have em : ((a.2 : Int)) % (z : Int) = (a.2 : Int) := Int.emod_eq_of_lt (by omega) (by have := i1 a (by simp); omega)
      refine ⟨s ++ [(mk a.1 ws.sum, σ.set i (a.2 : Int))], ⟨fun x hx => i1 x (List.mem_cons_of_mem _ hx), by rw [List.length_append, List.length_singleton]; omega⟩, by rw [waysR_pos c, List.append_assoc, List.singleton_append], fun W => ?_⟩
      simp -implicitDefEqProofs only [b_drawn_2, gt_iff_lt, c, s2, rdL_up, wrL_up, c_fraction w.pos s9, c_put13 p, em, l1, up_up, wS, up_up, exists_eq', Lt.hE, Lt.hA, Lt.hN, Lt.hS, wipeE, Nat.le_add_left, Nat.reduceLeDiff, Lt.wE, wA, wAn, wOr, optW_some, getE, setE, setsE, edOf, startE, new_frz, all_free, frz_non, frz_bl, frz_int, frz_str, frz_tup, frz_lst, wrL_up, rdL_up, era_up, gc_up, atI_0, atI_1, atI_2, List.map_cons, List.map_nil, List.length_cons, List.length_nil, List.length_map, List.replicate, List.cons_append, List.nil_append, List.append_nil, Nat.sub_self, decide_eq_true_eq, decide_eq_false_iff_not, Bool.not_eq_true', Bool.not_eq_true, Bool.not_true, Bool.not_false, not_true_eq_false, not_false_eq_true, if_true, if_false, ite_true, ite_false, true_and, and_true, eq_self, reduceIte, Bool.false_eq_true, gc_self, up_same, Option.some.injEq, reduceCtorEq, List.getElem?_map, Option.map_some, Option.map_none, Nat.zero_add, Nat.reduceAdd, Nat.reduceSub, q_addI, q_addS, q_addT, q_addL, q_addR, q_subI, q_mulI, q_mulR, q_mulL, q_mulT, q_divI, q_modI, q_powI, q_neg, q_lt, q_le, q_gt, q_ge, q_eqI, q_neI, q_eqB, q_eqS, q_eqN, q_eqT, q_eqL, q_eqR, q_neB, q_neS, q_neN, q_neT, q_neL, q_neR, q_in, q_notin, q_ixT, q_ixL, q_ixS, q_ixR, q_slT, q_slL, q_slR, q_slS, q_intW, q_blW, q_lenT, q_lenS, q_lenR, q_lenL, q_abs, q_min2, q_max2, q_sumR, q_sumL, q_sumT, q_anyR, q_anyL, q_allR, q_allL, q_listR, q_listL, q_listT, q_tupR, q_tupL, q_tupT, q_tAp, q_tEx, q_tPop, q_tRev, q_tCl, q_mAp, q_mEx, q_sqT, q_sqL, q_sqR, q_lrev, q_mPop, q_mRev, q_mCl, q_isN1, q_isN2, q_isN3, q_isN4, q_isN5, q_isN6, q_isN7, q_ty1, q_ty2, q_ty3, q_ty4, q_ty5, q_ty6, q_ty7, q_ty8, q_ty9, q_ty10, q_ty11, q_ty12, q_ty13, q_ty14, q_ty15, q_ty16, q_ty17, q_ty18, q_ty19, q_ty20, q_ty21, q_ty22, q_ty23, q_ty24, q_ty25, q_ty26, q_itR, q_itT, q_itL, q_rg1, q_rg2, q_rg3, q_enR, q_enL, q_zpR, q_enT, q_zpT, q_tIx, q_tIxR, q_tIn, q_mIx, q_mIxR, q_mIn, q_zpL, q_rvL, q_rvT, q_tgN, q_tgT, q_frS, q_asR, q_lsL, q_lsR, q_pN, q_pV, q_pI, q_pO, q_pG, q_pX, q_pB]
      rw [List.map_append]; rfl
    · refine ⟨s, ⟨fun x hx => i1 x (List.mem_cons_of_mem _ hx), by omega⟩, by rw [waysR_neg c], fun W => ?_⟩
      simp -implicitDefEqProofs only [b_drawn_2, gt_iff_lt, c, wS, up_up, exists_eq', Lt.hE, Lt.hA, Lt.hN, Lt.hS, wipeE, Nat.le_add_left, Nat.reduceLeDiff, Lt.wE, wA, wAn, wOr, optW_some, getE, setE, setsE, edOf, startE, new_frz, all_free, frz_non, frz_bl, frz_int, frz_str, frz_tup, frz_lst, wrL_up, rdL_up, era_up, gc_up, atI_0, atI_1, atI_2, List.map_cons, List.map_nil, List.length_cons, List.length_nil, List.length_map, List.replicate, List.cons_append, List.nil_append, List.append_nil, Nat.sub_self, decide_eq_true_eq, decide_eq_false_iff_not, Bool.not_eq_true', Bool.not_eq_true, Bool.not_true, Bool.not_false, not_true_eq_false, not_false_eq_true, if_true, if_false, ite_true, ite_false, true_and, and_true, eq_self, reduceIte, Bool.false_eq_true, gc_self, up_same, Option.some.injEq, reduceCtorEq, List.getElem?_map, Option.map_some, Option.map_none, Nat.zero_add, Nat.reduceAdd, Nat.reduceSub, q_addI, q_addS, q_addT, q_addL, q_addR, q_subI, q_mulI, q_mulR, q_mulL, q_mulT, q_divI, q_modI, q_powI, q_neg, q_lt, q_le, q_gt, q_ge, q_eqI, q_neI, q_eqB, q_eqS, q_eqN, q_eqT, q_eqL, q_eqR, q_neB, q_neS, q_neN, q_neT, q_neL, q_neR, q_in, q_notin, q_ixT, q_ixL, q_ixS, q_ixR, q_slT, q_slL, q_slR, q_slS, q_intW, q_blW, q_lenT, q_lenS, q_lenR, q_lenL, q_abs, q_min2, q_max2, q_sumR, q_sumL, q_sumT, q_anyR, q_anyL, q_allR, q_allL, q_listR, q_listL, q_listT, q_tupR, q_tupL, q_tupT, q_tAp, q_tEx, q_tPop, q_tRev, q_tCl, q_mAp, q_mEx, q_sqT, q_sqL, q_sqR, q_lrev, q_mPop, q_mRev, q_mCl, q_isN1, q_isN2, q_isN3, q_isN4, q_isN5, q_isN6, q_isN7, q_ty1, q_ty2, q_ty3, q_ty4, q_ty5, q_ty6, q_ty7, q_ty8, q_ty9, q_ty10, q_ty11, q_ty12, q_ty13, q_ty14, q_ty15, q_ty16, q_ty17, q_ty18, q_ty19, q_ty20, q_ty21, q_ty22, q_ty23, q_ty24, q_ty25, q_ty26, q_itR, q_itT, q_itL, q_rg1, q_rg2, q_rg3, q_enR, q_enL, q_zpR, q_enT, q_zpT, q_tIx, q_tIxR, q_tIn, q_mIx, q_mIxR, q_mIn, q_zpL, q_rvL, q_rvT, q_tgN, q_tgT, q_frS, q_asR, q_lsL, q_lsR, q_pN, q_pV, q_pI, q_pO, q_pG, q_pX, q_pB]
  · have := List.snd_lt_of_mem_zipIdx hx
    have := w.len; omega
  · rw [List.length_zipIdx, w.len]; have := p.z9; simpa using this
  · simp only [List.nil_append]
theorem c_common13 {a b : Int} (ha : 0 ≤ a) (hb : 0 ≤ b) (hv : 1 ≤ lv) : callL L G lv "_law_common" [.int a, .int b] h R Y = R (.int (Int.gcd a b : Nat)) h := by
  obtain ⟨m, rfl⟩ : ∃ m : Nat, a = m := ⟨a.toNat, by omega⟩
  obtain ⟨n, rfl⟩ : ∃ n : Nat, b = n := ⟨b.toNat, by omega⟩
  rw [c_law_common hv]; rfl
/-! ### what is shown of the ways -/
theorem isPs_ways {h : Hh} : ∀ qs : List (Fr × List Int), IsPs h (qs.map wayD) (qs.map wayP)
  | [] => rfl
  | q :: qs => ⟨_, _, rfl, ⟨_, rfl, _, _, rfl, ⟨_, rfl, _, _, rfl, rfl, _, _, rfl, rfl, rfl⟩, _, _, rfl, isP_st, rfl⟩, isPs_ways qs⟩
theorem sm_way {q : Fr × List Int} (h1 : B 204 q.1.1) (h2 : B 204 q.1.2) (h9 : q.2.length ≤ 9) (hs : ∀ i ∈ q.2, 0 ≤ i ∧ i < 10) : Sm 1921 2 500 (wayP q) := by
  have a1 : Sm 1921 0 204 (.int q.1.1) := sm_B (by decide) (by decide) h1
  have a2 : Sm 1921 0 204 (.int q.1.2) := sm_B (by decide) (by decide) h2
  have a3 := (Sms.cons a1 (Sms.cons a2 (Sms.nil (m := 0)))).tup
  have a4 : Sm 1921 1 (q.2.length * 5) (stP q.2) := by
    have := (Sms.all (c := 1921) (n := 0) (m := 4) (ds := q.2.map .int) fun d hd => by
      obtain ⟨i, hi, rfl⟩ := List.mem_map.1 hd
      have := hs i hi
      exact sm_B (k := 4) (by decide) (by decide) (by unfold B; omega)).tup
    rw [List.length_map] at this
    exact this
  have a5 := (Sms.cons a3 (Sms.cons a4 (Sms.nil (m := 0)))).tup
  exact ⟨a5.sh, a5.nd, a5.dp, a5.ly, by have := a5.wt; unfold wayP; omega, a5.it⟩
theorem ok_ways {qs : List (Fr × List Int)} (hl : qs.length ≤ 9) (hq : ∀ q ∈ qs, B 204 q.1.1 ∧ B 204 q.1.2 ∧ q.2.length ≤ 9 ∧ ∀ i ∈ q.2, 0 ≤ i ∧ i < 10) :
    (PyData.list (qs.map wayP)).showable = true ∧ (PyData.list (qs.map wayP)).hasDict = false ∧ (PyData.list (qs.map wayP)).depth ≤ 60 ∧ (PyData.list (qs.map wayP)).shown.length ≤ sizeLine := by
  have := (Sms.all (c := 1921) (n := 2) (m := 500) (ds := qs.map wayP) fun d hd => by
    obtain ⟨q, hm, rfl⟩ := List.mem_map.1 hd
    obtain ⟨x1, x2, x3, x4⟩ := hq q hm
    exact sm_way x1 x2 x3 x4).lst
  rw [List.length_map] at this
  have le : qs.length * (500 + 1) ≤ 8000 := Nat.le_trans (Nat.mul_le_mul_right _ hl) (by decide)
  exact this.okB (by decide) le
theorem waysR_ok {σ : List Int} {i z : Nat} {ws : List Int} (w : Wt z ws) (h9 : z ≤ 9) (hs : σ.length ≤ 9) (hr : ∀ i ∈ σ, 0 ≤ i ∧ i < 10) :
    (waysR ws.sum σ i ws.zipIdx).length ≤ 9 ∧ ∀ q ∈ waysR ws.sum σ i ws.zipIdx, B 204 q.1.1 ∧ B 204 q.1.2 ∧ q.2.length ≤ 9 ∧ ∀ i ∈ q.2, 0 ≤ i ∧ i < 10 := by
  refine ⟨Nat.le_trans (List.length_filterMap_le _ _) (by rw [List.length_zipIdx, w.len]; exact h9), fun q hq => ?_⟩
  obtain ⟨p, hp, e⟩ := List.mem_filterMap.1 hq
  split at e
  · cases e
    have h1 := List.snd_lt_of_mem_zipIdx hp
    have h2 := List.fst_mem_of_mem_zipIdx hp
    have h3 := w.rg _ h2
    have sz := mk_sz (n := 204) (t := p.1) (b := ws.sum) (by unfold B; omega) w.pos (w.sum h9)
    refine ⟨sz.top, sz.bot, by rw [List.length_set]; exact hs, fun x hx => ?_⟩
    rcases List.mem_or_eq_of_mem_set hx with e | e
    · exact hr x e
    · subst e; have := w.len; omega
  · cases e
theorem c_ways_right {σ : List Int} {i z : Nat} {ws : List Int} (w : Wt z ws) (h9 : z ≤ 9) (hs : σ.length ≤ 9) (hr : ∀ i ∈ σ, 0 ≤ i ∧ i < 10) (hv : 2 ≤ lv) :
    callL L G lv "_law_ways_right" [.lst ((waysR ws.sum σ i ws.zipIdx).map wayD), stD σ, .int (i : Int), .tup (ws.map D.int)] h R Y = R (.bl true) h := by
  obtain ⟨j, rfl⟩ : ∃ j, lv = j + 2 := ⟨lv - 2, by omega⟩
  rw [u_law_ways_right]
  have s0 : 0 ≤ sizeLine := by decide
  have s2 : 2 ≤ sizeLine := by decide
  have s9 : B 9000 ws.sum := (w.sum h9).mono (by decide)
  have S0 : 0 ≤ ws.sum := Int.le_of_lt w.pos
  obtain ⟨ok1, ok2⟩ := waysR_ok (i := i) w h9 hs hr
  generalize hW : waysR ws.sum σ i ws.zipIdx = W0 at ok1 ok2
  simp -implicitDefEqProofs only [b_law_ways_right, s0, intsD_map, enuD_map, wS, up_up, exists_eq', Lt.hE, Lt.hA, Lt.hN, Lt.hS, wipeE, Nat.le_add_left, Nat.reduceLeDiff, Lt.wE, wA, wAn, wOr, optW_some, getE, setE, setsE, edOf, startE, new_frz, all_free, frz_non, frz_bl, frz_int, frz_str, frz_tup, frz_lst, wrL_up, rdL_up, era_up, gc_up, atI_0, atI_1, atI_2, List.map_cons, List.map_nil, List.length_cons, List.length_nil, List.length_map, List.replicate, List.cons_append, List.nil_append, List.append_nil, Nat.sub_self, decide_eq_true_eq, decide_eq_false_iff_not, Bool.not_eq_true', Bool.not_eq_true, Bool.not_true, Bool.not_false, not_true_eq_false, not_false_eq_true, if_true, if_false, ite_true, ite_false, true_and, and_true, eq_self, reduceIte, Bool.false_eq_true, gc_self, up_same, Option.some.injEq, reduceCtorEq, List.getElem?_map, Option.map_some, Option.map_none, Nat.zero_add, Nat.reduceAdd, Nat.reduceSub, q_addI, q_addS, q_addT, q_addL, q_addR, q_subI, q_mulI, q_mulR, q_mulL, q_mulT, q_divI, q_modI, q_powI, q_neg, q_lt, q_le, q_gt, q_ge, q_eqI, q_neI, q_eqB, q_eqS, q_eqN, q_eqT, q_eqL, q_eqR, q_neB, q_neS, q_neN, q_neT, q_neL, q_neR, q_in, q_notin, q_ixT, q_ixL, q_ixS, q_ixR, q_slT, q_slL, q_slR, q_slS, q_intW, q_blW, q_lenT, q_lenS, q_lenR, q_lenL, q_abs, q_min2, q_max2, q_sumR, q_sumL, q_sumT, q_anyR, q_anyL, q_allR, q_allL, q_listR, q_listL, q_listT, q_tupR, q_tupL, q_tupT, q_tAp, q_tEx, q_tPop, q_tRev, q_tCl, q_mAp, q_mEx, q_sqT, q_sqL, q_sqR, q_lrev, q_mPop, q_mRev, q_mCl, q_isN1, q_isN2, q_isN3, q_isN4, q_isN5, q_isN6, q_isN7, q_ty1, q_ty2, q_ty3, q_ty4, q_ty5, q_ty6, q_ty7, q_ty8, q_ty9, q_ty10, q_ty11, q_ty12, q_ty13, q_ty14, q_ty15, q_ty16, q_ty17, q_ty18, q_ty19, q_ty20, q_ty21, q_ty22, q_ty23, q_ty24, q_ty25, q_ty26, q_itR, q_itT, q_itL, q_rg1, q_rg2, q_rg3, q_enR, q_enL, q_zpR, q_enT, q_zpT, q_tIx, q_tIxR, q_tIn, q_mIx, q_mIxR, q_mIn, q_zpL, q_rvL, q_rvT, q_tgN, q_tgT, q_frS, q_asR, q_lsL, q_lsR, q_pN, q_pV, q_pI, q_pO, q_pG, q_pX, q_pB]
  refine all_eq fun q hq => ?_
  refine (fr_detH (σ := List (Fr × List Int)) (fun s => [some (.lst (W0.map wayD)), some (stD σ), some (.int (i : Int)), some (.tup (ws.map D.int)), some (.int ws.sum), some (.ref q), none, none, none]) (fun s => up h q (.lst (s.map wayD)))
    (fun p : Int × Nat => .tup [.int p.2, .int p.1]) (fun as s => (s.length + as.length ≤ 9 ∧ s ++ waysR ws.sum σ i as = W0)) (fun as s => R (.bl true) h) (fun s I => ?_) (fun a as s I => .inl ?_) ws.zipIdx [] ⟨?_, ?_⟩).trans rfl
  · obtain ⟨_, i2⟩ := I
    have e0 : waysR ws.sum σ i [] = [] := rfl
    rw [e0, List.append_nil] at i2
    subst i2
    have r1 := fun {h : Hh} {Q : QD} => q_rpr (x := .lst (s.map wayD)) (d := .list (s.map wayP)) (h := h) (Q := Q) rfl (by rw [IsP]; exact ⟨_, rfl, isPs_ways s⟩) (ok_ways ok1 ok2)
    have r2 := fun {Q : QD} => q_rpr (x := .ref q) (d := .list (s.map wayP)) (h := up h q (.lst (s.map wayD))) (Q := Q) rfl (by rw [IsP]; exact ⟨_, rdL_up, isPs_ways s⟩) (ok_ways ok1 ok2)
    simp -implicitDefEqProofs only [b_law_ways_right_1, r1, r2, gc_up hq, gc_self, decide_true, wS, up_up, exists_eq', Lt.hE, Lt.hA, Lt.hN, Lt.hS, wipeE, Nat.le_add_left, Nat.reduceLeDiff, Lt.wE, wA, wAn, wOr, optW_some, getE, setE, setsE, edOf, startE, new_frz, all_free, frz_non, frz_bl, frz_int, frz_str, frz_tup, frz_lst, wrL_up, rdL_up, era_up, gc_up, atI_0, atI_1, atI_2, List.map_cons, List.map_nil, List.length_cons, List.length_nil, List.length_map, List.replicate, List.cons_append, List.nil_append, List.append_nil, Nat.sub_self, decide_eq_true_eq, decide_eq_false_iff_not, Bool.not_eq_true', Bool.not_eq_true, Bool.not_true, Bool.not_false, not_true_eq_false, not_false_eq_true, if_true, if_false, ite_true, ite_false, true_and, and_true, eq_self, reduceIte, Bool.false_eq_true, gc_self, up_same, Option.some.injEq, reduceCtorEq, List.getElem?_map, Option.map_some, Option.map_none, Nat.zero_add, Nat.reduceAdd, Nat.reduceSub, q_addI, q_addS, q_addT, q_addL, q_addR, q_subI, q_mulI, q_mulR, q_mulL, q_mulT, q_divI, q_modI, q_powI, q_neg, q_lt, q_le, q_gt, q_ge, q_eqI, q_neI, q_eqB, q_eqS, q_eqN, q_eqT, q_eqL, q_eqR, q_neB, q_neS, q_neN, q_neT, q_neL, q_neR, q_in, q_notin, q_ixT, q_ixL, q_ixS, q_ixR, q_slT, q_slL, q_slR, q_slS, q_intW, q_blW, q_lenT, q_lenS, q_lenR, q_lenL, q_abs, q_min2, q_max2, q_sumR, q_sumL, q_sumT, q_anyR, q_anyL, q_allR, q_allL, q_listR, q_listL, q_listT, q_tupR, q_tupL, q_tupT, q_tAp, q_tEx, q_tPop, q_tRev, q_tCl, q_mAp, q_mEx, q_sqT, q_sqL, q_sqR, q_lrev, q_mPop, q_mRev, q_mCl, q_isN1, q_isN2, q_isN3, q_isN4, q_isN5, q_isN6, q_isN7, q_ty1, q_ty2, q_ty3, q_ty4, q_ty5, q_ty6, q_ty7, q_ty8, q_ty9, q_ty10, q_ty11, q_ty12, q_ty13, q_ty14, q_ty15, q_ty16, q_ty17, q_ty18, q_ty19, q_ty20, q_ty21, q_ty22, q_ty23, q_ty24, q_ty25, q_ty26, q_itR, q_itT, q_itL, q_rg1, q_rg2, q_rg3, q_enR, q_enL, q_zpR, q_enT, q_zpT, q_tIx, q_tIxR, q_tIn, q_mIx, q_mIxR, q_mIn, q_zpL, q_rvL, q_rvT, q_tgN, q_tgT, q_frS, q_asR, q_lsL, q_lsR, q_pN, q_pV, q_pI, q_pO, q_pG, q_pX, q_pB]
  · obtain ⟨i2, i3⟩ := I
    rw [List.length_cons] at i2
    have l1 : s.length < sizeLine := by exact Nat.lt_of_le_of_lt (by omega : _ ≤ 9) (by decide)
    by_cases c : 0 < a.1
    · have g0 : 0 < (Int.gcd a.1 ws.sum : Int) := gcd_pos w.pos
      have g1 : ¬ ((Int.gcd a.1 ws.sum : Nat) : Int) = 0 := by omega
      have np : ∀ x : Int, Builtin.divisionGoesByPylong x (Int.gcd a.1 ws.sum : Nat) = false := fun x => B.noPy (B.gcd w.pos s9)
      have f1 : a.1.fdiv (Int.gcd a.1 ws.sum : Nat) = (mk a.1 ws.sum).1 := by rw [fdiv_gcd w.pos]; unfold mk; rfl
      have f2 : ws.sum.fdiv (Int.gcd a.1 ws.sum : Nat) = (mk a.1 ws.sum).2 := by rw [fdiv_gcd w.pos]; unfold mk; rfl
      refine ⟨s ++ [(mk a.1 ws.sum, σ.set i (a.2 : Int))], ⟨by rw [List.length_append, List.length_singleton]; omega, by rw [← i3, waysR_pos c, List.append_assoc, List.singleton_append]⟩, rfl, fun W => ?_⟩
      simp -implicitDefEqProofs only [b_law_ways_right_2, gt_iff_lt, c, s2, rdL_up, wrL_up, c_common13 (Int.le_of_lt c) S0, g1, np, f1, f2, ne_eq, not_false_eq_true, c_law_put13 hs, l1, up_up, wS, up_up, exists_eq', Lt.hE, Lt.hA, Lt.hN, Lt.hS, wipeE, Nat.le_add_left, Nat.reduceLeDiff, Lt.wE, wA, wAn, wOr, optW_some, getE, setE, setsE, edOf, startE, new_frz, all_free, frz_non, frz_bl, frz_int, frz_str, frz_tup, frz_lst, wrL_up, rdL_up, era_up, gc_up, atI_0, atI_1, atI_2, List.map_cons, List.map_nil, List.length_cons, List.length_nil, List.length_map, List.replicate, List.cons_append, List.nil_append, List.append_nil, Nat.sub_self, decide_eq_true_eq, decide_eq_false_iff_not, Bool.not_eq_true', Bool.not_eq_true, Bool.not_true, Bool.not_false, not_true_eq_false, not_false_eq_true, if_true, if_false, ite_true, ite_false, true_and, and_true, eq_self, reduceIte, Bool.false_eq_true, gc_self, up_same, Option.some.injEq, reduceCtorEq, List.getElem?_map, Option.map_some, Option.map_none, Nat.zero_add, Nat.reduceAdd, Nat.reduceSub, q_addI, q_addS, q_addT, q_addL, q_addR, q_subI, q_mulI, q_mulR, q_mulL, q_mulT, q_divI, q_modI, q_powI, q_neg, q_lt, q_le, q_gt, q_ge, q_eqI, q_neI, q_eqB, q_eqS, q_eqN, q_eqT, q_eqL, q_eqR, q_neB, q_neS, q_neN, q_neT, q_neL, q_neR, q_in, q_notin, q_ixT, q_ixL, q_ixS, q_ixR, q_slT, q_slL, q_slR, q_slS, q_intW, q_blW, q_lenT, q_lenS, q_lenR, q_lenL, q_abs, q_min2, q_max2, q_sumR, q_sumL, q_sumT, q_anyR, q_anyL, q_allR, q_allL, q_listR, q_listL, q_listT, q_tupR, q_tupL, q_tupT, q_tAp, q_tEx, q_tPop, q_tRev, q_tCl, q_mAp, q_mEx, q_sqT, q_sqL, q_sqR, q_lrev, q_mPop, q_mRev, q_mCl, q_isN1, q_isN2, q_isN3, q_isN4, q_isN5, q_isN6, q_isN7, q_ty1, q_ty2, q_ty3, q_ty4, q_ty5, q_ty6, q_ty7, q_ty8, q_ty9, q_ty10, q_ty11, q_ty12, q_ty13, q_ty14, q_ty15, q_ty16, q_ty17, q_ty18, q_ty19, q_ty20, q_ty21, q_ty22, q_ty23, q_ty24, q_ty25, q_ty26, q_itR, q_itT, q_itL, q_rg1, q_rg2, q_rg3, q_enR, q_enL, q_zpR, q_enT, q_zpT, q_tIx, q_tIxR, q_tIn, q_mIx, q_mIxR, q_mIn, q_zpL, q_rvL, q_rvT, q_tgN, q_tgT, q_frS, q_asR, q_lsL, q_lsR, q_pN, q_pV, q_pI, q_pO, q_pG, q_pX, q_pB]
      rw [List.map_append]; rfl
    · refine ⟨s, ⟨by omega, by rw [← i3, waysR_neg c]⟩, rfl, fun W => ?_⟩
      simp -implicitDefEqProofs only [b_law_ways_right_2, gt_iff_lt, c, wS, up_up, exists_eq', Lt.hE, Lt.hA, Lt.hN, Lt.hS, wipeE, Nat.le_add_left, Nat.reduceLeDiff, Lt.wE, wA, wAn, wOr, optW_some, getE, setE, setsE, edOf, startE, new_frz, all_free, frz_non, frz_bl, frz_int, frz_str, frz_tup, frz_lst, wrL_up, rdL_up, era_up, gc_up, atI_0, atI_1, atI_2, List.map_cons, List.map_nil, List.length_cons, List.length_nil, List.length_map, List.replicate, List.cons_append, List.nil_append, List.append_nil, Nat.sub_self, decide_eq_true_eq, decide_eq_false_iff_not, Bool.not_eq_true', Bool.not_eq_true, Bool.not_true, Bool.not_false, not_true_eq_false, not_false_eq_true, if_true, if_false, ite_true, ite_false, true_and, and_true, eq_self, reduceIte, Bool.false_eq_true, gc_self, up_same, Option.some.injEq, reduceCtorEq, List.getElem?_map, Option.map_some, Option.map_none, Nat.zero_add, Nat.reduceAdd, Nat.reduceSub, q_addI, q_addS, q_addT, q_addL, q_addR, q_subI, q_mulI, q_mulR, q_mulL, q_mulT, q_divI, q_modI, q_powI, q_neg, q_lt, q_le, q_gt, q_ge, q_eqI, q_neI, q_eqB, q_eqS, q_eqN, q_eqT, q_eqL, q_eqR, q_neB, q_neS, q_neN, q_neT, q_neL, q_neR, q_in, q_notin, q_ixT, q_ixL, q_ixS, q_ixR, q_slT, q_slL, q_slR, q_slS, q_intW, q_blW, q_lenT, q_lenS, q_lenR, q_lenL, q_abs, q_min2, q_max2, q_sumR, q_sumL, q_sumT, q_anyR, q_anyL, q_allR, q_allL, q_listR, q_listL, q_listT, q_tupR, q_tupL, q_tupT, q_tAp, q_tEx, q_tPop, q_tRev, q_tCl, q_mAp, q_mEx, q_sqT, q_sqL, q_sqR, q_lrev, q_mPop, q_mRev, q_mCl, q_isN1, q_isN2, q_isN3, q_isN4, q_isN5, q_isN6, q_isN7, q_ty1, q_ty2, q_ty3, q_ty4, q_ty5, q_ty6, q_ty7, q_ty8, q_ty9, q_ty10, q_ty11, q_ty12, q_ty13, q_ty14, q_ty15, q_ty16, q_ty17, q_ty18, q_ty19, q_ty20, q_ty21, q_ty22, q_ty23, q_ty24, q_ty25, q_ty26, q_itR, q_itT, q_itL, q_rg1, q_rg2, q_rg3, q_enR, q_enL, q_zpR, q_enT, q_zpT, q_tIx, q_tIxR, q_tIn, q_mIx, q_mIxR, q_mIn, q_zpL, q_rvL, q_rvT, q_tgN, q_tgT, q_frS, q_asR, q_lsL, q_lsR, q_pN, q_pV, q_pI, q_pO, q_pG, q_pX, q_pB]
  · rw [List.length_zipIdx, w.len]; simpa using h9
  · simpa using hW
/-! ### the weights -/
theorem c_law_weights13 {ns : List Int} {k z : Nat} (h1 : 1 ≤ z) (h9 : z ≤ 9) (hk : k ≤ 900) (H : ∀ ws : List Int, Wt z ws → R (.tup (ws.map D.int)) h) (hv : 2 ≤ lv) : callL L G lv "_law_weights" [.lst (ns.map D.int), .int k, .int z] h R Y := by
  obtain ⟨j, rfl⟩ : ∃ j, lv = j + 2 := ⟨lv - 2, by omega⟩
  rw [u_law_weights]
  have bk : B 32 (k : Int) := by unfold B; omega
  have b1 : (-(2 ^ 62) ≤ (z : Int)) = True := eq_true (by omega)
  have b2 : ((z : Int) < 2 ^ 62) = True := eq_true (by omega)
  have b3 : Int.toNat (z : Int) = z := by omega
  have s0 : 0 ≤ sizeLine := by decide
  have w1 : CPow 10 60 := ⟨by decide, by decide, by decide⟩
  have i1 : Int.toNat 60 = 60 := rfl
  have n1 : ¬ ((10 : Int) ^ 60 = 0) := by decide
  have f1 : ∀ x : Int, x.fmod (10 ^ 60) = x % 10 ^ 60 := fun x => fmod_pos (by decide)
  simp -implicitDefEqProofs only [b_law_weights, b1, b2, b3, s0, rngD_0, wS, up_up, exists_eq', Lt.hE, Lt.hA, Lt.hN, Lt.hS, wipeE, Nat.le_add_left, Nat.reduceLeDiff, Lt.wE, wA, wAn, wOr, optW_some, getE, setE, setsE, edOf, startE, new_frz, all_free, frz_non, frz_bl, frz_int, frz_str, frz_tup, frz_lst, wrL_up, rdL_up, era_up, gc_up, atI_0, atI_1, atI_2, List.map_cons, List.map_nil, List.length_cons, List.length_nil, List.length_map, List.replicate, List.cons_append, List.nil_append, List.append_nil, Nat.sub_self, decide_eq_true_eq, decide_eq_false_iff_not, Bool.not_eq_true', Bool.not_eq_true, Bool.not_true, Bool.not_false, not_true_eq_false, not_false_eq_true, if_true, if_false, ite_true, ite_false, true_and, and_true, eq_self, reduceIte, Bool.false_eq_true, gc_self, up_same, Option.some.injEq, reduceCtorEq, List.getElem?_map, Option.map_some, Option.map_none, Nat.zero_add, Nat.reduceAdd, Nat.reduceSub, q_addI, q_addS, q_addT, q_addL, q_addR, q_subI, q_mulI, q_mulR, q_mulL, q_mulT, q_divI, q_modI, q_powI, q_neg, q_lt, q_le, q_gt, q_ge, q_eqI, q_neI, q_eqB, q_eqS, q_eqN, q_eqT, q_eqL, q_eqR, q_neB, q_neS, q_neN, q_neT, q_neL, q_neR, q_in, q_notin, q_ixT, q_ixL, q_ixS, q_ixR, q_slT, q_slL, q_slR, q_slS, q_intW, q_blW, q_lenT, q_lenS, q_lenR, q_lenL, q_abs, q_min2, q_max2, q_sumR, q_sumL, q_sumT, q_anyR, q_anyL, q_allR, q_allL, q_listR, q_listL, q_listT, q_tupR, q_tupL, q_tupT, q_tAp, q_tEx, q_tPop, q_tRev, q_tCl, q_mAp, q_mEx, q_sqT, q_sqL, q_sqR, q_lrev, q_mPop, q_mRev, q_mCl, q_isN1, q_isN2, q_isN3, q_isN4, q_isN5, q_isN6, q_isN7, q_ty1, q_ty2, q_ty3, q_ty4, q_ty5, q_ty6, q_ty7, q_ty8, q_ty9, q_ty10, q_ty11, q_ty12, q_ty13, q_ty14, q_ty15, q_ty16, q_ty17, q_ty18, q_ty19, q_ty20, q_ty21, q_ty22, q_ty23, q_ty24, q_ty25, q_ty26, q_itR, q_itT, q_itL, q_rg1, q_rg2, q_rg3, q_enR, q_enL, q_zpR, q_enT, q_zpT, q_tIx, q_tIxR, q_tIn, q_mIx, q_mIxR, q_mIn, q_zpL, q_rvL, q_rvT, q_tgN, q_tgT, q_frS, q_asR, q_lsL, q_lsR, q_pN, q_pV, q_pI, q_pO, q_pG, q_pX, q_pB]
  intro q hq
  refine fr_go (σ := List Int) (fun s => [some (.lst (ns.map D.int)), some (.int (k : Int)), some (.int (z : Int)), some (.ref q), none, none]) (fun s => up h q (.lst (s.map D.int))) (fun i : Nat => .int (i : Int))
    (fun as s => (∀ i ∈ as, i < 9) ∧ s.length + as.length = z ∧ ∀ w ∈ s, 0 ≤ w ∧ w < 10 ^ 60) (fun s I => ?_) (fun i as s I W hW => ?_) (List.range z) [] ⟨fun i hi => by have := List.mem_range.1 hi; omega, by simp, fun w hw => by cases hw⟩
  · obtain ⟨_, i2, i3⟩ := I
    simp only [List.length_nil, Nat.add_zero] at i2
    have qd := drawF_pos (ns := ns) (k := k) (p := 10177) (m := (z : Int)) (by omega)
    obtain ⟨i, ei⟩ : ∃ i : Nat, drawF ns k 10177 z = i := ⟨(drawF ns k 10177 z).toNat, by omega⟩
    have hi : i < s.length := by omega
    have iN : ixN s.length (i : Int) = some i := ixN_N hi
    have dr1 := fun {lv : Nat} {h : Hh} {R : QD} {Y : XD} (hv : 1 ≤ lv) => c_law_draw (ns := ns) (h := h) (R := R) (Y := Y) (k := (k : Int)) (p := 10177) (m := (z : Int)) bk (by decide) (by omega) hv
    simp -implicitDefEqProofs only [b_law_weights_1, rdL_up, wrL_up, intsD_map, dr1, ei, wS, up_up, exists_eq', Lt.hE, Lt.hA, Lt.hN, Lt.hS, wipeE, Nat.le_add_left, Nat.reduceLeDiff, Lt.wE, wA, wAn, wOr, optW_some, getE, setE, setsE, edOf, startE, new_frz, all_free, frz_non, frz_bl, frz_int, frz_str, frz_tup, frz_lst, wrL_up, rdL_up, era_up, gc_up, atI_0, atI_1, atI_2, List.map_cons, List.map_nil, List.length_cons, List.length_nil, List.length_map, List.replicate, List.cons_append, List.nil_append, List.append_nil, Nat.sub_self, decide_eq_true_eq, decide_eq_false_iff_not, Bool.not_eq_true', Bool.not_eq_true, Bool.not_true, Bool.not_false, not_true_eq_false, not_false_eq_true, if_true, if_false, ite_true, ite_false, true_and, and_true, eq_self, reduceIte, Bool.false_eq_true, gc_self, up_same, Option.some.injEq, reduceCtorEq, List.getElem?_map, Option.map_some, Option.map_none, Nat.zero_add, Nat.reduceAdd, Nat.reduceSub, q_addI, q_addS, q_addT, q_addL, q_addR, q_subI, q_mulI, q_mulR, q_mulL, q_mulT, q_divI, q_modI, q_powI, q_neg, q_lt, q_le, q_gt, q_ge, q_eqI, q_neI, q_eqB, q_eqS, q_eqN, q_eqT, q_eqL, q_eqR, q_neB, q_neS, q_neN, q_neT, q_neL, q_neR, q_in, q_notin, q_ixT, q_ixL, q_ixS, q_ixR, q_slT, q_slL, q_slR, q_slS, q_intW, q_blW, q_lenT, q_lenS, q_lenR, q_lenL, q_abs, q_min2, q_max2, q_sumR, q_sumL, q_sumT, q_anyR, q_anyL, q_allR, q_allL, q_listR, q_listL, q_listT, q_tupR, q_tupL, q_tupT, q_tAp, q_tEx, q_tPop, q_tRev, q_tCl, q_mAp, q_mEx, q_sqT, q_sqL, q_sqR, q_lrev, q_mPop, q_mRev, q_mCl, q_isN1, q_isN2, q_isN3, q_isN4, q_isN5, q_isN6, q_isN7, q_ty1, q_ty2, q_ty3, q_ty4, q_ty5, q_ty6, q_ty7, q_ty8, q_ty9, q_ty10, q_ty11, q_ty12, q_ty13, q_ty14, q_ty15, q_ty16, q_ty17, q_ty18, q_ty19, q_ty20, q_ty21, q_ty22, q_ty23, q_ty24, q_ty25, q_ty26, q_itR, q_itT, q_itL, q_rg1, q_rg2, q_rg3, q_enR, q_enL, q_zpR, q_enT, q_zpT, q_tIx, q_tIxR, q_tIn, q_mIx, q_mIxR, q_mIn, q_zpL, q_rvL, q_rvT, q_tgN, q_tgT, q_frS, q_asR, q_lsL, q_lsR, q_pN, q_pV, q_pI, q_pO, q_pG, q_pX, q_pB]
    by_cases c : s.sum = 0
    · have ms : (s.map D.int).set i (.int 1) = (s.set i 1).map D.int := by rw [List.map_set]
      simp -implicitDefEqProofs only [c, List.length_map, iN, rdL_up, wrL_up, up_up, ms, gc_up hq, gc_self, wS, up_up, exists_eq', Lt.hE, Lt.hA, Lt.hN, Lt.hS, wipeE, Nat.le_add_left, Nat.reduceLeDiff, Lt.wE, wA, wAn, wOr, optW_some, getE, setE, setsE, edOf, startE, new_frz, all_free, frz_non, frz_bl, frz_int, frz_str, frz_tup, frz_lst, wrL_up, rdL_up, era_up, gc_up, atI_0, atI_1, atI_2, List.map_cons, List.map_nil, List.length_cons, List.length_nil, List.length_map, List.replicate, List.cons_append, List.nil_append, List.append_nil, Nat.sub_self, decide_eq_true_eq, decide_eq_false_iff_not, Bool.not_eq_true', Bool.not_eq_true, Bool.not_true, Bool.not_false, not_true_eq_false, not_false_eq_true, if_true, if_false, ite_true, ite_false, true_and, and_true, eq_self, reduceIte, Bool.false_eq_true, gc_self, up_same, Option.some.injEq, reduceCtorEq, List.getElem?_map, Option.map_some, Option.map_none, Nat.zero_add, Nat.reduceAdd, Nat.reduceSub, q_addI, q_addS, q_addT, q_addL, q_addR, q_subI, q_mulI, q_mulR, q_mulL, q_mulT, q_divI, q_modI, q_powI, q_neg, q_lt, q_le, q_gt, q_ge, q_eqI, q_neI, q_eqB, q_eqS, q_eqN, q_eqT, q_eqL, q_eqR, q_neB, q_neS, q_neN, q_neT, q_neL, q_neR, q_in, q_notin, q_ixT, q_ixL, q_ixS, q_ixR, q_slT, q_slL, q_slR, q_slS, q_intW, q_blW, q_lenT, q_lenS, q_lenR, q_lenL, q_abs, q_min2, q_max2, q_sumR, q_sumL, q_sumT, q_anyR, q_anyL, q_allR, q_allL, q_listR, q_listL, q_listT, q_tupR, q_tupL, q_tupT, q_tAp, q_tEx, q_tPop, q_tRev, q_tCl, q_mAp, q_mEx, q_sqT, q_sqL, q_sqR, q_lrev, q_mPop, q_mRev, q_mCl, q_isN1, q_isN2, q_isN3, q_isN4, q_isN5, q_isN6, q_isN7, q_ty1, q_ty2, q_ty3, q_ty4, q_ty5, q_ty6, q_ty7, q_ty8, q_ty9, q_ty10, q_ty11, q_ty12, q_ty13, q_ty14, q_ty15, q_ty16, q_ty17, q_ty18, q_ty19, q_ty20, q_ty21, q_ty22, q_ty23, q_ty24, q_ty25, q_ty26, q_itR, q_itT, q_itL, q_rg1, q_rg2, q_rg3, q_enR, q_enL, q_zpR, q_enT, q_zpT, q_tIx, q_tIxR, q_tIn, q_mIx, q_mIxR, q_mIn, q_zpL, q_rvL, q_rvT, q_tgN, q_tgT, q_frS, q_asR, q_lsL, q_lsR, q_pN, q_pV, q_pI, q_pO, q_pG, q_pX, q_pB]
      refine H _ ⟨by rw [List.length_set]; exact i2, fun w hw => ?_, ?_⟩
      · rcases List.mem_or_eq_of_mem_set hw with e | e
        · exact i3 w e
        · subst e; exact ⟨by decide, by decide⟩
      · have m1 : (1 : Int) ∈ s.set i 1 := List.mem_set hi 1
        have nn : ∀ (l : List Int), (∀ x ∈ l, 0 ≤ x) → ∀ v ∈ l, v ≤ l.sum := by
          intro l
          induction l with
          | nil => intro _ v hv; cases hv
          | cons a r ih =>
            intro hl v hv
            have ge : 0 ≤ r.sum := by
              clear ih hv
              induction r with
              | nil => simp
              | cons b t ih2 =>
                have := ih2 fun x hx => hl x (by rcases List.mem_cons.1 hx with e | e <;> simp [e])
                have := hl b (by simp)
                rw [List.sum_cons]; omega
            rw [List.sum_cons]
            rcases List.mem_cons.1 hv with e | e
            · subst e; omega
            · have := ih (fun x hx => hl x (List.mem_cons_of_mem _ hx)) v e
              have := hl a (by simp); omega
        have := nn (s.set i 1) (fun x hx => by
          rcases List.mem_or_eq_of_mem_set hx with e | e
          · exact (i3 x e).1
          · subst e; decide) 1 m1
        omega
    · have nn2 : ∀ (l : List Int), (∀ x ∈ l, 0 ≤ x) → 0 ≤ l.sum := by
        intro l
        induction l with
        | nil => intro _; simp
        | cons a r ih => intro hl; have := ih fun x hx => hl x (List.mem_cons_of_mem _ hx); have := hl a (by simp); rw [List.sum_cons]; omega
      have := nn2 s fun x hx => (i3 x hx).1
      simp -implicitDefEqProofs only [c, rdL_up, gc_up hq, gc_self, wS, up_up, exists_eq', Lt.hE, Lt.hA, Lt.hN, Lt.hS, wipeE, Nat.le_add_left, Nat.reduceLeDiff, Lt.wE, wA, wAn, wOr, optW_some, getE, setE, setsE, edOf, startE, new_frz, all_free, frz_non, frz_bl, frz_int, frz_str, frz_tup, frz_lst, wrL_up, rdL_up, era_up, gc_up, atI_0, atI_1, atI_2, List.map_cons, List.map_nil, List.length_cons, List.length_nil, List.length_map, List.replicate, List.cons_append, List.nil_append, List.append_nil, Nat.sub_self, decide_eq_true_eq, decide_eq_false_iff_not, Bool.not_eq_true', Bool.not_eq_true, Bool.not_true, Bool.not_false, not_true_eq_false, not_false_eq_true, if_true, if_false, ite_true, ite_false, true_and, and_true, eq_self, reduceIte, Bool.false_eq_true, gc_self, up_same, Option.some.injEq, reduceCtorEq, List.getElem?_map, Option.map_some, Option.map_none, Nat.zero_add, Nat.reduceAdd, Nat.reduceSub, q_addI, q_addS, q_addT, q_addL, q_addR, q_subI, q_mulI, q_mulR, q_mulL, q_mulT, q_divI, q_modI, q_powI, q_neg, q_lt, q_le, q_gt, q_ge, q_eqI, q_neI, q_eqB, q_eqS, q_eqN, q_eqT, q_eqL, q_eqR, q_neB, q_neS, q_neN, q_neT, q_neL, q_neR, q_in, q_notin, q_ixT, q_ixL, q_ixS, q_ixR, q_slT, q_slL, q_slR, q_slS, q_intW, q_blW, q_lenT, q_lenS, q_lenR, q_lenL, q_abs, q_min2, q_max2, q_sumR, q_sumL, q_sumT, q_anyR, q_anyL, q_allR, q_allL, q_listR, q_listL, q_listT, q_tupR, q_tupL, q_tupT, q_tAp, q_tEx, q_tPop, q_tRev, q_tCl, q_mAp, q_mEx, q_sqT, q_sqL, q_sqR, q_lrev, q_mPop, q_mRev, q_mCl, q_isN1, q_isN2, q_isN3, q_isN4, q_isN5, q_isN6, q_isN7, q_ty1, q_ty2, q_ty3, q_ty4, q_ty5, q_ty6, q_ty7, q_ty8, q_ty9, q_ty10, q_ty11, q_ty12, q_ty13, q_ty14, q_ty15, q_ty16, q_ty17, q_ty18, q_ty19, q_ty20, q_ty21, q_ty22, q_ty23, q_ty24, q_ty25, q_ty26, q_itR, q_itT, q_itL, q_rg1, q_rg2, q_rg3, q_enR, q_enL, q_zpR, q_enT, q_zpT, q_tIx, q_tIxR, q_tIn, q_mIx, q_mIxR, q_mIn, q_zpL, q_rvL, q_rvT, q_tgN, q_tgT, q_frS, q_asR, q_lsL, q_lsR, q_pN, q_pV, q_pI, q_pO, q_pG, q_pX, q_pB]
      exact H s ⟨i2, i3, by omega⟩
  · obtain ⟨i1', i2, i3⟩ := I
    rw [List.length_cons] at i2
    have bi : B 32 ((k : Int) + (i : Int)) := by have := i1' i (by simp); unfold B; omega
    have l1 : s.length < sizeLine := by exact Nat.lt_of_le_of_lt (by omega : _ ≤ 9) (by decide)
    have app : ∀ v : Int, s.map D.int ++ [D.int v] = (s ++ [v]).map D.int := fun v => by rw [List.map_append]; rfl
    have fin : ∀ v : Int, 0 ≤ v → v < 10 ^ 60 → W [some (.lst (ns.map D.int)), some (.int (k : Int)), some (.int (z : Int)), some (.ref q), none, none] (up h q (.lst ((s ++ [v]).map D.int))) := fun v h0 h6 =>
      hW (s ++ [v]) ⟨fun x hx => i1' x (by simp [hx]), by rw [List.length_append, List.length_singleton]; omega, fun w hw => by
        rcases List.mem_append.1 hw with e | e
        · exact i3 w e
        · rw [List.mem_singleton] at e; subst e; exact ⟨h0, h6⟩⟩
    have q1 := drawF_pos (ns := ns) (k := (k : Int) + (i : Int)) (p := 10163) (m := 4) (by decide)
    have t60 : (4 : Int) < 10 ^ 60 := by decide
    by_cases e : 0 < ns.length
    · have e1 : (0 : Int) < ns.length := by omega
      have e6 : ¬ (ns.length : Int) = 0 := by omega
      simp -implicitDefEqProofs only [b_law_weights_2, gt_iff_lt, e1, e6, atI_map, idx e, w1, i1, f1, n1, ne_eq, not_false_eq_true, rdL_up, wrL_up, l1, up_up, app, c_law_draw (k := (k : Int) + (i : Int)) (p := 10163) (m := 4) bi (by decide) (by decide), c_law_draw (k := (k : Int) + (i : Int)) (p := 10169) (m := 7) bi (by decide) (by decide), wS, up_up, exists_eq', Lt.hE, Lt.hA, Lt.hN, Lt.hS, wipeE, Nat.le_add_left, Nat.reduceLeDiff, Lt.wE, wA, wAn, wOr, optW_some, getE, setE, setsE, edOf, startE, new_frz, all_free, frz_non, frz_bl, frz_int, frz_str, frz_tup, frz_lst, wrL_up, rdL_up, era_up, gc_up, atI_0, atI_1, atI_2, List.map_cons, List.map_nil, List.length_cons, List.length_nil, List.length_map, List.replicate, List.cons_append, List.nil_append, List.append_nil, Nat.sub_self, decide_eq_true_eq, decide_eq_false_iff_not, Bool.not_eq_true', Bool.not_eq_true, Bool.not_true, Bool.not_false, not_true_eq_false, not_false_eq_true, if_true, if_false, ite_true, ite_false, true_and, and_true, eq_self, reduceIte, Bool.false_eq_true, gc_self, up_same, Option.some.injEq, reduceCtorEq, List.getElem?_map, Option.map_some, Option.map_none, Nat.zero_add, Nat.reduceAdd, Nat.reduceSub, q_addI, q_addS, q_addT, q_addL, q_addR, q_subI, q_mulI, q_mulR, q_mulL, q_mulT, q_divI, q_modI, q_powI, q_neg, q_lt, q_le, q_gt, q_ge, q_eqI, q_neI, q_eqB, q_eqS, q_eqN, q_eqT, q_eqL, q_eqR, q_neB, q_neS, q_neN, q_neT, q_neL, q_neR, q_in, q_notin, q_ixT, q_ixL, q_ixS, q_ixR, q_slT, q_slL, q_slR, q_slS, q_intW, q_blW, q_lenT, q_lenS, q_lenR, q_lenL, q_abs, q_min2, q_max2, q_sumR, q_sumL, q_sumT, q_anyR, q_anyL, q_allR, q_allL, q_listR, q_listL, q_listT, q_tupR, q_tupL, q_tupT, q_tAp, q_tEx, q_tPop, q_tRev, q_tCl, q_mAp, q_mEx, q_sqT, q_sqL, q_sqR, q_lrev, q_mPop, q_mRev, q_mCl, q_isN1, q_isN2, q_isN3, q_isN4, q_isN5, q_isN6, q_isN7, q_ty1, q_ty2, q_ty3, q_ty4, q_ty5, q_ty6, q_ty7, q_ty8, q_ty9, q_ty10, q_ty11, q_ty12, q_ty13, q_ty14, q_ty15, q_ty16, q_ty17, q_ty18, q_ty19, q_ty20, q_ty21, q_ty22, q_ty23, q_ty24, q_ty25, q_ty26, q_itR, q_itT, q_itL, q_rg1, q_rg2, q_rg3, q_enR, q_enL, q_zpR, q_enT, q_zpT, q_tIx, q_tIxR, q_tIn, q_mIx, q_mIxR, q_mIn, q_zpL, q_rvL, q_rvT, q_tgN, q_tgT, q_frS, q_asR, q_lsL, q_lsR, q_pN, q_pV, q_pI, q_pO, q_pG, q_pX, q_pB]
      split
      · exact fin _ (Int.emod_nonneg _ (by decide)) (Int.emod_lt_of_pos _ (by decide))
      · exact fin _ q1.1 (by omega)
    · have e1 : ¬ (0 : Int) < ns.length := by omega
      simp -implicitDefEqProofs only [b_law_weights_2, gt_iff_lt, e1, rdL_up, wrL_up, l1, up_up, app, c_law_draw (k := (k : Int) + (i : Int)) (p := 10163) (m := 4) bi (by decide) (by decide), c_law_draw (k := (k : Int) + (i : Int)) (p := 10169) (m := 7) bi (by decide) (by decide), wS, up_up, exists_eq', Lt.hE, Lt.hA, Lt.hN, Lt.hS, wipeE, Nat.le_add_left, Nat.reduceLeDiff, Lt.wE, wA, wAn, wOr, optW_some, getE, setE, setsE, edOf, startE, new_frz, all_free, frz_non, frz_bl, frz_int, frz_str, frz_tup, frz_lst, wrL_up, rdL_up, era_up, gc_up, atI_0, atI_1, atI_2, List.map_cons, List.map_nil, List.length_cons, List.length_nil, List.length_map, List.replicate, List.cons_append, List.nil_append, List.append_nil, Nat.sub_self, decide_eq_true_eq, decide_eq_false_iff_not, Bool.not_eq_true', Bool.not_eq_true, Bool.not_true, Bool.not_false, not_true_eq_false, not_false_eq_true, if_true, if_false, ite_true, ite_false, true_and, and_true, eq_self, reduceIte, Bool.false_eq_true, gc_self, up_same, Option.some.injEq, reduceCtorEq, List.getElem?_map, Option.map_some, Option.map_none, Nat.zero_add, Nat.reduceAdd, Nat.reduceSub, q_addI, q_addS, q_addT, q_addL, q_addR, q_subI, q_mulI, q_mulR, q_mulL, q_mulT, q_divI, q_modI, q_powI, q_neg, q_lt, q_le, q_gt, q_ge, q_eqI, q_neI, q_eqB, q_eqS, q_eqN, q_eqT, q_eqL, q_eqR, q_neB, q_neS, q_neN, q_neT, q_neL, q_neR, q_in, q_notin, q_ixT, q_ixL, q_ixS, q_ixR, q_slT, q_slL, q_slR, q_slS, q_intW, q_blW, q_lenT, q_lenS, q_lenR, q_lenL, q_abs, q_min2, q_max2, q_sumR, q_sumL, q_sumT, q_anyR, q_anyL, q_allR, q_allL, q_listR, q_listL, q_listT, q_tupR, q_tupL, q_tupT, q_tAp, q_tEx, q_tPop, q_tRev, q_tCl, q_mAp, q_mEx, q_sqT, q_sqL, q_sqR, q_lrev, q_mPop, q_mRev, q_mCl, q_isN1, q_isN2, q_isN3, q_isN4, q_isN5, q_isN6, q_isN7, q_ty1, q_ty2, q_ty3, q_ty4, q_ty5, q_ty6, q_ty7, q_ty8, q_ty9, q_ty10, q_ty11, q_ty12, q_ty13, q_ty14, q_ty15, q_ty16, q_ty17, q_ty18, q_ty19, q_ty20, q_ty21, q_ty22, q_ty23, q_ty24, q_ty25, q_ty26, q_itR, q_itT, q_itL, q_rg1, q_rg2, q_rg3, q_enR, q_enL, q_zpR, q_enT, q_zpT, q_tIx, q_tIxR, q_tIn, q_mIx, q_mIxR, q_mIn, q_zpL, q_rvL, q_rvT, q_tgN, q_tgT, q_frS, q_asR, q_lsL, q_lsR, q_pN, q_pV, q_pI, q_pO, q_pG, q_pX, q_pB]
      split <;> exact fin _ q1.1 (by omega)
end
theorem LAW (ns : List Int) (hl : ns.length ≤ 63) : callL L G 60 "law" [.lst (ns.map D.int)] emp (fun d _ => d = .bl true) (fun _ _ => False) := by
  rw [show (60 : Nat) = 59 + 1 from rfl, u_law]
  have q := drawF_pos (ns := ns) (k := 7) (p := 10093) (m := 9) (by decide)
  obtain ⟨c, ec⟩ : ∃ c : Nat, drawF ns 7 10093 9 = c := ⟨(drawF ns 7 10093 9).toNat, by omega⟩
  simp -implicitDefEqProofs only [b_law, c_law_draw (k := 7) (p := 10093) (m := 9) (by decide) (by decide) (by decide), ec, wS, up_up, exists_eq', Lt.hE, Lt.hA, Lt.hN, Lt.hS, wipeE, Nat.le_add_left, Nat.reduceLeDiff, Lt.wE, wA, wAn, wOr, optW_some, getE, setE, setsE, edOf, startE, new_frz, all_free, frz_non, frz_bl, frz_int, frz_str, frz_tup, frz_lst, wrL_up, rdL_up, era_up, gc_up, atI_0, atI_1, atI_2, List.map_cons, List.map_nil, List.length_cons, List.length_nil, List.length_map, List.replicate, List.cons_append, List.nil_append, List.append_nil, Nat.sub_self, decide_eq_true_eq, decide_eq_false_iff_not, Bool.not_eq_true', Bool.not_eq_true, Bool.not_true, Bool.not_false, not_true_eq_false, not_false_eq_true, if_true, if_false, ite_true, ite_false, true_and, and_true, eq_self, reduceIte, Bool.false_eq_true, gc_self, up_same, Option.some.injEq, reduceCtorEq, List.getElem?_map, Option.map_some, Option.map_none, Nat.zero_add, Nat.reduceAdd, Nat.reduceSub, q_addI, q_addS, q_addT, q_addL, q_addR, q_subI, q_mulI, q_mulR, q_mulL, q_mulT, q_divI, q_modI, q_powI, q_neg, q_lt, q_le, q_gt, q_ge, q_eqI, q_neI, q_eqB, q_eqS, q_eqN, q_eqT, q_eqL, q_eqR, q_neB, q_neS, q_neN, q_neT, q_neL, q_neR, q_in, q_notin, q_ixT, q_ixL, q_ixS, q_ixR, q_slT, q_slL, q_slR, q_slS, q_intW, q_blW, q_lenT, q_lenS, q_lenR, q_lenL, q_abs, q_min2, q_max2, q_sumR, q_sumL, q_sumT, q_anyR, q_anyL, q_allR, q_allL, q_listR, q_listL, q_listT, q_tupR, q_tupL, q_tupT, q_tAp, q_tEx, q_tPop, q_tRev, q_tCl, q_mAp, q_mEx, q_sqT, q_sqL, q_sqR, q_lrev, q_mPop, q_mRev, q_mCl, q_isN1, q_isN2, q_isN3, q_isN4, q_isN5, q_isN6, q_isN7, q_ty1, q_ty2, q_ty3, q_ty4, q_ty5, q_ty6, q_ty7, q_ty8, q_ty9, q_ty10, q_ty11, q_ty12, q_ty13, q_ty14, q_ty15, q_ty16, q_ty17, q_ty18, q_ty19, q_ty20, q_ty21, q_ty22, q_ty23, q_ty24, q_ty25, q_ty26, q_itR, q_itT, q_itL, q_rg1, q_rg2, q_rg3, q_enR, q_enL, q_zpR, q_enT, q_zpT, q_tIx, q_tIxR, q_tIn, q_mIx, q_mIxR, q_mIn, q_zpL, q_rvL, q_rvT, q_tgN, q_tgT, q_frS, q_asR, q_lsL, q_lsR, q_pN, q_pV, q_pI, q_pO, q_pG, q_pX, q_pB]
  rw [show (1 : Int) + (c : Int) = ((1 + c : Nat) : Int) by omega]
  refine c_law_boxes (lv := 59) (c := 1 + c) (most := 1000) (by omega) (by decide) (by decide) (fun bs hb hbl => ?_) (by decide)
  refine c_law_state (lv := 59) (k := 8) hb (by decide) (fun σ hs => ?_) (by decide)
  have em : (if (if (ns.length : Int) > 1 then (ns.length : Int) else 1) < 60 then (if (ns.length : Int) > 1 then (ns.length : Int) else 1) else 60) = _ := minmax_if (n := ns.length) (k := 60)
  have b1 : (-(2 ^ 62) ≤ ((min 60 (max 1 ns.length) : Nat) : Int)) = True := eq_true (by omega)
  have b2 : (((min 60 (max 1 ns.length) : Nat) : Int) < 2 ^ 62) = True := eq_true (by omega)
  have b3 : Int.toNat ((min 60 (max 1 ns.length) : Nat) : Int) = min 60 (max 1 ns.length) := by omega
  simp -implicitDefEqProofs only [em, b1, b2, b3, rngD_0, wS, up_up, exists_eq', Lt.hE, Lt.hA, Lt.hN, Lt.hS, wipeE, Nat.le_add_left, Nat.reduceLeDiff, Lt.wE, wA, wAn, wOr, optW_some, getE, setE, setsE, edOf, startE, new_frz, all_free, frz_non, frz_bl, frz_int, frz_str, frz_tup, frz_lst, wrL_up, rdL_up, era_up, gc_up, atI_0, atI_1, atI_2, List.map_cons, List.map_nil, List.length_cons, List.length_nil, List.length_map, List.replicate, List.cons_append, List.nil_append, List.append_nil, Nat.sub_self, decide_eq_true_eq, decide_eq_false_iff_not, Bool.not_eq_true', Bool.not_eq_true, Bool.not_true, Bool.not_false, not_true_eq_false, not_false_eq_true, if_true, if_false, ite_true, ite_false, true_and, and_true, eq_self, reduceIte, Bool.false_eq_true, gc_self, up_same, Option.some.injEq, reduceCtorEq, List.getElem?_map, Option.map_some, Option.map_none, Nat.zero_add, Nat.reduceAdd, Nat.reduceSub, q_addI, q_addS, q_addT, q_addL, q_addR, q_subI, q_mulI, q_mulR, q_mulL, q_mulT, q_divI, q_modI, q_powI, q_neg, q_lt, q_le, q_gt, q_ge, q_eqI, q_neI, q_eqB, q_eqS, q_eqN, q_eqT, q_eqL, q_eqR, q_neB, q_neS, q_neN, q_neT, q_neL, q_neR, q_in, q_notin, q_ixT, q_ixL, q_ixS, q_ixR, q_slT, q_slL, q_slR, q_slS, q_intW, q_blW, q_lenT, q_lenS, q_lenR, q_lenL, q_abs, q_min2, q_max2, q_sumR, q_sumL, q_sumT, q_anyR, q_anyL, q_allR, q_allL, q_listR, q_listL, q_listT, q_tupR, q_tupL, q_tupT, q_tAp, q_tEx, q_tPop, q_tRev, q_tCl, q_mAp, q_mEx, q_sqT, q_sqL, q_sqR, q_lrev, q_mPop, q_mRev, q_mCl, q_isN1, q_isN2, q_isN3, q_isN4, q_isN5, q_isN6, q_isN7, q_ty1, q_ty2, q_ty3, q_ty4, q_ty5, q_ty6, q_ty7, q_ty8, q_ty9, q_ty10, q_ty11, q_ty12, q_ty13, q_ty14, q_ty15, q_ty16, q_ty17, q_ty18, q_ty19, q_ty20, q_ty21, q_ty22, q_ty23, q_ty24, q_ty25, q_ty26, q_itR, q_itT, q_itL, q_rg1, q_rg2, q_rg3, q_enR, q_enL, q_zpR, q_enT, q_zpT, q_tIx, q_tIxR, q_tIn, q_mIx, q_mIxR, q_mIn, q_zpL, q_rvL, q_rvT, q_tgN, q_tgT, q_frS, q_asR, q_lsL, q_lsR, q_pN, q_pV, q_pI, q_pO, q_pG, q_pX, q_pB]
  refine fr_go (σ := List Int) (fun σ => [some (.lst (ns.map D.int)), some (.tup (bs.map boxD)), some (stD σ), none, none, none, none, none, none]) (fun _ => emp) (fun i : Nat => .int (i : Int)) (fun as σ => StOk bs σ ∧ ∀ k ∈ as, k < 60) (fun s _ => ?_) (fun k as σ I W hW => ?_) _ σ ⟨hs, fun k hk => by have := List.mem_range.1 hk; omega⟩
  · simp -implicitDefEqProofs only [b_law_1, wS, up_up, exists_eq', Lt.hE, Lt.hA, Lt.hN, Lt.hS, wipeE, Nat.le_add_left, Nat.reduceLeDiff, Lt.wE, wA, wAn, wOr, optW_some, getE, setE, setsE, edOf, startE, new_frz, all_free, frz_non, frz_bl, frz_int, frz_str, frz_tup, frz_lst, wrL_up, rdL_up, era_up, gc_up, atI_0, atI_1, atI_2, List.map_cons, List.map_nil, List.length_cons, List.length_nil, List.length_map, List.replicate, List.cons_append, List.nil_append, List.append_nil, Nat.sub_self, decide_eq_true_eq, decide_eq_false_iff_not, Bool.not_eq_true', Bool.not_eq_true, Bool.not_true, Bool.not_false, not_true_eq_false, not_false_eq_true, if_true, if_false, ite_true, ite_false, true_and, and_true, eq_self, reduceIte, Bool.false_eq_true, gc_self, up_same, Option.some.injEq, reduceCtorEq, List.getElem?_map, Option.map_some, Option.map_none, Nat.zero_add, Nat.reduceAdd, Nat.reduceSub, q_addI, q_addS, q_addT, q_addL, q_addR, q_subI, q_mulI, q_mulR, q_mulL, q_mulT, q_divI, q_modI, q_powI, q_neg, q_lt, q_le, q_gt, q_ge, q_eqI, q_neI, q_eqB, q_eqS, q_eqN, q_eqT, q_eqL, q_eqR, q_neB, q_neS, q_neN, q_neT, q_neL, q_neR, q_in, q_notin, q_ixT, q_ixL, q_ixS, q_ixR, q_slT, q_slL, q_slR, q_slS, q_intW, q_blW, q_lenT, q_lenS, q_lenR, q_lenL, q_abs, q_min2, q_max2, q_sumR, q_sumL, q_sumT, q_anyR, q_anyL, q_allR, q_allL, q_listR, q_listL, q_listT, q_tupR, q_tupL, q_tupT, q_tAp, q_tEx, q_tPop, q_tRev, q_tCl, q_mAp, q_mEx, q_sqT, q_sqL, q_sqR, q_lrev, q_mPop, q_mRev, q_mCl, q_isN1, q_isN2, q_isN3, q_isN4, q_isN5, q_isN6, q_isN7, q_ty1, q_ty2, q_ty3, q_ty4, q_ty5, q_ty6, q_ty7, q_ty8, q_ty9, q_ty10, q_ty11, q_ty12, q_ty13, q_ty14, q_ty15, q_ty16, q_ty17, q_ty18, q_ty19, q_ty20, q_ty21, q_ty22, q_ty23, q_ty24, q_ty25, q_ty26, q_itR, q_itT, q_itL, q_rg1, q_rg2, q_rg3, q_enR, q_enL, q_zpR, q_enT, q_zpT, q_tIx, q_tIxR, q_tIn, q_mIx, q_mIxR, q_mIn, q_zpL, q_rvL, q_rvT, q_tgN, q_tgT, q_frS, q_asR, q_lsL, q_lsR, q_pN, q_pV, q_pI, q_pO, q_pG, q_pX, q_pB]
  · obtain ⟨hs, hk⟩ := I
    have hk60 := hk k (by simp)
    have bk : B 32 (k : Int) := by unfold B; omega
    have L1 : 1 ≤ bs.length := by omega
    have qa := drawF_pos (ns := ns) (k := (k : Int)) (p := 10181) (m := (bs.length : Int)) (by omega)
    obtain ⟨a, ea⟩ : ∃ a : Nat, drawF ns k 10181 bs.length = a := ⟨(drawF ns k 10181 bs.length).toNat, by omega⟩
    have ha : a < bs.length := by omega
    have n9 := hb.n
    obtain ⟨b, eb⟩ : ∃ b, bs[a]? = some b := ⟨bs[a], List.getElem?_eq_getElem ha⟩
    have hbm := List.mem_of_getElem? eb
    obtain ⟨z, ez⟩ : ∃ z : Nat, b.2 = z := ⟨b.2.toNat, by have := hb.sz b hbm; omega⟩
    have zz := hb.sz b hbm
    have fi : bs.findIdx? (fun x => decide (x.1 = b.1)) = some a := by
      rw [List.findIdx?_eq_some_iff_getElem]
      refine ⟨ha, ?_, fun j hj => ?_⟩
      · rw [List.getElem?_eq_getElem ha] at eb; cases eb; simp
      · simp only [decide_eq_true_eq]
        intro e
        have e1 : (bs.map (·.1))[j]? = some b.1 := by rw [List.getElem?_map, List.getElem?_eq_getElem (by omega : j < bs.length)]; simp [e]
        have e2 : (bs.map (·.1))[a]? = some b.1 := by rw [List.getElem?_map, eb]; rfl
        have := (List.getElem?_inj (by rw [List.length_map]; omega) hb.nd).1 (e1.trans e2.symm)
        omega
    have a1 : atI (bs.map boxD) (a : Int) = some (boxD b) := by rw [atI_N, List.getElem?_map, eb]; rfl
    -- the next box
    have m1 : ((a : Int) + 1).fmod (bs.length : Int) = (((a + 1) % bs.length : Nat) : Int) := by rw [fmod_pos (by omega), Int.natCast_emod]; rfl
    have hn : (a + 1) % bs.length < bs.length := Nat.mod_lt _ (by omega)
    generalize hN : (a + 1) % bs.length = n at m1 hn
    obtain ⟨b', eb'⟩ : ∃ b, bs[n]? = some b := ⟨bs[n], List.getElem?_eq_getElem hn⟩
    have a2 : atI (bs.map boxD) (n : Int) = some (boxD b') := by rw [atI_N, List.getElem?_map, eb']; rfl
    have zb' := hb.sz b' (List.mem_of_getElem? eb')
    have n0 : ¬ ((bs.length : Nat) : Int) = 0 := by omega
    have qv := drawF_pos (ns := ns) (k := (k : Int)) (p := 10193) (m := b'.2) (by omega)
    have sl := hs.len
    have hs2 : StOk bs (σ.set n (drawF ns k 10193 b'.2)) := ⟨by rw [List.length_set]; exact sl, fun x hx => by
      obtain ⟨i, hi, e⟩ := List.getElem_of_mem hx
      have hi1 : i < bs.length := by rw [List.length_zip] at hi; omega
      have hi2 : i < σ.length := by omega
      rw [← e, List.getElem_zip, List.getElem_set]
      by_cases c : n = i
      · subst c
        rw [if_pos rfl]
        rw [List.getElem?_eq_getElem hi1] at eb'; cases eb'
        exact qv
      · rw [if_neg c]
        exact hs.v (bs[i], σ[i]) (List.mem_iff_getElem.2 ⟨i, by rw [List.length_zip]; omega, by rw [List.getElem_zip]⟩)⟩
    generalize hσ : σ.set n (drawF ns k 10193 b'.2) = σ2 at hs2
    have dig : ∀ {τ : List Int}, StOk bs τ → ∀ i ∈ τ, 0 ≤ i ∧ i < 10 := fun {τ} h i hi => by
      obtain ⟨j, hj, e⟩ := List.getElem_of_mem hi
      have hl := h.len
      have hj1 : j < bs.length := by omega
      have := h.v (bs[j], τ[j]) (List.mem_iff_getElem.2 ⟨j, by rw [List.length_zip]; omega, by rw [List.getElem_zip]⟩)
      have := hb.sz bs[j] (List.getElem_mem hj1)
      simp only at *
      omega
    have s9 : σ.length ≤ 9 := by omega
    have s92 : σ2.length ≤ 9 := by have := hs2.len; omega
    have pl : Pl bs σ2 b.1 a z := ⟨n9, hs2.len, fi, by rw [eb, ← ez]; rfl, by omega, by omega⟩
    simp -implicitDefEqProofs only [b_law_2, c_law_draw (k := (k : Int)) (p := 10181) (m := (bs.length : Int)) bk (by decide) (by omega), ea, a1, wS, up_up, exists_eq', Lt.hE, Lt.hA, Lt.hN, Lt.hS, wipeE, Nat.le_add_left, Nat.reduceLeDiff, Lt.wE, wA, wAn, wOr, optW_some, getE, setE, setsE, edOf, startE, new_frz, all_free, frz_non, frz_bl, frz_int, frz_str, frz_tup, frz_lst, wrL_up, rdL_up, era_up, gc_up, atI_0, atI_1, atI_2, List.map_cons, List.map_nil, List.length_cons, List.length_nil, List.length_map, List.replicate, List.cons_append, List.nil_append, List.append_nil, Nat.sub_self, decide_eq_true_eq, decide_eq_false_iff_not, Bool.not_eq_true', Bool.not_eq_true, Bool.not_true, Bool.not_false, not_true_eq_false, not_false_eq_true, if_true, if_false, ite_true, ite_false, true_and, and_true, eq_self, reduceIte, Bool.false_eq_true, gc_self, up_same, Option.some.injEq, reduceCtorEq, List.getElem?_map, Option.map_some, Option.map_none, Nat.zero_add, Nat.reduceAdd, Nat.reduceSub, q_addI, q_addS, q_addT, q_addL, q_addR, q_subI, q_mulI, q_mulR, q_mulL, q_mulT, q_divI, q_modI, q_powI, q_neg, q_lt, q_le, q_gt, q_ge, q_eqI, q_neI, q_eqB, q_eqS, q_eqN, q_eqT, q_eqL, q_eqR, q_neB, q_neS, q_neN, q_neT, q_neL, q_neR, q_in, q_notin, q_ixT, q_ixL, q_ixS, q_ixR, q_slT, q_slL, q_slR, q_slS, q_intW, q_blW, q_lenT, q_lenS, q_lenR, q_lenL, q_abs, q_min2, q_max2, q_sumR, q_sumL, q_sumT, q_anyR, q_anyL, q_allR, q_allL, q_listR, q_listL, q_listT, q_tupR, q_tupL, q_tupT, q_tAp, q_tEx, q_tPop, q_tRev, q_tCl, q_mAp, q_mEx, q_sqT, q_sqL, q_sqR, q_lrev, q_mPop, q_mRev, q_mCl, q_isN1, q_isN2, q_isN3, q_isN4, q_isN5, q_isN6, q_isN7, q_ty1, q_ty2, q_ty3, q_ty4, q_ty5, q_ty6, q_ty7, q_ty8, q_ty9, q_ty10, q_ty11, q_ty12, q_ty13, q_ty14, q_ty15, q_ty16, q_ty17, q_ty18, q_ty19, q_ty20, q_ty21, q_ty22, q_ty23, q_ty24, q_ty25, q_ty26, q_itR, q_itT, q_itL, q_rg1, q_rg2, q_rg3, q_enR, q_enL, q_zpR, q_enT, q_zpT, q_tIx, q_tIxR, q_tIn, q_mIx, q_mIxR, q_mIn, q_zpL, q_rvL, q_rvT, q_tgN, q_tgT, q_frS, q_asR, q_lsL, q_lsR, q_pN, q_pV, q_pI, q_pO, q_pG, q_pX, q_pB]
    refine c_law_number (lv := 59) (k := k) (by omega) (fun v hv => ?_) (by decide)
    have zc : ¬ (z : Int) = 0 := by omega
    have fz : v.fmod (z : Int) = v % (z : Int) := fmod_pos (by omega)
    have mv := Int.emod_nonneg v (b := (z : Int)) zc
    have mv2 := Int.emod_lt_of_pos v (b := (z : Int)) (by omega)
    have d2 : ∀ i ∈ σ2.set a (v % (z : Int)), 0 ≤ i ∧ i < 10 := fun i hi => by
      rcases List.mem_or_eq_of_mem_set hi with e | e
      · exact dig hs2 i e
      · subst e; omega
    have r1 := fun {h : Hh} {Q : QD} => rpr_st (h := h) (Q := Q) (σ := σ2.set a (v % (z : Int))) (by rw [List.length_set]; exact s92) d2
    have go := hW σ2 ⟨hs2, fun i hi => hk i (by simp [hi])⟩
    simp -implicitDefEqProofs only [n0, m1, a2, ne_eq, not_false_eq_true, c_law_draw (k := (k : Int)) (p := 10193) (m := b'.2) bk (by decide) (by omega), c_law_put13 s9, hσ, ez, c_put13 pl, c_law_put13 s92, zc, fz, r1, not_true_eq_false, wS, up_up, exists_eq', Lt.hE, Lt.hA, Lt.hN, Lt.hS, wipeE, Nat.le_add_left, Nat.reduceLeDiff, Lt.wE, wA, wAn, wOr, optW_some, getE, setE, setsE, edOf, startE, new_frz, all_free, frz_non, frz_bl, frz_int, frz_str, frz_tup, frz_lst, wrL_up, rdL_up, era_up, gc_up, atI_0, atI_1, atI_2, List.map_cons, List.map_nil, List.length_cons, List.length_nil, List.length_map, List.replicate, List.cons_append, List.nil_append, List.append_nil, Nat.sub_self, decide_eq_true_eq, decide_eq_false_iff_not, Bool.not_eq_true', Bool.not_eq_true, Bool.not_true, Bool.not_false, not_true_eq_false, not_false_eq_true, if_true, if_false, ite_true, ite_false, true_and, and_true, eq_self, reduceIte, Bool.false_eq_true, gc_self, up_same, Option.some.injEq, reduceCtorEq, List.getElem?_map, Option.map_some, Option.map_none, Nat.zero_add, Nat.reduceAdd, Nat.reduceSub, q_addI, q_addS, q_addT, q_addL, q_addR, q_subI, q_mulI, q_mulR, q_mulL, q_mulT, q_divI, q_modI, q_powI, q_neg, q_lt, q_le, q_gt, q_ge, q_eqI, q_neI, q_eqB, q_eqS, q_eqN, q_eqT, q_eqL, q_eqR, q_neB, q_neS, q_neN, q_neT, q_neL, q_neR, q_in, q_notin, q_ixT, q_ixL, q_ixS, q_ixR, q_slT, q_slL, q_slR, q_slS, q_intW, q_blW, q_lenT, q_lenS, q_lenR, q_lenL, q_abs, q_min2, q_max2, q_sumR, q_sumL, q_sumT, q_anyR, q_anyL, q_allR, q_allL, q_listR, q_listL, q_listT, q_tupR, q_tupL, q_tupT, q_tAp, q_tEx, q_tPop, q_tRev, q_tCl, q_mAp, q_mEx, q_sqT, q_sqL, q_sqR, q_lrev, q_mPop, q_mRev, q_mCl, q_isN1, q_isN2, q_isN3, q_isN4, q_isN5, q_isN6, q_isN7, q_ty1, q_ty2, q_ty3, q_ty4, q_ty5, q_ty6, q_ty7, q_ty8, q_ty9, q_ty10, q_ty11, q_ty12, q_ty13, q_ty14, q_ty15, q_ty16, q_ty17, q_ty18, q_ty19, q_ty20, q_ty21, q_ty22, q_ty23, q_ty24, q_ty25, q_ty26, q_itR, q_itT, q_itL, q_rg1, q_rg2, q_rg3, q_enR, q_enL, q_zpR, q_enT, q_zpT, q_tIx, q_tIxR, q_tIn, q_mIx, q_mIxR, q_mIn, q_zpL, q_rvL, q_rvT, q_tgN, q_tgT, q_frS, q_asR, q_lsL, q_lsR, q_pN, q_pV, q_pI, q_pO, q_pG, q_pX, q_pB]
    have m8 : ¬ (8 : Int) = 0 := by decide
    have f8 : (k : Int).fmod 8 = (k : Int) % 8 := fmod_pos (by decide)
    simp -implicitDefEqProofs only [m8, f8, ne_eq, not_false_eq_true, wS, up_up, exists_eq', Lt.hE, Lt.hA, Lt.hN, Lt.hS, wipeE, Nat.le_add_left, Nat.reduceLeDiff, Lt.wE, wA, wAn, wOr, optW_some, getE, setE, setsE, edOf, startE, new_frz, all_free, frz_non, frz_bl, frz_int, frz_str, frz_tup, frz_lst, wrL_up, rdL_up, era_up, gc_up, atI_0, atI_1, atI_2, List.map_cons, List.map_nil, List.length_cons, List.length_nil, List.length_map, List.replicate, List.cons_append, List.nil_append, List.append_nil, Nat.sub_self, decide_eq_true_eq, decide_eq_false_iff_not, Bool.not_eq_true', Bool.not_eq_true, Bool.not_true, Bool.not_false, not_true_eq_false, not_false_eq_true, if_true, if_false, ite_true, ite_false, true_and, and_true, eq_self, reduceIte, Bool.false_eq_true, gc_self, up_same, Option.some.injEq, reduceCtorEq, List.getElem?_map, Option.map_some, Option.map_none, Nat.zero_add, Nat.reduceAdd, Nat.reduceSub, q_addI, q_addS, q_addT, q_addL, q_addR, q_subI, q_mulI, q_mulR, q_mulL, q_mulT, q_divI, q_modI, q_powI, q_neg, q_lt, q_le, q_gt, q_ge, q_eqI, q_neI, q_eqB, q_eqS, q_eqN, q_eqT, q_eqL, q_eqR, q_neB, q_neS, q_neN, q_neT, q_neL, q_neR, q_in, q_notin, q_ixT, q_ixL, q_ixS, q_ixR, q_slT, q_slL, q_slR, q_slS, q_intW, q_blW, q_lenT, q_lenS, q_lenR, q_lenL, q_abs, q_min2, q_max2, q_sumR, q_sumL, q_sumT, q_anyR, q_anyL, q_allR, q_allL, q_listR, q_listL, q_listT, q_tupR, q_tupL, q_tupT, q_tAp, q_tEx, q_tPop, q_tRev, q_tCl, q_mAp, q_mEx, q_sqT, q_sqL, q_sqR, q_lrev, q_mPop, q_mRev, q_mCl, q_isN1, q_isN2, q_isN3, q_isN4, q_isN5, q_isN6, q_isN7, q_ty1, q_ty2, q_ty3, q_ty4, q_ty5, q_ty6, q_ty7, q_ty8, q_ty9, q_ty10, q_ty11, q_ty12, q_ty13, q_ty14, q_ty15, q_ty16, q_ty17, q_ty18, q_ty19, q_ty20, q_ty21, q_ty22, q_ty23, q_ty24, q_ty25, q_ty26, q_itR, q_itT, q_itL, q_rg1, q_rg2, q_rg3, q_enR, q_enL, q_zpR, q_enT, q_zpT, q_tIx, q_tIxR, q_tIn, q_mIx, q_mIxR, q_mIn, q_zpL, q_rvL, q_rvT, q_tgN, q_tgT, q_frS, q_asR, q_lsL, q_lsR, q_pN, q_pV, q_pI, q_pO, q_pG, q_pX, q_pB]
    by_cases c8 : (k : Int) % 8 = 0
    · simp -implicitDefEqProofs only [c8, wS, up_up, exists_eq', Lt.hE, Lt.hA, Lt.hN, Lt.hS, wipeE, Nat.le_add_left, Nat.reduceLeDiff, Lt.wE, wA, wAn, wOr, optW_some, getE, setE, setsE, edOf, startE, new_frz, all_free, frz_non, frz_bl, frz_int, frz_str, frz_tup, frz_lst, wrL_up, rdL_up, era_up, gc_up, atI_0, atI_1, atI_2, List.map_cons, List.map_nil, List.length_cons, List.length_nil, List.length_map, List.replicate, List.cons_append, List.nil_append, List.append_nil, Nat.sub_self, decide_eq_true_eq, decide_eq_false_iff_not, Bool.not_eq_true', Bool.not_eq_true, Bool.not_true, Bool.not_false, not_true_eq_false, not_false_eq_true, if_true, if_false, ite_true, ite_false, true_and, and_true, eq_self, reduceIte, Bool.false_eq_true, gc_self, up_same, Option.some.injEq, reduceCtorEq, List.getElem?_map, Option.map_some, Option.map_none, Nat.zero_add, Nat.reduceAdd, Nat.reduceSub, q_addI, q_addS, q_addT, q_addL, q_addR, q_subI, q_mulI, q_mulR, q_mulL, q_mulT, q_divI, q_modI, q_powI, q_neg, q_lt, q_le, q_gt, q_ge, q_eqI, q_neI, q_eqB, q_eqS, q_eqN, q_eqT, q_eqL, q_eqR, q_neB, q_neS, q_neN, q_neT, q_neL, q_neR, q_in, q_notin, q_ixT, q_ixL, q_ixS, q_ixR, q_slT, q_slL, q_slR, q_slS, q_intW, q_blW, q_lenT, q_lenS, q_lenR, q_lenL, q_abs, q_min2, q_max2, q_sumR, q_sumL, q_sumT, q_anyR, q_anyL, q_allR, q_allL, q_listR, q_listL, q_listT, q_tupR, q_tupL, q_tupT, q_tAp, q_tEx, q_tPop, q_tRev, q_tCl, q_mAp, q_mEx, q_sqT, q_sqL, q_sqR, q_lrev, q_mPop, q_mRev, q_mCl, q_isN1, q_isN2, q_isN3, q_isN4, q_isN5, q_isN6, q_isN7, q_ty1, q_ty2, q_ty3, q_ty4, q_ty5, q_ty6, q_ty7, q_ty8, q_ty9, q_ty10, q_ty11, q_ty12, q_ty13, q_ty14, q_ty15, q_ty16, q_ty17, q_ty18, q_ty19, q_ty20, q_ty21, q_ty22, q_ty23, q_ty24, q_ty25, q_ty26, q_itR, q_itT, q_itL, q_rg1, q_rg2, q_rg3, q_enR, q_enL, q_zpR, q_enT, q_zpT, q_tIx, q_tIxR, q_tIn, q_mIx, q_mIxR, q_mIn, q_zpL, q_rvL, q_rvT, q_tgN, q_tgT, q_frS, q_asR, q_lsL, q_lsR, q_pN, q_pV, q_pI, q_pO, q_pG, q_pX, q_pB]
      refine c_law_weights13 (lv := 59) (z := z) (by omega) (by omega) (by omega) (fun ws hw => ?_) (by decide)
      simp -implicitDefEqProofs only [c_drawn pl hw, c_ways_right hw (by omega : z ≤ 9) s92 (dig hs2), wS, up_up, exists_eq', Lt.hE, Lt.hA, Lt.hN, Lt.hS, wipeE, Nat.le_add_left, Nat.reduceLeDiff, Lt.wE, wA, wAn, wOr, optW_some, getE, setE, setsE, edOf, startE, new_frz, all_free, frz_non, frz_bl, frz_int, frz_str, frz_tup, frz_lst, wrL_up, rdL_up, era_up, gc_up, atI_0, atI_1, atI_2, List.map_cons, List.map_nil, List.length_cons, List.length_nil, List.length_map, List.replicate, List.cons_append, List.nil_append, List.append_nil, Nat.sub_self, decide_eq_true_eq, decide_eq_false_iff_not, Bool.not_eq_true', Bool.not_eq_true, Bool.not_true, Bool.not_false, not_true_eq_false, not_false_eq_true, if_true, if_false, ite_true, ite_false, true_and, and_true, eq_self, reduceIte, Bool.false_eq_true, gc_self, up_same, Option.some.injEq, reduceCtorEq, List.getElem?_map, Option.map_some, Option.map_none, Nat.zero_add, Nat.reduceAdd, Nat.reduceSub, q_addI, q_addS, q_addT, q_addL, q_addR, q_subI, q_mulI, q_mulR, q_mulL, q_mulT, q_divI, q_modI, q_powI, q_neg, q_lt, q_le, q_gt, q_ge, q_eqI, q_neI, q_eqB, q_eqS, q_eqN, q_eqT, q_eqL, q_eqR, q_neB, q_neS, q_neN, q_neT, q_neL, q_neR, q_in, q_notin, q_ixT, q_ixL, q_ixS, q_ixR, q_slT, q_slL, q_slR, q_slS, q_intW, q_blW, q_lenT, q_lenS, q_lenR, q_lenL, q_abs, q_min2, q_max2, q_sumR, q_sumL, q_sumT, q_anyR, q_anyL, q_allR, q_allL, q_listR, q_listL, q_listT, q_tupR, q_tupL, q_tupT, q_tAp, q_tEx, q_tPop, q_tRev, q_tCl, q_mAp, q_mEx, q_sqT, q_sqL, q_sqR, q_lrev, q_mPop, q_mRev, q_mCl, q_isN1, q_isN2, q_isN3, q_isN4, q_isN5, q_isN6, q_isN7, q_ty1, q_ty2, q_ty3, q_ty4, q_ty5, q_ty6, q_ty7, q_ty8, q_ty9, q_ty10, q_ty11, q_ty12, q_ty13, q_ty14, q_ty15, q_ty16, q_ty17, q_ty18, q_ty19, q_ty20, q_ty21, q_ty22, q_ty23, q_ty24, q_ty25, q_ty26, q_itR, q_itT, q_itL, q_rg1, q_rg2, q_rg3, q_enR, q_enL, q_zpR, q_enT, q_zpT, q_tIx, q_tIxR, q_tIn, q_mIx, q_mIxR, q_mIn, q_zpL, q_rvL, q_rvT, q_tgN, q_tgT, q_frS, q_asR, q_lsL, q_lsR, q_pN, q_pV, q_pI, q_pO, q_pG, q_pX, q_pB]
      exact go
    · simp -implicitDefEqProofs only [c8, wS, up_up, exists_eq', Lt.hE, Lt.hA, Lt.hN, Lt.hS, wipeE, Nat.le_add_left, Nat.reduceLeDiff, Lt.wE, wA, wAn, wOr, optW_some, getE, setE, setsE, edOf, startE, new_frz, all_free, frz_non, frz_bl, frz_int, frz_str, frz_tup, frz_lst, wrL_up, rdL_up, era_up, gc_up, atI_0, atI_1, atI_2, List.map_cons, List.map_nil, List.length_cons, List.length_nil, List.length_map, List.replicate, List.cons_append, List.nil_append, List.append_nil, Nat.sub_self, decide_eq_true_eq, decide_eq_false_iff_not, Bool.not_eq_true', Bool.not_eq_true, Bool.not_true, Bool.not_false, not_true_eq_false, not_false_eq_true, if_true, if_false, ite_true, ite_false, true_and, and_true, eq_self, reduceIte, Bool.false_eq_true, gc_self, up_same, Option.some.injEq, reduceCtorEq, List.getElem?_map, Option.map_some, Option.map_none, Nat.zero_add, Nat.reduceAdd, Nat.reduceSub, q_addI, q_addS, q_addT, q_addL, q_addR, q_subI, q_mulI, q_mulR, q_mulL, q_mulT, q_divI, q_modI, q_powI, q_neg, q_lt, q_le, q_gt, q_ge, q_eqI, q_neI, q_eqB, q_eqS, q_eqN, q_eqT, q_eqL, q_eqR, q_neB, q_neS, q_neN, q_neT, q_neL, q_neR, q_in, q_notin, q_ixT, q_ixL, q_ixS, q_ixR, q_slT, q_slL, q_slR, q_slS, q_intW, q_blW, q_lenT, q_lenS, q_lenR, q_lenL, q_abs, q_min2, q_max2, q_sumR, q_sumL, q_sumT, q_anyR, q_anyL, q_allR, q_allL, q_listR, q_listL, q_listT, q_tupR, q_tupL, q_tupT, q_tAp, q_tEx, q_tPop, q_tRev, q_tCl, q_mAp, q_mEx, q_sqT, q_sqL, q_sqR, q_lrev, q_mPop, q_mRev, q_mCl, q_isN1, q_isN2, q_isN3, q_isN4, q_isN5, q_isN6, q_isN7, q_ty1, q_ty2, q_ty3, q_ty4, q_ty5, q_ty6, q_ty7, q_ty8, q_ty9, q_ty10, q_ty11, q_ty12, q_ty13, q_ty14, q_ty15, q_ty16, q_ty17, q_ty18, q_ty19, q_ty20, q_ty21, q_ty22, q_ty23, q_ty24, q_ty25, q_ty26, q_itR, q_itT, q_itL, q_rg1, q_rg2, q_rg3, q_enR, q_enL, q_zpR, q_enT, q_zpT, q_tIx, q_tIxR, q_tIn, q_mIx, q_mIxR, q_mIn, q_zpL, q_rvL, q_rvT, q_tgN, q_tgT, q_frS, q_asR, q_lsL, q_lsR, q_pN, q_pV, q_pI, q_pO, q_pG, q_pX, q_pB]
      exact go
end Xk13

set_option maxHeartbeats 0
namespace Xk13
open PySem PySem.Spec PyProof.Rows L2 Lt
def T : Tab := ⟨L.map (fun d => (d.name, d.np)), ["NoNumber"], []⟩
def top (i : Nat) : Stmt := PySem.Challenge.pw_lots_k13_put_and_drawn.main.body.getD i (.Pass ⟨0, 0, 0, 0⟩)
theorem k_divisor : DefOk T f_divisor (top 4) := ⟨⟨rfl, rfl, rfl, by decide +kernel, rfl, by decide +kernel, by decide +kernel⟩, by decide, by decide +kernel⟩
theorem k_fraction : DefOk T f_fraction (top 5) := ⟨⟨rfl, rfl, rfl, by decide +kernel, rfl, by decide +kernel, by decide +kernel⟩, by decide, by decide +kernel⟩
theorem k_place_of : DefOk T f_place_of (top 7) := ⟨⟨rfl, rfl, rfl, by decide +kernel, rfl, by decide +kernel, by decide +kernel⟩, by decide, by decide +kernel⟩
theorem k_put_into : DefOk T f_put_into (top 8) := ⟨⟨rfl, rfl, rfl, by decide +kernel, rfl, by decide +kernel, by decide +kernel⟩, by decide, by decide +kernel⟩
theorem k_drawn : DefOk T f_drawn (top 9) := ⟨⟨rfl, rfl, rfl, by decide +kernel, rfl, by decide +kernel, by decide +kernel⟩, by decide, by decide +kernel⟩
theorem k_law_draw : DefOk T f_law_draw (top 11) := ⟨⟨rfl, rfl, rfl, by decide +kernel, rfl, by decide +kernel, by decide +kernel⟩, by decide, by decide +kernel⟩
theorem k_law_name : DefOk T f_law_name (top 12) := ⟨⟨rfl, rfl, rfl, by decide +kernel, rfl, by decide +kernel, by decide +kernel⟩, by decide, by decide +kernel⟩
theorem k_law_boxes : DefOk T f_law_boxes (top 13) := ⟨⟨rfl, rfl, rfl, by decide +kernel, rfl, by decide +kernel, by decide +kernel⟩, by decide, by decide +kernel⟩
theorem k_law_number : DefOk T f_law_number (top 14) := ⟨⟨rfl, rfl, rfl, by decide +kernel, rfl, by decide +kernel, by decide +kernel⟩, by decide, by decide +kernel⟩
theorem k_law_state : DefOk T f_law_state (top 15) := ⟨⟨rfl, rfl, rfl, by decide +kernel, rfl, by decide +kernel, by decide +kernel⟩, by decide, by decide +kernel⟩
theorem k_law_put : DefOk T f_law_put (top 16) := ⟨⟨rfl, rfl, rfl, by decide +kernel, rfl, by decide +kernel, by decide +kernel⟩, by decide, by decide +kernel⟩
theorem k_law_common : DefOk T f_law_common (top 17) := ⟨⟨rfl, rfl, rfl, by decide +kernel, rfl, by decide +kernel, by decide +kernel⟩, by decide, by decide +kernel⟩
theorem k_law_weights : DefOk T f_law_weights (top 18) := ⟨⟨rfl, rfl, rfl, by decide +kernel, rfl, by decide +kernel, by decide +kernel⟩, by decide, by decide +kernel⟩
theorem k_law_ways_right : DefOk T f_law_ways_right (top 19) := ⟨⟨rfl, rfl, rfl, by decide +kernel, rfl, by decide +kernel, by decide +kernel⟩, by decide, by decide +kernel⟩
theorem k_law : DefOk T f_law (top 20) := ⟨⟨rfl, rfl, rfl, by decide +kernel, rfl, by decide +kernel, by decide +kernel⟩, by decide, by decide +kernel⟩
def fn : List He.DefD := [⟨("divisor", none), "divisor", "divisor", defArgs (top 4), defBody (top 4), defScope (top 4), [], []⟩, ⟨("fraction", none), "fraction", "fraction", defArgs (top 5), defBody (top 5), defScope (top 5), [], []⟩, ⟨("place_of", none), "place_of", "place_of", defArgs (top 7), defBody (top 7), defScope (top 7), [], []⟩, ⟨("put_into", none), "put_into", "put_into", defArgs (top 8), defBody (top 8), defScope (top 8), [], []⟩, ⟨("drawn", none), "drawn", "drawn", defArgs (top 9), defBody (top 9), defScope (top 9), [], []⟩, ⟨("_law_draw", none), "_law_draw", "_law_draw", defArgs (top 11), defBody (top 11), defScope (top 11), [], []⟩, ⟨("_law_name", none), "_law_name", "_law_name", defArgs (top 12), defBody (top 12), defScope (top 12), [], []⟩, ⟨("_law_boxes", none), "_law_boxes", "_law_boxes", defArgs (top 13), defBody (top 13), defScope (top 13), [], []⟩, ⟨("_law_number", none), "_law_number", "_law_number", defArgs (top 14), defBody (top 14), defScope (top 14), [], []⟩, ⟨("_law_state", none), "_law_state", "_law_state", defArgs (top 15), defBody (top 15), defScope (top 15), [], []⟩, ⟨("_law_put", none), "_law_put", "_law_put", defArgs (top 16), defBody (top 16), defScope (top 16), [], []⟩, ⟨("_law_common", none), "_law_common", "_law_common", defArgs (top 17), defBody (top 17), defScope (top 17), [], []⟩, ⟨("_law_weights", none), "_law_weights", "_law_weights", defArgs (top 18), defBody (top 18), defScope (top 18), [], []⟩, ⟨("_law_ways_right", none), "_law_ways_right", "_law_ways_right", defArgs (top 19), defBody (top 19), defScope (top 19), [], []⟩, ⟨("law", none), "law", "law", defArgs (top 20), defBody (top 20), defScope (top 20), [], []⟩]
def fa : List He.Fa := [.glo "divisor", .glo "fraction", .glo "place_of", .glo "put_into", .glo "drawn", .glo "_law_draw", .glo "_law_name", .glo "_law_boxes", .glo "_law_number", .glo "_law_state", .glo "_law_put", .glo "_law_common", .glo "_law_weights", .glo "_law_ways_right", .glo "law", .free "len", .free "abs", .free "min", .free "max", .free "sum", .free "any", .free "all", .free "list", .free "tuple", .free "int", .free "bool", .free "str", .free "isinstance", .free "range", .free "enumerate", .free "zip", .free "reversed", .free "repr", .free "sorted", .exc "NoNumber", .glo "NoNumber", .free "ValueError"]
def ex (K : PySem.W.Frag) : Bool := exB K Ex0 []
abbrev RowL : PySem.W.OpenRow := PySem.W.OpenLaw.row PySem.Challenge.rw_lots_k13_put_and_drawn
def hk : PySem.W.Hook := hookL 4 fa fn ex
def ob (s : PySem.W.SharedT) : Bool × He.AlD := obsLG 4 fa fn ex (HandSHeadRun.getT s)
theorem ob_eq (s : PySem.W.SharedT) : ob s = hk.obs s.abs := obsLG_eq (HandSHeadRun.getT_eq s)
def names0 : List Str := ["LotsError", "NoNumber", "divisor", "fraction", "place_of", "put_into", "drawn", "_law_draw", "_law_name", "_law_boxes", "_law_number", "_law_state", "_law_put", "_law_common", "_law_weights", "_law_ways_right"]
def loose : List Str := names0
theorem run (w : World) : HandSHeadRun.RunEq RowL (PySem.W.view RowL.prog [20]) hk ob 3000 loose w := by
  intro os
  kernel_rfl
theorem facts {K : PySem.W.Frag} {h : Heap} {mg : Str → Option Value} {f : Addr} (X : K.In h) (G1 : h.Ns mainGlobals mg) (hfa : mg ("law" : Str) = some (.ref f)) (c : SaysL fa fn ex K) (LAW : ∀ ns : List Int, ns.length ≤ 63 → callL L G 60 "law" [.lst (ns.map D.int)] emp (fun d _ => d = .bl true) fun _ _ => False) {P : Program} {w : World} :
    ∃ (fd : FuncData) (sp : Sp), (∀ (s : Shared) (v : Value), BindsTo s fd ⟨[v], []⟩ [("_law_script", v)]) ∧ (∀ (H : Hp) (a : Addr) (ns : List Int), ns.length ≤ 63 → Only H → SqL K H a (ns.map V.int) → sp [.ref a] H (fun v _ => v = .bl true) fun _ _ _ => False) ∧
      ∀ base : Heap, K.In base → base.Ns mainGlobals mg → LtG.FnG P w K mg base CX0 60 f fd ["_law_script"] sp := by
  have D0 : ∃ f fd, DefIn K mg f_divisor (top 4) f fd := by
    obtain ⟨fd, F⟩ := c.s.def_ 0 rfl
    exact ⟨_, fd, He.glo_ok X G1 (c.s.fact 0 (f := .glo "divisor") rfl), F, F.bindsN fun _ _ _ _ _ _ us hl => match us, hl with | [_, _], _ => rfl⟩
  have D1 : ∃ f fd, DefIn K mg f_fraction (top 5) f fd := by
    obtain ⟨fd, F⟩ := c.s.def_ 1 rfl
    exact ⟨_, fd, He.glo_ok X G1 (c.s.fact 1 (f := .glo "fraction") rfl), F, F.bindsN fun _ _ _ _ _ _ us hl => match us, hl with | [_, _], _ => rfl⟩
  have D2 : ∃ f fd, DefIn K mg f_place_of (top 7) f fd := by
    obtain ⟨fd, F⟩ := c.s.def_ 2 rfl
    exact ⟨_, fd, He.glo_ok X G1 (c.s.fact 2 (f := .glo "place_of") rfl), F, F.bindsN fun _ _ _ _ _ _ us hl => match us, hl with | [_, _], _ => rfl⟩
  have D3 : ∃ f fd, DefIn K mg f_put_into (top 8) f fd := by
    obtain ⟨fd, F⟩ := c.s.def_ 3 rfl
    exact ⟨_, fd, He.glo_ok X G1 (c.s.fact 3 (f := .glo "put_into") rfl), F, F.bindsN fun _ _ _ _ _ _ us hl => match us, hl with | [_, _, _, _], _ => rfl⟩
  have D4 : ∃ f fd, DefIn K mg f_drawn (top 9) f fd := by
    obtain ⟨fd, F⟩ := c.s.def_ 4 rfl
    exact ⟨_, fd, He.glo_ok X G1 (c.s.fact 4 (f := .glo "drawn") rfl), F, F.bindsN fun _ _ _ _ _ _ us hl => match us, hl with | [_, _, _, _], _ => rfl⟩
  have D5 : ∃ f fd, DefIn K mg f_law_draw (top 11) f fd := by
    obtain ⟨fd, F⟩ := c.s.def_ 5 rfl
    exact ⟨_, fd, He.glo_ok X G1 (c.s.fact 5 (f := .glo "_law_draw") rfl), F, F.bindsN fun _ _ _ _ _ _ us hl => match us, hl with | [_, _, _, _], _ => rfl⟩
  have D6 : ∃ f fd, DefIn K mg f_law_name (top 12) f fd := by
    obtain ⟨fd, F⟩ := c.s.def_ 6 rfl
    exact ⟨_, fd, He.glo_ok X G1 (c.s.fact 6 (f := .glo "_law_name") rfl), F, F.bindsN fun _ _ _ _ _ _ us hl => match us, hl with | [_, _, _], _ => rfl⟩
  have D7 : ∃ f fd, DefIn K mg f_law_boxes (top 13) f fd := by
    obtain ⟨fd, F⟩ := c.s.def_ 7 rfl
    exact ⟨_, fd, He.glo_ok X G1 (c.s.fact 7 (f := .glo "_law_boxes") rfl), F, F.bindsN fun _ _ _ _ _ _ us hl => match us, hl with | [_, _, _], _ => rfl⟩
  have D8 : ∃ f fd, DefIn K mg f_law_number (top 14) f fd := by
    obtain ⟨fd, F⟩ := c.s.def_ 8 rfl
    exact ⟨_, fd, He.glo_ok X G1 (c.s.fact 8 (f := .glo "_law_number") rfl), F, F.bindsN fun _ _ _ _ _ _ us hl => match us, hl with | [_, _], _ => rfl⟩
  have D9 : ∃ f fd, DefIn K mg f_law_state (top 15) f fd := by
    obtain ⟨fd, F⟩ := c.s.def_ 9 rfl
    exact ⟨_, fd, He.glo_ok X G1 (c.s.fact 9 (f := .glo "_law_state") rfl), F, F.bindsN fun _ _ _ _ _ _ us hl => match us, hl with | [_, _, _], _ => rfl⟩
  have D10 : ∃ f fd, DefIn K mg f_law_put (top 16) f fd := by
    obtain ⟨fd, F⟩ := c.s.def_ 10 rfl
    exact ⟨_, fd, He.glo_ok X G1 (c.s.fact 10 (f := .glo "_law_put") rfl), F, F.bindsN fun _ _ _ _ _ _ us hl => match us, hl with | [_, _, _], _ => rfl⟩
  have D11 : ∃ f fd, DefIn K mg f_law_common (top 17) f fd := by
    obtain ⟨fd, F⟩ := c.s.def_ 11 rfl
    exact ⟨_, fd, He.glo_ok X G1 (c.s.fact 11 (f := .glo "_law_common") rfl), F, F.bindsN fun _ _ _ _ _ _ us hl => match us, hl with | [_, _], _ => rfl⟩
  have D12 : ∃ f fd, DefIn K mg f_law_weights (top 18) f fd := by
    obtain ⟨fd, F⟩ := c.s.def_ 12 rfl
    exact ⟨_, fd, He.glo_ok X G1 (c.s.fact 12 (f := .glo "_law_weights") rfl), F, F.bindsN fun _ _ _ _ _ _ us hl => match us, hl with | [_, _, _], _ => rfl⟩
  have D13 : ∃ f fd, DefIn K mg f_law_ways_right (top 19) f fd := by
    obtain ⟨fd, F⟩ := c.s.def_ 13 rfl
    exact ⟨_, fd, He.glo_ok X G1 (c.s.fact 13 (f := .glo "_law_ways_right") rfl), F, F.bindsN fun _ _ _ _ _ _ us hl => match us, hl with | [_, _, _, _], _ => rfl⟩
  have D14 : ∃ f fd, DefIn K mg f_law (top 20) f fd := by
    obtain ⟨fd, F⟩ := c.s.def_ 14 rfl
    exact ⟨_, fd, He.glo_ok X G1 (c.s.fact 14 (f := .glo "law") rfl), F, F.bindsN fun _ _ _ _ _ _ us hl => match us, hl with | [_], _ => rfl⟩
  have Kn : Known K mg T G := by
    refine ⟨fun x hx => ?_, exFacts_of (by have e := c.e; unfold ex at e; first | exact e | (simp only [Bool.and_eq_true] at e; first | exact e.1 | exact e.1.1 | exact e.1.1.1)) (fun x hx => ?_) (fun x hx => ?_), fun x d e => ?_, fun x hx => ?_⟩
    · revert x
      intro x hx
      simp only [bltN, List.mem_cons, List.not_mem_nil, or_false] at hx
      rcases hx with rfl | rfl | rfl | rfl | rfl | rfl | rfl | rfl | rfl | rfl | rfl | rfl | rfl | rfl | rfl | rfl | rfl | rfl | rfl
      · exact He.free_ok X G1 (c.s.fact 15 (f := .free "len") rfl)
      · exact He.free_ok X G1 (c.s.fact 16 (f := .free "abs") rfl)
      · exact He.free_ok X G1 (c.s.fact 17 (f := .free "min") rfl)
      · exact He.free_ok X G1 (c.s.fact 18 (f := .free "max") rfl)
      · exact He.free_ok X G1 (c.s.fact 19 (f := .free "sum") rfl)
      · exact He.free_ok X G1 (c.s.fact 20 (f := .free "any") rfl)
      · exact He.free_ok X G1 (c.s.fact 21 (f := .free "all") rfl)
      · exact He.free_ok X G1 (c.s.fact 22 (f := .free "list") rfl)
      · exact He.free_ok X G1 (c.s.fact 23 (f := .free "tuple") rfl)
      · exact He.free_ok X G1 (c.s.fact 24 (f := .free "int") rfl)
      · exact He.free_ok X G1 (c.s.fact 25 (f := .free "bool") rfl)
      · exact He.free_ok X G1 (c.s.fact 26 (f := .free "str") rfl)
      · exact He.free_ok X G1 (c.s.fact 27 (f := .free "isinstance") rfl)
      · exact He.free_ok X G1 (c.s.fact 28 (f := .free "range") rfl)
      · exact He.free_ok X G1 (c.s.fact 29 (f := .free "enumerate") rfl)
      · exact He.free_ok X G1 (c.s.fact 30 (f := .free "zip") rfl)
      · exact He.free_ok X G1 (c.s.fact 31 (f := .free "reversed") rfl)
      · exact He.free_ok X G1 (c.s.fact 32 (f := .free "repr") rfl)
      · exact He.free_ok X G1 (c.s.fact 33 (f := .free "sorted") rfl)
    · simp only [G, Ex0, List.mem_cons, List.not_mem_nil, or_false] at hx
      subst hx
      · exact He.glo_ok X G1 (c.s.fact 35 (f := .glo "NoNumber") rfl)
    · exact nomatch hx
    · change (none) = some d at e
      cases e
    · simp only [T, List.mem_cons, List.not_mem_nil, or_false] at hx
      subst hx
      · exact excOk_of X G1 (c.s.fact 34 (f := .exc "NoNumber") rfl) (c.s.fact 35 (f := .glo "NoNumber") rfl)
  have DD : ∀ d ∈ L, ∃ st f fd, DefOk T d st ∧ DefIn K mg d st f fd := by
    intro d hd
    simp only [L, List.mem_cons, List.not_mem_nil, or_false] at hd
    rcases hd with rfl | rfl | rfl | rfl | rfl | rfl | rfl | rfl | rfl | rfl | rfl | rfl | rfl | rfl | rfl
    · obtain ⟨f, fd, q⟩ := D0; exact ⟨_, f, fd, k_divisor, q⟩
    · obtain ⟨f, fd, q⟩ := D1; exact ⟨_, f, fd, k_fraction, q⟩
    · obtain ⟨f, fd, q⟩ := D2; exact ⟨_, f, fd, k_place_of, q⟩
    · obtain ⟨f, fd, q⟩ := D3; exact ⟨_, f, fd, k_put_into, q⟩
    · obtain ⟨f, fd, q⟩ := D4; exact ⟨_, f, fd, k_drawn, q⟩
    · obtain ⟨f, fd, q⟩ := D5; exact ⟨_, f, fd, k_law_draw, q⟩
    · obtain ⟨f, fd, q⟩ := D6; exact ⟨_, f, fd, k_law_name, q⟩
    · obtain ⟨f, fd, q⟩ := D7; exact ⟨_, f, fd, k_law_boxes, q⟩
    · obtain ⟨f, fd, q⟩ := D8; exact ⟨_, f, fd, k_law_number, q⟩
    · obtain ⟨f, fd, q⟩ := D9; exact ⟨_, f, fd, k_law_state, q⟩
    · obtain ⟨f, fd, q⟩ := D10; exact ⟨_, f, fd, k_law_put, q⟩
    · obtain ⟨f, fd, q⟩ := D11; exact ⟨_, f, fd, k_law_common, q⟩
    · obtain ⟨f, fd, q⟩ := D12; exact ⟨_, f, fd, k_law_weights, q⟩
    · obtain ⟨f, fd, q⟩ := D13; exact ⟨_, f, fd, k_law_ways_right, q⟩
    · obtain ⟨f, fd, q⟩ := D14; exact ⟨_, f, fd, k_law, q⟩
  have hT : ∀ p ∈ T.fns, ∃ d ∈ L, p = (d.name, d.np) ∧ L.find? (fun e => e.name == d.name) = some d := by
    intro p hp
    simp only [T, L, List.map_cons, List.map_nil, List.mem_cons, List.not_mem_nil, or_false] at hp
    rcases hp with rfl | rfl | rfl | rfl | rfl | rfl | rfl | rfl | rfl | rfl | rfl | rfl | rfl | rfl | rfl
    · exact ⟨f_divisor, by simp [L], rfl, rfl⟩
    · exact ⟨f_fraction, by simp [L], rfl, rfl⟩
    · exact ⟨f_place_of, by simp [L], rfl, rfl⟩
    · exact ⟨f_put_into, by simp [L], rfl, rfl⟩
    · exact ⟨f_drawn, by simp [L], rfl, rfl⟩
    · exact ⟨f_law_draw, by simp [L], rfl, rfl⟩
    · exact ⟨f_law_name, by simp [L], rfl, rfl⟩
    · exact ⟨f_law_boxes, by simp [L], rfl, rfl⟩
    · exact ⟨f_law_number, by simp [L], rfl, rfl⟩
    · exact ⟨f_law_state, by simp [L], rfl, rfl⟩
    · exact ⟨f_law_put, by simp [L], rfl, rfl⟩
    · exact ⟨f_law_common, by simp [L], rfl, rfl⟩
    · exact ⟨f_law_weights, by simp [L], rfl, rfl⟩
    · exact ⟨f_law_ways_right, by simp [L], rfl, rfl⟩
    · exact ⟨f_law, by simp [L], rfl, rfl⟩
  obtain ⟨fd, F⟩ := c.s.def_ 14 rfl
  have I : DefIn K mg f_law (top 20) f fd := by
    have e := hfa.symm.trans (He.glo_ok X G1 (c.s.fact 14 (f := .glo "law") rfl))
    cases e
    exact ⟨hfa, F, F.bindsN fun _ _ _ _ _ _ us hl => match us, hl with | [_], _ => rfl⟩
  have b := FunD.bindsA (ps := ["_law_script"]) F fun _ _ _ _ _ _ us hl => match us, hl with | [_], _ => rfl
  obtain ⟨sp, h1, h2⟩ := law_end (P := P) (w := w) hT Kn DD (by simp [L]) rfl rfl I rfl LAW
  exact ⟨fd, sp, fun s v => b s [v] rfl, h1, h2⟩
end Xk13
open PySem PySem.W PySem.Calls PyProof.Rows
theorem PySem.Challenge.cw_lots_k13_put_and_drawn_holds : PySem.Challenge.rw_lots_k13_put_and_drawn.Holds := by
  w_on; o_law
  refine HandSHeadRun.head_any (r := OpenLaw.row PySem.Challenge.rw_lots_k13_put_and_drawn) (q := view (OpenLaw.row PySem.Challenge.rw_lots_k13_put_and_drawn).prog [20]) (H := Xk13.hk) (ob := Xk13.ob) (M := 3000) (loose := Xk13.loose) (d := HandSHeadRun.topDef (OpenLaw.row PySem.Challenge.rw_lots_k13_put_and_drawn).prog 20) (kwd := []) Xk13.ob_eq
    (by kernel_rfl) (fun s => by kernel_rfl) Xk13.run (by kernel_rfl) (by kernel_rfl) (by kernel_rfl) (by rfl) (by first | assumption | decide +kernel) (by decide +kernel) ⟨rfl, rfl, rfl, rfl, rfl, by decide +kernel⟩ ?hw ?hc
  case hw => w_witness2
  case hc =>
    refine LtG.walk_ofEG (l := PySem.Challenge.rw_lots_k13_put_and_drawn) (n := 63) (k := 60) (x := "_law_script") (CX := L2.CX0) rfl (by decide) (by kernel_rfl) ⟨rfl, by decide, by decide⟩ ?F (fun _ _ _ _ z => z)
    intro w mg fa h Y G hmg0
    obtain ⟨K, KX, c⟩ := Y
    have hmg : mg ("law" : PySem.Str) = some (.ref fa) := by
      have e : (HandSHeadRun.topDef (OpenLaw.row PySem.Challenge.rw_lots_k13_put_and_drawn).prog 20).name = ("law" : PySem.Str) := by kernel_rfl
      rw [← e]
      exact hmg0
    obtain ⟨fd, sp, hb, hs, hF⟩ := Xk13.facts KX G hmg c Xk13.LAW
    exact ⟨K, fd, sp, KX, hb, hs, hF⟩
