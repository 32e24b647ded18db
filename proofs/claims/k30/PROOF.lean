import PyProof.Rows.All
import Wide.All
import OpenK.AllK
import Wide.FinOn
import HandS.ForMost
import HandS.ForExc
import HandS.TryMany
import HandS.ExcOwn
import HandS.ExcInit
import HandS.ExcField
import HandS.ExcInitHot
import HandS.RaiseFrom
import HandS.SuiteRaise
import HandS.TryElse
import HandS.TryOnly
import HandS.CallSlots
import HandS.Deep
import HandS.DeepEq
import HandS.IsInst
import HandS.TupAny
import HandS.TupLen
import HandS.FStr
import HandS.DictComp
import HandS.NoneIn
import HandS.Conv
import HandS.Style
import HandS.Strs
import HandS.RaiseMore
import HandS.Walk
import HandS.Flow
import HandS.Wide
import HandS.WideBits
import HandS.StrMore
import HandS.StrSplit
import HandS.Replace
import HandS.OwnEq
import HandS.More
import HandS.Defaults
import HandS.Words
import HandS.WordsExc
import HandS.Ends
import HandS.Head0
import HandS.Head1
import HandS.Head2
import HandS.HeadEnd
import HandS.HeadHook1
import HandS.HeadHook2
import HandS.SortInts
import HandS.Codes
import HandS.Small
import HandS.Iter
import PyProof.StrLawsRepr
import PyProof.FitsInt
import PySem.Challenge.RW_leadsman_k30_fixed_places_and_the_next
set_option Elab.async false
set_option linter.all false
set_option maxRecDepth 100000
set_option maxHeartbeats 0
/-! ### the head of law_k30_fixed_places_and_the_next -/
namespace Hd
open PySem PySem.Spec PyProof.Rows
abbrev R : PySem.W.OpenRow := PySem.W.OpenLaw.row PySem.Challenge.rw_leadsman_k30_fixed_places_and_the_next
def loose : List Str := []
open PySem PySem.W PySem.Calls PyProof.Rows in
section
open HandSHeadRun PySem.W PySem.Calls
theorem map3 {α β γ δ : Type} {o : Option α} {f : α → β} {g : α → γ} {k : α → δ} {a : β} {b : γ} {c : δ} (h1 : o.map f = some a) (h2 : o.map g = some b) (h3 : o.map k = some c) : o.map (fun s => (f s, g s, k s)) = some (a, b, c) := by
  cases o with
  | none => cases h1
  | some x => cases h1; cases h2; cases h3; rfl
theorem run1 (w : World) (os : OsState) : (endF (stepQ (denQ tabQ) R.prog w) 7000 R.prog w os).map (fun s => looksF R.prog (boot_heap w.params) s.abs) = some true := by kernel_rfl
theorem run2 (w : World) (os : OsState) : (endF (stepQ (denQ tabQ) R.prog w) 7000 R.prog w os).map (fun s => seenQ (PySem.W.view R.prog [0, 2, 3, 4, 5, 6, 7, 8, 9, 10, 11, 12, 14, 15, 16, 17, 18, 19, 20, 21, 23, 24, 25, 26, 27, 28, 29, 30, 31, 32, 33, 35, 36, 38, 39, 40, 41, 42, 43, 44, 45, 47, 48, 49, 50, 52, 53, 54, 55, 56, 57, 58, 59, 60, 61, 62, 63, 64, 65, 66, 67, 68, 69]) loose (importedModules R.prog.main.body) (fun s => xlAt (PySem.W.view R.prog [0, 2, 3, 4, 5, 6, 7, 8, 9, 10, 11, 12, 14, 15, 16, 17, 18, 19, 20, 21, 23, 24, 25, 26, 27, 28, 29, 30, 31, 32, 33, 35, 36, 38, 39, 40, 41, 42, 43, 44, 45, 47, 48, 49, 50, 52, 53, 54, 55, 56, 57, 58, 59, 60, 61, 62, 63, 64, 65, 66, 67, 68, 69]) [] s && recOk R.toRowW.records s) s.abs) = some (openGood (PySem.W.view R.prog [0, 2, 3, 4, 5, 6, 7, 8, 9, 10, 11, 12, 14, 15, 16, 17, 18, 19, 20, 21, 23, 24, 25, 26, 27, 28, 29, 30, 31, 32, 33, 35, 36, 38, 39, 40, 41, 42, 43, 44, 45, 47, 48, 49, 50, 52, 53, 54, 55, 56, 57, 58, 59, 60, 61, 62, 63, 64, 65, 66, 67, 68, 69]) loose) := by kernel_rfl
end
end Hd
set_option Elab.async false
set_option linter.all false
set_option maxRecDepth 100000
/-! Lw1: values, heap, the small language, its meaning (weakest preconditions). -/
namespace Lw
open PySem

abbrev Nm := PySem.Str

/-- values: trees (tuples; fl, fd, fi: a list, a dict, an object that changes no more; cl: a list or a tuple that never changed; fx: a caught exception); what can change is a reference -/
inductive Val where
  | non | bl (b : Bool) | int (i : Int) | str (s : List Nat) | tup (vs : List Val) | cl (vs : List Val)
  | fl (vs : List Val) | fd (kvs : List (Val × Val)) | fi (C : Nat) (fs : List Val) | fx (C : Nat) (fs : List Val) | ref (n : Nat)
  deriving Inhabited

/-- what stands at a reference. ins: class number, fields by place -/
inductive Ob where
  | lst (vs : List Val) | dic (kvs : List (Val × Val)) (lk : Bool) | ins (C : Nat) (fs : List (Option Val))
  deriving Inhabited

structure Hv where
  g : Nat → Option Ob
  nx : Nat
  wf : ∀ n, nx ≤ n → g n = none

def Hv.al (h : Hv) (o : Ob) : Hv := ⟨fun n => if n = h.nx then some o else h.g n, h.nx + 1, fun n hn => by
  have h1 : n ≠ h.nx := by omega
  rw [if_neg h1]; exact h.wf n (by omega)⟩
/-- no more there -/
def Hv.del (h : Hv) (a : Nat) : Hv := ⟨fun n => if n = a then none else h.g n, h.nx, fun n hn => by
  by_cases e : n = a
  · rw [if_pos e]
  · rw [if_neg e]; exact h.wf n hn⟩
/-- what stood there before -/
def Hv.cut (h : Hv) (k : Nat) : Hv := ⟨fun n => if n < k then h.g n else none, k, fun n hn => if_neg (by omega)⟩
theorem Hv.ext {h h' : Hv} (e : ∀ n, h.g n = h'.g n) (k : h.nx = h'.nx) : h = h' := by
  cases h; cases h'
  simp only at k e
  subst k
  congr
  funext n; exact e n
def Hv.put (h : Hv) (a : Nat) (o : Ob) : Hv := ⟨fun n => if n = a ∧ a < h.nx then some o else h.g n, h.nx, fun n hn => by
  have h1 : ¬ (n = a ∧ a < h.nx) := by omega
  rw [if_neg h1]; exact h.wf n hn⟩

/-- the classes: 0 Net, 1 Doubter, 2 Boat; the errors from 10 on -/
def cname : Nat → Nm
  | 0 => "Net" | 1 => "Doubter" | 2 => "Boat"
  | 10 => "SeaError" | 11 => "Missing" | 12 => "Aground"
  | 20 => "BadName" | 21 => "BadNumber" | 22 => "BadLeg" | 23 => "BadNet" | 24 => "Doubled" | 25 => "BadText" | 26 => "BadWay" | 27 => "BadBed" | 28 => "OtherPlace" | 29 => "BadSounding" | 30 => "BadLog" | 31 => "BadIndex" | 32 => "BadPlaces" | 33 => "BadCall" | 34 => "BadTable" | 35 => "BadCast" | 36 => "BadCasts" | 37 => "BadCommand" | 38 => "Joined" | 39 => "TooMany" | 40 => "BadLine"
  | 50 => "NoPlace" | 51 => "OutOfTable" | 52 => "NoLeg" | 53 => "NoWay"
  | 60 => "NoBed" | 61 => "HasRing" | 62 => "MoreWrong" | 63 => "NothingToUndo"
  | _ => ""
def cflds : Nat → List Nm
  | 0 => ["place_row", "leg_row", "leg_rises"]
  | 1 => ["asked_log", "asked_place", "least_right", "log_rows", "log_reaches"]
  | 2 => ["net_now", "log_now", "elder_stands"]
  | 38 => ["one", "other"] | 39 => ["many"] | 40 => ["at", "line"]
  | 52 => ["one", "other"] | 53 => ["one", "other"]
  | 60 => ["first", "second"] | 61 => ["ring"] | 62 => ["many"] | 63 => []
  | n => if n < 20 then [] else ["found"]
theorem Hv.lt {h : Hv} {n : Nat} {o : Ob} (e : h.g n = some o) : n < h.nx := by
  apply Classical.byContradiction; intro k
  have := h.wf n (by omega); rw [this] at e; cases e
@[simp] theorem Hv.al_nx (h : Hv) (o : Ob) : (h.al o).nx = h.nx + 1 := rfl
@[simp] theorem Hv.put_nx (h : Hv) (a : Nat) (o : Ob) : (h.put a o).nx = h.nx := rfl
@[simp] theorem Hv.al_new (h : Hv) (o : Ob) : (h.al o).g h.nx = some o := if_pos rfl
theorem Hv.al_old {h : Hv} {o : Ob} {n : Nat} (hn : n ≠ h.nx) : (h.al o).g n = h.g n := if_neg hn
theorem Hv.al_keep {h : Hv} {o x : Ob} {n : Nat} (e : h.g n = some x) : (h.al o).g n = some x := by
  rw [Hv.al_old (by have := Hv.lt e; omega)]; exact e
theorem Hv.put_same {h : Hv} {a : Nat} {o x : Ob} (e : h.g a = some x) : (h.put a o).g a = some o := if_pos ⟨rfl, Hv.lt e⟩
theorem Hv.put_ne {h : Hv} {a n : Nat} {o : Ob} (hn : n ≠ a) : (h.put a o).g n = h.g n := if_neg fun z => hn z.1

/-- an exception: its class's number, its fields -/
structure Exn where
  c : Nat
  fs : List Val

abbrev K1 := Val → Hv → Prop
abbrev EK := Exn → Hv → Prop
abbrev Spec := List Val → Hv → K1 → EK → Prop
abbrev Ev := List (Option Val)

/-! ### data that a value stands for -/
def toS (l : List Nat) : PySem.Str := ⟨l.toArray⟩
/-- signs that exist -/
def okS (l : List Nat) : Prop := ∀ c ∈ l, c < 1114112
mutual
inductive Dp (h : Hv) : Val → PyData → Prop
  | non : Dp h .non .none
  | bl (b : Bool) : Dp h (.bl b) (.bool b)
  | int (i : Int) : Dp h (.int i) (.int i)
  | str (s : List Nat) : Dp h (.str s) (.str (toS s))
  | tup {vs : List Val} {ds : List PyData} : Dps h vs ds → Dp h (.tup vs) (.tuple ds)
  | fl {vs : List Val} {ds : List PyData} : Dps h vs ds → Dp h (.fl vs) (.list ds)
  | fd {kvs : List (Val × Val)} {ds : List (PyData × PyData)} : Dpk h kvs ds → Dp h (.fd kvs) (.dict ds)
  | lst {n : Nat} {vs : List Val} {ds : List PyData} : h.g n = some (.lst vs) → Dps h vs ds → Dp h (.ref n) (.list ds)
  | dic {n : Nat} {kvs : List (Val × Val)} {ds : List (PyData × PyData)} : h.g n = some (.dic kvs false) → Dpk h kvs ds → Dp h (.ref n) (.dict ds)
inductive Dps (h : Hv) : List Val → List PyData → Prop
  | nil : Dps h [] []
  | cons {v : Val} {vs : List Val} {d : PyData} {ds : List PyData} : Dp h v d → Dps h vs ds → Dps h (v :: vs) (d :: ds)
inductive Dpk (h : Hv) : List (Val × Val) → List (PyData × PyData) → Prop
  | nil : Dpk h [] []
  | cons {k v : Val} {kvs : List (Val × Val)} {c d : PyData} {ds : List (PyData × PyData)} : Dp h k c → Dp h v d → Dpk h kvs ds → Dpk h ((k, v) :: kvs) ((c, d) :: ds)
end

/-! ### operators by values -/
inductive O2 where
  | add (z : Bool) | sub | mul (z : Bool) | fdiv | mod | pow | shl | shr | band
inductive CO where
  | lt | le | gt | ge | eq | ne | isin | notin | is_ | isnt

def wideLim : Nat := 500000

/-- a list that may be read -/
def IsL (h : Hv) (v : Val) (vs : List Val) : Prop := v = .fl vs ∨ ∃ n, v = .ref n ∧ h.g n = some (.lst vs)
/-- a list or a tuple -/
def IsSeq (h : Hv) (v : Val) (vs : List Val) : Prop := IsL h v vs ∨ v = .tup vs ∨ v = .cl vs
/-- a dict that may be read -/
def IsD (h : Hv) (v : Val) (kvs : List (Val × Val)) (lk : Bool) : Prop := (v = .fd kvs ∧ lk = false) ∨ ∃ n, v = .ref n ∧ h.g n = some (.dic kvs lk)
def asL (v : Val) (h : Hv) (K : List Val → Prop) : Prop := match v with
  | .fl vs => K vs
  | .ref n => ∃ vs, h.g n = some (.lst vs) ∧ K vs
  | _ => False
def asSeq (v : Val) (h : Hv) (K : List Val → Prop) : Prop := match v with
  | .fl vs => K vs
  | .tup vs => K vs
  | .cl vs => K vs
  | .ref n => ∃ vs, h.g n = some (.lst vs) ∧ K vs
  | _ => False
def asD (v : Val) (h : Hv) (K : List (Val × Val) → Bool → Prop) : Prop := match v with
  | .fd kvs => K kvs false
  | .ref n => ∃ kvs lk, h.g n = some (.dic kvs lk) ∧ K kvs lk
  | _ => False
theorem asL.el {v : Val} {h : Hv} {K : List Val → Prop} (q : asL v h K) : ∃ vs, IsL h v vs ∧ K vs := by
  cases v with
  | fl vs => exact ⟨vs, .inl rfl, q⟩
  | ref n => obtain ⟨vs, e, q⟩ := q; exact ⟨vs, .inr ⟨n, rfl, e⟩, q⟩
  | _ => exact q.elim
theorem asSeq.el {v : Val} {h : Hv} {K : List Val → Prop} (q : asSeq v h K) : ∃ vs, IsSeq h v vs ∧ K vs := by
  cases v with
  | fl vs => exact ⟨vs, .inl (.inl rfl), q⟩
  | tup vs => exact ⟨vs, .inr (.inl rfl), q⟩
  | cl vs => exact ⟨vs, .inr (.inr rfl), q⟩
  | ref n => obtain ⟨vs, e, q⟩ := q; exact ⟨vs, .inl (.inr ⟨n, rfl, e⟩), q⟩
  | _ => exact q.elim
theorem asD.el {v : Val} {h : Hv} {K : List (Val × Val) → Bool → Prop} (q : asD v h K) : ∃ kvs lk, IsD h v kvs lk ∧ K kvs lk := by
  cases v with
  | fd kvs => exact ⟨kvs, false, .inl ⟨rfl, rfl⟩, q⟩
  | ref n => obtain ⟨vs, lk, e, q⟩ := q; exact ⟨vs, lk, .inr ⟨n, rfl, e⟩, q⟩
  | _ => exact q.elim
/-- a new list, a new dict: z says whether it changes no more -/
def newL (z : Bool) (vs : List Val) (h : Hv) (Q : K1) : Prop := match z with
  | true => Q (.fl vs) h
  | false => Q (.ref h.nx) (h.al (.lst vs))
def newD (z : Bool) (kvs : List (Val × Val)) (h : Hv) (Q : K1) : Prop := match z with
  | true => Q (.fd kvs) h
  | false => Q (.ref h.nx) (h.al (.dic kvs false))

def oAdd (z : Bool) (x y : Val) (h : Hv) (Q : K1) : Prop := match x with
  | .int i => (match y with | .int j => Q (.int (i + j)) h | _ => False)
  | .str s => (match y with | .str t => s.length + t.length ≤ sizeLine ∧ Q (.str (s ++ t)) h | _ => False)
  | .tup s => (match y with | .tup t => s.length + t.length ≤ sizeLine ∧ Q (.tup (s ++ t)) h | _ => False)
  | x => asL x h fun s => asL y h fun t => s.length + t.length ≤ sizeLine ∧ newL z (s ++ t) h Q
def repL (k : Nat) (l : List α) : List α := (List.replicate k l).flatten
def oMul (z : Bool) (x y : Val) (h : Hv) (Q : K1) : Prop := match y with
  | .int j => (match x with
    | .int i => ((-(2 ^ 64) < i ∧ i < 2 ^ 64) ∨ (-(2 ^ 64) < j ∧ j < 2 ^ 64)) ∧ Q (.int (i * j)) h
    | .str s => 0 ≤ j ∧ s.length * j.toNat ≤ sizeLine ∧ j < 2 ^ 24 ∧ Q (.str (repL j.toNat s)) h
    | x => asL x h fun s => 0 ≤ j ∧ j < 2 ^ 24 ∧ s.length * j.toNat ≤ sizeLine ∧ newL z (repL j.toNat s) h Q)
  | _ => False
def o2 : O2 → Val → Val → Hv → K1 → Prop
  | .add z, x, y, h, Q => oAdd z x y h Q
  | .sub, x, y, h, Q => ∃ i j, x = .int i ∧ y = .int j ∧ Q (.int (i - j)) h
  | .mul z, x, y, h, Q => oMul z x y h Q
  | .fdiv, x, y, h, Q => ∃ i j, x = .int i ∧ y = .int j ∧ (0 < j ∧ j < 1073741824) ∧ Q (.int (i / j)) h
  | .mod, x, y, h, Q => ∃ i j, x = .int i ∧ y = .int j ∧ 0 < j ∧ Q (.int (i % j)) h
  | .pow, x, y, h, Q => ∃ i j, x = .int i ∧ y = .int j ∧ (0 ≤ j ∧ j ≤ 1000000 ∧ i.natAbs < 2 ^ 64) ∧ Q (.int (i ^ j.toNat)) h
  | .shl, x, y, h, Q => ∃ i j, x = .int i ∧ y = .int j ∧ (0 ≤ j ∧ j ≤ 1000000 ∧ i.natAbs < 2 ^ 64) ∧ Q (.int (i * 2 ^ j.toNat)) h
  | .shr, x, y, h, Q => ∃ i j, x = .int i ∧ y = .int j ∧ 0 ≤ j ∧ Q (.int (i / 2 ^ j.toNat)) h
  | .band, x, y, h, Q => ∃ i j, x = .int i ∧ y = .int j ∧ Q (.int (Builtin.bitAnd i j)) h

/-- a < b of ints, of texts -/
def cmpLt (x y : Val) (R : Bool → Prop) : Prop := match x, y with
  | .int i, .int j => R (decide (i < j))
  | .str s, .str t => R (decide (s < t))
  | _, _ => False
/-- data that is compared: no dicts, not too deep -/
def shp (d : PyData) : Prop := d.depth ≤ 60 ∧ d.hasDict = false
def cEq (x y : Val) (h : Hv) (R : Bool → Prop) : Prop := (∃ d e, Dp h x d ∧ Dp h y e ∧ shp d ∧ shp e ∧ R (PyData.eqv d e)) ∨
  ∃ vs ws, IsL h x vs ∧ IsL h y ws ∧ vs.length ≠ ws.length ∧ R false
/-- the key of a dict: an int, a text, a tuple of such -/
def keyS : Val → Bool
  | .int _ => true
  | .str _ => true
  | _ => false
def keyB : Val → Bool
  | .tup vs => vs.all keyS
  | v => keyS v
def isTup : Val → Bool
  | .tup _ => true
  | _ => false
/-- a key of the dict's kind -/
def okKey (k : Val) (kvs : List (Val × Val)) (lk : Bool := false) : Prop := keyB k = true ∧ (kvs.all fun p => isTup p.1 == isTup k) = true ∧ (lk = true → kvs ≠ [])
def kEq : Val → Val → Bool
  | .int i, .int j => decide (i = j)
  | .str s, .str t => decide (s = t)
  | _, _ => false
def kEqs : List Val → List Val → Bool
  | [], [] => true
  | a :: as, b :: bs => kEq a b && kEqs as bs
  | _, _ => false
def keq : Val → Val → Bool
  | .tup as, .tup bs => kEqs as bs
  | a, b => kEq a b
def kvGet (k : Val) : List (Val × Val) → Option Val
  | [] => none
  | (c, v) :: r => if keq c k then some v else kvGet k r
def kvPut (k v : Val) (kvs : List (Val × Val)) : List (Val × Val) :=
  if (kvs.any fun p => keq p.1 k) = true then kvs.map (fun p => if keq p.1 k = true then (p.1, v) else p) else kvs ++ [(k, v)]

def cIn (x y : Val) (h : Hv) (R : Bool → Prop) : Prop := match y with
  | .str t => ∃ s, x = .str s ∧ ((∃ c, s = [c] ∧ R (decide (c ∈ t))) ∨ (s.length ≠ 1 ∧ R (!(Builtin.Str.occurrences (toS t) (toS s) 0 t.length 1).isEmpty)))
  | .tup vs => ∃ d ds, Dp h x d ∧ Dps h vs ds ∧ shp d ∧ shp (.tuple ds) ∧ R (ds.any fun z => PyData.eqv z d)
  | .cl vs => ∃ d ds, Dp h x d ∧ Dps h vs ds ∧ shp d ∧ shp (.list ds) ∧ shp (.tuple ds) ∧ R (ds.any fun z => PyData.eqv z d)
  | .fl vs => ∃ d ds, Dp h x d ∧ Dps h vs ds ∧ shp d ∧ shp (.list ds) ∧ R (ds.any fun z => PyData.eqv z d)
  | .fd kvs => okKey x kvs ∧ R (kvGet x kvs).isSome
  | .ref n => (∃ vs d ds, h.g n = some (.lst vs) ∧ Dp h x d ∧ Dps h vs ds ∧ shp d ∧ shp (.list ds) ∧ R (ds.any fun z => PyData.eqv z d)) ∨
      ∃ kvs lk, h.g n = some (.dic kvs lk) ∧ okKey x kvs lk ∧ R (kvGet x kvs).isSome
  | _ => False
def isV (x y : Val) (R : Bool → Prop) : Prop := match y with
  | .non => R (match x with | .non => true | _ => false)
  | .bl b => R (match x with | .bl c => b == c | _ => false)
  | _ => False
def co : CO → Val → Val → Hv → (Bool → Prop) → Prop
  | .lt, x, y, _, R => cmpLt x y R
  | .gt, x, y, _, R => cmpLt y x R
  | .le, x, y, _, R => cmpLt y x fun b => R (!b)
  | .ge, x, y, _, R => cmpLt x y fun b => R (!b)
  | .eq, x, y, h, R => cEq x y h R
  | .ne, x, y, h, R => cEq x y h fun b => R (!b)
  | .isin, x, y, h, R => cIn x y h R
  | .notin, x, y, h, R => cIn x y h fun b => R (!b)
  | .is_, x, y, _, R => isV x y R
  | .isnt, x, y, _, R => isV x y fun b => R (!b)

/-! ### items, slices -/
def oIdx (x y : Val) (h : Hv) (Q : K1) : Prop := match x with
  | .str s => ∃ i c, y = .int i ∧ s.length ≤ sizeLine ∧ L2.atI s i = some c ∧ Q (.str [c]) h
  | .tup vs => ∃ i v, y = .int i ∧ L2.atI vs i = some v ∧ Q v h
  | .cl vs => ∃ i v, y = .int i ∧ L2.atI vs i = some v ∧ Q v h
  | .fl vs => ∃ i v, y = .int i ∧ L2.atI vs i = some v ∧ Q v h
  | .fd kvs => ∃ v, okKey y kvs ∧ kvGet y kvs = some v ∧ Q v h
  | .ref n => (∃ vs i v, h.g n = some (.lst vs) ∧ y = .int i ∧ L2.atI vs i = some v ∧ Q v h) ∨
      ∃ kvs lk v, h.g n = some (.dic kvs lk) ∧ okKey y kvs lk ∧ kvGet y kvs = some v ∧ Q v h
  | _ => False
def cut (xs : List α) (lo hi : Option Int) : List α := (xs.drop (HT.sIx xs.length 0 lo)).take (HT.sIx xs.length xs.length hi - HT.sIx xs.length 0 lo)
def oSlc (z : Bool) (x : Val) (lo hi : Option Int) (h : Hv) (Q : K1) : Prop := match x with
  | .str s => s.length ≤ sizeLine ∧ Q (.str (cut s lo hi)) h
  | .tup vs => Q (.tup (cut vs lo hi)) h
  | x => asL x h fun vs => newL z (cut vs lo hi) h Q
def oRev (z : Bool) (x : Val) (h : Hv) (Q : K1) : Prop := asL x h fun vs => newL z vs.reverse h Q

/-! ### types asked by isinstance -/
inductive Ty where
  | int | bool | str | list | tuple | dict | cls (C : Nat)
  deriving DecidableEq
/-- what a value is -/
inductive Tg where
  | non | bool | int | str | tuple | list | dict | ins (C : Nat)
def tag (h : Hv) : Val → Option Tg
  | .non => some .non
  | .bl _ => some .bool
  | .int _ => some .int
  | .str _ => some .str
  | .tup _ => some .tuple
  | .cl _ => none
  | .fl _ => some .list
  | .fd _ => some .dict
  | .fi C _ => some (.ins C)
  | .fx _ _ => none
  | .ref n => match h.g n with
    | some (.lst _) => some .list
    | some (.dic _ false) => some .dict
    | some (.ins C _) => some (.ins C)
    | _ => none
def tgB : Tg → Bool
  | .ins _ => false
  | _ => true
def tgIs : Tg → Ty → Bool
  | .bool, .int => true
  | .bool, .bool => true
  | .int, .int => true
  | .str, .str => true
  | .tuple, .tuple => true
  | .list, .list => true
  | .dict, .dict => true
  | .ins C, .cls D => C == D
  | _, _ => false

/-! ### builtin functions, methods -/
inductive Bi where
  | len | abs | max2 | min2 | max1 | min1 | sum | all | any | int | str | repr | list (z : Bool) | tuple | dict (z : Bool) | lset | sorted (z : Bool) | divmod
inductive Bm where
  | append | extend | pop0 | pop1 | clear | reverse | get1 | get2 | index | join | split (z : Bool) | replace | upper | bitlen
def lenW (v : Val) (h : Hv) (Q : K1) : Prop := match v with
  | .str s => s.length ≤ sizeLine ∧ Q (.int s.length) h
  | .tup vs => Q (.int vs.length) h
  | .cl vs => Q (.int vs.length) h
  | .fl vs => Q (.int vs.length) h
  | .fd kvs => Q (.int kvs.length) h
  | .ref n => (∃ vs, h.g n = some (.lst vs) ∧ Q (.int vs.length) h) ∨ ∃ kvs lk, h.g n = some (.dic kvs lk) ∧ Q (.int kvs.length) h
  | _ => False
def allBl : List Val → Option (List Bool)
  | [] => some []
  | .bl b :: r => (allBl r).map (b :: ·)
  | _ :: _ => none
def allInt : List Val → Option (List Int)
  | [] => some []
  | .int b :: r => (allInt r).map (b :: ·)
  | _ :: _ => none
def allStr : List Val → Option (List (List Nat))
  | [] => some []
  | .str b :: r => (allStr r).map (b :: ·)
  | _ :: _ => none
def maxI : Int → List Int → Int
  | m, [] => m
  | m, x :: r => maxI (if x > m then x else m) r
def minI : Int → List Int → Int
  | m, [] => m
  | m, x :: r => minI (if x < m then x else m) r
def joinW (sep : List Nat) : List (List Nat) → List Nat
  | [] => []
  | [x] => x
  | x :: y :: r => x ++ sep ++ joinW sep (y :: r)
def tupW (v : Val) (h : Hv) (Q : K1) : Prop := match v with
  | .tup vs => Q (.tup vs) h
  | v => asL v h fun xs => Q (.tup xs) h
def insI (x : Int) : List Int → List Int
  | [] => [x]
  | y :: r => if x ≤ y then x :: y :: r else y :: insI x r
def srt : List Int → List Int
  | [] => []
  | x :: r => insI x (srt r)
def listW (z : Bool) (v : Val) (h : Hv) (Q : K1) : Prop := match v with
  | .fl vs => newL z vs h Q
  | .tup vs => newL z vs h Q
  | .cl vs => newL z vs h Q
  | .fd kvs => kvs.all (fun p => keyS p.1) = true ∧ newL z (kvs.map (·.1)) h Q
  | .ref n => (∃ vs, h.g n = some (.lst vs) ∧ newL z vs h Q) ∨ ∃ kvs lk, h.g n = some (.dic kvs lk) ∧ kvs.all (fun p => keyS p.1) = true ∧ newL z (kvs.map (·.1)) h Q
  | _ => False
/-- dict(pairs), dict(dict) -/
def dicP (z : Bool) (xs : List Val) (h : Hv) (Q : K1) : Prop := ∃ kvs : List (Val × Val), xs = kvs.map (fun p : Val × Val => Val.tup [p.1, p.2]) ∧ (∀ p ∈ kvs, keyS p.1 = true) ∧ xs.length ≤ sizeLine ∧ newD z (kvs.foldl (fun d p => kvPut p.1 p.2 d) []) h Q
def dictW (z : Bool) (v : Val) (h : Hv) (Q : K1) : Prop := match v with
  | .fl xs => dicP z xs h Q
  | .fd kvs => kvs.all (fun p => keyS p.1) = true ∧ newD z kvs h Q
  | .ref n => (∃ xs, h.g n = some (.lst xs) ∧ dicP z xs h Q) ∨ ∃ kvs, h.g n = some (.dic kvs false) ∧ kvs.all (fun p => keyS p.1) = true ∧ newD z kvs h Q
  | _ => False
def biW : Bi → List Val → Hv → K1 → Prop
  | .len, vs, h, Q => ∃ v, vs = [v] ∧ lenW v h Q
  | .abs, vs, h, Q => ∃ i, vs = [.int i] ∧ Q (.int (if i < 0 then -i else i)) h
  | .max2, vs, h, Q => ∃ i j, vs = [.int i, .int j] ∧ Q (.int (if j > i then j else i)) h
  | .min2, vs, h, Q => ∃ i j, vs = [.int i, .int j] ∧ Q (.int (if j < i then j else i)) h
  | .int, vs, h, Q => (∃ i, vs = [.int i] ∧ Q (.int i) h) ∨ (∃ b, vs = [.bl b] ∧ Q (.int (if b then 1 else 0)) h) ∨ ∃ s n, vs = [.str s] ∧ PySem.intText? (toS s) = some n ∧ s.length ≤ 640 ∧ Q (.int n) h
  | .all, vs, h, Q => ∃ v, vs = [v] ∧ asL v h fun xs => ∃ bs, allBl xs = some bs ∧ Q (.bl (bs.all id)) h
  | .any, vs, h, Q => ∃ v, vs = [v] ∧ asL v h fun xs => ∃ bs, allBl xs = some bs ∧ Q (.bl (bs.any id)) h
  | .sum, vs, h, Q => ∃ v, vs = [v] ∧ asL v h fun xs => ∃ is, allInt xs = some is ∧ Q (.int is.sum) h
  | .max1, vs, h, Q => ∃ v, vs = [v] ∧ asL v h fun xs => ∃ i is, allInt xs = some (i :: is) ∧ Q (.int (maxI i is)) h
  | .min1, vs, h, Q => ∃ v, vs = [v] ∧ asL v h fun xs => ∃ i is, allInt xs = some (i :: is) ∧ Q (.int (minI i is)) h
  | .sorted z, vs, h, Q => ∃ v, vs = [v] ∧ asL v h fun xs => ∃ is, allInt xs = some is ∧ newL z ((srt is).map Val.int) h Q
  | .divmod, vs, h, Q => ∃ i j, vs = [.int i, .int j] ∧ (0 < j ∧ j < 1073741824) ∧ Q (.tup [.int (i / j), .int (i % j)]) h
  | .repr, vs, h, Q => ∃ v d, vs = [v] ∧ Dp h v d ∧ d.showable = true ∧ d.depth ≤ 60 ∧ d.shown.length ≤ sizeLine ∧ Q (.str d.shown.cps.toList) h
  | .list z, vs, h, Q => ∃ v, vs = [v] ∧ listW z v h Q
  | .tuple, vs, h, Q => ∃ v, vs = [v] ∧ tupW v h Q
  | .str, vs, h, Q => ∃ i : Int, vs = [.int i] ∧ i.natAbs.log2 < 1920 ∧ Q (.str (Str.ofString (toString i)).cps.toList) h
  | .dict z, vs, h, Q => ∃ v, vs = [v] ∧ dictW z v h Q
  | _, _, _, _ => False
def bmW : Bm → Val → List Val → Hv → K1 → Prop
  | .append, o, vs, h, Q => ∃ n xs v, o = .ref n ∧ vs = [v] ∧ h.g n = some (.lst xs) ∧ xs.length < sizeLine ∧ Q .non (h.put n (.lst (xs ++ [v])))
  | .extend, o, vs, h, Q => ∃ n w xs, o = .ref n ∧ vs = [w] ∧ h.g n = some (.lst xs) ∧ asL w h fun ys => xs.length + ys.length ≤ sizeLine ∧ Q .non (h.put n (.lst (xs ++ ys)))
  | .pop1, o, vs, h, Q => ∃ n xs i k v, o = .ref n ∧ vs = [.int i] ∧ h.g n = some (.lst xs) ∧ L2.ixN xs.length i = some k ∧ xs[k]? = some v ∧ Q v (h.put n (.lst (xs.eraseIdx k)))
  | .pop0, o, vs, h, Q => ∃ n xs v, o = .ref n ∧ vs = [] ∧ h.g n = some (.lst xs) ∧ xs[xs.length - 1]? = some v ∧ Q v (h.put n (.lst xs.dropLast))
  | .clear, o, vs, h, Q => ∃ n xs, o = .ref n ∧ vs = [] ∧ h.g n = some (.lst xs) ∧ Q .non (h.put n (.lst []))
  | .reverse, o, vs, h, Q => ∃ n xs, o = .ref n ∧ vs = [] ∧ h.g n = some (.lst xs) ∧ Q .non (h.put n (.lst xs.reverse))
  | .get1, o, vs, h, Q => ∃ k, vs = [k] ∧ asD o h fun kvs lk => okKey k kvs lk ∧ Q ((kvGet k kvs).getD .non) h
  | .get2, o, vs, h, Q => ∃ k d, vs = [k, d] ∧ asD o h fun kvs lk => okKey k kvs lk ∧ Q ((kvGet k kvs).getD d) h
  | .join, o, vs, h, Q => ∃ s v, o = .str s ∧ vs = [v] ∧ asSeq v h fun xs => ∃ zs, allStr xs = some zs ∧ (joinW s zs).length + s.length ≤ sizeLine ∧ Q (.str (joinW s zs)) h
  | .split z, o, vs, h, Q => ∃ s t, o = .str s ∧ vs = [.str t] ∧ t ≠ [] ∧ t.all (· < 256) = true ∧ s.length + 2 ≤ sizeLine ∧ newL z ((TL.spl t 0 [] s).map Val.str) h Q
  | _, _, _, _, _ => False

/-- the receiver's type, ahead of the arguments -/
def bmT : Bm → Val → Hv → Prop
  | .join, o, _ => ∃ s, o = .str s
  | .split _, o, _ => ∃ s, o = .str s
  | .replace, o, _ => ∃ s, o = .str s
  | .upper, o, _ => ∃ s, o = .str s
  | .bitlen, o, _ => ∃ i, o = .int i
  | .get1, o, h => asD o h fun _ lk => lk = false
  | .get2, o, h => asD o h fun _ lk => lk = false
  | .index, o, h => asL o h fun _ => True
  | _, o, h => ∃ n xs, o = .ref n ∧ h.g n = some (.lst xs)

/-! ### the language -/
mutual
inductive E
  | var (i : Nat) | con (v : Val) | glb (x : Nm) (v : Val)
  | bin (o : O2) (a b : E) | neg (a : E)
  | cmp (o : CO) (a b : E) | chain (o p : CO) (a b c : E)
  | and (es : Es) | or (es : Es) | not (a : E) | ife (c a b : E)
  | call (x : Nm) (sp : Spec) (es : Es) | isc (C : Nat) (e : E) | leno (C : Nat) (sp : Spec) (o : E) | stro (C : Nat) (sp : Spec) (o : E) | eqo (C : Nat) (sp : Spec) (a b : E) | mth (C : Nat) (m : Nm) (sp : Spec) (o : E) (es : Es)
  | bi (b : Bi) (es : Es) | isi (a : E) (ts : List Ty) | bm (m : Bm) (o : E) (es : Es)
  | fld (C i : Nat) (o : E) | idx (a b : E) | slc (z : Bool) (a : E) (lo hi : Eo) | rev (z : Bool) (a : E)
  | tup (es : Es) | lst (z : Bool) (es : Es) | dict (z : Bool) (ps : Es)
  | lc (z : Bool) (elt : E) (t : T) (it : It) (ifs : Es) (own : List Nat)
  | lc2 (z : Bool) (elt : E) (t : T) (it : It) (ifs : Es) (t1 : T) (it1 : It) (ifs1 : Es) (own own1 : List Nat)
  | dc (z : Bool) (k v : E) (t : T) (it : It) (ifs : Es) (own : List Nat)
  | fst (es : Es) | fz (e : E) | lrg (z : Bool) (e : E)
inductive Es
  | nil | cons (e : E) (es : Es)
inductive Eo
  | none | some (e : E)
inductive T
  | name (i : Nat) | tup (ts : Ts) | sub (o i : E) | fld (C i : Nat) (o : E)
inductive Ts
  | nil | cons (t : T) (ts : Ts)
inductive It
  | any (e : E) | rng1 (e : E) | rng2 (a b : E) | enum (e : E) | zip (a b : E) | items (e : E) | values (e : E)
end

/-- what is walked: its items, what must stand at each turn -/
structure Wk where
  items : List Val
  G : Hv → Prop
abbrev WkK := Wk → Hv → Prop
def pairV (p : Val × Val) : Val := .tup [p.1, p.2]
def zipW : List Val → List Val → List Val
  | a :: as, b :: bs => .tup [a, b] :: zipW as bs
  | _, _ => []
def enumW : Nat → List Val → List Val
  | _, [] => []
  | k, v :: r => .tup [.int k, v] :: enumW (k + 1) r
def itAny (v : Val) (h : Hv) (K : WkK) : Prop := match v with
  | .str s => s.length ≤ sizeLine ∧ K ⟨s.map fun c => .str [c], fun _ => True⟩ h
  | .tup vs => K ⟨vs, fun _ => True⟩ h
  | .cl vs => K ⟨vs, fun _ => True⟩ h
  | .fl vs => K ⟨vs, fun _ => True⟩ h
  | .ref n => ∃ vs, h.g n = some (.lst vs) ∧ K ⟨vs, fun h' => h'.g n = some (.lst vs)⟩ h
  | _ => False
/-- enumerate of a list, of a tuple -/
def enW (v : Val) (h : Hv) (K : WkK) : Prop := match v with
  | .tup vs => K ⟨enumW 0 vs, fun _ => True⟩ h
  | v => asL v h fun vs => K ⟨enumW 0 vs, fun h' => IsL h' v vs⟩ h
/-- a list comprehension's turns -/
def compW (w : Wk) (ft : Val → Hv → (Ev → Hv → Prop) → Prop) (fi : Ev → Hv → (Bool → Hv → Prop) → Prop) (fe : Ev → Hv → K1 → Prop) : List Val → Hv → List Val → (List Val → Hv → Prop) → Prop
  | [], h, acc, Q => w.G h ∧ Q acc h
  | x :: r, h, acc, Q => w.G h ∧ ft x h fun env2 h2 => fi env2 h2 fun b h3 => if b = true then fe env2 h3 fun v h4 => acc.length < sizeLine ∧ compW w ft fi fe r h4 (acc ++ [v]) Q else compW w ft fi fe r h3 acc Q
/-- two clauses: the outer one's turns -/
def comp2W (w : Wk) (ft : Val → Hv → (Ev → Hv → Prop) → Prop) (fi : Ev → Hv → (Bool → Hv → Prop) → Prop) (fn : Ev → Hv → List Val → (List Val → Hv → Prop) → Prop) : List Val → Hv → List Val → (List Val → Hv → Prop) → Prop
  | [], h, acc, Q => w.G h ∧ Q acc h
  | x :: r, h, acc, Q => w.G h ∧ ft x h fun env2 h2 => fi env2 h2 fun b h3 => if b = true then fn env2 h3 acc fun acc2 h4 => comp2W w ft fi fn r h4 acc2 Q else comp2W w ft fi fn r h3 acc Q
/-- a dict comprehension's turns -/
def dcW (w : Wk) (ft : Val → Hv → (Ev → Hv → Prop) → Prop) (fi : Ev → Hv → (Bool → Hv → Prop) → Prop) (fk fv : Ev → Hv → K1 → Prop) : List Val → Hv → List (Val × Val) → (List (Val × Val) → Hv → Prop) → Prop
  | [], h, acc, Q => w.G h ∧ Q acc h
  | x :: r, h, acc, Q => w.G h ∧ ft x h fun env2 h2 => fi env2 h2 fun b h3 => if b = true then fk env2 h3 fun k h4 => fv env2 h4 fun v h5 => keyS k = true ∧ acc.length < sizeLine ∧ dcW w ft fi fk fv r h5 (kvPut k v acc) Q else dcW w ft fi fk fv r h3 acc Q
def wipeE (env : Ev) : List Nat → Ev
  | [] => env
  | v :: vs => (wipeE env vs).set v none
abbrev noE : EK := fun _ _ => False
def oFld (C i : Nat) (x : Val) (h : Hv) (Q : K1) : Prop := match x with
  | .fi D fs => D = C ∧ ∃ v, fs[i]? = some v ∧ Q v h
  | .ref n => ∃ fs v, h.g n = some (.ins C fs) ∧ fs[i]? = some (some v) ∧ Q v h
  | _ => False
def isIns (C : Nat) (x : Val) (h : Hv) : Prop := match x with
  | .fi D _ => D = C
  | .ref n => ∃ fs, h.g n = some (.ins C fs)
  | _ => False
/-- isinstance of an own class -/
def isCV (C : Nat) (x : Val) (h : Hv) (K : Bool → Prop) : Prop := match tag h x with
  | some (.ins D) => D = C ∧ K true
  | some _ => K false
  | none => False
def lenOk (v : Val) : Prop := match v with
  | .int n => 0 ≤ n ∧ n < 4611686018427387904
  | _ => False
def strOk (v : Val) : Prop := match v with
  | .str _ => True
  | _ => False
def tstV (v : Val) (K : Bool → Prop) : Prop := match v with
  | .bl b => K b
  | _ => False
def unTup (v : Val) (n : Nat) (K : List Val → Prop) : Prop := match v with
  | .tup vs => vs.length = n ∧ K vs
  | .fl vs => vs.length = n ∧ K vs
  | _ => False
def Ts.len : Ts → Nat
  | .nil => 0
  | .cons _ r => r.len + 1
/-- store into a list or a dict -/
def stSub (o i v : Val) (h : Hv) (Q : Hv → Prop) : Prop := match o with
  | .ref n => (∃ vs j k, h.g n = some (.lst vs) ∧ i = .int j ∧ L2.ixN vs.length j = some k ∧ Q (h.put n (.lst (vs.set k v)))) ∨
      ∃ kvs, h.g n = some (.dic kvs false) ∧ okKey i kvs ∧ kvs.length < sizeLine ∧ Q (h.put n (.dic (kvPut i v kvs) false))
  | _ => False
def stFld (C i : Nat) (o v : Val) (h : Hv) (Q : Hv → Prop) : Prop := match o with
  | .ref n => ∃ fs, h.g n = some (.ins C fs) ∧ i < fs.length ∧ Q (h.put n (.ins C (fs.set i (some v))))
  | _ => False
/-- the pairs of a display, key and value in turn -/
def dsW : List Val → List (Val × Val) → Option (List (Val × Val))
  | [], acc => some acc
  | k :: v :: r, acc => if keyS k = true then dsW r (kvPut k v acc) else none
  | _, _ => none
/-- a part of an f-string as text -/
def fmtV (v : Val) (K : List Nat → Prop) : Prop := match v with
  | .str s => K s
  | .int i => i.natAbs.log2 < 1920 ∧ K (Str.ofString (toString i)).cps.toList
  | _ => False

/-! ### what changes no more -/
mutual
inductive Fz : Hv → Val → Val → Hv → Prop
  | same {h : Hv} {v : Val} : Fz h v v h
  | lst {h h' : Hv} {n : Nat} {vs ws : List Val} : h.g n = some (.lst vs) → Fzs (h.del n) vs ws h' → Fz h (.ref n) (.fl ws) h'
  | dic {h h' : Hv} {n : Nat} {kvs kws : List (Val × Val)} : h.g n = some (.dic kvs false) → Fzk (h.del n) kvs kws h' → Fz h (.ref n) (.fd kws) h'
  | ins {h h' : Hv} {n C : Nat} {vs ws : List Val} : h.g n = some (.ins C (vs.map some)) → Fzs (h.del n) vs ws h' → Fz h (.ref n) (.fi C ws) h'
inductive Fzs : Hv → List Val → List Val → Hv → Prop
  | same {h : Hv} {vs : List Val} : Fzs h vs vs h
  | cons {h h1 h2 : Hv} {v w : Val} {vs ws : List Val} : Fz h v w h1 → Fzs h1 vs ws h2 → Fzs h (v :: vs) (w :: ws) h2
inductive Fzk : Hv → List (Val × Val) → List (Val × Val) → Hv → Prop
  | same {h : Hv} {vs : List (Val × Val)} : Fzk h vs vs h
  | cons {h h1 h2 : Hv} {k v w : Val} {vs ws : List (Val × Val)} : Fz h v w h1 → Fzk h1 vs ws h2 → Fzk h ((k, v) :: vs) ((k, w) :: ws) h2
end

mutual
def wpE : E → Ev → Hv → K1 → EK → Prop
  | .var i, env, h, Q, _ => ∃ v, env[i]? = some (some v) ∧ Q v h
  | .con v, _, h, Q, _ => Q v h
  | .glb _ v, _, h, Q, _ => Q v h
  | .bin o a b, env, h, Q, Ex => wpE a env h (fun x h1 => wpE b env h1 (fun y h2 => o2 o x y h2 Q) Ex) Ex
  | .neg a, env, h, Q, Ex => wpE a env h (fun x h1 => ∃ i, x = .int i ∧ Q (.int (-i)) h1) Ex
  | .cmp o a b, env, h, Q, Ex => wpE a env h (fun x h1 => wpE b env h1 (fun y h2 => co o x y h2 fun c => Q (.bl c) h2) Ex) Ex
  | .chain o p a b c, env, h, Q, Ex => wpE a env h (fun x h1 => wpE b env h1 (fun y h2 => co o x y h2 fun k => if k = true then wpE c env h2 (fun z h3 => co p y z h3 fun k' => Q (.bl k') h3) Ex else Q (.bl false) h2) Ex) Ex
  | .and es, env, h, Q, Ex => wpAnd es env h Q Ex
  | .or es, env, h, Q, Ex => wpOr es env h Q Ex
  | .not a, env, h, Q, Ex => wpE a env h (fun x h1 => tstV x fun b => Q (.bl (!b)) h1) Ex
  | .ife c a b, env, h, Q, Ex => wpE c env h (fun x h1 => tstV x fun k => if k = true then wpE a env h1 Q Ex else wpE b env h1 Q Ex) Ex
  | .call _ sp es, env, h, Q, Ex => wpEs es env h (fun vs h1 => sp vs h1 Q Ex) Ex
  | .isc C a, env, h, Q, Ex => wpE a env h (fun x h1 => isCV C x h1 fun b => Q (.bl b) h1) Ex
  | .leno C sp o, env, h, Q, Ex => wpE o env h (fun x h1 => isIns C x h1 ∧ sp [x] h1 (fun v h2 => lenOk v ∧ Q v h2) Ex) Ex
  | .stro C sp o, env, h, Q, Ex => wpE o env h (fun x h1 => isIns C x h1 ∧ sp [x] h1 (fun v h2 => strOk v ∧ Q v h2) Ex) Ex
  | .eqo C sp a b, env, h, Q, Ex => wpE a env h (fun x h1 => wpE b env h1 (fun y h2 => isIns C x h2 ∧ isCV C y h2 (fun _ => True) ∧ sp [x, y] h2 (fun v h3 => tstV v fun b => Q (.bl b) h3) Ex) Ex) Ex
  | .mth C _ sp o es, env, h, Q, Ex => wpE o env h (fun x h1 => isIns C x h1 ∧ wpEs es env h1 (fun vs h2 => sp (x :: vs) h2 Q Ex) Ex) Ex
  | .bi b es, env, h, Q, Ex => wpEs es env h (fun vs h1 => biW b vs h1 Q) Ex
  | .isi a ts, env, h, Q, Ex => wpE a env h (fun x h1 => ∃ g, tag h1 x = some g ∧ tgB g = true ∧ Q (.bl (ts.any (tgIs g))) h1) Ex
  | .bm m o es, env, h, Q, Ex => wpE o env h (fun x h1 => bmT m x h1 ∧ wpEs es env h1 (fun vs h2 => bmW m x vs h2 Q) Ex) Ex
  | .fld C i o, env, h, Q, Ex => wpE o env h (fun x h1 => oFld C i x h1 Q) Ex
  | .idx a b, env, h, Q, Ex => wpE a env h (fun x h1 => wpE b env h1 (fun y h2 => oIdx x y h2 Q) Ex) Ex
  | .slc z a lo hi, env, h, Q, Ex => wpE a env h (fun x h1 => wpEo lo env h1 (fun l h2 => wpEo hi env h2 (fun u h3 => oSlc z x l u h3 Q) Ex) Ex) Ex
  | .rev z a, env, h, Q, Ex => wpE a env h (fun x h1 => oRev z x h1 Q) Ex
  | .tup es, env, h, Q, Ex => wpEs es env h (fun vs h1 => vs.length ≤ sizeLine ∧ Q (.tup vs) h1) Ex
  | .lst z es, env, h, Q, Ex => wpEs es env h (fun vs h1 => vs.length ≤ sizeLine ∧ newL z vs h1 Q) Ex
  | .dict z ps, env, h, Q, Ex => wpEs ps env h (fun l h1 => l.length ≤ 30 ∧ ∃ kvs, dsW l [] = some kvs ∧ newD z kvs h1 Q) Ex
  | .lc z elt t it ifs own, env, h, Q, Ex => wpI it env h (fun w h1 => compW w (fun x h2 K => wpT t x (wipeE env own) h2 K) (fun e2 h2 K => wpIfs ifs e2 h2 K) (fun e2 h2 K => wpE elt e2 h2 K noE) w.items h1 [] fun acc h3 => newL z acc h3 Q) Ex
  | .lc2 z elt t it ifs t1 it1 ifs1 own own1, env, h, Q, Ex => wpI it env h (fun w h1 => comp2W w (fun x h2 K => wpT t x (wipeE env own) h2 K) (fun e2 h2 K => wpIfs ifs e2 h2 K) (fun e2 h2 acc K => wpI it1 e2 h2 (fun w1 h3 => compW w1 (fun x h4 K => wpT t1 x (wipeE e2 own1) h4 K) (fun e3 h4 K => wpIfs ifs1 e3 h4 K) (fun e3 h4 K => wpE elt e3 h4 K noE) w1.items h3 acc K) noE) w.items h1 [] fun acc h3 => newL z acc h3 Q) Ex
  | .dc z k v t it ifs own, env, h, Q, Ex => wpI it env h (fun w h1 => dcW w (fun x h2 K => wpT t x (wipeE env own) h2 K) (fun e2 h2 K => wpIfs ifs e2 h2 K) (fun e2 h2 K => wpE k e2 h2 K noE) (fun e2 h2 K => wpE v e2 h2 K noE) w.items h1 [] fun acc h3 => newD z acc h3 Q) Ex
  | .fst es, env, h, Q, Ex => wpF es env h [] (fun s h1 => Q (.str s) h1) Ex
  | .fz e, env, h, Q, Ex => wpE e env h (fun v h1 => ∃ w h2, Fz h1 v w h2 ∧ Q w h2) Ex
  | .lrg z e, env, h, Q, Ex => wpE e env h (fun v h1 => ∃ j : Int, v = .int j ∧ -1000000 ≤ j ∧ j ≤ 1000000 ∧ newL z ((List.range j.toNat).map fun (i : Nat) => .int i) h1 Q) Ex
def wpEs : Es → Ev → Hv → (List Val → Hv → Prop) → EK → Prop
  | .nil, _, h, Q, _ => Q [] h
  | .cons e r, env, h, Q, Ex => wpE e env h (fun v h1 => wpEs r env h1 (fun vs h2 => Q (v :: vs) h2) Ex) Ex
def wpEo : Eo → Ev → Hv → (Option Int → Hv → Prop) → EK → Prop
  | .none, _, h, Q, _ => Q none h
  | .some e, env, h, Q, Ex => wpE e env h (fun v h1 => ∃ i, v = .int i ∧ Q (some i) h1) Ex
def wpAnd : Es → Ev → Hv → K1 → EK → Prop
  | .nil, _, _, _, _ => False
  | .cons e .nil, env, h, Q, Ex => wpE e env h (fun x h1 => tstV x fun b => Q (.bl b) h1) Ex
  | .cons e (.cons e2 r), env, h, Q, Ex => wpE e env h (fun x h1 => tstV x fun b => if b = true then wpAnd (.cons e2 r) env h1 Q Ex else Q (.bl false) h1) Ex
def wpOr : Es → Ev → Hv → K1 → EK → Prop
  | .nil, _, _, _, _ => False
  | .cons e .nil, env, h, Q, Ex => wpE e env h (fun x h1 => tstV x fun b => Q (.bl b) h1) Ex
  | .cons e (.cons e2 r), env, h, Q, Ex => wpE e env h (fun x h1 => tstV x fun b => if b = true then Q (.bl true) h1 else wpOr (.cons e2 r) env h1 Q Ex) Ex
/-- the tests of a comprehension -/
def wpIfs : Es → Ev → Hv → (Bool → Hv → Prop) → Prop
  | .nil, _, h, K => K true h
  | .cons e r, env, h, K => wpE e env h (fun x h1 => tstV x fun b => if b = true then wpIfs r env h1 K else K false h1) noE
def wpF : Es → Ev → Hv → List Nat → (List Nat → Hv → Prop) → EK → Prop
  | .nil, _, h, acc, K, _ => K acc h
  | .cons e r, env, h, acc, K, Ex => wpE e env h (fun v h1 => fmtV v fun s => acc.length + s.length ≤ sizeLine ∧ wpF r env h1 (acc ++ s) K Ex) Ex
def wpT : T → Val → Ev → Hv → (Ev → Hv → Prop) → Prop
  | .name i, v, env, h, K => K (env.set i (some v)) h
  | .tup ts, v, env, h, K => unTup v ts.len fun vs => wpTs ts vs env h K
  | .sub o i, v, env, h, K => wpE o env h (fun x h1 => wpE i env h1 (fun y h2 => stSub x y v h2 fun h3 => K env h3) noE) noE
  | .fld C i o, v, env, h, K => wpE o env h (fun x h1 => stFld C i x v h1 fun h2 => K env h2) noE
def wpTs : Ts → List Val → Ev → Hv → (Ev → Hv → Prop) → Prop
  | .nil, vs, env, h, K => vs = [] ∧ K env h
  | .cons t r, vs, env, h, K => ∃ v vr, vs = v :: vr ∧ wpT t v env h (fun env1 h1 => wpTs r vr env1 h1 K)
def wpI : It → Ev → Hv → WkK → EK → Prop
  | .any e, env, h, K, Ex => wpE e env h (fun v h1 => itAny v h1 K) Ex
  | .rng1 e, env, h, K, Ex => wpE e env h (fun v h1 => ∃ j : Int, v = .int j ∧ -(2 ^ 62) ≤ j ∧ j < 2 ^ 62 ∧ K ⟨(List.range j.toNat).map fun (k : Nat) => .int k, fun _ => True⟩ h1) Ex
  | .rng2 a b, env, h, K, Ex => wpE a env h (fun v h1 => wpE b env h1 (fun u h2 => ∃ i j : Int, v = .int i ∧ u = .int j ∧ (-(2 ^ 62) ≤ i ∧ i < 2 ^ 62 ∧ -(2 ^ 62) ≤ j ∧ j < 2 ^ 62) ∧ K ⟨(List.range (j - i).toNat).map fun (k : Nat) => .int (i + k), fun _ => True⟩ h2) Ex) Ex
  | .enum e, env, h, K, Ex => wpE e env h (fun v h1 => enW v h1 K) Ex
  | .zip a b, env, h, K, Ex => wpE a env h (fun x h1 => wpE b env h1 (fun y h2 => asL x h2 fun xs => asL y h2 fun ys => K ⟨zipW xs ys, fun h' => IsL h' x xs ∧ IsL h' y ys⟩ h2) Ex) Ex
  | .items e, env, h, K, Ex => False
  | .values e, env, h, K, Ex => False
end

/-! ### statements -/
mutual
inductive S
  | expr (e : E) | ret (e : E) | retN | pass | brk | cont | doc
  | asg (t : T) (e : E) | par (is : List Nat) (es : Es)
  | ite (c : E) (a b : Ss) | whl (c : E) (b : Ss) | for_ (t : T) (it : It) (b : Ss)
  | raise (C : Nat) (es : Es) | raiseN (C : Nat) (es : Es)
  | try_ (b : Ss) (hs : Hs)
  | dead | gh (i : Nat)
inductive Ss
  | nil | cons (s : S) (r : Ss)
inductive Hs
  | nil | cons (Cs : List Nat) (as : Option Nat) (b : Ss) (r : Hs)
end
structure En where
  nx : Ev → Hv → Prop
  rt : Val → Hv → Prop
  bk : Ev → Hv → Prop := fun _ _ => False
  ct : Ev → Hv → Prop := fun _ _ => False
  ex : Exn → Ev → Hv → Prop
def forW (w : Wk) (ft : Val → Ev → Hv → (Ev → Hv → Prop) → Prop) (fb : En → Ev → Hv → Prop) (D : En) : List Val → Ev → Hv → Prop
  | [], env, h => w.G h ∧ D.nx env h
  | x :: r, env, h => w.G h ∧ ft x env h fun env2 h2 => fb { D with nx := forW w ft fb D r, ct := forW w ft fb D r, bk := D.nx } env2 h2
def setAll : List Nat → List Val → Ev → Option Ev
  | [], [], env => some env
  | i :: is, v :: vs, env => setAll is vs (env.set i (some v))
  | _, _, _ => none
mutual
def wpS : S → En → Ev → Hv → Prop
  | .expr e, D, env, h => wpE e env h (fun _ h1 => D.nx env h1) (fun x h1 => D.ex x env h1)
  | .ret e, D, env, h => wpE e env h (fun v h1 => D.rt v h1) (fun x h1 => D.ex x env h1)
  | .retN, D, _, h => D.rt .non h
  | .pass, D, env, h => D.nx env h
  | .doc, D, env, h => D.nx env h
  | .brk, D, env, h => D.bk env h
  | .cont, D, env, h => D.ct env h
  | .asg t e, D, env, h => wpE e env h (fun v h1 => wpT t v env h1 D.nx) (fun x h1 => D.ex x env h1)
  | .par is es, D, env, h => wpEs es env h (fun vs h1 => ∃ env2, setAll is vs env = some env2 ∧ D.nx env2 h1) (fun x h1 => D.ex x env h1)
  | .ite c a b, D, env, h => wpE c env h (fun v h1 => tstV v fun k => if k = true then wpSs a D env h1 else wpSs b D env h1) (fun x h1 => D.ex x env h1)
  | .whl c b, D, env, h => ∃ W : Nat → Ev → Hv → Prop, (∃ m, W m env h) ∧ ∀ m env h, W m env h →
      wpE c env h (fun v h1 => tstV v fun k => if k = true then wpSs b { D with nx := fun env' h' => ∃ m', m' < m ∧ W m' env' h', ct := fun env' h' => ∃ m', m' < m ∧ W m' env' h', bk := D.nx } env h1 else D.nx env h1) (fun x h1 => D.ex x env h1)
  | .for_ t it b, D, env, h => wpI it env h (fun w h1 => forW w (fun x env2 h2 K => wpT t x env2 h2 K) (fun D' env2 h2 => wpSs b D' env2 h2) D w.items env h1) (fun x h1 => D.ex x env h1)
  | .raise C es, D, env, h => wpEs es env h (fun vs h1 => D.ex ⟨C, vs⟩ env h1) (fun x h1 => D.ex x env h1)
  | .raiseN C es, D, env, h => wpEs es env h (fun vs h1 => D.ex ⟨C, vs⟩ env h1) (fun x h1 => D.ex x env h1)
  | .try_ _ _, _, _, _ => False
  | .dead, _, _, _ => False
  | .gh i, D, env, h => ∃ v w h1, env[i]? = some (some v) ∧ Fz h v w h1 ∧ D.nx (env.set i (some w)) h1
def wpSs : Ss → En → Ev → Hv → Prop
  | .nil, D, env, h => D.nx env h
  | .cons s r, D, env, h => wpS s { D with nx := fun env1 h1 => wpSs r D env1 h1 } env h
end
/-- a def: names by slot, how many parameters, the body -/
def startE (n : Nat) (vs : List Val) : Ev := vs.map some ++ List.replicate (n - vs.length) none
/-- the body's meaning as a spec -/
def bodyW (n np : Nat) (b : Ss) : Spec := fun vs h Q Ex => vs.length = np ∧ wpSs b { nx := fun _ h1 => Q .non h1, rt := Q, ex := fun x _ h1 => Ex x h1 } (startE n vs) h
end Lw
set_option Elab.async false
set_option linter.all false
set_option maxRecDepth 100000
/-! Lw2: how our values and heap stand for those of the hand layer. -/
namespace Lw
open PySem L2

/-- where our names stand (nm), which of them change no more (fz), what else changes no more (fa), the classes (cl) -/
structure Rho where
  nm : Nat → Option Addr
  fz : Nat → Bool
  fa : Addr → Prop
  cl : Nat → Option Addr
instance : CoeFun Rho fun _ => Nat → Option Addr := ⟨Rho.nm⟩
/-- a dict's key -/
def RK (v : Val) (k : Key) : Prop := (∃ i, v = .int i ∧ k = .inl i) ∨ ∃ s, okS s ∧ v = .str s ∧ k = .inr (toS s)
def RKs (v : Val) (k : List Key) : Prop := ∃ vs, v = .tup vs ∧ Paired RK vs k
/-- a list or a tuple that never changes -/
def CsV (K : PySem.W.Frag) (H : Hp) (a : Addr) (xs : List V) : Prop := (∃ o, H a = some (.frz o (.lst xs))) ∨
  (∃ (o : Obj) (its : Array Value) (n : Nat), K.lookup a = some o ∧ o.cls = .type "list" ∧ o.dict = none ∧ o.data = .seq its n ∧ its.size ≤ sizeLine ∧ Vals xs its.toList) ∨
  (∃ (o : Obj) (its : Array Value) (n : Nat), K.lookup a = some o ∧ o.cls = .type "tuple" ∧ o.data = .seq its n ∧ its.size ≤ sizeLine ∧ Vals xs its.toList)
theorem CsV.sq {K : PySem.W.Frag} {H : Hp} {a : Addr} {xs : List V} (h : CsV K H a xs) : SqL K H a xs ∨ SqT K H a xs := by
  rcases h with ⟨o, h⟩ | h | h
  · exact .inl (.inl (.inr ⟨o, h⟩))
  · exact .inl (.inr h)
  · exact .inr (.inr h)

mutual
inductive RV (K : PySem.W.Frag) (ρ : Rho) (H : Hp) : Val → V → Prop
  | non : RV K ρ H .non .non
  | bl (b : Bool) : RV K ρ H (.bl b) (.bl b)
  | int (i : Int) : RV K ρ H (.int i) (.int i)
  | str {s : List Nat} (ok : okS s) : RV K ρ H (.str s) (.str (toS s))
  | tup {vs : List Val} {a : Addr} {xs : List V} : H a = some (.tup xs) → RVs K ρ H vs xs → RV K ρ H (.tup vs) (.ref a)
  | cl {vs : List Val} {a : Addr} {xs : List V} : CsV K H a xs → RVs K ρ H vs xs → RV K ρ H (.cl vs) (.ref a)
  | fl {vs : List Val} {a : Addr} {xs : List V} : ρ.fa a → H a = some (.lst xs) → RVs K ρ H vs xs → RV K ρ H (.fl vs) (.ref a)
  | fdK {kvs : List (Val × Val)} {a : Addr} {ks : List (Key × V)} : ρ.fa a → H a = some (.dK ks) → RDk K ρ H kvs ks → RV K ρ H (.fd kvs) (.ref a)
  | fdT {kvs : List (Val × Val)} {a : Addr} {ks : List (List Key × V)} : ρ.fa a → H a = some (.dT ks) → RDt K ρ H kvs ks → RV K ρ H (.fd kvs) (.ref a)
  | fi {C : Nat} {vs : List Val} {a Ca dx : Addr} {gs : List (Nm × V)} {xs : List V} : ρ.fa a → ρ.cl C = some Ca → H a = some (.ins Ca dx gs) → vs.length = (cflds C).length → gs.length ≤ (cflds C).length →
      (∀ (i : Nat) (f : Nm), (cflds C)[i]? = some f → gs.lookup f = xs[i]?) → (∀ f, f ∉ cflds C → gs.lookup f = none) → RVs K ρ H vs xs → RV K ρ H (.fi C vs) (.ref a)
  | fx {C : Nat} {vs : List Val} {a : Addr} : RV K ρ H (.fx C vs) (.ref a)
  | ref {n : Nat} {a : Addr} : ρ n = some a → RV K ρ H (.ref n) (.ref a)
inductive RDk (K : PySem.W.Frag) (ρ : Rho) (H : Hp) : List (Val × Val) → List (Key × V) → Prop
  | nil : RDk K ρ H [] []
  | cons {k v : Val} {c : Key} {x : V} {kvs : List (Val × Val)} {ks : List (Key × V)} : RK k c → RV K ρ H v x → RDk K ρ H kvs ks → RDk K ρ H ((k, v) :: kvs) ((c, x) :: ks)
inductive RDt (K : PySem.W.Frag) (ρ : Rho) (H : Hp) : List (Val × Val) → List (List Key × V) → Prop
  | nil : RDt K ρ H [] []
  | cons {k v : Val} {c : List Key} {x : V} {kvs : List (Val × Val)} {ks : List (List Key × V)} : RKs k c → RV K ρ H v x → RDt K ρ H kvs ks → RDt K ρ H ((k, v) :: kvs) ((c, x) :: ks)
inductive RVs (K : PySem.W.Frag) (ρ : Rho) (H : Hp) : List Val → List V → Prop
  | nil : RVs K ρ H [] []
  | cons {v : Val} {x : V} {vs : List Val} {xs : List V} : RV K ρ H v x → RVs K ρ H vs xs → RVs K ρ H (v :: vs) (x :: xs)
end

/-- how one state comes from another -/
structure Go (K : PySem.W.Frag) (ρ : Rho) (H : Hp) (ρ' : Rho) (H' : Hp) : Prop where
  le : ∀ n a, ρ n = some a → ρ' n = some a
  nw : ∀ n a, ρ' n = some a → ρ n = some a ∨ H a = none
  fr : ∀ a o, H a = some o → (∀ n, ρ n ≠ some a) → H' a = some o
  kp : ∀ a, H a ≠ none → H' a ≠ none
  tp : ∀ a xs, H a = some (.tup xs) → H' a = some (.tup xs)
  cf : ∀ a o xs, H a = some (.frz o (.lst xs)) → H' a = some (.frz o (.lst xs))
  fk : ∀ n a, ρ n = some a → ρ.fz n = true → ρ'.fz n = true
  fp : ∀ a, ρ.fa a → ρ'.fa a
  fn : ∀ a, ρ'.fa a → ρ.fa a ∨ H a = none ∨ ∃ n, ρ n = some a ∧ ρ.fz n = false
  fh : ∀ a o, H a = some o → ρ.fa a → H' a = some o
  ck : ρ'.cl = ρ.cl
theorem Go.refl {K : PySem.W.Frag} {ρ : Rho} {H : Hp} : Go K ρ H ρ H := ⟨fun _ _ e => e, fun _ _ e => .inl e, fun _ _ e _ => e, fun _ e => e, fun _ _ e => e, fun _ _ _ e => e, fun _ _ _ e => e, fun _ e => e, fun _ e => .inl e, fun _ _ e _ => e, rfl⟩
theorem Go.trans {K : PySem.W.Frag} {ρ ρ1 ρ2 : Rho} {H H1 H2 : Hp} (a : Go K ρ H ρ1 H1) (b : Go K ρ1 H1 ρ2 H2) : Go K ρ H ρ2 H2 where
  le := fun n x e => b.le n x (a.le n x e)
  nw := fun n x e => by
    rcases b.nw n x e with e1 | e1
    · exact a.nw n x e1
    · refine .inr ?_
      cases q : H x with
      | none => rfl
      | some o => exact absurd e1 (a.kp x (by rw [q]; simp))
  fr := fun x o e hn => b.fr x o (a.fr x o e hn) fun n e1 => by
    rcases a.nw n x e1 with e2 | e2
    · exact hn n e2
    · rw [e] at e2; cases e2
  kp := fun x e => b.kp x (a.kp x e)
  tp := fun x xs e => b.tp x xs (a.tp x xs e)
  cf := fun x o xs e => b.cf x o xs (a.cf x o xs e)
  fk := fun n x e f => b.fk n x (a.le n x e) (a.fk n x e f)
  fp := fun x f => b.fp x (a.fp x f)
  fn := fun x f => by
    have hk : H1 x = none → H x = none := fun e1 => by
      cases q : H x with
      | none => rfl
      | some o => exact absurd e1 (a.kp x (by rw [q]; simp))
    rcases b.fn x f with f1 | f1 | ⟨n, e1, z1⟩
    · exact a.fn x f1
    · exact .inr (.inl (hk f1))
    · rcases a.nw n x e1 with e2 | e2
      · refine .inr (.inr ⟨n, e2, ?_⟩)
        cases q : ρ.fz n with
        | false => rfl
        | true => rw [a.fk n x e2 q] at z1; cases z1
      · exact .inr (.inl e2)
  fh := fun x o e f => b.fh x o (a.fh x o e f) (a.fp x f)
  ck := b.ck.trans a.ck

/-- what values need of it -/
structure Gm (K : PySem.W.Frag) (ρ : Rho) (H : Hp) (ρ' : Rho) (H' : Hp) : Prop where
  le : ∀ n a, ρ n = some a → ρ' n = some a
  tp : ∀ a xs, H a = some (.tup xs) → H' a = some (.tup xs)
  cf : ∀ a o xs, H a = some (.frz o (.lst xs)) → H' a = some (.frz o (.lst xs))
  fp : ∀ a, ρ.fa a → ρ'.fa a
  fh : ∀ a o, H a = some o → ρ.fa a → H' a = some o
  ck : ρ'.cl = ρ.cl
theorem Gm.trans {K : PySem.W.Frag} {ρ ρ1 ρ2 : Rho} {H H1 H2 : Hp} (a : Gm K ρ H ρ1 H1) (b : Gm K ρ1 H1 ρ2 H2) : Gm K ρ H ρ2 H2 :=
  ⟨fun n x e => b.le n x (a.le n x e), fun x xs e => b.tp x xs (a.tp x xs e), fun x o xs e => b.cf x o xs (a.cf x o xs e), fun x f => b.fp x (a.fp x f), fun x o e f => b.fh x o (a.fh x o e f) (a.fp x f), b.ck.trans a.ck⟩
theorem Gm.refl {K : PySem.W.Frag} {ρ : Rho} {H : Hp} : Gm K ρ H ρ H := ⟨fun _ _ e => e, fun _ _ e => e, fun _ _ _ e => e, fun _ e => e, fun _ _ e _ => e, rfl⟩
theorem Gm.cp {K : PySem.W.Frag} {ρ ρ' : Rho} {H H' : Hp} (g : Gm K ρ H ρ' H') (a : Addr) (xs : List V) (e : CsV K H a xs) : CsV K H' a xs := e.imp (fun ⟨o, z⟩ => ⟨o, g.cf a o xs z⟩) id
theorem Go.gm {K : PySem.W.Frag} {ρ ρ' : Rho} {H H' : Hp} (g : Go K ρ H ρ' H') : Gm K ρ H ρ' H' := ⟨g.le, g.tp, g.cf, g.fp, g.fh, g.ck⟩
section
variable {K : PySem.W.Frag} {ρ ρ' : Rho} {H H' : Hp}
mutual
theorem RV.monoM (g : Gm K ρ H ρ' H') : ∀ {v : Val} {x : V}, RV K ρ H v x → RV K ρ' H' v x
  | _, _, .non => .non
  | _, _, .bl b => .bl b
  | _, _, .int i => .int i
  | _, _, .str s => .str s
  | _, _, .tup e r => .tup (g.tp _ _ e) (RVs.monoM g r)
  | _, _, .cl e r => .cl (g.cp _ _ e) (RVs.monoM g r)
  | _, _, .fl f e r => .fl (g.fp _ f) (g.fh _ _ e f) (RVs.monoM g r)
  | _, _, .fdK f e r => .fdK (g.fp _ f) (g.fh _ _ e f) (RDk.monoM g r)
  | _, _, .fdT f e r => .fdT (g.fp _ f) (g.fh _ _ e f) (RDt.monoM g r)
  | _, _, .fi f c e l1 l2 a n r => .fi (g.fp _ f) (by rw [g.ck]; exact c) (g.fh _ _ e f) l1 l2 a n (RVs.monoM g r)
  | _, _, .fx => .fx
  | _, _, .ref e => .ref (g.le _ _ e)
theorem RDk.monoM (g : Gm K ρ H ρ' H') : ∀ {vs : List (Val × Val)} {xs : List (Key × V)}, RDk K ρ H vs xs → RDk K ρ' H' vs xs
  | _, _, .nil => .nil
  | _, _, .cons k r t => .cons k (RV.monoM g r) (RDk.monoM g t)
theorem RDt.monoM (g : Gm K ρ H ρ' H') : ∀ {vs : List (Val × Val)} {xs : List (List Key × V)}, RDt K ρ H vs xs → RDt K ρ' H' vs xs
  | _, _, .nil => .nil
  | _, _, .cons k r t => .cons k (RV.monoM g r) (RDt.monoM g t)
theorem RVs.monoM (g : Gm K ρ H ρ' H') : ∀ {vs : List Val} {xs : List V}, RVs K ρ H vs xs → RVs K ρ' H' vs xs
  | _, _, .nil => .nil
  | _, _, .cons r t => .cons (RV.monoM g r) (RVs.monoM g t)
end
theorem RV.mono (g : Go K ρ H ρ' H') {v : Val} {x : V} (r : RV K ρ H v x) : RV K ρ' H' v x := r.monoM g.gm
theorem RVs.mono (g : Go K ρ H ρ' H') {vs : List Val} {xs : List V} (r : RVs K ρ H vs xs) : RVs K ρ' H' vs xs := r.monoM g.gm
theorem RVs.length : ∀ {vs : List Val} {xs : List V}, RVs K ρ H vs xs → vs.length = xs.length
  | _, _, .nil => rfl
  | _, _, .cons _ t => by rw [List.length_cons, List.length_cons, RVs.length t]
theorem RVs.get : ∀ {vs : List Val} {xs : List V} {i : Nat} {v : Val}, RVs K ρ H vs xs → vs[i]? = some v → ∃ x, xs[i]? = some x ∧ RV K ρ H v x
  | _, _, _, _, .nil, e => by simp at e
  | _, _, 0, _, .cons r _, e => by simp at e; subst e; exact ⟨_, rfl, r⟩
  | _, _, i + 1, _, .cons _ t, e => by
    obtain ⟨x, h1, h2⟩ := RVs.get t (by simpa using e)
    exact ⟨x, by simpa using h1, h2⟩
theorem RVs.get' : ∀ {vs : List Val} {xs : List V} {i : Nat} {x : V}, RVs K ρ H vs xs → xs[i]? = some x → ∃ v, vs[i]? = some v ∧ RV K ρ H v x
  | _, _, _, _, .nil, e => by simp at e
  | _, _, 0, _, .cons r _, e => by simp at e; subst e; exact ⟨_, rfl, r⟩
  | _, _, i + 1, _, .cons _ t, e => by
    obtain ⟨x, h1, h2⟩ := RVs.get' t (by simpa using e)
    exact ⟨x, by simpa using h1, h2⟩
theorem RVs.append : ∀ {vs ws : List Val} {xs ys : List V}, RVs K ρ H vs xs → RVs K ρ H ws ys → RVs K ρ H (vs ++ ws) (xs ++ ys)
  | _, _, _, _, .nil, s => s
  | _, _, _, _, .cons r t, s => .cons r (RVs.append t s)
theorem RVs.snoc {vs : List Val} {xs : List V} {v : Val} {x : V} (r : RVs K ρ H vs xs) (q : RV K ρ H v x) : RVs K ρ H (vs ++ [v]) (xs ++ [x]) := r.append (.cons q .nil)
theorem RVs.set : ∀ {vs : List Val} {xs : List V} {v : Val} {x : V} (i : Nat), RVs K ρ H vs xs → RV K ρ H v x → RVs K ρ H (vs.set i v) (xs.set i x)
  | _, _, _, _, _, .nil, _ => .nil
  | _, _, _, _, 0, .cons _ t, q => .cons q t
  | _, _, _, _, i + 1, .cons r t, q => .cons r (RVs.set i t q)
theorem RVs.take : ∀ {vs : List Val} {xs : List V} (i : Nat), RVs K ρ H vs xs → RVs K ρ H (vs.take i) (xs.take i)
  | _, _, 0, _ => .nil
  | _, _, _ + 1, .nil => .nil
  | _, _, i + 1, .cons r t => .cons r (RVs.take i t)
theorem RVs.drop : ∀ {vs : List Val} {xs : List V} (i : Nat), RVs K ρ H vs xs → RVs K ρ H (vs.drop i) (xs.drop i)
  | _, _, 0, r => r
  | _, _, _ + 1, .nil => .nil
  | _, _, i + 1, .cons _ t => RVs.drop i t
theorem RVs.eraseIdx : ∀ {vs : List Val} {xs : List V} (i : Nat), RVs K ρ H vs xs → RVs K ρ H (vs.eraseIdx i) (xs.eraseIdx i)
  | _, _, _, .nil => .nil
  | _, _, 0, .cons _ t => t
  | _, _, i + 1, .cons r t => .cons r (RVs.eraseIdx i t)
theorem RVs.reverse {vs : List Val} {xs : List V} (r : RVs K ρ H vs xs) : RVs K ρ H vs.reverse xs.reverse := by
  induction vs generalizing xs with
  | nil => cases r; exact .nil
  | cons v vs ih =>
    cases r with
    | cons r t =>
      rw [List.reverse_cons, List.reverse_cons]
      exact (ih t).append (.cons r .nil)
theorem RVs.dropLast {vs : List Val} {xs : List V} (r : RVs K ρ H vs xs) : RVs K ρ H vs.dropLast xs.dropLast := by
  rw [List.dropLast_eq_take, List.dropLast_eq_take, r.length]
  exact r.take _
theorem RVs.rep {vs : List Val} {xs : List V} (r : RVs K ρ H vs xs) : ∀ k : Nat, RVs K ρ H (repL k vs) (List.replicate k xs).flatten
  | 0 => .nil
  | k + 1 => by
    unfold repL
    rw [List.replicate_succ, List.replicate_succ, List.flatten_cons, List.flatten_cons]
    exact r.append (RVs.rep r k)
end

/-! ### dicts -/
def DicK (K : PySem.W.Frag) (ρ : Rho) (H : Hp) (kvs : List (Val × Val)) (ks : List (Key × V)) : Prop := Paired (fun (p : Val × Val) (q : Key × V) => RK p.1 q.1 ∧ RV K ρ H p.2 q.2) kvs ks
def DicT (K : PySem.W.Frag) (ρ : Rho) (H : Hp) (kvs : List (Val × Val)) (ks : List (List Key × V)) : Prop := Paired (fun (p : Val × Val) (q : List Key × V) => RKs p.1 q.1 ∧ RV K ρ H p.2 q.2) kvs ks
theorem RDk.dic {K : PySem.W.Frag} {ρ : Rho} {H : Hp} : ∀ {kvs : List (Val × Val)} {ks : List (Key × V)}, RDk K ρ H kvs ks → DicK K ρ H kvs ks
  | _, _, .nil => .nil
  | _, _, .cons k r t => .cons ⟨k, r⟩ (RDk.dic t)
theorem RDt.dic {K : PySem.W.Frag} {ρ : Rho} {H : Hp} : ∀ {kvs : List (Val × Val)} {ks : List (List Key × V)}, RDt K ρ H kvs ks → DicT K ρ H kvs ks
  | _, _, .nil => .nil
  | _, _, .cons k r t => .cons ⟨k, r⟩ (RDt.dic t)
theorem RDk.of {K : PySem.W.Frag} {ρ : Rho} {H : Hp} : ∀ {kvs : List (Val × Val)} {ks : List (Key × V)}, DicK K ρ H kvs ks → RDk K ρ H kvs ks
  | _, _, .nil => .nil
  | _, _, @Paired.cons _ _ _ (_, _) (_, _) _ _ h t => .cons h.1 h.2 (RDk.of t)
theorem RDt.of {K : PySem.W.Frag} {ρ : Rho} {H : Hp} : ∀ {kvs : List (Val × Val)} {ks : List (List Key × V)}, DicT K ρ H kvs ks → RDt K ρ H kvs ks
  | _, _, .nil => .nil
  | _, _, @Paired.cons _ _ _ (_, _) (_, _) _ _ h t => .cons h.1 h.2 (RDt.of t)
def DicOf (K : PySem.W.Frag) (ρ : Rho) (H : Hp) (kvs : List (Val × Val)) (u : HO) : Prop := (∃ ks, u = .dK ks ∧ DicK K ρ H kvs ks) ∨ ∃ ks, u = .dT ks ∧ DicT K ρ H kvs ks
theorem DicOf.monoM {K : PySem.W.Frag} {ρ ρ' : Rho} {H H' : Hp} {kvs : List (Val × Val)} {u : HO} (g : Gm K ρ H ρ' H') (d : DicOf K ρ H kvs u) : DicOf K ρ' H' kvs u := by
  rcases d with ⟨ks, e, d⟩ | ⟨ks, e, d⟩
  · exact .inl ⟨ks, e, Paired.mapP d fun _ _ z => ⟨z.1, z.2.monoM g⟩⟩
  · exact .inr ⟨ks, e, Paired.mapP d fun _ _ z => ⟨z.1, z.2.monoM g⟩⟩
theorem DicOf.mono {K : PySem.W.Frag} {ρ ρ' : Rho} {H H' : Hp} {kvs : List (Val × Val)} {u : HO} (g : Go K ρ H ρ' H') (d : DicOf K ρ H kvs u) : DicOf K ρ' H' kvs u := d.monoM g.gm

/-- a field's value -/
def RF (K : PySem.W.Frag) (ρ : Rho) (H : Hp) (v : Option Val) (x : Option V) : Prop := match v, x with
  | some v, some x => RV K ρ H v x
  | none, none => True
  | _, _ => False
theorem RF.mono {K : PySem.W.Frag} {ρ ρ' : Rho} {H H' : Hp} (g : Gm K ρ H ρ' H') : ∀ {v : Option Val} {x : Option V}, RF K ρ H v x → RF K ρ' H' v x
  | some _, some _, h => RV.monoM g h
  | none, none, _ => trivial
  | some _, none, h => h.elim
  | none, some _, h => h.elim
structure RI (K : PySem.W.Frag) (ρ : Rho) (H : Hp) (C : Nat) (fs : List (Option Val)) (gs : List (Nm × V)) : Prop where
  len : fs.length = (cflds C).length
  few : gs.length ≤ (fs.filter Option.isSome).length
  at_ : ∀ (i : Nat) (f : Nm), (cflds C)[i]? = some f → RF K ρ H (fs[i]?.join) (gs.lookup f)
  no : ∀ f, f ∉ cflds C → gs.lookup f = none
theorem RI.few' {K : PySem.W.Frag} {ρ : Rho} {H : Hp} {C : Nat} {fs : List (Option Val)} {gs : List (Nm × V)} (r : RI K ρ H C fs gs) : gs.length ≤ (cflds C).length := by
  have := r.few
  have h2 := List.length_filter_le Option.isSome fs
  have := r.len
  omega
theorem RI.mono {K : PySem.W.Frag} {ρ ρ' : Rho} {H H' : Hp} {C : Nat} {fs : List (Option Val)} {gs : List (Nm × V)} (g : Gm K ρ H ρ' H') (r : RI K ρ H C fs gs) : RI K ρ' H' C fs gs :=
  ⟨r.len, r.few, fun i f e => (r.at_ i f e).mono g, r.no⟩

/-- what stands at an address for an object -/
def RO (K : PySem.W.Frag) (mg : Str → Option Value) (ρ : Rho) (H : Hp) (a : Addr) : Ob → Prop
  | .lst vs => ∃ xs, H a = some (.lst xs) ∧ RVs K ρ H vs xs
  | .dic kvs lk => ∃ u, DicOf K ρ H kvs u ∧ ((lk = false ∧ H a = some u) ∨ (lk = true ∧ ∃ o, H a = some (.frz o u)))
  | .ins C fs => ∃ Ca dx gs, (mg (cname C) = some (.ref Ca) ∧ ρ.cl C = some Ca) ∧ H a = some (.ins Ca dx gs) ∧ RI K ρ H C fs gs
theorem RO.there {K : PySem.W.Frag} {mg : Str → Option Value} {ρ : Rho} {H : Hp} {a : Addr} : ∀ {o : Ob}, RO K mg ρ H a o → H a ≠ none
  | .lst _, ⟨_, e, _⟩ => by rw [e]; simp
  | .dic _ _, ⟨_, _, h⟩ => by
    rcases h with ⟨_, e⟩ | ⟨_, _, e⟩ <;> (rw [e]; simp)
  | .ins _ _, ⟨_, _, _, _, e, _⟩ => by rw [e]; simp
/-- no tuple, no constant stands there -/
def NoCs (o : HO) : Prop := (∀ xs, o ≠ .tup xs) ∧ ∀ b xs, o ≠ .frz b (.lst xs)
theorem DicOf.nocs {K : PySem.W.Frag} {ρ : Rho} {H : Hp} {kvs : List (Val × Val)} {u : HO} (d : DicOf K ρ H kvs u) : NoCs u ∧ ∀ b, NoCs (.frz b u) := by
  rcases d with ⟨ks, rfl, _⟩ | ⟨ks, rfl, _⟩ <;> exact ⟨⟨fun _ z => (by cases z), fun _ _ z => (by cases z)⟩, fun _ => ⟨fun _ z => (by cases z), fun _ _ z => (by cases z)⟩⟩
theorem RO.nocs {K : PySem.W.Frag} {mg : Str → Option Value} {ρ : Rho} {H : Hp} {a : Addr} : ∀ {o : Ob}, RO K mg ρ H a o → ∃ u, H a = some u ∧ NoCs u
  | .lst _, ⟨_, e, _⟩ => ⟨_, e, fun _ z => (by cases z), fun _ _ z => (by cases z)⟩
  | .dic _ _, ⟨u, d, h⟩ => by
    rcases h with ⟨_, e⟩ | ⟨_, b, e⟩
    · exact ⟨_, e, d.nocs.1⟩
    · exact ⟨_, e, d.nocs.2 b⟩
  | .ins _ _, ⟨_, _, _, _, e, _⟩ => ⟨_, e, fun _ z => (by cases z), fun _ _ z => (by cases z)⟩
/-- the same thing elsewhere and later -/
theorem RO.monoM {K : PySem.W.Frag} {mg : Str → Option Value} {ρ ρ' : Rho} {H H' : Hp} {a : Addr} (g : Gm K ρ H ρ' H') (e : H' a = H a) : ∀ {o : Ob}, RO K mg ρ H a o → RO K mg ρ' H' a o
  | .lst _, ⟨xs, h, r⟩ => ⟨xs, e.trans h, r.monoM g⟩
  | .dic _ _, ⟨u, d, h⟩ => ⟨u, d.monoM g, h.imp (fun z => ⟨z.1, e.trans z.2⟩) fun z => ⟨z.1, z.2.imp fun o q => e.trans q⟩⟩
  | .ins _ _, ⟨C, dx, gs, m, h, r⟩ => ⟨C, dx, gs, ⟨m.1, by rw [g.ck]; exact m.2⟩, e.trans h, r.mono g⟩
theorem RO.mono {K : PySem.W.Frag} {mg : Str → Option Value} {ρ ρ' : Rho} {H H' : Hp} {a : Addr} (g : Go K ρ H ρ' H') (e : H' a = H a) {o : Ob} (r : RO K mg ρ H a o) : RO K mg ρ' H' a o := r.monoM g.gm e

def clOf (mg : Str → Option Value) (C : Nat) : Option Addr := match mg (cname C) with
  | some (.ref a) => some a
  | _ => none
structure Rel (K : PySem.W.Frag) (mg : Str → Option Value) (ρ : Rho) (h : Hv) (H : Hp) : Prop where
  obj : ∀ n o, h.g n = some o → ∃ a, ρ n = some a ∧ RO K mg ρ H a o
  dom : ∀ n a, ρ n = some a → ρ.fz n = false → ∃ o, h.g n = some o
  inj : ∀ n m a, ρ n = some a → ρ m = some a → n = m
  lt : ∀ n a, ρ n = some a → n < h.nx
  nf : ∀ n o, h.g n = some o → ρ.fz n = false
  fa : ∀ a, ρ.fa a → H a ≠ none
  th : ∀ n a, ρ n = some a → H a ≠ none
  lv : ∀ n a, ρ n = some a → ρ.fz n = false → ¬ ρ.fa a
  cl : ρ.cl = clOf mg

section
variable {K : PySem.W.Frag} {mg : Str → Option Value} {ρ : Rho} {h : Hv} {H : Hp} {n : Nat} {a p : Addr} {o : Ob} {u : HO}
theorem Rel.at_ (R : Rel K mg ρ h H) (e : h.g n = some o) (r : ρ n = some a) : RO K mg ρ H a o := by
  obtain ⟨b, e1, q⟩ := R.obj n o e
  rw [r] at e1; cases e1; exact q
theorem Rel.fresh (R : Rel K mg ρ h H) : ρ h.nx = none := by
  cases q : ρ h.nx with
  | none => rfl
  | some a => exact absurd (R.lt _ _ q) (Nat.lt_irrefl _)
theorem Rel.lst (R : Rel K mg ρ h H) {vs : List Val} (e : h.g n = some (.lst vs)) : ∃ a xs, ρ n = some a ∧ H a = some (.lst xs) ∧ RVs K ρ H vs xs := by
  obtain ⟨a, r, xs, e1, e2⟩ := R.obj _ _ e
  exact ⟨a, xs, r, e1, e2⟩
def rhoN (ρ : Rho) (n : Nat) (p : Addr) : Rho := ⟨fun m => if m = n then some p else ρ m, fun m => if m = n then false else ρ.fz m, ρ.fa, ρ.cl⟩
theorem rhoN_new : rhoN ρ n p n = some p := if_pos rfl
theorem rhoN_old {m : Nat} (e : m ≠ n) : rhoN ρ n p m = ρ m := if_neg e
theorem rhoN_fz {m : Nat} (e : m ≠ n) : (rhoN ρ n p).fz m = ρ.fz m := if_neg e
theorem rhoN_fz0 : (rhoN ρ n p).fz n = false := if_pos rfl
/-- something untracked of ours is laid (a tuple) -/
theorem Go.laid (hp : H p = none) : Go K ρ H ρ (upd H p u) where
  le := fun _ _ e => e
  nw := fun _ _ e => .inl e
  fr := fun b o e _ => by rw [upd_ne (ne_of_none e hp)]; exact e
  kp := fun b e z => by
    by_cases q : b = p
    · rw [q, upd_same] at z; cases z
    · rw [upd_ne q] at z; exact e z
  tp := fun b xs e => by rw [upd_ne (ne_of_none e hp)]; exact e
  cf := fun b o xs z => by rw [upd_ne (ne_of_none z hp)]; exact z
  fk := fun _ _ _ e => e
  fp := fun _ e => e
  fn := fun _ e => .inl e
  fh := fun b o e _ => by rw [upd_ne (ne_of_none e hp)]; exact e
  ck := rfl
theorem Rel.laid (R : Rel K mg ρ h H) (hp : H p = none) : Rel K mg ρ h (upd H p u) where
  obj := fun n o e => by
    obtain ⟨a, r, q⟩ := R.obj n o e
    refine ⟨a, r, q.mono (Go.laid hp) (upd_ne fun z => q.there (by rw [z]; exact hp))⟩
  dom := R.dom
  inj := R.inj
  lt := R.lt
  nf := R.nf
  fa := fun a f => (Go.laid (K := K) (ρ := ρ) (u := u) hp).kp a (R.fa a f)
  th := fun n a e => (Go.laid (K := K) (ρ := ρ) (u := u) hp).kp a (R.th n a e)
  lv := R.lv
  cl := R.cl
/-- the same, and it changes no more -/
def rhoF (ρ : Rho) (p : Addr) : Rho := ⟨ρ.nm, ρ.fz, fun a => ρ.fa a ∨ a = p, ρ.cl⟩
theorem Go.frz (hp : H p = none) : Go K ρ H (rhoF ρ p) (upd H p u) where
  le := fun _ _ e => e
  nw := fun _ _ e => .inl e
  fr := (Go.laid (K := K) (ρ := ρ) (u := u) hp).fr
  kp := (Go.laid (K := K) (ρ := ρ) (u := u) hp).kp
  tp := (Go.laid (K := K) (ρ := ρ) (u := u) hp).tp
  cf := (Go.laid (K := K) (ρ := ρ) (u := u) hp).cf
  fk := fun _ _ _ e => e
  fp := fun _ e => .inl e
  fn := fun a e => e.imp id fun z => .inl (by rw [z]; exact hp)
  fh := (Go.laid (K := K) (ρ := ρ) (u := u) hp).fh
  ck := rfl
theorem Rel.frz (R : Rel K mg ρ h H) (hp : H p = none) : Rel K mg (rhoF ρ p) h (upd H p u) where
  obj := fun n o e => by
    obtain ⟨a, r, q⟩ := R.obj n o e
    exact ⟨a, r, q.mono (Go.frz hp) (upd_ne fun z => q.there (by rw [z]; exact hp))⟩
  dom := R.dom
  inj := R.inj
  lt := R.lt
  nf := R.nf
  fa := fun a f => by
    rcases f with f | f
    · exact (Go.laid (K := K) (ρ := ρ) (u := u) hp).kp a (R.fa a f)
    · rw [f, upd_same]; simp
  th := fun n a e => (Go.laid (K := K) (ρ := ρ) (u := u) hp).kp a (R.th n a e)
  lv := fun n a e z f => f.elim (R.lv n a e z) fun y => R.th n a e (by rw [y]; exact hp)
  cl := R.cl
/-- a new object of ours -/
theorem Go.new (R : Rel K mg ρ h H) (hp : H p = none) : Go K ρ H (rhoN ρ h.nx p) (upd H p u) where
  le := fun m b e => by
    by_cases q : m = h.nx
    · rw [q, R.fresh] at e; cases e
    · rw [rhoN_old q]; exact e
  nw := fun m b e => by
    by_cases q : m = h.nx
    · rw [q, rhoN_new] at e; cases e; exact .inr hp
    · rw [rhoN_old q] at e; exact .inl e
  fr := fun b o e _ => by rw [upd_ne (ne_of_none e hp)]; exact e
  kp := (Go.laid (K := K) (ρ := ρ) (u := u) hp).kp
  tp := (Go.laid (K := K) (ρ := ρ) (u := u) hp).tp
  cf := (Go.laid (K := K) (ρ := ρ) (u := u) hp).cf
  fk := fun m b e f => by
    by_cases q : m = h.nx
    · rw [q, R.fresh] at e; cases e
    · rw [rhoN_fz q]; exact f
  fp := fun _ e => e
  fn := fun _ e => .inl e
  fh := (Go.laid (K := K) (ρ := ρ) (u := u) hp).fh
  ck := rfl
theorem Rel.new (R : Rel K mg ρ h H) (hp : H p = none) (q : RO K mg (rhoN ρ h.nx p) (upd H p u) p o) : Rel K mg (rhoN ρ h.nx p) (h.al o) (upd H p u) where
  obj := fun m ob e => by
    by_cases z : m = h.nx
    · subst z
      rw [Hv.al_new] at e; cases e
      exact ⟨p, rhoN_new, q⟩
    · rw [Hv.al_old z] at e
      obtain ⟨a, r, w⟩ := R.obj m ob e
      exact ⟨a, by rw [rhoN_old z]; exact r, w.mono (Go.new R hp) (upd_ne fun y => w.there (by rw [y]; exact hp))⟩
  dom := fun m b e f => by
    by_cases z : m = h.nx
    · subst z; exact ⟨o, Hv.al_new _ _⟩
    · rw [rhoN_old z] at e
      rw [rhoN_fz z] at f
      obtain ⟨ob, w⟩ := R.dom m b e f
      exact ⟨ob, Hv.al_keep w⟩
  inj := fun m k b e1 e2 => by
    by_cases z : m = h.nx
    · by_cases y : k = h.nx
      · rw [z, y]
      · rw [rhoN_old y] at e2
        rw [z, rhoN_new] at e1; cases e1
        exact absurd hp (R.th k _ e2)
    · rw [rhoN_old z] at e1
      by_cases y : k = h.nx
      · rw [y, rhoN_new] at e2; cases e2
        exact absurd hp (R.th m _ e1)
      · rw [rhoN_old y] at e2
        exact R.inj m k b e1 e2
  lt := fun m b e => by
    by_cases z : m = h.nx
    · rw [z]; exact Nat.lt_succ_self _
    · rw [rhoN_old z] at e
      exact Nat.lt_succ_of_lt (R.lt m b e)
  nf := fun m ob e => by
    by_cases z : m = h.nx
    · rw [z]; exact rhoN_fz0
    · rw [Hv.al_old z] at e
      rw [rhoN_fz z]; exact R.nf m ob e
  fa := fun a f => (Go.laid (K := K) (ρ := ρ) (u := u) hp).kp a (R.fa a f)
  th := fun m b e => by
    by_cases z : m = h.nx
    · rw [z, rhoN_new] at e; cases e
      rw [upd_same]; simp
    · rw [rhoN_old z] at e
      exact (Go.laid (K := K) (ρ := ρ) (u := u) hp).kp b (R.th m b e)
  lv := fun m b e f => by
    by_cases z : m = h.nx
    · rw [z, rhoN_new] at e; cases e
      exact fun y => R.fa _ y hp
    · rw [rhoN_old z] at e
      rw [rhoN_fz z] at f
      exact R.lv m b e f
  cl := R.cl
/-- an object of ours is written -/
theorem Go.put (R : Rel K mg ρ h H) (r : ρ n = some a) (hn : ∃ ob, h.g n = some ob) : Go K ρ H ρ (upd H a u) := by
  obtain ⟨ob, e⟩ := hn
  obtain ⟨w, e1, c1, c2⟩ := (R.at_ e r).nocs
  have ne : ∀ b v, H b = some v → ¬ NoCs v → b ≠ a := fun b v q nc z => by
    rw [z, e1] at q; cases q; exact nc ⟨c1, c2⟩
  exact {
    le := fun _ _ e => e
    nw := fun _ _ e => .inl e
    fr := fun b o q hn => by rw [upd_ne fun z => hn n (by rw [z]; exact r)]; exact q
    kp := fun b q z => by
      by_cases y : b = a
      · rw [y, upd_same] at z; cases z
      · rw [upd_ne y] at z; exact q z
    tp := fun b xs q => by rw [upd_ne (ne b _ q fun z => z.1 _ rfl)]; exact q
    cf := fun b o xs z => by rw [upd_ne (ne b _ z fun y => y.2 _ _ rfl)]; exact z
    fk := fun _ _ _ e => e
    fp := fun _ e => e
    fn := fun _ e => .inl e
    fh := fun b o q f => by rw [upd_ne fun z => R.lv n a r (R.nf n ob e) (by rw [← z]; exact f)]; exact q
    ck := rfl }
theorem Rel.put (R : Rel K mg ρ h H) (r : ρ n = some a) (hn : ∃ ob, h.g n = some ob) (q : RO K mg ρ (upd H a u) a o) : Rel K mg ρ (h.put n o) (upd H a u) := by
  have G := Go.put (u := u) R r hn
  obtain ⟨ob, e⟩ := hn
  refine ⟨fun m o' e' => ?_, fun m b z f => ?_, R.inj, R.lt, fun m o' e' => ?_, fun b f => G.kp b (R.fa b f), fun m b z => G.kp b (R.th m b z), R.lv, R.cl⟩
  · by_cases z : m = n
    · subst z
      rw [Hv.put_same e] at e'; cases e'
      exact ⟨a, r, q⟩
    · rw [Hv.put_ne z] at e'
      obtain ⟨b, r', w⟩ := R.obj m o' e'
      exact ⟨b, r', w.mono G (upd_ne fun y => z (R.inj m n a (by rw [← y]; exact r') r))⟩
  · by_cases y : m = n
    · subst y; exact ⟨o, Hv.put_same e⟩
    · obtain ⟨o', w⟩ := R.dom m b z f
      exact ⟨o', by rw [Hv.put_ne y]; exact w⟩
  · by_cases z : m = n
    · subst z; exact R.nf m ob e
    · rw [Hv.put_ne z] at e'
      exact R.nf m o' e'
end

section
variable {K : PySem.W.Frag} {mg : Str → Option Value} {ρ ρ1 : Rho} {h : Hv} {H H1 : Hp} {D : Addr} {u : HO}
/-- D is none of ours, what stands there is written: it stood not there at the start -/
theorem Go.fill (g : Go K ρ1 H1 ρ H) (hD : H1 D = none) : Go K ρ1 H1 ρ (upd H D u) where
  le := g.le
  nw := g.nw
  fr := fun a o e hn => by rw [upd_ne (ne_of_none e hD)]; exact g.fr a o e hn
  kp := fun a e => by
    by_cases q : a = D
    · exact absurd (by rw [q]; exact hD) e
    · rw [upd_ne q]; exact g.kp a e
  tp := fun a xs e => by rw [upd_ne (ne_of_none e hD)]; exact g.tp a xs e
  cf := fun a o xs z => by rw [upd_ne (ne_of_none z hD)]; exact g.cf a o xs z
  fk := g.fk
  fp := g.fp
  fn := g.fn
  fh := fun a o e f => by rw [upd_ne (ne_of_none e hD)]; exact g.fh a o e f
  ck := g.ck
theorem NoCs.lst (xs : List V) : NoCs (.lst xs) := ⟨fun _ z => (by cases z), fun _ _ z => (by cases z)⟩
theorem NoCs.dK (xs : List (Key × V)) : NoCs (.dK xs) := ⟨fun _ z => (by cases z), fun _ _ z => (by cases z)⟩
theorem Gm.fill (hD : ∃ w, H D = some w ∧ NoCs w) (hf : ¬ ρ.fa D) : Gm K ρ H ρ (upd H D u) where
  le := fun _ _ e => e
  tp := fun a xs e => by
    obtain ⟨w, hD, nc⟩ := hD
    rw [upd_ne fun z => by rw [z, hD] at e; cases e; exact nc.1 _ rfl]; exact e
  cf := fun a o xs z => by
    obtain ⟨w, hD, nc⟩ := hD
    rw [upd_ne fun y => by rw [y, hD] at z; cases z; exact nc.2 _ _ rfl]; exact z
  fp := fun _ e => e
  fh := fun a o e f => by rw [upd_ne fun z => hf (by rw [← z]; exact f)]; exact e
  ck := rfl
theorem Rel.fill (R : Rel K mg ρ h H) (hn : ∀ n, ρ n ≠ some D) (hf : ¬ ρ.fa D) (hD : ∃ w, H D = some w ∧ NoCs w) : Rel K mg ρ h (upd H D u) where
  obj := fun n o e => by
    obtain ⟨a, r, q⟩ := R.obj n o e
    exact ⟨a, r, q.monoM (Gm.fill hD hf) (upd_ne fun z => hn n (by rw [← z]; exact r))⟩
  dom := R.dom
  inj := R.inj
  lt := R.lt
  nf := R.nf
  fa := fun a f z => by
    rw [upd_ne fun y => hf (by rw [← y]; exact f)] at z
    exact R.fa a f z
  th := fun n a e z => by
    rw [upd_ne fun y => hn n (by rw [← y]; exact e)] at z
    exact R.th n a e z
  lv := R.lv
  cl := R.cl
/-- D stood not there at the start -/
theorem Go.not_fa (g : Go K ρ1 H1 ρ H) (hD : H1 D = some u) (hn : ∀ n, ρ1 n ≠ some D) (hf : ¬ ρ1.fa D) : ¬ ρ.fa D := fun z => by
  rcases g.fn D z with q | q | ⟨n, q, _⟩
  · exact hf q
  · rw [hD] at q; cases q
  · exact hn n q
/-- what stands there becomes one of ours -/
theorem Go.adopt (g : Go K ρ1 H1 ρ H) (hD : H1 D = none) (R : Rel K mg ρ h H) : Go K ρ1 H1 (rhoN ρ h.nx D) H where
  le := fun n a e => by
    have e2 := g.le n a e
    rw [rhoN_old fun z => by rw [z, R.fresh] at e2; cases e2]; exact e2
  nw := fun n a e => by
    by_cases q : n = h.nx
    · rw [q, rhoN_new] at e; cases e; exact .inr hD
    · rw [rhoN_old q] at e; exact g.nw n a e
  fr := g.fr
  kp := g.kp
  tp := g.tp
  cf := g.cf
  fk := fun n a e f => by
    have e2 := g.le n a e
    rw [rhoN_fz fun z => by rw [z, R.fresh] at e2; cases e2]; exact g.fk n a e f
  fp := g.fp
  fn := g.fn
  fh := g.fh
  ck := g.ck
theorem Gm.adopt (R : Rel K mg ρ h H) : Gm K ρ H (rhoN ρ h.nx D) H :=
  ⟨fun n a e => by rw [rhoN_old fun z => by rw [z, R.fresh] at e; cases e]; exact e, fun _ _ e => e, fun _ _ _ e => e, fun _ e => e, fun _ _ e _ => e, rfl⟩
theorem Rel.adopt (R : Rel K mg ρ h H) (hn : ∀ n, ρ n ≠ some D) (hf : ¬ ρ.fa D) {o : Ob} (q : RO K mg (rhoN ρ h.nx D) H D o) : Rel K mg (rhoN ρ h.nx D) (h.al o) H where
  obj := fun m ob e => by
    by_cases z : m = h.nx
    · subst z
      rw [Hv.al_new] at e; cases e
      exact ⟨D, rhoN_new, q⟩
    · rw [Hv.al_old z] at e
      obtain ⟨a, r, w⟩ := R.obj m ob e
      exact ⟨a, by rw [rhoN_old z]; exact r, w.monoM (Gm.adopt R) rfl⟩
  dom := fun m b e f => by
    by_cases z : m = h.nx
    · subst z; exact ⟨o, Hv.al_new _ _⟩
    · rw [rhoN_old z] at e
      rw [rhoN_fz z] at f
      obtain ⟨ob, w⟩ := R.dom m b e f
      exact ⟨ob, Hv.al_keep w⟩
  inj := fun m k b e1 e2 => by
    by_cases z : m = h.nx
    · by_cases y : k = h.nx
      · rw [z, y]
      · rw [rhoN_old y] at e2
        rw [z, rhoN_new] at e1; cases e1
        exact absurd e2 (hn k)
    · rw [rhoN_old z] at e1
      by_cases y : k = h.nx
      · rw [y, rhoN_new] at e2; cases e2
        exact absurd e1 (hn m)
      · rw [rhoN_old y] at e2
        exact R.inj m k b e1 e2
  lt := fun m b e => by
    by_cases z : m = h.nx
    · rw [z]; exact Nat.lt_succ_self _
    · rw [rhoN_old z] at e
      exact Nat.lt_succ_of_lt (R.lt m b e)
  nf := fun m ob e => by
    by_cases z : m = h.nx
    · rw [z]; exact rhoN_fz0
    · rw [Hv.al_old z] at e
      rw [rhoN_fz z]; exact R.nf m ob e
  fa := R.fa
  th := fun m b e => by
    by_cases z : m = h.nx
    · rw [z, rhoN_new] at e; cases e
      exact q.there
    · rw [rhoN_old z] at e
      exact R.th m b e
  lv := fun m b e f => by
    by_cases z : m = h.nx
    · rw [z, rhoN_new] at e; cases e
      exact hf
    · rw [rhoN_old z] at e
      rw [rhoN_fz z] at f
      exact R.lv m b e f
  cl := R.cl
/-- what stands there changes no more -/
theorem Go.keep (g : Go K ρ1 H1 ρ H) (hD : H1 D = none) : Go K ρ1 H1 (rhoF ρ D) H where
  le := g.le
  nw := g.nw
  fr := g.fr
  kp := g.kp
  tp := g.tp
  cf := g.cf
  fk := g.fk
  fp := fun a f => .inl (g.fp a f)
  fn := fun a f => f.elim (g.fn a) fun z => .inr (.inl (by rw [z]; exact hD))
  fh := g.fh
  ck := g.ck
theorem Gm.keep : Gm K ρ H (rhoF ρ D) H := ⟨fun _ _ e => e, fun _ _ e => e, fun _ _ _ e => e, fun _ e => .inl e, fun _ _ e _ => e, rfl⟩
theorem Rel.keep (R : Rel K mg ρ h H) (hn : ∀ n, ρ n ≠ some D) (hD : ∃ w, H D = some w) : Rel K mg (rhoF ρ D) h H where
  obj := fun n o e => by
    obtain ⟨a, r, q⟩ := R.obj n o e
    exact ⟨a, r, q.monoM Gm.keep rfl⟩
  dom := R.dom
  inj := R.inj
  lt := R.lt
  nf := R.nf
  fa := fun a f => f.elim (R.fa a) fun z => by
    obtain ⟨w, e⟩ := hD
    rw [z, e]; simp
  th := R.th
  lv := fun n a e z f => f.elim (R.lv n a e z) fun y => hn n (by rw [← y]; exact e)
  cl := R.cl
end

/-! ### what changes no more -/
section
variable {K : PySem.W.Frag} {mg : Str → Option Value} {ρ : Rho} {h : Hv} {H : Hp} {n : Nat} {a : Addr}
/-- n changes no more -/
def rhoZ (ρ : Rho) (n : Nat) (a : Addr) : Rho := ⟨ρ.nm, fun m => if m = n then true else ρ.fz m, fun b => ρ.fa b ∨ b = a, ρ.cl⟩
theorem Go.stop (R : Rel K mg ρ h H) (r : ρ n = some a) (hz : ρ.fz n = false) : Go K ρ H (rhoZ ρ n a) H where
  le := fun _ _ e => e
  nw := fun _ _ e => .inl e
  fr := fun _ _ e _ => e
  kp := fun _ e => e
  tp := fun _ _ e => e
  cf := fun _ _ _ e => e
  fk := fun m _ _ e => by
    show (if m = n then true else ρ.fz m) = true
    split
    · rfl
    · exact e
  fp := fun _ e => .inl e
  fn := fun b e => e.imp id fun z => .inr ⟨n, by rw [z]; exact r, hz⟩
  fh := fun _ _ e _ => e
  ck := rfl
theorem Rel.stop (R : Rel K mg ρ h H) (r : ρ n = some a) (hn : ∃ ob, h.g n = some ob) : Rel K mg (rhoZ ρ n a) (h.del n) H := by
  obtain ⟨ob, e0⟩ := hn
  have G := Go.stop R r (R.nf n ob e0)
  have fzn : ∀ m, m ≠ n → (rhoZ ρ n a).fz m = ρ.fz m := fun m q => if_neg q
  have gn : ∀ m o, (h.del n).g m = some o → m ≠ n ∧ h.g m = some o := fun m o e => by
    have e : (if m = n then none else h.g m) = some o := e
    by_cases q : m = n
    · rw [if_pos q] at e; cases e
    · rw [if_neg q] at e; exact ⟨q, e⟩
  refine ⟨fun m o e => ?_, fun m b e f => ?_, R.inj, R.lt, fun m o e => ?_, fun b f => ?_, R.th, fun m b e f y => ?_, R.cl⟩
  · obtain ⟨q, e⟩ := gn m o e
    obtain ⟨b, r', w⟩ := R.obj m o e
    exact ⟨b, r', w.mono G rfl⟩
  · by_cases q : m = n
    · rw [q] at f
      have f : (if n = n then true else ρ.fz n) = false := f
      rw [if_pos rfl] at f; cases f
    · rw [fzn m q] at f
      obtain ⟨o, w⟩ := R.dom m b e f
      exact ⟨o, by show (if m = n then none else h.g m) = some o; rw [if_neg q]; exact w⟩
  · obtain ⟨q, e⟩ := gn m o e
    rw [fzn m q]; exact R.nf m o e
  · rcases f with f | f
    · exact R.fa b f
    · rw [f]; exact R.th n a r
  · by_cases q : m = n
    · rw [q] at f
      have f : (if n = n then true else ρ.fz n) = false := f
      rw [if_pos rfl] at f; cases f
    · rw [fzn m q] at f
      rcases y with y | y
      · exact R.lv m b e f y
      · exact q (R.inj m n a (by rw [← y]; exact e) r)
end
mutual
theorem Fz.ok {K : PySem.W.Frag} {mg : Str → Option Value} {H : Hp} : ∀ {h h' : Hv} {v w : Val}, Fz h v w h' → ∀ {ρ : Rho} {x : V}, Rel K mg ρ h H → RV K ρ H v x → ∃ ρ', Go K ρ H ρ' H ∧ Rel K mg ρ' h' H ∧ RV K ρ' H w x
  | _, _, _, _, .same, ρ, x, R, r => ⟨ρ, .refl, R, r⟩
  | _, _, _, _, .lst (n := n) e f, ρ, _, R, .ref (a := a) ra => by
    obtain ⟨xs, e1, rs⟩ := R.at_ e ra
    have G := Go.stop R ra (R.nf _ _ e)
    obtain ⟨ρ', g, R', rs'⟩ := Fzs.ok f (R.stop ra ⟨_, e⟩) (rs.mono G)
    exact ⟨ρ', G.trans g, R', .fl (g.fp _ (.inr rfl)) e1 rs'⟩
  | _, _, _, _, .dic (n := n) e f, ρ, _, R, .ref (a := a) ra => by
    obtain ⟨u, d, hu⟩ := R.at_ e ra
    have hu := hu.elim (fun z => z.2) fun z => absurd z.1 (by decide)
    have G := Go.stop R ra (R.nf _ _ e)
    rcases d with ⟨ks, rfl, d⟩ | ⟨ks, rfl, d⟩
    · obtain ⟨ρ', g, R', rs'⟩ := Fzk.okK f (R.stop ra ⟨_, e⟩) ((RDk.of d).monoM G.gm)
      exact ⟨ρ', G.trans g, R', .fdK (g.fp _ (.inr rfl)) hu rs'⟩
    · obtain ⟨ρ', g, R', rs'⟩ := Fzk.okT f (R.stop ra ⟨_, e⟩) ((RDt.of d).monoM G.gm)
      exact ⟨ρ', G.trans g, R', .fdT (g.fp _ (.inr rfl)) hu rs'⟩
  | _, _, _, _, .ins (n := n) (C := C) (vs := vs) (ws := ws) e f, ρ, _, R, .ref (a := a) ra => by
    obtain ⟨Ca, dx, gs, hm, e1, ri⟩ := R.at_ e ra
    have G := Go.stop R ra (R.nf _ _ e)
    have hl : vs.length = (cflds C).length := by rw [← ri.len, List.length_map]
    have ex : ∀ i, i < vs.length → ∃ x, (∃ f, (cflds C)[i]? = some f ∧ gs.lookup f = some x) ∧ ∀ v, vs[i]? = some v → RV K ρ H v x := fun i hi => by
      have hf : (cflds C)[i]? = some ((cflds C)[i]'(by omega)) := List.getElem?_eq_getElem (by omega)
      have z := ri.at_ i _ hf
      rw [List.getElem?_map, List.getElem?_eq_getElem hi] at z
      have z : RF K ρ H (some vs[i]) (gs.lookup ((cflds C)[i]'(by omega))) := z
      cases q : gs.lookup ((cflds C)[i]'(by omega)) with
      | none => rw [q] at z; exact z.elim
      | some x =>
        rw [q] at z
        exact ⟨x, ⟨_, hf, q⟩, fun v ev => by rw [List.getElem?_eq_getElem hi] at ev; cases ev; exact z⟩
    have mk : ∀ (us : List Val) (k : Nat), (∀ i, i < us.length → us[i]? = vs[k + i]?) → k + us.length = vs.length → ∃ xs : List V, RVs K ρ H us xs ∧ ∀ i, i < us.length → ∃ f, (cflds C)[k + i]? = some f ∧ gs.lookup f = xs[i]? := by
      intro us
      induction us with
      | nil => intro k _ _; exact ⟨[], .nil, fun i hi => absurd hi (Nat.not_lt_zero _)⟩
      | cons u us ih =>
        intro k hk hl
        rw [List.length_cons] at hl
        obtain ⟨xs, rx, hx⟩ := ih (k + 1) (fun i hi => by
          have := hk (i + 1) (by rw [List.length_cons]; omega)
          rw [List.getElem?_cons_succ] at this
          rw [this, Nat.add_assoc, Nat.add_comm 1 i]) (by omega)
        obtain ⟨x, ⟨f, hf, lf⟩, rv⟩ := ex k (by omega)
        have h0 := hk 0 (by rw [List.length_cons]; omega)
        refine ⟨x :: xs, .cons (rv u (by rw [← (show k + 0 = k from rfl), ← h0]; rfl)) rx, fun i hi => ?_⟩
        cases i with
        | zero => exact ⟨f, hf, lf⟩
        | succ i =>
          obtain ⟨f2, h1, h2⟩ := hx i (by rw [List.length_cons] at hi; omega)
          exact ⟨f2, by rw [show k + (i + 1) = k + 1 + i by omega]; exact h1, h2⟩
    obtain ⟨xs, rx, hx⟩ := mk vs 0 (fun i _ => by rw [Nat.zero_add]) (by omega)
    obtain ⟨ρ', g, R', rs'⟩ := Fzs.ok f (R.stop ra ⟨_, e⟩) (rx.mono G)
    have hw : ws.length = vs.length := by rw [rs'.length, rx.length]
    refine ⟨ρ', G.trans g, R', .fi (g.fp _ (.inr rfl)) (by rw [g.ck]; exact hm.2) e1 (hw.trans hl) ri.few' (fun i f hf => ?_) ri.no rs'⟩
    have hi : i < vs.length := by
      rw [hl]
      exact (List.getElem?_eq_some_iff.mp hf).1
    obtain ⟨f2, h1, h2⟩ := hx i hi
    rw [Nat.zero_add, hf] at h1
    cases h1
    exact h2
theorem Fzs.ok {K : PySem.W.Frag} {mg : Str → Option Value} {H : Hp} : ∀ {h h' : Hv} {v w : List Val}, Fzs h v w h' → ∀ {ρ : Rho} {x : List V}, Rel K mg ρ h H → RVs K ρ H v x → ∃ ρ', Go K ρ H ρ' H ∧ Rel K mg ρ' h' H ∧ RVs K ρ' H w x
  | _, _, _, _, .same, ρ, x, R, r => ⟨ρ, .refl, R, r⟩
  | _, _, _, _, .cons f fs, ρ, _, R, .cons r rs => by
    obtain ⟨ρ1, g1, R1, r1⟩ := Fz.ok f R r
    obtain ⟨ρ2, g2, R2, r2⟩ := Fzs.ok fs R1 (rs.mono g1)
    exact ⟨ρ2, g1.trans g2, R2, .cons (r1.mono g2) r2⟩
theorem Fzk.okK {K : PySem.W.Frag} {mg : Str → Option Value} {H : Hp} : ∀ {h h' : Hv} {v w : List (Val × Val)}, Fzk h v w h' → ∀ {ρ : Rho} {x : List (Key × V)}, Rel K mg ρ h H → RDk K ρ H v x → ∃ ρ', Go K ρ H ρ' H ∧ Rel K mg ρ' h' H ∧ RDk K ρ' H w x
  | _, _, _, _, .same, ρ, x, R, r => ⟨ρ, .refl, R, r⟩
  | _, _, _, _, .cons f fs, ρ, _, R, .cons k r rs => by
    obtain ⟨ρ1, g1, R1, r1⟩ := Fz.ok f R r
    obtain ⟨ρ2, g2, R2, r2⟩ := Fzk.okK fs R1 (rs.monoM g1.gm)
    exact ⟨ρ2, g1.trans g2, R2, .cons k (r1.mono g2) r2⟩
theorem Fzk.okT {K : PySem.W.Frag} {mg : Str → Option Value} {H : Hp} : ∀ {h h' : Hv} {v w : List (Val × Val)}, Fzk h v w h' → ∀ {ρ : Rho} {x : List (List Key × V)}, Rel K mg ρ h H → RDt K ρ H v x → ∃ ρ', Go K ρ H ρ' H ∧ Rel K mg ρ' h' H ∧ RDt K ρ' H w x
  | _, _, _, _, .same, ρ, x, R, r => ⟨ρ, .refl, R, r⟩
  | _, _, _, _, .cons f fs, ρ, _, R, .cons k r rs => by
    obtain ⟨ρ1, g1, R1, r1⟩ := Fz.ok f R r
    obtain ⟨ρ2, g2, R2, r2⟩ := Fzk.okT fs R1 (rs.monoM g1.gm)
    exact ⟨ρ2, g1.trans g2, R2, .cons k (r1.mono g2) r2⟩
end
/-! ### slots, exceptions -/
def REv (K : PySem.W.Frag) (ρ : Rho) (H : Hp) (env : Ev) (σ : St) : Prop := env.length = σ.length ∧ ∀ (i : Nat) (v : Val), env[i]? = some (some v) → ∃ x, σ[i]? = some (some x) ∧ RV K ρ H v x
theorem REv.mono {K : PySem.W.Frag} {ρ ρ' : Rho} {H H' : Hp} {env : Ev} {σ : St} (g : Go K ρ H ρ' H') (r : REv K ρ H env σ) : REv K ρ' H' env σ :=
  ⟨r.1, fun i v e => let ⟨x, e1, q⟩ := r.2 i v e; ⟨x, e1, q.mono g⟩⟩
theorem REv.monoM {K : PySem.W.Frag} {ρ ρ' : Rho} {H H' : Hp} {env : Ev} {σ : St} (g : Gm K ρ H ρ' H') (r : REv K ρ H env σ) : REv K ρ' H' env σ :=
  ⟨r.1, fun i v e => let ⟨x, e1, q⟩ := r.2 i v e; ⟨x, e1, q.monoM g⟩⟩
theorem REv.set {K : PySem.W.Frag} {ρ : Rho} {H : Hp} {env : Ev} {σ : St} {v : Val} {x : V} (r : REv K ρ H env σ) (i : Nat) (q : RV K ρ H v x) : REv K ρ H (env.set i (some v)) (σ.set i (some x)) := by
  refine ⟨by rw [List.length_set, List.length_set]; exact r.1, fun j u e => ?_⟩
  by_cases z : i = j
  · subst z
    have hl : i < env.length := by
      apply Classical.byContradiction; intro k
      rw [List.getElem?_eq_none (by rw [List.length_set]; omega)] at e; cases e
    rw [List.getElem?_set_self hl] at e; cases e
    exact ⟨x, by rw [List.getElem?_set_self (by rw [← r.1]; exact hl)], q⟩
  · rw [List.getElem?_set_ne z] at e
    obtain ⟨y, e1, w⟩ := r.2 j u e
    exact ⟨y, by rw [List.getElem?_set_ne z]; exact e1, w⟩
theorem REv.reset {K : PySem.W.Frag} {ρ : Rho} {H : Hp} {env : Ev} {σ : St} {v : Val} {x : V} (r : REv K ρ H env σ) {i : Nat} (e : σ[i]? = some (some x)) (q : RV K ρ H v x) : REv K ρ H (env.set i (some v)) σ := by
  have z := r.set i q
  have es : σ.set i (some x) = σ := by
    apply List.ext_getElem?
    intro j
    by_cases h : i = j
    · subst h
      have hl : i < σ.length := (List.getElem?_eq_some_iff.mp e).1
      rw [List.getElem?_set_self hl, e]
    · rw [List.getElem?_set_ne h]
  rw [es] at z
  exact z
theorem REv.set_none {K : PySem.W.Frag} {ρ : Rho} {H : Hp} {env : Ev} {σ : St} (r : REv K ρ H env σ) (i : Nat) : REv K ρ H (env.set i none) (σ.set i none) := by
  refine ⟨by rw [List.length_set, List.length_set]; exact r.1, fun j u e => ?_⟩
  by_cases z : i = j
  · subst z
    by_cases hl : i < env.length
    · rw [List.getElem?_set_self hl] at e; cases e
    · rw [List.getElem?_eq_none (by rw [List.length_set]; omega)] at e; cases e
  · rw [List.getElem?_set_ne z] at e
    obtain ⟨y, e1, w⟩ := r.2 j u e
    exact ⟨y, by rw [List.getElem?_set_ne z]; exact e1, w⟩
theorem REv.wipe {K : PySem.W.Frag} {ρ : Rho} {H : Hp} {env : Ev} {σ : St} (r : REv K ρ H env σ) : ∀ own : List Nat, REv K ρ H (wipeE env own) (wipe σ own)
  | [] => r
  | i :: own => (REv.wipe r own).set_none i
theorem REv.start {K : PySem.W.Frag} {ρ : Rho} {H : Hp} {vs : List Val} {xs : List V} {N : List Nm} (r : RVs K ρ H vs xs) : REv K ρ H (startE N.length vs) (L2.start N xs) := by
  refine ⟨by simp [startE, L2.start, r.length], fun i v e => ?_⟩
  unfold startE at e
  by_cases hl : i < vs.length
  · rw [List.getElem?_append_left (by simpa using hl)] at e
    rw [List.getElem?_map] at e
    cases q : vs[i]? with
    | none => rw [q] at e; cases e
    | some w =>
      rw [q] at e
      simp at e
      subst e
      obtain ⟨x, e1, z⟩ := r.get q
      refine ⟨x, ?_, z⟩
      unfold L2.start
      rw [List.getElem?_append_left (by simpa [← r.length] using hl), List.getElem?_map, e1]
      rfl
  · rw [List.getElem?_append_right (by simpa using hl)] at e
    obtain ⟨_, e2⟩ := List.getElem?_eq_some_iff.mp e
    rw [List.getElem_replicate] at e2
    cases e2
/-- an exception: its class, its own dict with the fields -/
def RX (K : PySem.W.Frag) (mg : Str → Option Value) (ρ : Rho) (H : Hp) (x : Exn) (cls : Value) (d : Option Addr) : Prop :=
  ∃ Ca dx gs, mg (cname x.c) = some (.ref Ca) ∧ cls = .ref Ca ∧ d = some dx ∧ H dx = some (.xd gs) ∧ x.fs.length = (cflds x.c).length ∧ (∀ n, ρ n ≠ some dx) ∧
    ∀ (i : Nat) (f : Nm) (v : Val), (cflds x.c)[i]? = some f → x.fs[i]? = some v → ∃ y, gs.lookup f = some y ∧ RV K ρ H v y

/-! ### readings from our meanings -/
abbrev TW := Ev → Hv → K1 → EK → Prop
/-- what is wanted behind a value -/
def Aft0 (K : PySem.W.Frag) (mg : Str → Option Value) (ρ : Rho) (H : Hp) (Q1 : K1) (Q : VK) : Prop := ∀ v h', Q1 v h' → ∀ ρ' H' x, Go K ρ H ρ' H' → Rel K mg ρ' h' H' → RV K ρ' H' v x → Q x H'
def AftX0 (K : PySem.W.Frag) (mg : Str → Option Value) (ρ : Rho) (H : Hp) (E1 : EK) (E : XK) : Prop := ∀ x h', E1 x h' → ∀ ρ' H' cls d, Go K ρ H ρ' H' → Rel K mg ρ' h' H' → RX K mg ρ' H' x cls d → E cls d H'
abbrev Aft (X : Cx) (ρ : Rho) (H : Hp) (Q1 : K1) (Q : VK) : Prop := Aft0 X.K X.mg ρ H Q1 Q
abbrev AftX (X : Cx) (ρ : Rho) (H : Hp) (E1 : EK) (E : XK) : Prop := AftX0 X.K X.mg ρ H E1 E
def rdE (X : Cx) (W : L2.WX) (w : TW) : TE := fun σ H Q => ∃ ρ env h Q1 E1, Rel X.K X.mg ρ h H ∧ REv X.K ρ H env σ ∧ w env h Q1 E1 ∧ Aft X ρ H Q1 Q ∧ AftX X ρ H E1 (fun c d H' => W c d σ H')
theorem Aft.mono {X : Cx} {ρ ρ' : Rho} {H H' : Hp} {Q1 : K1} {Q : VK} (g : Go X.K ρ H ρ' H') (a : Aft X ρ H Q1 Q) : Aft X ρ' H' Q1 Q := fun v h' q ρ2 H2 x g2 => a v h' q ρ2 H2 x (g.trans g2)
theorem AftX.mono {X : Cx} {ρ ρ' : Rho} {H H' : Hp} {Q1 : EK} {Q : XK} (g : Go X.K ρ H ρ' H') (a : AftX X ρ H Q1 Q) : AftX X ρ' H' Q1 Q := fun v h' q ρ2 H2 x d g2 => a v h' q ρ2 H2 x d (g.trans g2)
section
variable {X : Cx} {ρ : Rho} {h : Hv} {H : Hp} {Q1 : K1} {Q : VK}
theorem Aft.now (a : Aft X ρ H Q1 Q) (R : Rel X.K X.mg ρ h H) {v : Val} {x : V} (r : RV X.K ρ H v x) (q : Q1 v h) : Q x H := a v h q ρ H x Go.refl R r
theorem Aft.tup (a : Aft X ρ H Q1 Q) (R : Rel X.K X.mg ρ h H) {vs : List Val} {xs : List V} (r : RVs X.K ρ H vs xs) (q : Q1 (.tup vs) h) {p : Addr} (hp : H p = none) : Q (.ref p) (upd H p (.tup xs)) :=
  a _ h q ρ _ _ (Go.laid hp) (R.laid hp) (.tup upd_same (r.mono (Go.laid hp)))
theorem Aft.newL (a : Aft X ρ H Q1 Q) (R : Rel X.K X.mg ρ h H) {vs : List Val} {xs : List V} (r : RVs X.K ρ H vs xs) {z : Bool} (q : newL z vs h Q1) {p : Addr} (hp : H p = none) : Q (.ref p) (upd H p (.lst xs)) := by
  cases z with
  | false => exact a _ _ q _ _ _ (Go.new R hp) (R.new hp ⟨xs, upd_same, r.mono (Go.new R hp)⟩) (.ref rhoN_new)
  | true => exact a _ _ q _ _ _ (Go.frz (u := .lst xs) hp) (R.frz hp) (.fl (.inr rfl) upd_same (r.mono (Go.frz hp)))
theorem Aft.newD (a : Aft X ρ H Q1 Q) (R : Rel X.K X.mg ρ h H) {kvs : List (Val × Val)} {u : HO} (r : DicOf X.K ρ H kvs u) {z : Bool} (q : newD z kvs h Q1) {p : Addr} (hp : H p = none) : Q (.ref p) (upd H p u) := by
  cases z with
  | false => exact a _ _ q _ _ _ (Go.new R hp) (R.new hp ⟨u, r.mono (Go.new R hp), .inl ⟨rfl, upd_same⟩⟩) (.ref rhoN_new)
  | true =>
    refine a _ _ q _ _ _ (Go.frz (u := u) hp) (R.frz hp) ?_
    rcases r with ⟨ks, rfl, d⟩ | ⟨ks, rfl, d⟩
    · exact .fdK (.inr rfl) upd_same ((RDk.of d).monoM (Go.frz hp).gm)
    · exact .fdT (.inr rfl) upd_same ((RDt.of d).monoM (Go.frz hp).gm)
theorem Aft.put (a : Aft X ρ H Q1 Q) (R : Rel X.K X.mg ρ h H) {n : Nat} {b : Addr} (e : ρ n = some b) (hn : ∃ ob, h.g n = some ob) {vs : List Val} {xs : List V} (r : RVs X.K ρ H vs xs) {v : Val} {x : V} (rv : RV X.K ρ H v x) (q : Q1 v (h.put n (.lst vs))) : Q x (upd H b (.lst xs)) :=
  a _ _ q _ _ _ (Go.put R e hn) (R.put e hn ⟨xs, upd_same, r.mono (Go.put R e hn)⟩) (rv.mono (Go.put R e hn))
end
theorem PE.imp {X : Cx} {e : Expr} {t t' : TE} (p : PE X e t) (h : ∀ σ H Q, t' σ H Q → t σ H Q) : PE X e t' := ⟨fun pins s σ H Q I q => p.run pins s σ H Q I (h σ H Q q)⟩
theorem PT.imp {X : Cx} {e : Expr} {t t' : TT} (p : PT X e t) (h : ∀ σ H Q, t' σ H Q → t σ H Q) : PT X e t' := ⟨fun pins s σ H Q I q => p.run pins s σ H Q I (h σ H Q q)⟩
theorem PA.imp {X : Cx} {e : List Expr} {t t' : TA} (p : PA X e t) (h : ∀ σ H Q, t' σ H Q → t σ H Q) : PA X e t' := ⟨fun ps pins s σ H Q I q => p.run ps pins s σ H Q I (h σ H Q q)⟩
theorem PS.imp {X : Cx} {e : Stmt} {t t' : TS} (p : PS X e t) (h : ∀ D σ H, t' D σ H → t D σ H) : PS X e t' := ⟨fun pins s σ H D I q => p.run pins s σ H D I (h D σ H q)⟩
end Lw
set_option Elab.async false
set_option linter.all false
set_option maxRecDepth 100000
set_option maxHeartbeats 1000000
/-! Lw3: the operators. -/
namespace Lw
open PySem L2 PyProof.Rows

theorem toS_len (s : List Nat) : (toS s).length = s.length := by simp [toS, Str.length]
theorem toS_cps (s : List Nat) : (toS s).cps.toList = s := by simp [toS]
theorem toS_append (s t : List Nat) : toS s ++ toS t = toS (s ++ t) := by
  show (⟨s.toArray ++ t.toArray⟩ : Str) = ⟨(s ++ t).toArray⟩
  simp
theorem toS_inj {s t : List Nat} (h : toS s = toS t) : s = t := by
  have := congrArg (fun z : Str => z.cps.toList) h
  simpa [toS] using this
theorem okS.append {s t : List Nat} (a : okS s) (b : okS t) : okS (s ++ t) := fun c h => (List.mem_append.mp h).elim (a c) (b c)
theorem okS.of_mem {s t : List Nat} (a : okS s) (h : ∀ c ∈ t, c ∈ s) : okS t := fun c m => a c (h c m)

def opOf : O2 → Operator
  | .add _ => .Add | .sub => .Sub | .mul _ => .Mult | .fdiv => .FloorDiv | .mod => .Mod | .pow => .Pow | .shl => .LShift | .shr => .RShift | .band => .BitAnd
def rO2 (X : Cx) (o : O2) : R2 := fun x y H Q => ∃ ρ h v w Q1, Rel X.K X.mg ρ h H ∧ RV X.K ρ H v x ∧ RV X.K ρ H w y ∧ o2 o v w h Q1 ∧ Aft X ρ H Q1 Q
theorem IsL.rd {K : PySem.W.Frag} {mg : Str → Option Value} {ρ : Rho} {h : Hv} {H : Hp} {v : Val} {vs : List Val} {x : V} (l : IsL h v vs) (R : Rel K mg ρ h H) (r : RV K ρ H v x) : ∃ a xs, x = .ref a ∧ H a = some (.lst xs) ∧ RVs K ρ H vs xs := by
  rcases l with rfl | ⟨n, rfl, g⟩
  · cases r with
    | fl f e r => exact ⟨_, _, rfl, e, r⟩
  · cases r with
    | ref e =>
      obtain ⟨a1, xs, d1, h1, r1⟩ := R.lst g
      rw [e] at d1; cases d1
      exact ⟨_, _, rfl, h1, r1⟩
theorem asL.rd {K : PySem.W.Frag} {mg : Str → Option Value} {ρ : Rho} {h : Hv} {H : Hp} {v : Val} {P : List Val → Prop} {x : V} (l : asL v h P) (R : Rel K mg ρ h H) (r : RV K ρ H v x) : ∃ a vs xs, x = .ref a ∧ H a = some (.lst xs) ∧ RVs K ρ H vs xs ∧ P vs := by
  obtain ⟨vs, l, p⟩ := l.el
  obtain ⟨a, xs, e1, e2, e3⟩ := l.rd R r
  exact ⟨a, vs, xs, e1, e2, e3, p⟩
variable {X : Cx}
theorem oAdd_ok {z : Bool} : OpR X (binaryOp .Add) (rO2 X (.add z)) := by
  intro pins s σ H x y v u Q I rx ry hh
  obtain ⟨ρ, h, a, b, Q1, R, ra, rb, q, af⟩ := hh
  have lists : (asL a h fun s => asL b h fun t => s.length + t.length ≤ sizeLine ∧ newL z (s ++ t) h Q1) → wpAny (model X.prog X.w) X.A (binaryOp .Add v u) (EP X pins σ Q) X.xe s := fun q => by
    obtain ⟨a1, s1, xs, rfl, h1, r1, q⟩ := asL.rd q R ra
    obtain ⟨a2, s2, ys, rfl, h2, r2, hl, q⟩ := asL.rd q R rb
    exact op_cat pins s σ H _ _ v u Q I rx ry ⟨_, _, xs, ys, rfl, rfl, h1, h2, by rw [← r1.length, ← r2.length]; exact hl, fun p hp => af.newL R (r1.append r2) q hp⟩
  cases a with
  | int i =>
    cases b with
    | int j =>
      cases ra; cases rb
      exact op_add pins s σ H _ _ v u Q I rx ry ⟨i, j, rfl, rfl, af.now R (.int _) q⟩
    | _ => exact q.elim
  | str s1 =>
    cases b with
    | str s2 =>
      cases ra with | str ok1 => ?_
      cases rb with | str ok2 => ?_
      refine op_add_str pins s σ H _ _ v u Q I rx ry ⟨_, _, rfl, rfl, by rw [toS_len, toS_len]; exact q.1, ?_⟩
      rw [toS_append]
      exact af.now R (.str (ok1.append ok2)) q.2
    | _ => exact q.elim
  | tup vs =>
    cases b with
    | tup ws =>
      cases ra with | @tup _ a xs e1 r1 => ?_
      cases rb with | @tup _ b ys e2 r2 => ?_
      refine op_catA pins s σ H _ _ v u Q I rx ry ⟨a, b, xs, ys, rfl, rfl, .of e1, .of e2, by rw [← r1.length, ← r2.length]; exact q.1, fun z => ?_, fun _ z => ?_, fun _ _ p hp => ?_⟩
      · subst z
        cases r1
        exact af.now R (.tup e2 r2) (by simpa using q.2)
      · subst z
        cases r2
        exact af.now R (.tup e1 r1) (by simpa using q.2)
      · exact af.tup R (r1.append r2) q.2 hp
    | _ => exact q.elim
  | _ => exact lists q

theorem okS.rep {s : List Nat} (a : okS s) (k : Nat) : okS (repL k s) := fun c h => by
  unfold repL at h
  obtain ⟨l, hl, hc⟩ := List.mem_flatten.mp h
  rw [(List.mem_replicate.mp hl).2] at hc
  exact a c hc
theorem foldl_repA (s : List Nat) : ∀ (k : Nat) (acc : List Nat), (List.replicate k s.toArray).foldl (· ++ ·) acc.toArray = (acc ++ repL k s).toArray
  | 0, acc => by unfold repL; rw [List.replicate_zero, List.replicate_zero]; simp
  | k + 1, acc => by
    have e : acc.toArray ++ s.toArray = (acc ++ s).toArray := by simp
    have e2 : (acc ++ s) ++ repL k s = acc ++ repL (k + 1) s := by unfold repL; rw [List.replicate_succ, List.flatten_cons, List.append_assoc]
    rw [← e2, ← foldl_repA s k (acc ++ s), ← e, List.replicate_succ, List.foldl_cons]
theorem repL_len (k : Nat) (s : List Nat) : (repL k s).length = k * s.length := by
  unfold repL
  induction k with
  | zero => rw [List.replicate_zero]; simp
  | succ k ih => rw [List.replicate_succ, List.flatten_cons, List.length_append, ih, Nat.succ_mul, Nat.add_comm]
theorem oMul_ok {z : Bool} : OpR X (binaryOp .Mult) (rO2 X (.mul z)) := by
  intro pins s σ H x y v u Q I rx ry hh
  obtain ⟨ρ, h, a, b, Q1, R, ra, rb, q, af⟩ := hh
  cases b with
  | int j => ?_
  | _ => exact q.elim
  cases rb
  have lists : (asL a h fun s => 0 ≤ j ∧ j < 2 ^ 24 ∧ s.length * j.toNat ≤ sizeLine ∧ newL z (repL j.toNat s) h Q1) → wpAny (model X.prog X.w) X.A (binaryOp .Mult v u) (EP X pins σ Q) X.xe s := fun q => by
    obtain ⟨a1, s1, xs, rfl, h1, r1, h0, h2, hl, q⟩ := asL.rd q R ra
    exact op_rep pins s σ H _ _ v u Q I rx ry ⟨_, j, xs, rfl, rfl, h1, by omega, by omega, by rw [← r1.length]; exact hl, fun p hp => af.newL R (r1.rep _) q hp⟩
  cases a with
  | int i =>
    cases ra
    exact op_mul pins s σ H _ _ v u Q I rx ry ⟨i, j, rfl, rfl, q.1, af.now R (.int _) q.2⟩
  | str l =>
    cases ra with | str ok1 => ?_
    obtain ⟨h0, hl, hj, q⟩ := q
    obtain ⟨t, rfl⟩ := rx
    obtain ⟨t', rfl⟩ := ry
    have hs : sizeLine = 16777216 := sizeLine_eq
    have hlen : (toS l).length = l.length := toS_len l
    have hn1 : ¬ j < -(2 ^ 63 : Int) := by omega
    have hn2 : ¬ j ≥ 2 ^ 63 := by omega
    have hz : ((l.length * j.toNat : Nat) : Int) ≤ ((16777216 : Nat) : Int) := Int.ofNat_le.mpr (by rw [← hs]; exact hl)
    refine PySem.P.mul_str (by rw [decide_eq_false hn1, decide_eq_false hn2]; rfl) (fun hj1 hne => ?_) (fun _ _ => ?_) ?_
    · rw [hlen]
      have hj0 : 0 < j := by omega
      have e1 : (j.toNat : Int) = j := Int.toNat_of_nonneg h0
      have e2 : (l.length : Int) * j ≤ 16777216 := by rw [← e1, ← Int.natCast_mul]; exact hz
      have e3 : (l.length : Int) ≤ (2 ^ 63 - 1) / j := by
        rw [Int.le_ediv_iff_mul_le hj0]
        omega
      omega
    · unfold Builtin.Str.tooLong
      rw [hlen]
      exact decide_eq_false (by omega)
    · have fin : ∀ tk, EP X pins σ Q (.str (toS (repL j.toNat l)) tk) { s with toks := s.toks + 1 } := fun tk => ⟨.str (toS (repL j.toNat l)), H, I.tok _, ⟨_, rfl⟩, af.now R (.str (ok1.rep _)) q⟩
      by_cases c1 : j < 1
      · have : j.toNat = 0 := by omega
        rw [if_pos c1]
        refine ⟨by decide, ?_⟩
        rw [this] at fin
        exact fin _
      · rw [if_neg c1]
        by_cases c2 : (j == 1 || (toS l).length == 0) = true
        · rw [if_pos c2]
          have e : repL j.toNat l = l := by
            rw [Bool.or_eq_true] at c2
            rcases c2 with c | c
            · have : j.toNat = 1 := by have := eq_of_beq c; omega
              rw [this]; simp [repL]
            · have h0 : l = [] := by
                have := eq_of_beq c
                rw [hlen] at this
                exact List.length_eq_zero_iff.mp this
              subst h0
              exact List.length_eq_zero_iff.mp (by rw [repL_len]; simp)
          refine ⟨.str (toS l), H, I, ⟨_, rfl⟩, ?_⟩
          have q' := q
          rw [e] at q'
          exact af.now R (.str ok1) q'
        · rw [if_neg c2]
          have e : (⟨(List.replicate j.toNat (toS l).cps).foldl (· ++ ·) #[]⟩ : Str) = toS (repL j.toNat l) := by
            have := foldl_repA l j.toNat []
            unfold toS
            simpa using this
          rw [e]
          refine ⟨?_, fin _⟩
          rw [toS_len, repL_len, Nat.mul_comm]
          exact hl
  | _ => exact lists q
theorem o2_ok : ∀ o : O2, OpR X (binaryOp (opOf o)) (rO2 X o)
  | .add _ => oAdd_ok
  | .mul _ => oMul_ok
  | .sub => by
    intro pins s σ H x y v u Q I rx ry hh
    obtain ⟨ρ, h, a, b, Q1, R, ra, rb, ⟨i, j, rfl, rfl, q⟩, af⟩ := hh
    cases ra; cases rb
    exact op_sub pins s σ H _ _ v u Q I rx ry ⟨i, j, rfl, rfl, af.now R (.int _) q⟩
  | .fdiv => by
    intro pins s σ H x y v u Q I rx ry hh
    obtain ⟨ρ, h, a, b, Q1, R, ra, rb, ⟨i, j, rfl, rfl, c, q⟩, af⟩ := hh
    cases ra; cases rb
    exact op_fdiv pins s σ H _ _ v u Q I rx ry ⟨i, j, rfl, rfl, c, af.now R (.int _) q⟩
  | .mod => by
    intro pins s σ H x y v u Q I rx ry hh
    obtain ⟨ρ, h, a, b, Q1, R, ra, rb, ⟨i, j, rfl, rfl, c, q⟩, af⟩ := hh
    cases ra; cases rb
    exact op_mod pins s σ H _ _ v u Q I rx ry ⟨i, j, rfl, rfl, c, af.now R (.int _) q⟩
  | .pow => by
    intro pins s σ H x y v u Q I rx ry hh
    obtain ⟨ρ, h, a, b, Q1, R, ra, rb, ⟨i, j, rfl, rfl, c, q⟩, af⟩ := hh
    cases ra; cases rb
    exact op_pow pins s σ H _ _ v u Q I rx ry ⟨i, j, rfl, rfl, c, af.now R (.int _) q⟩
  | .shl => by
    intro pins s σ H x y v u Q I rx ry hh
    obtain ⟨ρ, h, a, b, Q1, R, ra, rb, ⟨i, j, rfl, rfl, c, q⟩, af⟩ := hh
    cases ra; cases rb
    exact op_shl pins s σ H _ _ v u Q I rx ry ⟨i, j, rfl, rfl, c, af.now R (.int _) q⟩
  | .shr => by
    intro pins s σ H x y v u Q I rx ry hh
    obtain ⟨ρ, h, a, b, Q1, R, ra, rb, ⟨i, j, rfl, rfl, c, q⟩, af⟩ := hh
    cases ra; cases rb
    exact op_shr pins s σ H _ _ v u Q I rx ry ⟨i, j, rfl, rfl, c, af.now R (.int _) q⟩
  | .band => by
    intro pins s σ H x y v u Q I rx ry hh
    obtain ⟨ρ, h, a, b, Q1, R, ra, rb, ⟨i, j, rfl, rfl, q⟩, af⟩ := hh
    cases ra; cases rb
    exact op_and pins s σ H _ _ v u Q I rx ry ⟨i, j, rfl, rfl, af.now R (.int _) q⟩

/-! ### data read -/
mutual
/-- the texts are made of signs that exist -/
def sOk : PyData → Prop
  | .str x => okS x.cps.toList
  | .list xs => sOks xs
  | .tuple xs => sOks xs
  | .dict kvs => sOkv kvs
  | _ => True
def sOks : List PyData → Prop
  | [] => True
  | x :: xs => sOk x ∧ sOks xs
def sOkv : List (PyData × PyData) → Prop
  | [] => True
  | (k, v) :: r => sOk k ∧ sOk v ∧ sOkv r
end
mutual
theorem canLay_of : ∀ d : PyData, sOk d → d.hasDict = false → d.canLay0 = true
  | .none, _, _ => rfl
  | .bool _, _, _ => rfl
  | .int _, _, _ => rfl
  | .str x, h, _ => by
    show PyData.strOk x = true
    unfold PyData.strOk
    rw [Array.all_eq_true']
    intro c hc
    exact decide_eq_true (h c (by simpa using hc))
  | .list xs, h, n => canLays_of xs h (by simpa [PyData.hasDict] using n)
  | .tuple xs, h, n => canLays_of xs h (by simpa [PyData.hasDict] using n)
  | .dict _, _, n => by cases n
theorem canLays_of : ∀ ds : List PyData, sOks ds → PyData.hasDictAll ds = false → PyData.canLayAll0 ds = true
  | [], _, _ => rfl
  | d :: ds, h, n => by
    have n' : d.hasDict = false ∧ PyData.hasDictAll ds = false := by simpa [PyData.hasDictAll] using n
    simp [PyData.canLayAll0, canLay_of d h.1 n'.1, canLays_of ds h.2 n'.2]
end
section
variable {pins : List (Addr × Obj)} {σ : L2.St} {H : Hp} {s : Shared} {ρ : Rho} {h : Hv}
theorem RK.rv {K : PySem.W.Frag} {v : Val} {k : Key} (r : RK v k) : RV K ρ H v (kV k) := by
  rcases r with ⟨i, rfl, rfl⟩ | ⟨l, ok, rfl, rfl⟩
  · exact .int i
  · exact .str ok
theorem RK.rvs {K : PySem.W.Frag} : ∀ {vs : List Val} {ks : List Key}, Paired RK vs ks → RVs K ρ H vs (ks.map kV)
  | _, _, .nil => .nil
  | _, _, .cons r t => .cons r.rv (RK.rvs t)
theorem RKs.rv {K : PySem.W.Frag} {v : Val} {k : List Key} {a : Addr} (r : RKs v k) (e : H a = some (.tup (k.map kV))) : RV K ρ H v (.ref a) := by
  obtain ⟨vs, rfl, p⟩ := r
  exact .tup e (RK.rvs p)
theorem not_sys (hs : H sysModules = none) {a : Addr} {o : HO} (e : H a = some o) : sysModules ≠ a := fun z => by rw [← z, hs] at e; cases e
mutual
theorem reads_of (I : Inv X pins σ H s) (R : Rel X.K X.mg ρ h H) : ∀ (d : PyData) (v : Val) (x : V) (u : Value), Dp h v d → RV X.K ρ H v x → RelV x u → ∃ as, Reads s.heap u d as ∧ sOk d ∧ (H sysModules = none → sysModules ∉ as)
  | .none, _, _, _, hd, rv, r => by
    cases hd; cases rv; cases r
    exact ⟨_, Reads.none, trivial, fun _ z => by cases z⟩
  | .bool b, _, _, _, hd, rv, r => by
    cases hd; cases rv; cases r
    exact ⟨_, Reads.bool b, trivial, fun _ z => by cases z⟩
  | .int i, _, _, _, hd, rv, r => by
    cases hd; cases rv
    obtain ⟨t, rfl⟩ := r
    exact ⟨_, Reads.int i t, trivial, fun _ z => by cases z⟩
  | .str z, _, _, _, hd, rv, r => by
    cases hd
    cases rv with
    | str ok =>
      obtain ⟨t, rfl⟩ := r
      exact ⟨_, Reads.str _ t, by show okS (toS _).cps.toList; rw [toS_cps]; exact ok, fun _ z => by cases z⟩
  | .list ds, _, _, _, hd, rv, r => by
    cases hd with
    | fl ha =>
      cases rv with
      | fl _ h2 r1 =>
        cases r
        obtain ⟨its, rvs, ⟨o, n, ho, hc, _, hdt⟩, _⟩ := I.list (.of h2)
        obtain ⟨as, hr, hl, hn⟩ := readsAll_of I R ds _ _ its ha r1 rvs
        exact ⟨_, Reads.list ho hc hdt hr, hl, fun z m => (List.mem_cons.mp m).elim (not_sys z h2) (hn z)⟩
    | lst g ha =>
      cases rv with
      | ref e =>
        cases r
        obtain ⟨a1, xs, d1, h2, r1⟩ := R.lst g
        rw [e] at d1; cases d1
        obtain ⟨its, rvs, ⟨o, n, ho, hc, _, hdt⟩, _⟩ := I.list (.of h2)
        obtain ⟨as, hr, hl, hn⟩ := readsAll_of I R ds _ _ its ha r1 rvs
        exact ⟨_, Reads.list ho hc hdt hr, hl, fun z m => (List.mem_cons.mp m).elim (not_sys z h2) (hn z)⟩
  | .tuple ds, _, _, _, hd, rv, r => by
    cases hd with
    | tup ha =>
      cases rv with
      | tup e r1 =>
        cases r
        obtain ⟨its, rvs, ⟨o, ho, hc, n, hdt⟩, _⟩ := I.tuple (.of e)
        obtain ⟨as, hr, hl, hn⟩ := readsAll_of I R ds _ _ its ha r1 rvs
        exact ⟨_, Reads.tuple ho hc hdt hr, hl, hn⟩
  | .dict ds, v, x, _, hd, rv, r => by
    have st : ∃ a kvs u, x = .ref a ∧ Dpk h kvs ds ∧ DicOf X.K ρ H kvs u ∧ Rd H a u ∧ ∃ o, H a = some o := by
      cases hd with
      | fd ha =>
        cases rv with
        | fdK _ e d => exact ⟨_, _, _, rfl, ha, .inl ⟨_, rfl, d.dic⟩, .inl e, _, e⟩
        | fdT _ e d => exact ⟨_, _, _, rfl, ha, .inr ⟨_, rfl, d.dic⟩, .inl e, _, e⟩
      | dic g ha =>
        cases rv with
        | @ref n a e =>
          obtain ⟨u, d, hu⟩ := R.at_ g e
          exact ⟨a, _, u, rfl, ha, d, hu.elim (fun z => .inl z.2) fun z => .inr z.2, hu.elim (fun z => ⟨_, z.2⟩) fun z => let ⟨_, o, q⟩ := z; ⟨_, q⟩⟩
    obtain ⟨a, kvs, u, rfl, ha, d, rd, ob, hob⟩ := st
    cases r
    rcases d with ⟨ks, rfl, d⟩ | ⟨ks, rfl, d⟩
    · obtain ⟨_, hd, vs, rel, o, es, ep, h1, h2, h3, h4, h5, h6⟩ := dk_rd I.hok rd
      have key : ∀ {es : List DictEntry} {vs : List (Key × Value)} {ks : List (Key × V)} {kvs : List (Val × Val)}, Pairs (mixKind X.prog X.w) es vs → KV ks vs → DicK X.K ρ H kvs ks →
          ∃ xs ys : List V, RVs X.K ρ H (kvs.map (·.1)) xs ∧ RVs X.K ρ H (kvs.map (·.2)) ys ∧ Vals xs (es.map (·.key)) ∧ Vals ys (es.map (·.val)) := by
        intro es vs ks kvs p
        induction p generalizing ks kvs with
        | nil =>
          intro r1 r2
          cases r1; cases r2
          exact ⟨[], [], .nil, .nil, .nil, .nil⟩
        | cons k1 k2 _ ih =>
          intro r1 r2
          cases r1 with
          | cons q1 t1 =>
            cases r2 with
            | cons q2 t2 =>
              obtain ⟨xs, ys, z1, z2, z3, z4⟩ := ih t1 t2
              refine ⟨_, _, .cons q2.1.rv z1, .cons q2.2 z2, .cons ?_ z3, .cons ?_ z4⟩
              · rw [q1.1]
                exact relV_key k1
              · have q3 := q1.2
                rw [← k2] at q3
                exact q3
      obtain ⟨xs, ys, z1, z2, z3, z4⟩ := key h5 rel d
      obtain ⟨as, bs, r1, r2, hl, hn⟩ := readsKv_of I R ds _ xs ys _ _ ha z1 z2 z3 z4
      exact ⟨_, Reads.dict h1 h2.1 h3 r1 r2, hl, fun z m => by
        rcases List.mem_cons.mp (show sysModules ∈ a :: (as ++ bs) from m) with q | q
        · exact not_sys z hob q
        · exact hn z q⟩
    · obtain ⟨_, hd, xs0, rel, o, es, ep, h1, h2, h3, h4, h5⟩ := (show ObjOk X.prog X.w H s.heap a (.dT ks) from rd_of I.hok rd)
      have key : ∀ {xs0 : List (List Key × Addr × Value)} {ks : List (List Key × V)} {kvs : List (Val × Val)}, KT H ks xs0 → DicT X.K ρ H kvs ks →
          ∃ xs ys : List V, RVs X.K ρ H (kvs.map (·.1)) xs ∧ RVs X.K ρ H (kvs.map (·.2)) ys ∧ Vals xs ((xs0.map (entryOfKey (tupleKind (mixKind X.prog X.w)))).map (·.key)) ∧ Vals ys ((xs0.map (entryOfKey (tupleKind (mixKind X.prog X.w)))).map (·.val)) := by
        intro xs0 ks kvs p
        induction p generalizing kvs with
        | nil =>
          intro r2
          cases r2
          exact ⟨[], [], .nil, .nil, .nil, .nil⟩
        | cons q1 _ ih =>
          intro r2
          cases r2 with
          | cons q2 t2 =>
            obtain ⟨xs, ys, z1, z2, z3, z4⟩ := ih t2
            obtain ⟨⟨vs, ev, pv⟩, q3⟩ := q2
            refine ⟨_, _, .cons (RKs.rv ⟨vs, ev, pv⟩ q1.2.1) z1, .cons q3 z2, .cons (show RelV (.ref _) (.ref _) from rfl) z3, .cons q1.2.2 z4⟩
      obtain ⟨xs, ys, z1, z2, z3, z4⟩ := key rel d
      rw [← h4] at z3 z4
      obtain ⟨as, bs, r1, r2, hl, hn⟩ := readsKv_of I R ds _ xs ys _ _ ha z1 z2 z3 z4
      exact ⟨_, Reads.dict h1 h2.1 h3 r1 r2, hl, fun z m => by
        rcases List.mem_cons.mp (show sysModules ∈ a :: (as ++ bs) from m) with q | q
        · exact not_sys z hob q
        · exact hn z q⟩
theorem readsAll_of (I : Inv X pins σ H s) (R : Rel X.K X.mg ρ h H) : ∀ (ds : List PyData) (vs : List Val) (xs : List V) (us : List Value), Dps h vs ds → RVs X.K ρ H vs xs → Vals xs us → ∃ as, ReadsAll s.heap us ds as ∧ sOks ds ∧ (H sysModules = none → sysModules ∉ as)
  | [], _, _, _, hd, rv, r => by
    cases hd; cases rv; cases r
    exact ⟨_, ReadsAll.nil, trivial, fun _ z => by cases z⟩
  | d :: ds, _, _, _, hd, rv, r => by
    cases hd with
    | cons h1 h2 =>
      cases rv with
      | cons v1 v2 =>
        cases r with
        | cons r1 r2 =>
          obtain ⟨as, q1, l1, n1⟩ := reads_of I R d _ _ _ h1 v1 r1
          obtain ⟨bs, q2, l2, n2⟩ := readsAll_of I R ds _ _ _ h2 v2 r2
          exact ⟨_, ReadsAll.cons q1 q2, ⟨l1, l2⟩, fun z m => (List.mem_append.mp m).elim (n1 z) (n2 z)⟩
theorem readsKv_of (I : Inv X pins σ H s) (R : Rel X.K X.mg ρ h H) : ∀ (ds : List (PyData × PyData)) (kvs : List (Val × Val)) (xs ys : List V) (us ws : List Value), Dpk h kvs ds → RVs X.K ρ H (kvs.map (·.1)) xs → RVs X.K ρ H (kvs.map (·.2)) ys → Vals xs us → Vals ys ws →
    ∃ as bs, ReadsAll s.heap us (ds.map (·.1)) as ∧ ReadsAll s.heap ws (ds.map (·.2)) bs ∧ sOkv ds ∧ (H sysModules = none → sysModules ∉ as ++ bs)
  | [], _, _, _, _, _, hd, r1, r2, r3, r4 => by
    cases hd; cases r1; cases r2; cases r3; cases r4
    exact ⟨_, _, ReadsAll.nil, ReadsAll.nil, trivial, fun _ z => by cases z⟩
  | (k, v) :: ds, _, _, _, _, _, hd, r1, r2, r3, r4 => by
    cases hd with
    | cons d1 d2 d3 =>
      cases r1 with
      | cons a1 b1 =>
        cases r2 with
        | cons a2 b2 =>
          cases r3 with
          | cons a3 b3 =>
            cases r4 with
            | cons a4 b4 =>
              obtain ⟨as, q1, l1, n1⟩ := reads_of I R k _ _ _ d1 a1 a3
              obtain ⟨bs, q2, l2, n2⟩ := reads_of I R v _ _ _ d2 a2 a4
              obtain ⟨cs, es, q3, q4, l3, n3⟩ := readsKv_of I R ds _ _ _ _ _ d3 b1 b2 b3 b4
              refine ⟨_, _, ReadsAll.cons q1 q3, ReadsAll.cons q2 q4, ⟨l1, l2, l3⟩, fun z m => ?_⟩
              have := n3 z
              rcases List.mem_append.mp m with m | m <;> rcases List.mem_append.mp m with m | m
              · exact n1 z m
              · exact this (List.mem_append_left _ m)
              · exact n2 z m
              · exact this (List.mem_append_right _ m)
end
theorem shp.shaped {d : PyData} (h : shp d) (hl : d.canLay0 = true) : SeqAt.shaped d = true := by
  unfold SeqAt.shaped
  rw [hl, decide_eq_true (show d.depth ≤ 64 by have := h.1; omega)]
  rfl
/-- data that may be compared -/
theorem reads_shp (I : Inv X pins σ H s) (R : Rel X.K X.mg ρ h H) {d : PyData} {v : Val} {x : V} {u : Value} (hd : Dp h v d) (hn : d.hasDict = false) (rv : RV X.K ρ H v x) (r : RelV x u) : (∃ as, Reads s.heap u d as) ∧ d.canLay0 = true := by
  obtain ⟨as, q, l, _⟩ := reads_of I R d _ _ _ hd rv r
  exact ⟨⟨as, q⟩, canLay_of d l hn⟩
theorem readsAll_shp (I : Inv X pins σ H s) (R : Rel X.K X.mg ρ h H) {ds : List PyData} {vs : List Val} {xs : List V} {us : List Value} (hd : Dps h vs ds) (hn : PyData.hasDictAll ds = false) (rv : RVs X.K ρ H vs xs) (r : Vals xs us) : (∃ as, ReadsAll s.heap us ds as) ∧ PyData.canLayAll0 ds = true := by
  obtain ⟨as, q, l, _⟩ := readsAll_of I R ds _ _ _ hd rv r
  exact ⟨⟨as, q⟩, canLays_of ds l hn⟩
end

/-! ### comparisons -/
def cmpOf : CO → CmpOp
  | .lt => .Lt | .le => .LtE | .gt => .Gt | .ge => .GtE | .eq => .Eq | .ne => .NotEq | .isin => .In | .notin => .NotIn | .is_ => .Is | .isnt => .IsNot
def rCO (X : Cx) (o : CO) : R2 := fun x y H Q => ∃ ρ h v w Rb, Rel X.K X.mg ρ h H ∧ RV X.K ρ H v x ∧ RV X.K ρ H w y ∧ co o v w h Rb ∧ ∀ b, Rb b → Q (.bl b) H
theorem cmpLt_cases {X : Cx} {ρ : Rho} {H : Hp} {v w : Val} {x y : V} {R : Bool → Prop} (rv : RV X.K ρ H v x) (rw' : RV X.K ρ H w y) (q : cmpLt v w R) :
    (∃ i j, x = .int i ∧ y = .int j ∧ R (decide (i < j))) ∨ ∃ s t, x = .str (toS s) ∧ y = .str (toS t) ∧ R (decide (s < t)) := by
  cases rv with
  | int i =>
    cases rw' with
    | int j => exact .inl ⟨i, j, rfl, rfl, q⟩
    | _ => exact q.elim
  | str ok =>
    cases rw' with
    | str ok2 => exact .inr ⟨_, _, rfl, rfl, q⟩
    | _ => exact q.elim
  | _ => exact q.elim
theorem not_lt_int (i j : Int) : (!decide (j < i)) = decide (i ≤ j) := by
  by_cases h : i ≤ j
  · rw [decide_eq_true h, decide_eq_false (by omega)]; rfl
  · rw [decide_eq_false h, decide_eq_true (by omega)]; rfl
theorem lt_ok : OpR X (compareOp .Lt) (rCO X .lt) := by
  intro pins s σ H x y v u Q I rx ry hh
  obtain ⟨ρ, h, a, b, Rb, R, ra, rb, q, af⟩ := hh
  rcases cmpLt_cases ra rb q with ⟨i, j, rfl, rfl, q⟩ | ⟨l, r, rfl, rfl, q⟩
  · exact op_lt pins s σ H _ _ v u Q I rx ry ⟨i, j, rfl, rfl, af _ q⟩
  · exact op_lt_str pins s σ H _ _ v u Q I rx ry ⟨_, _, rfl, rfl, by rw [toS_cps, toS_cps]; exact af _ q⟩
theorem gt_ok : OpR X (compareOp .Gt) (rCO X .gt) := by
  intro pins s σ H x y v u Q I rx ry hh
  obtain ⟨ρ, h, a, b, Rb, R, ra, rb, q, af⟩ := hh
  rcases cmpLt_cases rb ra q with ⟨i, j, rfl, rfl, q⟩ | ⟨l, r, rfl, rfl, q⟩
  · exact op_gt pins s σ H _ _ v u Q I rx ry ⟨j, i, rfl, rfl, af _ q⟩
  · exact op_gt_str pins s σ H _ _ v u Q I rx ry ⟨_, _, rfl, rfl, by rw [toS_cps, toS_cps]; exact af _ q⟩
theorem le_ok : OpR X (compareOp .LtE) (rCO X .le) := by
  intro pins s σ H x y v u Q I rx ry hh
  obtain ⟨ρ, h, a, b, Rb, R, ra, rb, q, af⟩ := hh
  rcases cmpLt_cases (R := fun c => Rb (!c)) rb ra q with ⟨i, j, rfl, rfl, q⟩ | ⟨l, r, rfl, rfl, q⟩
  · exact op_le pins s σ H _ _ v u Q I rx ry ⟨j, i, rfl, rfl, by show Q (.bl (decide (j ≤ i))) H; rw [← not_lt_int]; exact af _ q⟩
  · exact op_le_str pins s σ H _ _ v u Q I rx ry ⟨_, _, rfl, rfl, by rw [toS_cps, toS_cps]; exact af _ q⟩
theorem ge_ok : OpR X (compareOp .GtE) (rCO X .ge) := by
  intro pins s σ H x y v u Q I rx ry hh
  obtain ⟨ρ, h, a, b, Rb, R, ra, rb, q, af⟩ := hh
  rcases cmpLt_cases (R := fun c => Rb (!c)) ra rb q with ⟨i, j, rfl, rfl, q⟩ | ⟨l, r, rfl, rfl, q⟩
  · exact op_ge pins s σ H _ _ v u Q I rx ry ⟨i, j, rfl, rfl, by show Q (.bl (decide (j ≤ i))) H; rw [← not_lt_int]; exact af _ q⟩
  · exact op_ge_str pins s σ H _ _ v u Q I rx ry ⟨_, _, rfl, rfl, by rw [toS_cps, toS_cps]; exact af _ q⟩
theorem eq_ok (hu : X.A.units + 65 < cLine) : OpR X (compareOp .Eq) (rCO X .eq) := by
  intro pins s σ H x y v u Q I rx ry hh
  obtain ⟨ρ, h, a, b, Rb, R, ra, rb, ⟨d, e, d1, d2, s1, s2, q⟩ | ⟨vs, ws, g1, g2, hl, q⟩, af⟩ := hh
  · obtain ⟨⟨as, r1⟩, l1⟩ := reads_shp I R d1 s1.2 ra rx
    obtain ⟨⟨bs, r2⟩, l2⟩ := reads_shp I R d2 s2.2 rb ry
    exact SeqAt.compareEq_shaped r1 r2 (s1.shaped l1) (s2.shaped l2) (by omega) ⟨.bl _, H, I, rfl, af _ q⟩
  · obtain ⟨a1, xs, rfl, h1, r1⟩ := g1.rd R ra
    obtain ⟨a2, ys, rfl, h2, r2⟩ := g2.rd R rb
    cases rx
    cases ry
    obtain ⟨z, its, k, rr, hl1, f1⟩ := I.lstM h1
    obtain ⟨z2, its2, k2, rr2, hl2, f2⟩ := I.lstM h2
    have hz : its.toArray.size ≠ its2.toArray.size := by
      rw [List.size_toArray, List.size_toArray, ← rr.length, ← rr2.length, ← r1.length, ← r2.length]; exact hl
    exact SeqAt.eq_list_lengthsAt ⟨_, f1, rfl, _, rfl⟩ ⟨_, f2, rfl, _, rfl⟩ (bne_iff_ne.mpr hz) (by omega) ⟨.bl _, H, I, rfl, af _ q⟩
theorem ne_ok (hu : X.A.units + 65 < cLine) : OpR X (compareOp .NotEq) (rCO X .ne) := by
  intro pins s σ H x y v u Q I rx ry hh
  obtain ⟨ρ, h, a, b, Rb, R, ra, rb, ⟨d, e, d1, d2, s1, s2, q⟩ | ⟨vs, ws, g1, g2, hl, q⟩, af⟩ := hh
  · obtain ⟨⟨as, r1⟩, l1⟩ := reads_shp I R d1 s1.2 ra rx
    obtain ⟨⟨bs, r2⟩, l2⟩ := reads_shp I R d2 s2.2 rb ry
    exact SeqAt.compareNe_shaped r1 r2 (s1.shaped l1) (s2.shaped l2) (by omega) ⟨.bl _, H, I, rfl, af _ q⟩
  · obtain ⟨a1, xs, rfl, h1, r1⟩ := g1.rd R ra
    obtain ⟨a2, ys, rfl, h2, r2⟩ := g2.rd R rb
    cases rx
    cases ry
    obtain ⟨z, its, k, rr, hl1, f1⟩ := I.lstM h1
    obtain ⟨z2, its2, k2, rr2, hl2, f2⟩ := I.lstM h2
    have hz : its.toArray.size ≠ its2.toArray.size := by
      rw [List.size_toArray, List.size_toArray, ← rr.length, ← rr2.length, ← r1.length, ← r2.length]; exact hl
    exact SeqAt.RcNeAt.lists_lengths ⟨_, f1, rfl, _, rfl⟩ ⟨_, f2, rfl, _, rfl⟩ (bne_iff_ne.mpr hz) (by omega) _ _ _ _ ⟨.bl _, H, I, rfl, af _ q⟩
theorem isV_cases {X : Cx} {ρ : Rho} {H : Hp} {v w : Val} {x y : V} {a b : Value} {R : Bool → Prop} (rv : RV X.K ρ H v x) (rw' : RV X.K ρ H w y) (rx : RelV x a) (ry : RelV y b) (q : isV v w R) : PySem.plainIs a b = true ∧ R (a == b) := by
  cases rw' with
  | non =>
    cases ry
    cases rv <;> first | (obtain ⟨t, rfl⟩ := rx; exact ⟨rfl, q⟩) | (cases rx; exact ⟨rfl, q⟩)
  | bl c =>
    cases ry
    cases rv with
    | bl d =>
      cases rx
      refine ⟨rfl, ?_⟩
      have e : (Value.bool d == Value.bool c) = (c == d) := by cases c <;> cases d <;> rfl
      rw [e]; exact q
    | _ => first | (obtain ⟨t, rfl⟩ := rx; exact ⟨rfl, q⟩) | (cases rx; exact ⟨rfl, q⟩)
  | _ => exact q.elim
theorem is_ok : OpR X (compareOp .Is) (rCO X .is_) := by
  intro pins s σ H x y v u Q I rx ry hh
  obtain ⟨ρ, h, a, b, Rb, R, ra, rb, q, af⟩ := hh
  obtain ⟨p, q⟩ := isV_cases ra rb rx ry q
  exact wpAny_is_plain p ⟨.bl _, H, I, rfl, af _ q⟩
theorem isnt_ok : OpR X (compareOp .IsNot) (rCO X .isnt) := by
  intro pins s σ H x y v u Q I rx ry hh
  obtain ⟨ρ, h, a, b, Rb, R, ra, rb, q, af⟩ := hh
  obtain ⟨p, q⟩ := isV_cases (R := fun c => Rb (!c)) ra rb rx ry q
  exact wpAny_isNot_plain p ⟨.bl _, H, I, rfl, af _ q⟩

/-! ### keys -/
theorem key_of_val {K : PySem.W.Frag} {ρ : Rho} {H : Hp} {v : Val} {x : V} (r : RV K ρ H v x) (k : keyB v = true) :
    (∃ c : Key, RK v c ∧ x = kV c) ∨ ∃ (b : Addr) (c : List Key), RKs v c ∧ x = .ref b ∧ H b = some (.tup (c.map kV)) := by
  cases r with
  | int i => exact .inl ⟨.inl i, .inl ⟨i, rfl, rfl⟩, rfl⟩
  | @str s ok => exact .inl ⟨.inr (toS s), .inr ⟨s, ok, rfl, rfl⟩, rfl⟩
  | @tup vs a xs e rs =>
    refine .inr ?_
    have all : ∀ {vs : List Val} {xs : List V}, RVs K ρ H vs xs → vs.all keyS = true → ∃ c : List Key, Paired RK vs c ∧ xs = c.map kV := by
      intro vs
      induction vs with
      | nil => intro xs r _; cases r; exact ⟨[], .nil, rfl⟩
      | cons v vs ih =>
        intro xs r k
        cases r with
        | @cons _ x0 _ xs0 r1 r2 =>
          rw [List.all_cons, Bool.and_eq_true] at k
          obtain ⟨c, p, e⟩ := ih r2 k.2
          have h1 : ∃ c : Key, RK v c ∧ x0 = kV c := by
            cases r1 with
            | int i => exact ⟨.inl i, .inl ⟨i, rfl, rfl⟩, rfl⟩
            | @str s ok => exact ⟨.inr (toS s), .inr ⟨s, ok, rfl, rfl⟩, rfl⟩
            | _ => exact absurd k.1 (by simp [keyS])
          obtain ⟨c0, p0, e0⟩ := h1
          exact ⟨c0 :: c, .cons p0 p, by rw [List.map_cons, ← e, ← e0]⟩
    obtain ⟨c, p, e2⟩ := all rs k
    exact ⟨a, c, ⟨vs, rfl, p⟩, rfl, by rw [← e2]; exact e⟩
  | _ => exact absurd k (by simp [keyB, keyS])
theorem kEq_iff {a b : Val} {c d : Key} (ra : RK a c) (rb : RK b d) : kEq a b = decide (c = d) := by
  rcases ra with ⟨i, rfl, rfl⟩ | ⟨s, _, rfl, rfl⟩ <;> rcases rb with ⟨j, rfl, rfl⟩ | ⟨t, _, rfl, rfl⟩
  · show decide (i = j) = decide ((Sum.inl i : Key) = Sum.inl j)
    congr 1; simp
  · exact (decide_eq_false (fun q => nomatch q)).symm
  · exact (decide_eq_false (fun q => nomatch q)).symm
  · show decide (s = t) = decide ((Sum.inr (toS s) : Key) = Sum.inr (toS t))
    by_cases e : s = t
    · subst e; simp
    · rw [decide_eq_false e, decide_eq_false (fun q => e (toS_inj (Sum.inr.inj q)))]
theorem keq_k {a b : Val} {c d : Key} (ra : RK a c) (rb : RK b d) : keq a b = decide (c = d) := by
  have := kEq_iff ra rb
  rcases ra with ⟨i, rfl, rfl⟩ | ⟨s, _, rfl, rfl⟩ <;> exact this
theorem kEqs_iff : ∀ {as bs : List Val} {cs ds : List Key}, Paired RK as cs → Paired RK bs ds → kEqs as bs = decide (cs = ds)
  | _, _, _, _, .nil, .nil => by simp [kEqs]
  | _, _, _, _, .nil, .cons _ _ => by simp [kEqs]
  | _, _, _, _, .cons _ _, .nil => by simp [kEqs]
  | _, _, _, _, .cons r t, .cons r' t' => by
    rw [kEqs, kEq_iff r r', kEqs_iff t t']
    rw [Bool.eq_iff_iff]
    simp
theorem keq_t {a b : Val} {c d : List Key} (ra : RKs a c) (rb : RKs b d) : keq a b = decide (c = d) := by
  obtain ⟨as, rfl, p⟩ := ra
  obtain ⟨bs, rfl, q⟩ := rb
  exact kEqs_iff p q
end Lw
set_option Elab.async false
set_option linter.all false
set_option maxRecDepth 100000
set_option maxHeartbeats 1000000
/-! Lw4: dicts, items, slices, builtins. -/
namespace Lw
open PySem L2 PyProof.Rows

section
variable {X : Cx} {pins : List (Addr × Obj)} {σ : L2.St} {H : Hp} {s : Shared} {a : Addr}
/-- an empty dict is of both kinds -/
theorem Inv.dKT (I : L2.Inv X pins σ H s) (e : H a = some (.dK [])) : L2.Inv X pins σ (upd H a (.dT [])) s := by
  obtain ⟨z, hd, vs, rel, dd⟩ := dk_of I.hok e
  obtain ⟨o, es, ep, h1, h2, h3, h4, h5, h6⟩ := dd
  have hvs : vs = [] := by cases rel; rfl
  subst hvs
  have hes : es.toList = [] := List.length_eq_zero_iff.mp h5.length
  have J := I.write (t' := s.toks) (h' := s.heap) (x := a) (e := a) (o := .dT []) (by rw [e]; exact True.intro) (.inl rfl) (fun b u _ q => q) ⟨o, h1⟩
    ⟨Nat.zero_le _, hd, [], .nil, o, es, ep, h1, h2, h3, hes, List.nodup_nil⟩
  exact J
theorem Inv.dTK (I : L2.Inv X pins σ H s) (e : H a = some (.dT [])) : L2.Inv X pins σ (upd H a (.dK [])) s := by
  obtain ⟨z, hd, xs, rel, o, es, ep, h1, h2, h3, h4, h5⟩ := (show ObjOk X.prog X.w H s.heap a (.dT []) from I.hok a _ e)
  have hxs : xs = [] := by cases rel; rfl
  subst hxs
  have hes : es = #[] := by
    cases es with
    | mk l => simp at h4; rw [h4]
  subst hes
  have J := I.write (t' := s.toks) (h' := s.heap) (x := a) (e := a) (o := .dK []) (by rw [e]; exact True.intro) (.inl rfl) (fun b u _ q => q) ⟨o, h1⟩
    ⟨Nat.zero_le _, hd, [], .nil, o, #[], ep, h1, h2, h3, by intro x hx; simp at hx, .nil, List.nodup_nil⟩
  exact J
/-! ### what a dict holds -/
theorem dk_get {K : PySem.W.Frag} {ρ : Rho} {k : Val} {c : Key} (rk : RK k c) : ∀ {kvs : List (Val × Val)} {ks : List (Key × V)}, DicK K ρ H kvs ks → RF K ρ H (kvGet k kvs) (valV ks c)
  | _, _, .nil => trivial
  | _, _, @Paired.cons _ _ _ p q _ _ h t => by
    obtain ⟨h1, h2⟩ := h
    unfold kvGet
    rw [keq_k h1 rk]
    by_cases e : q.1 = c
    · rw [valV_pos e, decide_eq_true e]; exact h2
    · rw [valV_neg e, decide_eq_false e]; exact dk_get rk t
theorem dt_get {K : PySem.W.Frag} {ρ : Rho} {k : Val} {c : List Key} (rk : RKs k c) : ∀ {kvs : List (Val × Val)} {ks : List (List Key × V)}, DicT K ρ H kvs ks → RF K ρ H (kvGet k kvs) (valV ks c)
  | _, _, .nil => trivial
  | _, _, @Paired.cons _ _ _ p q _ _ h t => by
    obtain ⟨h1, h2⟩ := h
    unfold kvGet
    rw [keq_t h1 rk]
    by_cases e : q.1 = c
    · rw [valV_pos e, decide_eq_true e]; exact h2
    · rw [valV_neg e, decide_eq_false e]; exact dt_get rk t
theorem paired_any {α β : Type} {F : α → β → Prop} {f : α → Bool} {g : β → Bool} (h : ∀ a b, F a b → f a = g b) : ∀ {as : List α} {bs : List β}, Paired F as bs → as.any f = bs.any g
  | _, _, .nil => rfl
  | _, _, .cons r t => by rw [List.any_cons, List.any_cons, h _ _ r, paired_any h t]
theorem paired_map {α β : Type} {F : α → β → Prop} {f : α → α} {g : β → β} (h : ∀ a b, F a b → F (f a) (g b)) : ∀ {as : List α} {bs : List β}, Paired F as bs → Paired F (as.map f) (bs.map g)
  | _, _, .nil => .nil
  | _, _, .cons r t => .cons (h _ _ r) (paired_map h t)
theorem dk_put {K : PySem.W.Frag} {ρ : Rho} {k v : Val} {c : Key} {y : V} (rk : RK k c) (rv : RV K ρ H v y) {kvs : List (Val × Val)} {ks : List (Key × V)} (d : DicK K ρ H kvs ks) : DicK K ρ H (kvPut k v kvs) (putK ks c y) := by
  unfold kvPut putK
  rw [paired_any (g := fun q => decide (q.1 = c)) (fun a b r => keq_k r.1 rk) d]
  split
  · refine paired_map (fun a b r => ?_) d
    rw [keq_k r.1 rk]
    by_cases e : b.1 = c
    · rw [if_pos (decide_eq_true e), if_pos e]; exact ⟨r.1, rv⟩
    · rw [if_neg (by rw [decide_eq_false e]; decide), if_neg e]; exact r
  · exact Paired.snoc d ⟨rk, rv⟩
theorem dt_put {K : PySem.W.Frag} {ρ : Rho} {k v : Val} {c : List Key} {y : V} (rk : RKs k c) (rv : RV K ρ H v y) {kvs : List (Val × Val)} {ks : List (List Key × V)} (d : DicT K ρ H kvs ks) : DicT K ρ H (kvPut k v kvs) (putK ks c y) := by
  unfold kvPut putK
  rw [paired_any (g := fun q => decide (q.1 = c)) (fun a b r => keq_t r.1 rk) d]
  split
  · refine paired_map (fun a b r => ?_) d
    rw [keq_t r.1 rk]
    by_cases e : b.1 = c
    · rw [if_pos (decide_eq_true e), if_pos e]; exact ⟨r.1, rv⟩
    · rw [if_neg (by rw [decide_eq_false e]; decide), if_neg e]; exact r
  · exact Paired.snoc d ⟨rk, rv⟩
theorem RK.nt {k : Val} {c : Key} (r : RK k c) : isTup k = false := by rcases r with ⟨_, rfl, _⟩ | ⟨_, _, rfl, _⟩ <;> rfl
theorem RKs.t {k : Val} {c : List Key} (r : RKs k c) : isTup k = true := by obtain ⟨_, rfl, _⟩ := r; rfl
theorem dk_kind {K : PySem.W.Frag} {ρ : Rho} {k : Val} {kvs : List (Val × Val)} {ks : List (Key × V)} (d : DicK K ρ H kvs ks) (hk : (kvs.all fun p => isTup p.1 == isTup k) = true) (ht : isTup k = true) : kvs = [] ∧ ks = [] := by
  cases d with
  | nil => exact ⟨rfl, rfl⟩
  | cons r _ =>
    rw [List.all_cons, r.1.nt, ht] at hk
    cases hk
theorem dt_kind {K : PySem.W.Frag} {ρ : Rho} {k : Val} {kvs : List (Val × Val)} {ks : List (List Key × V)} (d : DicT K ρ H kvs ks) (hk : (kvs.all fun p => isTup p.1 == isTup k) = true) (ht : isTup k = false) : kvs = [] ∧ ks = [] := by
  cases d with
  | nil => exact ⟨rfl, rfl⟩
  | cons r _ =>
    rw [List.all_cons, r.1.t, ht] at hk
    cases hk

/-- a dict is asked: the state in which it may be asked, and the way back -/
theorem IsD.rd {K : PySem.W.Frag} {mg : Str → Option Value} {ρ : Rho} {h : Hv} {H : Hp} {v : Val} {kvs : List (Val × Val)} {lk : Bool} {x : V} (l : IsD h v kvs lk) (R : Rel K mg ρ h H) (r : RV K ρ H v x) :
    ∃ a u, x = .ref a ∧ DicOf K ρ H kvs u ∧ ((lk = false ∧ H a = some u) ∨ (lk = true ∧ ∃ o, H a = some (.frz o u))) := by
  rcases l with ⟨rfl, rfl⟩ | ⟨n, rfl, g⟩
  · cases r with
    | fdK _ e d => exact ⟨_, _, rfl, .inl ⟨_, rfl, d.dic⟩, .inl ⟨rfl, e⟩⟩
    | fdT _ e d => exact ⟨_, _, rfl, .inr ⟨_, rfl, d.dic⟩, .inl ⟨rfl, e⟩⟩
  · cases r with
    | ref e =>
      obtain ⟨u, d, hu⟩ := R.at_ g e
      exact ⟨_, u, rfl, d, hu⟩
theorem dic_ask {ρ : Rho} {h : Hv} {w : Val} {kvs : List (Val × Val)} {lk : Bool} {k : Val} {x y : V} (I : L2.Inv X pins σ H s) (R : Rel X.K X.mg ρ h H) (g : IsD h w kvs lk) (e : RV X.K ρ H w x) (ok : okKey k kvs lk) (rk : RV X.K ρ H k y) :
    ∃ a, x = .ref a ∧ ∃ H' o, L2.Inv X pins σ H' s ∧ DGet H' a y o ∧ RF X.K ρ H (kvGet k kvs) o ∧ ∀ s', L2.Inv X pins σ H' s' → L2.Inv X pins σ H s' := by
  obtain ⟨a, u, rfl, d, hu⟩ := g.rd R e
  refine ⟨a, rfl, ?_⟩
  have rd : Rd H a u := hu.elim (fun z => .inl z.2) fun z => .inr z.2
  rcases d with ⟨ks, rfl, d⟩ | ⟨ks, rfl, d⟩
  · rcases key_of_val rk ok.1 with ⟨c, r, rfl⟩ | ⟨b, c, r, rfl, eb⟩
    · exact ⟨H, _, I, .inl ⟨ks, c, rd, rfl, rfl⟩, dk_get r d, fun _ z => z⟩
    · obtain ⟨e1, e2⟩ := dk_kind d ok.2.1 r.t
      subst e1 e2
      rcases hu with ⟨_, hu⟩ | ⟨hl, _⟩
      · have ne : b ≠ a := fun z => by rw [z, hu] at eb; cases eb
        refine ⟨upd H a (.dT []), none, Inv.dKT I hu, .inr ⟨[], c, b, .inl upd_same, rfl, by rw [upd_ne ne]; exact eb, rfl⟩, trivial, fun s' J => ?_⟩
        have J2 := Inv.dTK J upd_same
        rw [upd_upd] at J2
        have e3 : upd H a (.dK []) = H := by
          funext z
          by_cases q : z = a
          · rw [q, upd_same, hu]
          · rw [upd_ne q]
        rw [e3] at J2
        exact J2
      · exact absurd rfl (ok.2.2 hl)
  · rcases key_of_val rk ok.1 with ⟨c, r, rfl⟩ | ⟨b, c, r, rfl, eb⟩
    · obtain ⟨e1, e2⟩ := dt_kind d ok.2.1 r.nt
      subst e1 e2
      rcases hu with ⟨_, hu⟩ | ⟨hl, _⟩
      · refine ⟨upd H a (.dK []), none, Inv.dTK I hu, .inl ⟨[], c, .inl upd_same, rfl, rfl⟩, trivial, fun s' J => ?_⟩
        have J2 := Inv.dKT J upd_same
        rw [upd_upd] at J2
        have e3 : upd H a (.dT []) = H := by
          funext z
          by_cases q : z = a
          · rw [q, upd_same, hu]
          · rw [upd_ne q]
        rw [e3] at J2
        exact J2
      · exact absurd rfl (ok.2.2 hl)
    · exact ⟨H, _, I, .inr ⟨ks, c, b, rd, rfl, eb, rfl⟩, dt_get r d, fun _ z => z⟩
/-- a dict is written -/
theorem dic_put {ρ : Rho} {h : Hv} {n : Nat} {kvs : List (Val × Val)} {k v : Val} {x y : V} (I : L2.Inv X pins σ H s) (R : Rel X.K X.mg ρ h H) (g : h.g n = some (.dic kvs false)) (e : ρ n = some a) (ok : okKey k kvs) (hl : kvs.length < sizeLine) (rk : RV X.K ρ H k x) (rv : RV X.K ρ H v y) :
    ∃ H0 u', L2.Inv X pins σ H0 s ∧ DPut H0 a x y (upd H a u') ∧ DicOf X.K ρ H (kvPut k v kvs) u' := by
  obtain ⟨u, d, hu⟩ := R.at_ g e
  have hu : H a = some u := hu.elim (fun z => z.2) fun z => absurd z.1 (by decide)
  rcases d with ⟨ks, rfl, d⟩ | ⟨ks, rfl, d⟩
  · rcases key_of_val rk ok.1 with ⟨c, r, rfl⟩ | ⟨b, c, r, rfl, eb⟩
    · exact ⟨H, .dK (putK ks c y), I, .k hu (by rw [← Paired.length d]; exact hl), .inl ⟨_, rfl, dk_put r rv d⟩⟩
    · obtain ⟨e1, e2⟩ := dk_kind d ok.2.1 r.t
      subst e1 e2
      have ne : b ≠ a := fun z => by rw [z, hu] at eb; cases eb
      refine ⟨upd H a (.dT []), .dT (putK [] c y), Inv.dKT I hu, ?_, .inr ⟨_, rfl, dt_put r rv .nil⟩⟩
      have q := DPut.t (H := upd H a (.dT [])) (a := a) (b := b) (kvs := []) (k := c) (v := y) upd_same (by rw [upd_ne ne]; exact eb) (by show 0 < sizeLine; rw [sizeLine_eq]; decide)
      rw [upd_upd] at q
      exact q
  · rcases key_of_val rk ok.1 with ⟨c, r, rfl⟩ | ⟨b, c, r, rfl, eb⟩
    · obtain ⟨e1, e2⟩ := dt_kind d ok.2.1 r.nt
      subst e1 e2
      refine ⟨upd H a (.dK []), .dK (putK [] c y), Inv.dTK I hu, ?_, .inl ⟨_, rfl, dk_put r rv .nil⟩⟩
      have q := DPut.k (H := upd H a (.dK [])) (a := a) (kvs := []) (k := c) (v := y) upd_same (by show 0 < sizeLine; rw [sizeLine_eq]; decide)
      rw [upd_upd] at q
      exact q
    · exact ⟨H, .dT (putK ks c y), I, .t hu eb (by rw [← Paired.length d]; exact hl), .inr ⟨_, rfl, dt_put r rv d⟩⟩
end

section
variable {X : Cx}
/-! ### in, not in -/
theorem canLay_tuple {ds : List PyData} (h : PyData.canLayAll0 ds = true) : (PyData.tuple ds).canLay0 = true := h
theorem canLay_list {ds : List PyData} (h : PyData.canLayAll0 ds = true) : (PyData.list ds).canLay0 = true := h
theorem hasAll_tuple {ds : List PyData} (h : shp (.tuple ds)) : PyData.hasDictAll ds = false := by simpa [PyData.hasDict] using h.2
theorem hasAll_list {ds : List PyData} (h : shp (.list ds)) : PyData.hasDictAll ds = false := by simpa [PyData.hasDict] using h.2
/-- the ways of «in» -/
theorem cIn_go {neg : Bool} (hu : X.A.units + 65 < cLine) {pins : List (Addr × Obj)} {s : Shared} {σ : L2.St} {H : Hp} {x y : V} {v u : Value} {Q : VK} {ρ : Rho} {h : Hv} {a b : Val} {Rb : Bool → Prop}
    (I : L2.Inv X pins σ H s) (rx : RelV x v) (ry : RelV y u) (R : Rel X.K X.mg ρ h H) (ra : RV X.K ρ H a x) (rb : RV X.K ρ H b y) (q : cIn a b h Rb) (af : ∀ c, Rb c → Q (.bl (if neg then !c else c)) H) :
    wpAny (model X.prog X.w) X.A (compareOp (if neg then .NotIn else .In) v u) (EP X pins σ Q) X.xe s := by
  have dict : ∀ {kvs : List (Val × Val)} {lk : Bool}, IsD h b kvs lk → RV X.K ρ H b y → okKey a kvs lk → Rb (kvGet a kvs).isSome → wpAny (model X.prog X.w) X.A (compareOp (if neg then .NotIn else .In) v u) (EP X pins σ Q) X.xe s := fun {kvs lk} g rb ok q => by
    obtain ⟨ad, rfl, H', o, I', dg, rf, back⟩ := dic_ask I R g rb ok ra
    cases ry
    have eo : (kvGet a kvs).isSome = o.isSome := by
      cases hk : kvGet a kvs <;> cases o <;> (rw [hk] at rf; first | rfl | exact rf.elim)
    rw [eo] at q
    cases neg with
    | false => exact d_in (by omega) I' dg rx fun s' J => ⟨.bl _, H, back s' J, rfl, af _ q⟩
    | true => exact d_notIn (by omega) I' dg rx fun s' J => ⟨.bl _, H, back s' J, rfl, af _ q⟩
  cases rb with
  | str ok =>
    obtain ⟨l, rfl, q⟩ := q
    cases ra with
    | str ok2 =>
      rcases q with ⟨c, rfl, q⟩ | ⟨hn, q⟩
      · cases neg with
        | false => exact op_in_sign pins s σ H _ _ v u Q I rx ry ⟨c, _, rfl, rfl, by rw [toS_cps]; exact af _ q⟩
        | true => exact op_notIn_sign pins s σ H _ _ v u Q I rx ry ⟨c, _, rfl, rfl, by rw [toS_cps]; exact af _ q⟩
      · cases neg with
        | false => exact op_in_str pins s σ H _ _ v u Q I rx ry ⟨_, _, rfl, rfl, by rw [toS_len]; exact af _ q⟩
        | true => exact op_notIn_str pins s σ H _ _ v u Q I rx ry ⟨_, _, rfl, rfl, by rw [toS_len]; exact af _ q⟩
  | @tup vs ta xs e r1 =>
    obtain ⟨d, ds, d1, d2, s1, s2, q⟩ := q
    obtain ⟨⟨as, r2⟩, l1⟩ := reads_shp I R d1 s1.2 ra rx
    obtain ⟨⟨bs, r3⟩, l2⟩ := reads_shp I R (.tup d2) s2.2 (.tup e r1) ry
    have room := room_in_shaped (xs := ds) (s1.shaped l1) hu
    cases neg with
    | false => exact SeqAt.in_tuple_reads r3 r2 l2 l1 room ⟨.bl _, H, I, rfl, af _ q⟩
    | true => exact SeqAt.notIn_tuple_reads r3 r2 l2 l1 room ⟨.bl _, H, I, rfl, af _ q⟩
  | @cl vs ta xs e r1 =>
    obtain ⟨d, ds, d1, d2, s1, s2, s3, q⟩ := q
    obtain ⟨⟨as, r2⟩, l1⟩ := reads_shp I R d1 s1.2 ra rx
    have room := room_in_shaped (xs := ds) (s1.shaped l1) hu
    cases ry
    rcases e.sq with e | e
    · obtain ⟨its, rvs, ⟨o, n, ho, hc, _, hdt⟩, _⟩ := I.list e
      obtain ⟨⟨bs, hr⟩, hl⟩ := readsAll_shp I R d2 (hasAll_list s2) r1 rvs
      cases neg with
      | false => exact SeqAt.in_list_reads (Reads.list ho hc hdt hr) r2 hl l1 room ⟨.bl _, H, I, rfl, af _ q⟩
      | true => exact SeqAt.notIn_list_reads (Reads.list ho hc hdt hr) r2 hl l1 room ⟨.bl _, H, I, rfl, af _ q⟩
    · obtain ⟨its, rvs, ⟨o, ho, hc, n, hdt⟩, _⟩ := I.tuple e
      obtain ⟨⟨bs, hr⟩, hl⟩ := readsAll_shp I R d2 (hasAll_list s2) r1 rvs
      cases neg with
      | false => exact SeqAt.in_tuple_reads (Reads.tuple ho hc hdt hr) r2 hl l1 room ⟨.bl _, H, I, rfl, af _ q⟩
      | true => exact SeqAt.notIn_tuple_reads (Reads.tuple ho hc hdt hr) r2 hl l1 room ⟨.bl _, H, I, rfl, af _ q⟩
  | fl f e r =>
    obtain ⟨d, ds, d1, d2, s1, s2, q⟩ := q
    obtain ⟨⟨as, r2⟩, l1⟩ := reads_shp I R d1 s1.2 ra rx
    obtain ⟨⟨bs, r3⟩, l2⟩ := reads_shp I R (.fl d2) s2.2 (.fl f e r) ry
    have room := room_in_shaped (xs := ds) (s1.shaped l1) hu
    cases neg with
    | false => exact SeqAt.in_list_reads r3 r2 l2 l1 room ⟨.bl _, H, I, rfl, af _ q⟩
    | true => exact SeqAt.notIn_list_reads r3 r2 l2 l1 room ⟨.bl _, H, I, rfl, af _ q⟩
  | fdK f e d => exact dict (.inl ⟨rfl, rfl⟩) (.fdK f e d) q.1 q.2
  | fdT f e d => exact dict (.inl ⟨rfl, rfl⟩) (.fdT f e d) q.1 q.2
  | @ref n ta e =>
    rcases q with ⟨vs, d, ds, g, d1, d2, s1, s2, q⟩ | ⟨kvs, lk, g, ok, q⟩
    · obtain ⟨⟨as, r2⟩, l1⟩ := reads_shp I R d1 s1.2 ra rx
      obtain ⟨⟨bs, r3⟩, l2⟩ := reads_shp I R (.lst g d2) s2.2 (.ref e) ry
      have room := room_in_shaped (xs := ds) (s1.shaped l1) hu
      cases neg with
      | false => exact SeqAt.in_list_reads r3 r2 l2 l1 room ⟨.bl _, H, I, rfl, af _ q⟩
      | true => exact SeqAt.notIn_list_reads r3 r2 l2 l1 room ⟨.bl _, H, I, rfl, af _ q⟩
    · exact dict (.inr ⟨n, rfl, g⟩) (.ref e) ok q
  | _ => exact q.elim
theorem in_ok (hu : X.A.units + 65 < cLine) : OpR X (compareOp .In) (rCO X .isin) := by
  intro pins s σ H x y v u Q I rx ry hh
  obtain ⟨ρ, h, a, b, Rb, R, ra, rb, q, af⟩ := hh
  exact cIn_go (neg := false) hu I rx ry R ra rb q af
theorem notin_ok (hu : X.A.units + 65 < cLine) : OpR X (compareOp .NotIn) (rCO X .notin) := by
  intro pins s σ H x y v u Q I rx ry hh
  obtain ⟨ρ, h, a, b, Rb, R, ra, rb, q, af⟩ := hh
  exact cIn_go (neg := true) hu I rx ry R ra rb (Rb := fun c => Rb (!c)) q fun c z => af _ z
theorem co_ok (hu : X.A.units + 65 < cLine) : ∀ o : CO, OpR X (compareOp (cmpOf o)) (rCO X o)
  | .lt => lt_ok
  | .le => le_ok
  | .gt => gt_ok
  | .ge => ge_ok
  | .eq => eq_ok hu
  | .ne => ne_ok hu
  | .isin => in_ok hu
  | .notin => notin_ok hu
  | .is_ => is_ok
  | .isnt => isnt_ok

/-! ### items -/
def rIdx (X : Cx) : R2 := fun x y H Q => ∃ ρ h v w Q1, Rel X.K X.mg ρ h H ∧ RV X.K ρ H v x ∧ RV X.K ρ H w y ∧ oIdx v w h Q1 ∧ Aft X ρ H Q1 Q
theorem atI_get' {α β : Type} {xs : List α} {ys : List β} {i : Int} {v : α} (hl : xs.length = ys.length) (h : atI xs i = some v) : ∃ j : Nat, xs[j]? = some v ∧ ∀ w, ys[j]? = some w → atI ys i = some w := by
  unfold atI at h ⊢
  cases e : ixN xs.length i with
  | none => rw [e] at h; cases h
  | some j =>
    rw [e] at h
    refine ⟨j, h, fun w hw => ?_⟩
    rw [← hl, e]
    exact hw
theorem idx_ok (hu : X.A.units + 65 < cLine) (slice : Expr) (hns : NoSl slice) (hpl : PlainIx slice) : ∀ (value : Expr) (pins : List (Addr × Obj)) (s : Shared) (σ : L2.St) (H : Hp) (x y : V) (v u : Value) (Q : VK), L2.Inv X pins σ H s → RelV x v → RelV y u → rIdx X x y H Q →
    wpAny (model X.prog X.w) X.A (subscriptTail value slice v u) (EP X pins σ Q) X.xe s := by
  intro value pins s σ H x y v u Q I rx ry hh
  obtain ⟨ρ, h, a, b, Q1, R, ra, rb, q, af⟩ := hh
  have dict : ∀ {kvs : List (Val × Val)} {lk : Bool} {w : Val}, IsD h a kvs lk → RV X.K ρ H a x → okKey b kvs lk → kvGet b kvs = some w → Q1 w h → wpAny (model X.prog X.w) X.A (subscriptTail value slice v u) (EP X pins σ Q) X.xe s := fun {kvs lk w} g ra ok eg q => by
    obtain ⟨ad, rfl, H', o, I', dg, rf, back⟩ := dic_ask I R g ra ok rb
    rw [eg] at rf
    cases o with
    | none => exact rf.elim
    | some z =>
      cases rx
      refine tail_any (T := "dict") (ops := [.ref _, u]) (dict_typeIs I' dg) PySem.F.slot_dict_getitem.lookup ?_ (hpl _ _)
      exact d_getItem (by omega) I' dg ry fun w' s3 I3 rw' => ⟨z, H, back s3 I3, rw', af.now R rf q⟩
  cases ra with
  | @str l ok =>
    obtain ⟨i, c, rfl, hl, e, q⟩ := q
    cases rb
    refine ix_str value slice pins s σ H _ _ v u Q I rx ry ⟨_, i, c, rfl, rfl, by rw [toS_len]; exact hl, by rw [toS_cps]; exact e, ?_⟩ (hpl _ _)
    obtain ⟨j, hj, _⟩ := atI_get' (ys := l) rfl e
    exact af.now R (.str (s := [c]) (fun d hd => by rw [List.mem_singleton.mp hd]; exact ok c (List.mem_of_getElem? hj))) q
  | @tup vs ta xs e r1 =>
    obtain ⟨i, w, rfl, ei, q⟩ := q
    cases rb
    obtain ⟨j, hj, k⟩ := atI_get' r1.length ei
    obtain ⟨z, hz, rz⟩ := r1.get hj
    exact ix_tup value slice pins s σ H _ _ v u Q I rx ry ⟨_, xs, i, z, rfl, rfl, .of e, k z hz, af.now R rz q⟩ (hpl _ _)
  | @cl vs ta xs e r1 =>
    obtain ⟨i, w, rfl, ei, q⟩ := q
    cases rb
    obtain ⟨j, hj, k⟩ := atI_get' r1.length ei
    obtain ⟨z, hz, rz⟩ := r1.get hj
    rcases e.sq with e | e
    · exact ix_list value slice pins s σ H _ _ v u Q I rx ry ⟨_, xs, i, z, rfl, rfl, e, k z hz, af.now R rz q⟩ (hpl _ _)
    · exact ix_tup value slice pins s σ H _ _ v u Q I rx ry ⟨_, xs, i, z, rfl, rfl, e, k z hz, af.now R rz q⟩ (hpl _ _)
  | @fl vs ta xs f e r1 =>
    obtain ⟨i, w, rfl, ei, q⟩ := q
    cases rb
    obtain ⟨j, hj, k⟩ := atI_get' r1.length ei
    obtain ⟨z, hz, rz⟩ := r1.get hj
    exact ix_list value slice pins s σ H _ _ v u Q I rx ry ⟨_, xs, i, z, rfl, rfl, .of e, k z hz, af.now R rz q⟩ (hpl _ _)
  | fdK f e d =>
    obtain ⟨w, ok, eg, q⟩ := q
    exact dict (.inl ⟨rfl, rfl⟩) (.fdK f e d) ok eg q
  | fdT f e d =>
    obtain ⟨w, ok, eg, q⟩ := q
    exact dict (.inl ⟨rfl, rfl⟩) (.fdT f e d) ok eg q
  | @ref n ta e =>
    rcases q with ⟨vs, i, w, g, rfl, ei, q⟩ | ⟨kvs, lk, w, g, ok, eg, q⟩
    · cases rb
      obtain ⟨a1, xs, d1, h2, r1⟩ := R.lst g
      rw [e] at d1; cases d1
      obtain ⟨j, hj, k⟩ := atI_get' r1.length ei
      obtain ⟨z, hz, rz⟩ := r1.get hj
      exact ix_list value slice pins s σ H _ _ v u Q I rx ry ⟨_, xs, i, z, rfl, rfl, .of h2, k z hz, af.now R rz q⟩ (hpl _ _)
    · exact dict (.inr ⟨n, rfl, g⟩) (.ref e) ok eg q
  | _ => exact q.elim
end
end Lw
set_option Elab.async false
set_option linter.all false
set_option maxRecDepth 100000
set_option maxHeartbeats 1000000
/-! Lw5: shown texts are made of signs that exist. -/
namespace Lw
open PySem L2 PyProof.Rows

def okT (x : Str) : Prop := okS x.cps.toList
theorem okT.app {x y : Str} (a : okT x) (b : okT y) : okT (x ++ y) := by
  have e : (x ++ y).cps.toList = x.cps.toList ++ y.cps.toList := by
    show (x.cps ++ y.cps).toList = _
    simp
  unfold okT
  rw [e]
  exact okS.append a b
theorem char_ok (c : Char) : c.toNat < 1114112 := by
  rcases c.valid with h | h
  · have h1 : c.toNat < 55296 := h
    omega
  · exact h.2
theorem okT_of (s : String) : okT (Str.ofString s) := by
  unfold okT
  rw [PySem.Str.ofString_eq_toList]
  intro c h
  obtain ⟨d, _, rfl⟩ := List.mem_map.mp (by simpa using h)
  exact char_ok d
theorem okT_join {sep : Str} (a : okT sep) : ∀ {xs : List Str}, (∀ x ∈ xs, okT x) → okT (Str.join sep xs)
  | [], _ => fun c h => by cases h
  | [x], k => k x (List.mem_singleton.mpr rfl)
  | x :: y :: r, k => by
    show okT (x ++ sep ++ Str.join sep (y :: r))
    exact ((k x List.mem_cons_self).app a).app (okT_join a fun z m => k z (List.mem_cons_of_mem _ m))
theorem okT_from : ∀ (xs : List Str) (k : Nat) (acc : Str), okT acc → (∀ x ∈ xs, okT x) → okT (textFrom k acc xs)
  | [], _, _, h, _ => h
  | t :: ts, k, acc, h, q => by
    show okT (textFrom (k + 1) (acc ++ (if k > 0 then ", " else "" : String) ++ t) ts)
    exact okT_from ts _ _ ((h.app (okT_of _)).app (q t List.mem_cons_self)) fun x m => q x (List.mem_cons_of_mem _ m)
theorem okS_rChar {q c : Nat} (hq : q < 1114112) (hc : c < 1114112) : okS (Builtin.Str.reprChar q c) := by
  have hex : ∀ (w : Nat), okS (List.replicate (w - ((Nat.toDigits 16 c).map Char.toNat).length) 48 ++ (Nat.toDigits 16 c).map Char.toNat) := fun w d h => by
    rcases List.mem_append.mp h with h | h
    · rw [(List.mem_replicate.mp h).2]; decide
    · obtain ⟨e, _, rfl⟩ := List.mem_map.mp h
      exact char_ok e
  have two : ∀ a b : Nat, a < 1114112 → b < 1114112 → okS [a, b] := fun a b ha hb d h => by
    rcases List.mem_cons.mp h with h | h
    · rw [h]; exact ha
    · rw [List.mem_singleton.mp h]; exact hb
  unfold Builtin.Str.reprChar
  dsimp only
  split
  · exact two _ _ (by decide) hc
  · split
    · exact two _ _ (by decide) (by decide)
    · split
      · exact two _ _ (by decide) (by decide)
      · split
        · exact two _ _ (by decide) (by decide)
        · split
          · intro d h; rw [List.mem_singleton.mp h]; exact hc
          · split
            · exact (two _ _ (by decide) (by decide)).append (hex 2)
            · split
              · exact (two _ _ (by decide) (by decide)).append (hex 4)
              · exact (two _ _ (by decide) (by decide)).append (hex 8)
theorem okT_repr {x : Str} (h : okT x) : okT (reprText x) := by
  have hq : reprQuote x < 1114112 := by unfold reprQuote; split <;> decide
  have go : ∀ (l : List Nat) (acc : Array Nat), okS l → okS acc.toList → okS (l.foldl (fun out c => out ++ (Builtin.Str.reprChar (reprQuote x) c).toArray) acc).toList := by
    intro l
    induction l with
    | nil => intro acc _ h; exact h
    | cons c r ih =>
      intro acc h1 h2
      rw [List.foldl_cons]
      refine ih _ (fun d m => h1 d (List.mem_cons_of_mem _ m)) ?_
      rw [Array.toList_append]
      exact h2.append (okS_rChar hq (h1 c List.mem_cons_self))
  unfold okT reprText
  show okS (Array.push _ _).toList
  rw [Array.toList_push, ← Array.foldl_toList]
  refine okS.append (go _ _ h fun d m => ?_) fun d m => ?_
  · have : d = reprQuote x := by simpa using m
    rw [this]; exact hq
  · rw [List.mem_singleton.mp m]; exact hq
mutual
theorem okT_shown : ∀ d : PyData, sOk d → okT d.shown
  | .none, _ => okT_of _
  | .bool true, _ => okT_of "True"
  | .bool false, _ => okT_of "False"
  | .int i, _ => okT_of _
  | .str x, h => okT_repr h
  | .list xs, h => by
    show okT (listText (PyData.shownAll xs))
    exact (okT_from _ _ _ (okT_of _) (okT_shownAll xs h)).app (okT_of _)
  | .tuple xs, h => by
    show okT (tupleText (PyData.shownAll xs))
    exact ((okT_of _).app (okT_join (okT_of _) (okT_shownAll xs h))).app (okT_of _)
  | .dict kvs, h => by
    show okT (dictText (PyData.shownKv kvs))
    exact ((okT_of _).app (okT_join (okT_of _) (okT_shownKv kvs h))).app (okT_of _)
theorem okT_shownAll : ∀ ds : List PyData, sOks ds → ∀ x ∈ PyData.shownAll ds, okT x
  | [], _, _, m => by cases m
  | d :: ds, h, x, m => by
    rcases List.mem_cons.mp (show x ∈ d.shown :: PyData.shownAll ds from m) with m | m
    · rw [m]; exact okT_shown d h.1
    · exact okT_shownAll ds h.2 x m
theorem okT_shownKv : ∀ ds : List (PyData × PyData), sOkv ds → ∀ x ∈ PyData.shownKv ds, okT x
  | [], _, _, m => by cases m
  | (k, v) :: ds, h, x, m => by
    rcases List.mem_cons.mp (show x ∈ (k.shown ++ ": " ++ v.shown) :: PyData.shownKv ds from m) with m | m
    · rw [m]; exact ((okT_shown k h.1).app (okT_of _)).app (okT_shown v h.2.1)
    · exact okT_shownKv ds h.2.2 x m
end
theorem toS_of (x : Str) : toS x.cps.toList = x := by
  cases x
  simp [toS]
end Lw
set_option Elab.async false
set_option linter.all false
set_option maxRecDepth 100000
set_option maxHeartbeats 1000000
/-! Lw6: slices, builtins. -/
namespace Lw
open PySem L2 PyProof.Rows
variable {X : Cx}

/-! ### slices -/
def rSlc (X : Cx) (z : Bool) : V → Option Int → Option Int → Hp → VK → Prop := fun x lo hi H Q => ∃ ρ h v Q1, Rel X.K X.mg ρ h H ∧ RV X.K ρ H v x ∧ oSlc z v lo hi h Q1 ∧ Aft X ρ H Q1 Q
theorem cut_cutS (l : List Nat) (lo hi : Option Int) : cutS (toS l) lo hi = toS (cut l lo hi) := by
  unfold cutS cut
  rw [toS_cps, toS_len]
  rfl
theorem RVs.cut {K : PySem.W.Frag} {ρ : Rho} {H : Hp} {vs : List Val} {xs : List V} (r : RVs K ρ H vs xs) (lo hi : Option Int) : RVs K ρ H (Lw.cut vs lo hi) (cutV xs lo hi) := by
  unfold Lw.cut cutV
  rw [r.length]
  exact (r.drop _).take _
theorem okS.cut {l : List Nat} (h : okS l) (lo hi : Option Int) : okS (Lw.cut l lo hi) := h.of_mem fun _ m => List.mem_of_mem_drop (List.mem_of_mem_take m)
theorem slc_ok {zz : Bool} : SlR X (rSlc X zz) := by
  intro pins s σ H x v vl vu lo hi sl Q I rx hs pl pu hh
  obtain ⟨ρ, h, a, Q1, R, ra, q, af⟩ := hh
  cases a with
  | str s1 =>
    cases ra with | str ok => ?_
    exact sl_str pins s σ H _ v vl vu lo hi sl Q I rx hs pl pu ⟨_, rfl, by rw [toS_len]; exact q.1, by rw [cut_cutS]; exact af.now R (.str (ok.cut lo hi)) q.2⟩
  | tup vs =>
    cases ra with | @tup _ ta xs e r1 => ?_
    refine sl_tupA pins s σ H _ v vl vu lo hi sl Q I rx hs pl pu ⟨ta, xs, rfl, .of e, fun z => ?_, fun _ p hp => af.tup R (r1.cut lo hi) q hp⟩
    have e2 : cut vs lo hi = vs := by
      unfold cut
      rw [r1.length, z.1, z.2, ← r1.length]
      simp
    have q2 : Q1 (.tup (cut vs lo hi)) h := q
    rw [e2] at q2
    exact af.now R (.tup e r1) q2
  | fl vs =>
    have q : asL (.fl vs) h (fun vs => newL zz (Lw.cut vs lo hi) h Q1) := q
    obtain ⟨a1, vs, xs, rfl, h2, r1, q⟩ := asL.rd q R ra
    exact sl_list pins s σ H _ v vl vu lo hi sl Q I rx hs pl pu ⟨_, xs, rfl, .of h2, fun p hp => af.newL R (r1.cut lo hi) q hp⟩
  | ref n =>
    have q : asL (.ref n) h (fun vs => newL zz (Lw.cut vs lo hi) h Q1) := q
    obtain ⟨a1, vs, xs, rfl, h2, r1, q⟩ := asL.rd q R ra
    exact sl_list pins s σ H _ v vl vu lo hi sl Q I rx hs pl pu ⟨_, xs, rfl, .of h2, fun p hp => af.newL R (r1.cut lo hi) q hp⟩
  | _ => exact (show False from q).elim

/-! ### builtins -/
def biVal : Bi → Value
  | .len => .builtin "len" | .abs => .builtin "abs" | .max2 => .builtin "max" | .max1 => .builtin "max" | .min2 => .builtin "min" | .min1 => .builtin "min" | .sum => .builtin "sum" | .all => .builtin "all" | .any => .builtin "any"
  | .int => .type "int" | .str => .type "str" | .repr => .builtin "repr" | .list _ => .type "list" | .tuple => .type "tuple" | .dict _ => .type "dict" | .lset => .type "list" | .sorted _ => .builtin "sorted" | .divmod => .builtin "divmod"
def biName : Bi → Nm
  | .len => "len" | .abs => "abs" | .max2 => "max" | .max1 => "max" | .min2 => "min" | .min1 => "min" | .sum => "sum" | .all => "all" | .any => "any"
  | .int => "int" | .str => "str" | .repr => "repr" | .list _ => "list" | .tuple => "tuple" | .dict _ => "dict" | .lset => "list" | .sorted _ => "sorted" | .divmod => "divmod"
def rBi (X : Cx) (b : Bi) : List V → Hp → VK → Prop := fun xs H Q => ∃ ρ h vs Q1, Rel X.K X.mg ρ h H ∧ RVs X.K ρ H vs xs ∧ biW b vs h Q1 ∧ Aft X ρ H Q1 Q
section
variable {K : PySem.W.Frag} {mg : Str → Option Value} {ρ : Rho} {H : Hp} {h : Hv}
theorem RVs.one {v : Val} {xs : List V} (r : RVs K ρ H [v] xs) : ∃ x, xs = [x] ∧ RV K ρ H v x := by
  cases r with
  | cons r t => cases t; exact ⟨_, rfl, r⟩
theorem RVs.two {v w : Val} {xs : List V} (r : RVs K ρ H [v, w] xs) : ∃ x y, xs = [x, y] ∧ RV K ρ H v x ∧ RV K ρ H w y := by
  cases r with
  | cons r t =>
    obtain ⟨y, rfl, q⟩ := t.one
    exact ⟨_, y, rfl, r, q⟩
theorem RVs.bls : ∀ {vs : List Val} {bs : List Bool} {xs : List V}, allBl vs = some bs → RVs K ρ H vs xs → xs = bs.map V.bl
  | [], _, _, e, r => by cases e; cases r; rfl
  | .bl b :: vs, _, _, e, r => by
    unfold allBl at e
    cases q : allBl vs with
    | none => rw [q] at e; cases e
    | some cs =>
      rw [q] at e; cases e
      cases r with
      | cons r t => cases r; rw [RVs.bls q t]; rfl
  | .non :: _, _, _, e, _ => by cases e
  | .int _ :: _, _, _, e, _ => by cases e
  | .str _ :: _, _, _, e, _ => by cases e
  | .tup _ :: _, _, _, e, _ => by cases e
  | .cl _ :: _, _, _, e, _ => by cases e
  | .fl _ :: _, _, _, e, _ => by cases e
  | .fd _ :: _, _, _, e, _ => by cases e
  | .fi _ _ :: _, _, _, e, _ => by cases e
  | .fx _ _ :: _, _, _, e, _ => by cases e
  | .ref _ :: _, _, _, e, _ => by cases e
theorem RVs.ints : ∀ {vs : List Val} {bs : List Int} {xs : List V}, allInt vs = some bs → RVs K ρ H vs xs → xs = bs.map V.int
  | [], _, _, e, r => by cases e; cases r; rfl
  | .int b :: vs, _, _, e, r => by
    unfold allInt at e
    cases q : allInt vs with
    | none => rw [q] at e; cases e
    | some cs =>
      rw [q] at e; cases e
      cases r with
      | cons r t => cases r; rw [RVs.ints q t]; rfl
  | .non :: _, _, _, e, _ => by cases e
  | .bl _ :: _, _, _, e, _ => by cases e
  | .str _ :: _, _, _, e, _ => by cases e
  | .tup _ :: _, _, _, e, _ => by cases e
  | .cl _ :: _, _, _, e, _ => by cases e
  | .fl _ :: _, _, _, e, _ => by cases e
  | .fd _ :: _, _, _, e, _ => by cases e
  | .fi _ _ :: _, _, _, e, _ => by cases e
  | .fx _ _ :: _, _, _, e, _ => by cases e
  | .ref _ :: _, _, _, e, _ => by cases e
theorem RVs.strs : ∀ {vs : List Val} {bs : List (List Nat)} {xs : List V}, allStr vs = some bs → RVs K ρ H vs xs → xs = (bs.map toS).map V.str ∧ ∀ b ∈ bs, okS b
  | [], _, _, e, r => by cases e; cases r; exact ⟨rfl, fun _ m => by cases m⟩
  | .str b :: vs, _, _, e, r => by
    unfold allStr at e
    cases q : allStr vs with
    | none => rw [q] at e; cases e
    | some cs =>
      rw [q] at e; cases e
      cases r with
      | cons r t =>
        cases r with
        | str ok =>
          obtain ⟨e1, e2⟩ := RVs.strs q t
          exact ⟨by rw [e1]; rfl, fun z m => (List.mem_cons.mp m).elim (fun y => by rw [y]; exact ok) (e2 z)⟩
  | .non :: _, _, _, e, _ => by cases e
  | .int _ :: _, _, _, e, _ => by cases e
  | .bl _ :: _, _, _, e, _ => by cases e
  | .tup _ :: _, _, _, e, _ => by cases e
  | .cl _ :: _, _, _, e, _ => by cases e
  | .fl _ :: _, _, _, e, _ => by cases e
  | .fd _ :: _, _, _, e, _ => by cases e
  | .fi _ _ :: _, _, _, e, _ => by cases e
  | .fx _ _ :: _, _, _, e, _ => by cases e
  | .ref _ :: _, _, _, e, _ => by cases e
theorem IsL.sq (R : Rel K mg ρ h H) {v : Val} {vs : List Val} {x : V} (l : IsL h v vs) (r : RV K ρ H v x) : ∃ a xs, x = .ref a ∧ H a = some (.lst xs) ∧ RVs K ρ H vs xs := l.rd R r
theorem IsSeq.sq (R : Rel K mg ρ h H) {v : Val} {vs : List Val} {x : V} (l : IsSeq h v vs) (r : RV K ρ H v x) : ∃ a xs, x = .ref a ∧ (SqL K H a xs ∨ SqT K H a xs) ∧ RVs K ρ H vs xs := by
  rcases l with l | rfl | rfl
  · obtain ⟨a, xs, e, q, r1⟩ := l.rd R r
    exact ⟨a, xs, e, .inl (.of q), r1⟩
  · cases r with
    | tup e r1 => exact ⟨_, _, rfl, .inr (.of e), r1⟩
  · cases r with
    | cl e r1 => exact ⟨_, _, rfl, e.sq, r1⟩
end
theorem dic_rd {K : PySem.W.Frag} {mg : Str → Option Value} {ρ : Rho} {H : Hp} {h : Hv} (R : Rel K mg ρ h H) {v : Val} {x : V} {kvs : List (Val × Val)} {lk : Bool} (g : IsD h v kvs lk) (e : RV K ρ H v x) :
    ∃ a, x = .ref a ∧ ((∃ ks, Rd H a (.dK ks) ∧ DicK K ρ H kvs ks) ∨ ∃ ks, Rd H a (.dT ks) ∧ DicT K ρ H kvs ks) := by
  obtain ⟨a, u, rfl, d, hu⟩ := g.rd R e
  refine ⟨a, rfl, ?_⟩
  have rd : Rd H a u := hu.elim (fun z => .inl z.2) fun z => .inr z.2
  rcases d with ⟨ks, rfl, d⟩ | ⟨ks, rfl, d⟩
  · exact .inl ⟨ks, rd, d⟩
  · exact .inr ⟨ks, rd, d⟩
theorem bi_len : CallR X (.builtin "len") (rBi X .len) := by
  intro pins s σ H xs us Q I r hh
  obtain ⟨ρ, h, vs, Q1, R, rv, q, af⟩ := hh
  obtain ⟨v, rfl, q⟩ := q
  obtain ⟨x, rfl, rx⟩ := rv.one
  have dict : ∀ {kvs : List (Val × Val)} {lk : Bool}, IsD h v kvs lk → Q1 (.int kvs.length) h → wpAny (model X.prog X.w) X.A (call (.builtin "len") us) (EP X pins σ Q) X.xe s := fun {kvs lk} g q => by
    obtain ⟨u, rfl, ru⟩ := vals1 r
    obtain ⟨a, rfl, d⟩ := dic_rd R g rx
    cases ru
    rcases d with ⟨ks, rd, d⟩ | ⟨ks, rd, d⟩
    · exact d_len I rd fun t s' J => ⟨.int _, H, J, ⟨t, rfl⟩, by rw [← Paired.length d]; exact af.now R (.int _) q⟩
    · obtain ⟨z, hd, ys, rel, dd⟩ := dt_rd I.hok rd
      have hl : ks.length = ys.length := Paired.length rel
      refine call_len_dictH hd dd (by rw [← hl]; rw [sizeLine_eq] at z; omega) ?_
      rw [← hl, ← Paired.length d]
      exact ⟨.int _, H, I.tok _, ⟨_, rfl⟩, af.now R (.int _) q⟩
  have list : ∀ {vs : List Val}, IsL h v vs → Q1 (.int vs.length) h → wpAny (model X.prog X.w) X.A (call (.builtin "len") us) (EP X pins σ Q) X.xe s := fun {vs} g q => by
    obtain ⟨a1, xs, rfl, h2, r1⟩ := g.rd R rx
    exact call_len pins s σ H _ us Q I r ⟨_, _, rfl, .inl ⟨_, .of h2, rfl⟩, by rw [← r1.length]; exact af.now R (.int _) q⟩
  cases v with
  | str s1 =>
    cases rx
    exact call_len pins s σ H _ us Q I r ⟨_, _, rfl, ⟨by rw [toS_len]; exact q.1, rfl⟩, by rw [toS_len]; exact af.now R (.int _) q.2⟩
  | tup vs =>
    cases rx with | tup e r1 => ?_
    exact call_len pins s σ H _ us Q I r ⟨_, _, rfl, .inr ⟨_, .of e, rfl⟩, by rw [← r1.length]; exact af.now R (.int _) q⟩
  | cl vs =>
    cases rx with | cl e r1 => ?_
    exact call_len pins s σ H _ us Q I r ⟨_, _, rfl, (CsV.sq e).elim (fun z => .inl ⟨_, z, rfl⟩) fun z => .inr ⟨_, z, rfl⟩, by rw [← r1.length]; exact af.now R (.int _) q⟩
  | fl vs => exact list (.inl rfl) q
  | fd kvs => exact dict (.inl ⟨rfl, rfl⟩) q
  | ref n =>
    rcases q with ⟨vs, g, q⟩ | ⟨kvs, lk, g, q⟩
    · exact list (.inr ⟨n, rfl, g⟩) q
    · exact dict (.inr ⟨n, rfl, g⟩) q
  | _ => exact q.elim
theorem okT_int (i : Int) : okS (Str.ofString (toString i)).cps.toList := okT_of _
theorem RVs.dictP {K : PySem.W.Frag} {ρ : Rho} {H : Hp} : ∀ {kvs : List (Val × Val)} {xs : List V}, (∀ p ∈ kvs, keyS p.1 = true) → RVs K ρ H (kvs.map fun p : Val × Val => Val.tup [p.1, p.2]) xs → ∃ (ps : List Addr) (ks : List (Key × V)), xs = ps.map V.ref ∧ Paired (fun p kv => SqT K H p [kV kv.1, kv.2]) ps ks ∧ DicK K ρ H kvs ks
  | [], _, _, r => by cases r; exact ⟨[], [], rfl, .nil, .nil⟩
  | p :: kvs, _, hk, r => by
    cases r with
    | cons r t =>
      obtain ⟨ps, ks, e1, e2, e3⟩ := RVs.dictP (fun q m => hk q (List.mem_cons_of_mem _ m)) t
      cases r with
      | tup e r1 =>
        obtain ⟨x, y, rfl, rx, ry⟩ := r1.two
        have k0 := hk p List.mem_cons_self
        cases hp : p.1 with
        | int i =>
          rw [hp] at rx; cases rx
          exact ⟨_ :: ps, (.inl i, y) :: ks, by rw [e1]; rfl, .cons (.of e) e2, .cons ⟨.inl ⟨i, hp, rfl⟩, ry⟩ e3⟩
        | str s =>
          rw [hp] at rx
          cases rx with
          | str ok => exact ⟨_ :: ps, (.inr (toS s), y) :: ks, by rw [e1]; rfl, .cons (.of e) e2, .cons ⟨.inr ⟨s, ok, hp, rfl⟩, ry⟩ e3⟩
        | _ => rw [hp] at k0; cases k0
theorem DicK.merge {K : PySem.W.Frag} {ρ : Rho} {H : Hp} {a : List (Val × Val)} {b : List (Key × V)} (d : DicK K ρ H a b) : ∀ {kvs : List (Val × Val)} {ks : List (Key × V)}, DicK K ρ H kvs ks → DicK K ρ H (kvs.foldl (fun d p => kvPut p.1 p.2 d) a) (mergeK b ks) := by
  intro kvs ks e
  unfold DicK at e
  induction e generalizing a b with
  | nil => exact d
  | cons h _ ih => exact ih (dk_put h.1 h.2 d)
theorem joinW_eq (sep : List Nat) : ∀ ys : List (List Nat), Str.join (toS sep) (ys.map toS) = toS (joinW sep ys)
  | [] => rfl
  | [x] => rfl
  | x :: y :: r => by
    show toS x ++ toS sep ++ Str.join (toS sep) ((y :: r).map toS) = toS (x ++ sep ++ joinW sep (y :: r))
    rw [joinW_eq sep (y :: r), toS_append, toS_append]
theorem joinW_ok {sep : List Nat} (a : okS sep) : ∀ {ys : List (List Nat)}, (∀ y ∈ ys, okS y) → okS (joinW sep ys)
  | [], _ => fun c h => by cases h
  | [x], k => k x (List.mem_singleton.mpr rfl)
  | x :: y :: r, k => by
    show okS (x ++ sep ++ joinW sep (y :: r))
    exact ((k x List.mem_cons_self).append a).append (joinW_ok a fun z m => k z (List.mem_cons_of_mem _ m))
theorem bi_repr (hg : X.A.guards = some []) (hu : X.A.units + 65 < cLine) (hs : ∃ o, X.K.lookup sysModules = some o) : CallR X (.builtin "repr") (rBi X .repr) := by
  intro pins s σ H xs us Q I r hh
  obtain ⟨ρ, h, vs, Q1, R, rv, q, af⟩ := hh
  obtain ⟨v, d, rfl, hd, sh, dp, sz, q⟩ := q
  obtain ⟨x, rfl, rx⟩ := rv.one
  obtain ⟨u, rfl, ru⟩ := vals1 r
  obtain ⟨as, rr, so, ns⟩ := reads_of I R d v x u hd rx ru
  have hsys : d.hasDict = true → sysModules ∉ as := fun _ => ns (by
    obtain ⟨o, ho⟩ := hs
    exact (I.bs _ _ (I.ok.mod.kin _ _ ho)).2)
  have fin : ∀ t, EP X pins σ Q (.str d.shown t) s → True := fun _ _ => trivial
  have okd := okT_shown d so
  have q2 : ∀ t k, EP X pins σ Q (.str d.shown t) { s with toks := k } := fun t k => ⟨.str d.shown, H, I.tok k, ⟨t, rfl⟩, by
    have := af.now R (.str okd) q
    rw [toS_of] at this
    exact this⟩
  cases rr with
  | none => exact PySem.P.repr_of_none (q2 _ _)
  | bool b => exact PySem.P.repr_of_bool (by cases b <;> exact q2 _ _)
  | int i t => exact PySem.P.repr_of_int (of_decide_eq_true sh) (q2 _ _)
  | str z t => exact PySem.P.repr_of_str (q2 _ _) sz
  | list h1 h2 h3 h4 =>
    refine PySem.repr_of_reads' (.list h1 h2 h3 h4) sh hsys hg (by omega) (fun _ _ z => z) (fun h' t tk hk => ?_) sz
    exact ⟨.str _, H, I.kept hk, ⟨t, rfl⟩, by have := af.now R (.str okd) q; rw [toS_of] at this; exact this⟩
  | tuple h1 h2 h3 h4 =>
    refine PySem.repr_of_reads' (.tuple h1 h2 h3 h4) sh hsys hg (by omega) (fun _ _ z => z) (fun h' t tk hk => ?_) sz
    exact ⟨.str _, H, I.kept hk, ⟨t, rfl⟩, by have := af.now R (.str okd) q; rw [toS_of] at this; exact this⟩
  | dict h1 h2 h3 h4 h5 =>
    refine PySem.repr_of_reads' (.dict h1 h2 h3 h4 h5) sh hsys hg (by omega) (fun _ _ z => z) (fun h' t tk hk => ?_) sz
    exact ⟨.str _, H, I.kept hk, ⟨t, rfl⟩, by have := af.now R (.str okd) q; rw [toS_of] at this; exact this⟩

theorem bi_list {z : Bool} (hc : X.calm = true) : CallR X (.type "list") (rBi X (.list z)) := by
  intro pins s σ H xs us Q I r hh
  obtain ⟨ρ, h, vs, Q1, R, rv, q, af⟩ := hh
  obtain ⟨v, rfl, l⟩ := q
  obtain ⟨x, rfl, rx⟩ := rv.one
  have lists : ∀ {vs : List Val}, IsSeq h v vs → newL z vs h Q1 → wpAny (model X.prog X.w) X.A (call (.type "list") us) (EP X pins σ Q) X.xe s := fun {vs} l q => by
    obtain ⟨a, zs, rfl, e, r1⟩ := l.sq R rx
    exact call_list_of pins s σ H _ us Q I r ⟨a, zs, rfl, e, fun p hp => af.newL R r1 q hp⟩
  have dict : ∀ {kvs : List (Val × Val)} {lk : Bool}, IsD h v kvs lk → (kvs.all (fun p => keyS p.1) = true ∧ newL z (kvs.map (·.1)) h Q1) → wpAny (model X.prog X.w) X.A (call (.type "list") us) (EP X pins σ Q) X.xe s := fun {kvs lk} g q => by
    obtain ⟨a, rfl, d⟩ := dic_rd R g rx
    have keys : ∀ {kvs : List (Val × Val)} {ks : List (Key × V)}, DicK X.K ρ H kvs ks → RVs X.K ρ H (kvs.map (·.1)) (ks.map fun kv => kV kv.1) := by
      intro kvs
      induction kvs with
      | nil => intro ks d; cases d; exact .nil
      | cons p kvs ih =>
        intro ks d
        cases d with
        | cons r t => exact .cons r.1.rv (ih t)
    rcases d with ⟨ks, rd, d⟩ | ⟨ks, rd, d⟩
    · exact call_listD hc pins s σ H _ us Q I r ⟨a, ks, rfl, rd, fun p hp => af.newL R (keys d) q.2 hp⟩
    · cases d with
      | nil =>
        refine call_list_dT hc pins s σ H _ us Q I r ⟨a, [], rfl, rd, fun p bs hp ik => ?_⟩
        have : bs = [] := by
          cases ik
          rfl
        subst this
        exact af.newL R .nil q.2 hp
      | cons r t =>
        obtain ⟨vs, e, _⟩ := r.1
        have := q.1
        rw [List.all_cons, e] at this
        cases this
  cases v with
  | fl vs => exact lists (.inl (.inl rfl)) l
  | tup vs => exact lists (.inr (.inl rfl)) l
  | cl vs => exact lists (.inr (.inr rfl)) l
  | fd kvs => exact dict (.inl ⟨rfl, rfl⟩) l
  | ref n =>
    rcases l with ⟨vs, g, q⟩ | ⟨kvs, lk, g, q⟩
    · exact lists (.inl (.inr ⟨n, rfl, g⟩)) q
    · exact dict (.inr ⟨n, rfl, g⟩) q
  | _ => exact l.elim
theorem bi_tuple : CallR X (.type "tuple") (rBi X .tuple) := by
  intro pins s σ H xs us Q I r hh
  obtain ⟨ρ, h, vs, Q1, R, rv, q, af⟩ := hh
  obtain ⟨v, rfl, q⟩ := q
  obtain ⟨x, rfl, rx⟩ := rv.one
  have list : (asL v h fun xs => Q1 (.tup xs) h) → wpAny (model X.prog X.w) X.A (call (.type "tuple") us) (EP X pins σ Q) X.xe s := fun q => by
    obtain ⟨a, vs, zs, rfl, e, r1, q⟩ := asL.rd q R rx
    exact call_tuple_of pins s σ H _ us Q I r ⟨a, zs, rfl, .inl ⟨.of e, fun p hp => af.tup R r1 q hp⟩⟩
  cases v with
  | tup vs =>
    cases rx with | tup e r1 => ?_
    exact call_tuple_of pins s σ H _ us Q I r ⟨_, _, rfl, .inr ⟨.of e, af.now R (.tup e r1) q⟩⟩
  | _ => exact list q
theorem bi_int : CallR X (.type "int") (rBi X .int) := by
  intro pins s σ H xs us Q I r hh
  obtain ⟨ρ, h, vs, Q1, R, rv, q, af⟩ := hh
  rcases q with ⟨i, rfl, q⟩ | ⟨b, rfl, q⟩ | ⟨z, n, rfl, e, l, q⟩
  · obtain ⟨x, rfl, rx⟩ := rv.one
    cases rx
    exact call_int1 pins s σ H _ us Q I r (.inl ⟨i, rfl, af.now R (.int _) q⟩)
  · obtain ⟨x, rfl, rx⟩ := rv.one
    cases rx
    exact call_int1 pins s σ H _ us Q I r (.inr ⟨b, rfl, af.now R (.int _) q⟩)
  · obtain ⟨x, rfl, rx⟩ := rv.one
    cases rx
    exact call_int_str pins s σ H _ us Q I r ⟨_, n, rfl, e, by rw [toS_len]; exact l, af.now R (.int _) q⟩
theorem bi_str : CallR X (.type "str") (rBi X .str) := by
  intro pins s σ H xs us Q I r hh
  obtain ⟨ρ, h, vs, Q1, R, rv, q, af⟩ := hh
  obtain ⟨i, rfl, l, q⟩ := q
  obtain ⟨x, rfl, rx⟩ := rv.one
  cases rx
  have z := af.now R (.str (okT_int i)) q
  rw [toS_of] at z
  exact call_str_int pins s σ H _ us Q I r ⟨i, rfl, l, z⟩
theorem bi_dict {z : Bool} (hc : X.calm = true) : CallR X (.type "dict") (rBi X (.dict z)) := by
  intro pins s σ H xs us Q I r hh
  obtain ⟨ρ, h, vs, Q1, R, rv, q, af⟩ := hh
  obtain ⟨v, rfl, q⟩ := q
  obtain ⟨x, rfl, rx⟩ := rv.one
  have pairs : ∀ {vs : List Val}, IsL h v vs → dicP z vs h Q1 → wpAny (model X.prog X.w) X.A (call (.type "dict") us) (EP X pins σ Q) X.xe s := fun {vs} l q => by
    obtain ⟨a, zs, rfl, e, r1⟩ := l.rd R rx
    obtain ⟨kvs, rfl, hk, hl, q⟩ := q
    obtain ⟨ps, ks, rfl, pp, d⟩ := RVs.dictP hk r1
    refine call_dictP hc pins s σ H _ us Q I r ⟨a, ps, ks, rfl, .of e, pp, fun p hp => ?_⟩
    have d2 := DicK.merge (a := []) (b := []) .nil d
    exact af.newD R (.inl ⟨_, rfl, d2⟩) q hp
  have copy : ∀ {kvs : List (Val × Val)}, IsD h v kvs false → (kvs.all (fun p => keyS p.1) = true ∧ newD z kvs h Q1) → wpAny (model X.prog X.w) X.A (call (.type "dict") us) (EP X pins σ Q) X.xe s := fun {kvs} g q => by
    obtain ⟨a, u, rfl, d, hu⟩ := g.rd R rx
    have hu := hu.elim (fun z => z.2) fun z => absurd z.1 (by decide)
    rcases d with ⟨ks, rfl, d⟩ | ⟨ks, rfl, d⟩
    · exact call_dictD pins s σ H _ us Q I r ⟨a, ks, rfl, .inl hu, fun p hp => af.newD R (.inl ⟨_, rfl, d⟩) q.2 hp⟩
    · cases d with
      | nil =>
        have na : ∀ {p : Addr}, H p = none → p ≠ a := fun {p} hp e => by rw [e, hu] at hp; cases hp
        refine wpAny_mono (call_dictD pins s σ (upd H a (.dK [])) _ us (fun y H2 => ∃ p, H p = none ∧ y = .ref p ∧ H2 = upd (upd H a (.dK [])) p (.dK [])) (Inv.dTK I hu) r ⟨a, [], rfl, .inl upd_same, fun p hp => ⟨p, ?_, rfl, rfl⟩⟩) (fun u s' hs => ?_) fun _ _ e => e
        · by_cases e : p = a
          · rw [e, upd_same] at hp; cases hp
          · rwa [upd_ne e] at hp
        · obtain ⟨y, H2, J, ry, p, hp, rfl, rfl⟩ := hs
          have ne := na hp
          have J2 := Inv.dKT (a := a) J (by rw [upd_ne (Ne.symm ne), upd_same])
          have e3 : upd (upd (upd H a (.dK [])) p (.dK [])) a (.dT []) = upd H p (.dK []) := by
            funext b
            by_cases hb : b = a
            · rw [hb, upd_same, upd_ne (Ne.symm ne), hu]
            · by_cases hb2 : b = p
              · rw [hb2, upd_ne ne, upd_same, upd_same]
              · rw [upd_ne hb, upd_ne hb2, upd_ne hb, upd_ne hb2]
          rw [e3] at J2
          exact ⟨_, _, J2, ry, af.newD R (.inl ⟨[], rfl, .nil⟩) q.2 hp⟩
      | cons r t =>
        obtain ⟨vs, e, _⟩ := r.1
        have := q.1
        rw [List.all_cons, e] at this
        cases this
  cases v with
  | fl vs => exact pairs (.inl rfl) q
  | fd kvs => exact copy (.inl ⟨rfl, rfl⟩) q
  | ref n =>
    rcases q with ⟨vs, g, q⟩ | ⟨kvs, g, q⟩
    · exact pairs (.inr ⟨n, rfl, g⟩) q
    · exact copy (.inr ⟨n, rfl, g⟩) q
  | _ => exact q.elim
theorem bi_all (hc : X.calm = true) : CallR X (.builtin "all") (rBi X .all) := by
  intro pins s σ H xs us Q I r hh
  obtain ⟨ρ, h, vs, Q1, R, rv, q, af⟩ := hh
  obtain ⟨v, rfl, q⟩ := q
  obtain ⟨x, rfl, rx⟩ := rv.one
  obtain ⟨a, vs, zs, rfl, e, r1, bs, eb, q⟩ := asL.rd q R rx
  have := RVs.bls eb r1
  subst this
  exact cr_all hc pins s σ H _ us Q I r ⟨a, bs, rfl, .of e, af.now R (.bl _) q⟩
theorem bi_any (hc : X.calm = true) : CallR X (.builtin "any") (rBi X .any) := by
  intro pins s σ H xs us Q I r hh
  obtain ⟨ρ, h, vs, Q1, R, rv, q, af⟩ := hh
  obtain ⟨v, rfl, q⟩ := q
  obtain ⟨x, rfl, rx⟩ := rv.one
  obtain ⟨a, vs, zs, rfl, e, r1, bs, eb, q⟩ := asL.rd q R rx
  have := RVs.bls eb r1
  subst this
  exact cr_any hc pins s σ H _ us Q I r ⟨a, bs, rfl, .of e, af.now R (.bl _) q⟩
theorem bi_sum (hc : X.calm = true) : CallR X (.builtin "sum") (rBi X .sum) := by
  intro pins s σ H xs us Q I r hh
  obtain ⟨ρ, h, vs, Q1, R, rv, q, af⟩ := hh
  obtain ⟨v, rfl, q⟩ := q
  obtain ⟨x, rfl, rx⟩ := rv.one
  obtain ⟨a, vs, zs, rfl, e, r1, bs, eb, q⟩ := asL.rd q R rx
  have := RVs.ints eb r1
  subst this
  exact cr_sum hc pins s σ H _ us Q I r ⟨a, bs, rfl, .of e, af.now R (.int _) q⟩
theorem maxI_is : ∀ (l : List Int) (i m : Int), m ∈ i :: l → (∀ y ∈ i :: l, y ≤ m) → maxI i l = m
  | [], i, m, h, _ => (List.mem_singleton.mp h).symm
  | x :: r, i, m, h, a => by
    unfold maxI
    have ai := a i List.mem_cons_self
    have ax := a x (List.mem_cons_of_mem _ List.mem_cons_self)
    refine maxI_is r _ m ?_ fun y hy => ?_
    · rcases List.mem_cons.mp h with rfl | h
      · split
        · have : x = m := by omega
          rw [this]; exact List.mem_cons_self
        · exact List.mem_cons_self
      · rcases List.mem_cons.mp h with rfl | h
        · split
          · exact List.mem_cons_self
          · have : i = m := by omega
            rw [this]; exact List.mem_cons_self
        · exact List.mem_cons_of_mem _ h
    · rcases List.mem_cons.mp hy with rfl | hy
      · split <;> assumption
      · exact a y (List.mem_cons_of_mem _ (List.mem_cons_of_mem _ hy))
theorem minI_is : ∀ (l : List Int) (i m : Int), m ∈ i :: l → (∀ y ∈ i :: l, m ≤ y) → minI i l = m
  | [], i, m, h, _ => (List.mem_singleton.mp h).symm
  | x :: r, i, m, h, a => by
    unfold minI
    have ai := a i List.mem_cons_self
    have ax := a x (List.mem_cons_of_mem _ List.mem_cons_self)
    refine minI_is r _ m ?_ fun y hy => ?_
    · rcases List.mem_cons.mp h with rfl | h
      · split
        · have : x = m := by omega
          rw [this]; exact List.mem_cons_self
        · exact List.mem_cons_self
      · rcases List.mem_cons.mp h with rfl | h
        · split
          · exact List.mem_cons_self
          · have : i = m := by omega
            rw [this]; exact List.mem_cons_self
        · exact List.mem_cons_of_mem _ h
    · rcases List.mem_cons.mp hy with rfl | hy
      · split <;> assumption
      · exact a y (List.mem_cons_of_mem _ (List.mem_cons_of_mem _ hy))
theorem bi_max1 (hc : X.calm = true) : CallR X (.builtin "max") (rBi X .max1) := by
  intro pins s σ H xs us Q I r hh
  obtain ⟨ρ, h, vs, Q1, R, rv, q, af⟩ := hh
  obtain ⟨v, rfl, q⟩ := q
  obtain ⟨x, rfl, rx⟩ := rv.one
  obtain ⟨a, vs, zs, rfl, e, r1, i, is, eb, q⟩ := asL.rd q R rx
  have := RVs.ints eb r1
  subst this
  exact cr_max hc pins s σ H _ us Q I r ⟨a, i :: is, rfl, .of e, by simp, fun m h1 h2 => by rw [maxI_is is i m h1 h2] at q; exact af.now R (.int _) q⟩
theorem bi_min1 (hc : X.calm = true) : CallR X (.builtin "min") (rBi X .min1) := by
  intro pins s σ H xs us Q I r hh
  obtain ⟨ρ, h, vs, Q1, R, rv, q, af⟩ := hh
  obtain ⟨v, rfl, q⟩ := q
  obtain ⟨x, rfl, rx⟩ := rv.one
  obtain ⟨a, vs, zs, rfl, e, r1, i, is, eb, q⟩ := asL.rd q R rx
  have := RVs.ints eb r1
  subst this
  exact cr_min hc pins s σ H _ us Q I r ⟨a, i :: is, rfl, .of e, by simp, fun m h1 h2 => by rw [minI_is is i m h1 h2] at q; exact af.now R (.int _) q⟩
/-- sorted numbers -/
theorem insI_perm (x : Int) : ∀ l, (insI x l).Perm (x :: l)
  | [] => .refl _
  | y :: r => by
    unfold insI
    split
    · exact .refl _
    · exact ((insI_perm x r).cons y).trans (.swap x y r)
theorem srt_perm : ∀ l, (srt l).Perm l
  | [] => .refl _
  | x :: r => (insI_perm x _).trans ((srt_perm r).cons x)
theorem insI_sorted (x : Int) : ∀ l, l.Pairwise (· ≤ ·) → (insI x l).Pairwise (· ≤ ·)
  | [], _ => List.pairwise_singleton _ _
  | y :: r, h => by
    obtain ⟨h1, h2⟩ := List.pairwise_cons.mp h
    unfold insI
    split
    · refine List.pairwise_cons.mpr ⟨fun z m => ?_, h⟩
      rcases List.mem_cons.mp m with rfl | m
      · assumption
      · have := h1 z m; omega
    · refine List.pairwise_cons.mpr ⟨fun z m => ?_, insI_sorted x r h2⟩
      rcases List.mem_cons.mp ((insI_perm x r).mem_iff.mp m) with rfl | m
      · omega
      · exact h1 z m
theorem srt_sorted : ∀ l, (srt l).Pairwise (· ≤ ·)
  | [] => .nil
  | x :: r => insI_sorted x _ (srt_sorted r)
theorem sorted_uniq : ∀ (l m : List Int), l.Perm m → l.Pairwise (· ≤ ·) → m.Pairwise (· ≤ ·) → l = m
  | [], m, p, _, _ => p.nil_eq
  | x :: l, [], p, _, _ => absurd p.length_eq (by simp)
  | x :: l, y :: m, p, h1, h2 => by
    obtain ⟨a1, b1⟩ := List.pairwise_cons.mp h1
    obtain ⟨a2, b2⟩ := List.pairwise_cons.mp h2
    have e : x = y := by
      have m1 : x ∈ y :: m := p.mem_iff.mp List.mem_cons_self
      have m2 : y ∈ x :: l := p.mem_iff.mpr List.mem_cons_self
      rcases List.mem_cons.mp m1 with e | m1
      · exact e
      · rcases List.mem_cons.mp m2 with e | m2
        · exact e.symm
        · have := a1 y m2; have := a2 x m1; omega
    subst e
    rw [sorted_uniq l m (List.Perm.cons_inv p) b1 b2]
theorem RVs.ofInts {K : PySem.W.Frag} {ρ : Rho} {H : Hp} : ∀ is : List Int, RVs K ρ H (is.map Val.int) (is.map V.int)
  | [] => .nil
  | i :: r => .cons (.int i) (RVs.ofInts r)
theorem bi_sorted {z : Bool} : CallR X (.builtin "sorted") (rBi X (.sorted z)) := by
  intro pins s σ H xs us Q I r hh
  obtain ⟨ρ, h, vs, Q1, R, rv, q, af⟩ := hh
  obtain ⟨v, rfl, q⟩ := q
  obtain ⟨x, rfl, rx⟩ := rv.one
  obtain ⟨a, vs, zs, rfl, e, r1, is, eb, q⟩ := asL.rd q R rx
  have := RVs.ints eb r1
  subst this
  exact cr_sortedI pins s σ H _ us Q I r ⟨a, is, rfl, .of e, fun ns p hp hs hn => by
    rw [sorted_uniq ns (srt is) (hp.trans (srt_perm is).symm) hs (srt_sorted is)]
    exact af.newL R (RVs.ofInts _) q hn⟩
theorem bi_divmod : CallR X (.builtin "divmod") (rBi X .divmod) := by
  intro pins s σ H xs us Q I r hh
  obtain ⟨ρ, h, vs, Q1, R, rv, q, af⟩ := hh
  obtain ⟨i, j, rfl, hd, q⟩ := q
  obtain ⟨x, y, rfl, rx, ry⟩ := rv.two
  cases rx; cases ry
  exact call_divmod pins s σ H _ us Q I r ⟨i, j, rfl, hd, fun p hp => af.tup R (.cons (.int _) (.cons (.int _) .nil)) q hp⟩
/-- which builtins stand for calls by values; c: not within an except suite -/
def biOk (c : Bool) : Bi → Bool
  | .len => true | .abs => true | .max2 => c | .min2 => c | .int => true | .str => true | .repr => true | .list _ => c | .tuple => true | .dict _ => c | .all => c | .any => c | .sum => c | .max1 => c | .min1 => c | .sorted _ => true | .divmod => true
  | _ => false
theorem bi_ok {c : Bool} (hc : c = true → X.calm = true) (hg : X.A.guards = some []) (hu : X.A.units + 65 < cLine) (hs : ∃ o, X.K.lookup sysModules = some o) : ∀ b : Bi, biOk c b = true → CallR X (biVal b) (rBi X b)
  | .len, _ => bi_len
  | .abs, _ => by
    intro pins s σ H xs us Q I r hh
    obtain ⟨ρ, h, vs, Q1, R, rv, ⟨i, rfl, q⟩, af⟩ := hh
    obtain ⟨x, rfl, rx⟩ := rv.one
    cases rx
    exact call_abs pins s σ H _ us Q I r ⟨i, rfl, af.now R (.int _) q⟩
  | .max2, e => by
    intro pins s σ H xs us Q I r hh
    obtain ⟨ρ, h, vs, Q1, R, rv, ⟨i, j, rfl, q⟩, af⟩ := hh
    obtain ⟨x, y, rfl, rx, ry⟩ := rv.two
    cases rx; cases ry
    exact call_max2 (hc e) pins s σ H _ us Q I r ⟨i, j, rfl, af.now R (.int _) q⟩
  | .min2, e => by
    intro pins s σ H xs us Q I r hh
    obtain ⟨ρ, h, vs, Q1, R, rv, ⟨i, j, rfl, q⟩, af⟩ := hh
    obtain ⟨x, y, rfl, rx, ry⟩ := rv.two
    cases rx; cases ry
    exact call_min2 (hc e) pins s σ H _ us Q I r ⟨i, j, rfl, af.now R (.int _) q⟩
  | .int, _ => bi_int
  | .str, _ => bi_str
  | .repr, _ => bi_repr hg hu hs
  | .list _, e => bi_list (hc e)
  | .tuple, _ => bi_tuple
  | .dict _, e => bi_dict (hc e)
  | .all, e => bi_all (hc e)
  | .max1, e => bi_max1 (hc e)
  | .min1, e => bi_min1 (hc e)
  | .sum, e => bi_sum (hc e)
  | .any, e => bi_any (hc e)
  | .lset, e => by cases e
  | .sorted _, _ => bi_sorted
  | .divmod, _ => bi_divmod
end Lw
set_option Elab.async false
set_option linter.all false
set_option maxRecDepth 100000
set_option maxHeartbeats 1000000
/-! Lw7: isinstance, methods; what a def promises; the readings. -/
namespace Lw
open PySem L2 PyProof.Rows
variable {X : Cx}

/-! ### isinstance -/
def tyN : Ty → String
  | .int => "int" | .bool => "bool" | .str => "str" | .list => "list" | .tuple => "tuple" | .dict => "dict" | .cls _ => "type"
def tgN : Tg → String
  | .non => "NoneType" | .bool => "bool" | .int => "int" | .str => "str" | .tuple => "tuple" | .list => "list" | .dict => "dict" | .ins _ => "object"
def tyB : Ty → Bool
  | .cls _ => false
  | _ => true
theorem kit_one {K : PySem.W.Frag} : ∀ (g : Tg) (t : Ty), tgB g = true → tyB t = true → PySem.W.kitOne K (.type (tgN g)) (.type (tyN t)) = some (tgIs g t) := by
  intro g t hg ht
  cases g <;> cases t <;> first | rfl | cases hg | cases ht
theorem kit_any {K : PySem.W.Frag} {g : Tg} (hg : tgB g = true) : ∀ ts : List Ty, ts.all tyB = true → PySem.W.kitAny K (.type (tgN g)) (ts.map fun t => .type (tyN t)) = some (ts.any (tgIs g))
  | [], _ => rfl
  | t :: r, h => by
    rw [List.all_cons, Bool.and_eq_true] at h
    unfold PySem.W.kitAny
    rw [List.map_cons, List.any_cons]
    simp only [kit_one g t hg h.1]
    cases tgIs g t with
    | true => rfl
    | false => exact kit_any hg r h.2
theorem tag_ty {K : PySem.W.Frag} {mg : Str → Option Value} {ρ : Rho} {h : Hv} {H : Hp} {v : Val} {x : V} {g : Tg} (R : Rel K mg ρ h H) (r : RV K ρ H v x) (e : tag h v = some g) (hg : tgB g = true) : TyX K H x (.type (tgN g)) := by
  cases r with
  | non => cases e; exact .base .non
  | bl b => cases e; exact .base (.bl b)
  | int i => cases e; exact .base (.int i)
  | str ok => cases e; exact .base (.str _)
  | tup e1 _ => cases e; exact .base (.tup e1)
  | cl _ _ => cases e
  | fl _ e1 _ => cases e; exact .base (.lst e1)
  | fdK _ e1 _ => cases e; exact .base (.dK e1)
  | fdT _ e1 _ => cases e; exact .base (.dT e1)
  | fi => cases e; cases hg
  | fx => cases e
  | @ref n a ea =>
    unfold tag at e
    simp only at e
    cases q : h.g n with
    | none => rw [q] at e; cases e
    | some o =>
      rw [q] at e
      have ro := R.at_ q ea
      cases o with
      | lst vs =>
        cases e
        obtain ⟨xs, e1, _⟩ := ro
        exact .base (.lst e1)
      | dic kvs lk =>
        cases lk with
        | true => cases e
        | false =>
          cases e
          obtain ⟨u, d, hu⟩ := ro
          have hu := hu.elim (fun z => z.2) fun z => absurd z.1 (by decide)
          rcases d with ⟨ks, rfl, _⟩ | ⟨ks, rfl, _⟩
          · exact .base (.dK hu)
          · exact .base (.dT hu)
      | ins C fs => cases e; cases hg

/-! ### methods -/
def bmTy : Bm → String
  | .join => "str" | .split _ => "str" | .replace => "str" | .upper => "str" | .bitlen => "int" | .get1 => "dict" | .get2 => "dict" | _ => "list"
def rBm (X : Cx) (m : Bm) : V → List V → Hp → VK → Prop := fun x xs H Q => ∃ ρ h v vs Q1, Rel X.K X.mg ρ h H ∧ RV X.K ρ H v x ∧ RVs X.K ρ H vs xs ∧ bmW m v vs h Q1 ∧ Aft X ρ H Q1 Q
theorem bm_append : MtR X "list.append" (rBm X .append) := by
  intro pins s σ H x xs v us Q I rx rs hh
  obtain ⟨ρ, h, o, vs, Q1, R, ro, rv, q, af⟩ := hh
  obtain ⟨n, ys, w, rfl, rfl, g, hl, q⟩ := q
  obtain ⟨y, rfl, ry⟩ := rv.one
  cases ro with
  | ref e =>
    obtain ⟨a1, zs, d1, h2, r1⟩ := R.lst g
    rw [e] at d1; cases d1
    exact mt_append pins s σ H _ _ v us Q I rx rs ⟨_, zs, y, rfl, rfl, h2, by rw [← r1.length]; exact hl, af.put R e ⟨_, g⟩ (r1.snoc ry) .non q⟩
theorem bm_extend : MtR X "list.extend" (rBm X .extend) := by
  intro pins s σ H x xs v us Q I rx rs hh
  obtain ⟨ρ, h, o, vs, Q1, R, ro, rv, q, af⟩ := hh
  obtain ⟨n, m, ys, rfl, rfl, g, q⟩ := q
  obtain ⟨y, rfl, ry⟩ := rv.one
  obtain ⟨a2, ws, zs2, rfl, h3, r2, hl, q⟩ := asL.rd q R ry
  cases ro with
  | ref e =>
    obtain ⟨a1, zs, d1, h2, r1⟩ := R.lst g
    rw [e] at d1; cases d1
    exact mt_extend pins s σ H _ _ v us Q I rx rs ⟨_, _, zs, zs2, rfl, rfl, h2, h3, by rw [← r1.length, ← r2.length]; exact hl, af.put R e ⟨_, g⟩ (r1.append r2) .non q⟩
theorem bm_pop1 : MtR X "list.pop" (rBm X .pop1) := by
  intro pins s σ H x xs v us Q I rx rs hh
  obtain ⟨ρ, h, o, vs, Q1, R, ro, rv, q, af⟩ := hh
  obtain ⟨n, ys, i, k, w, rfl, rfl, g, ix, hk, q⟩ := q
  obtain ⟨y, rfl, ry⟩ := rv.one
  cases ro with
  | ref e =>
    cases ry
    obtain ⟨a1, zs, d1, h2, r1⟩ := R.lst g
    rw [e] at d1; cases d1
    rw [r1.length] at ix
    obtain ⟨s1, _, s3, s4⟩ := ixN_seq ix
    obtain ⟨z, hz, rz⟩ := r1.get hk
    have hl : zs.length ≤ sizeLine := (I.list (.of h2)).choose_spec.2.2
    have : sizeLine < 2 ^ 63 := line63
    exact mt_popAt pins s σ H _ _ v us Q I rx rs ⟨_, zs, i, k, z, rfl, rfl, h2, by omega, by omega, s1, hz, af.put R e ⟨_, g⟩ (r1.eraseIdx k) rz q⟩
theorem bm_pop0 : MtR X "list.pop" (rBm X .pop0) := by
  intro pins s σ H x xs v us Q I rx rs hh
  obtain ⟨ρ, h, o, vs, Q1, R, ro, rv, q, af⟩ := hh
  obtain ⟨n, ys, w, rfl, rfl, g, hk, q⟩ := q
  cases rv
  cases ro with
  | ref e =>
    obtain ⟨a1, zs, d1, h2, r1⟩ := R.lst g
    rw [e] at d1; cases d1
    rw [r1.length] at hk
    obtain ⟨z, hz, rz⟩ := r1.get hk
    exact mt_pop pins s σ H _ _ v us Q I rx rs ⟨_, zs, z, rfl, rfl, h2, hz, af.put R e ⟨_, g⟩ r1.dropLast rz q⟩
theorem bm_clear : MtR X "list.clear" (rBm X .clear) := by
  intro pins s σ H x xs v us Q I rx rs hh
  obtain ⟨ρ, h, o, vs, Q1, R, ro, rv, q, af⟩ := hh
  obtain ⟨n, ys, rfl, rfl, g, q⟩ := q
  cases rv
  cases ro with
  | ref e =>
    obtain ⟨a1, zs, d1, h2, r1⟩ := R.lst g
    rw [e] at d1; cases d1
    exact mt_clear pins s σ H _ _ v us Q I rx rs ⟨_, zs, rfl, rfl, h2, af.put R e ⟨_, g⟩ .nil .non q⟩
theorem bm_reverse : MtR X "list.reverse" (rBm X .reverse) := by
  intro pins s σ H x xs v us Q I rx rs hh
  obtain ⟨ρ, h, o, vs, Q1, R, ro, rv, q, af⟩ := hh
  obtain ⟨n, ys, rfl, rfl, g, q⟩ := q
  cases rv
  cases ro with
  | ref e =>
    obtain ⟨a1, zs, d1, h2, r1⟩ := R.lst g
    rw [e] at d1; cases d1
    exact mt_reverse pins s σ H _ _ v us Q I rx rs ⟨_, zs, rfl, rfl, h2, af.put R e ⟨_, g⟩ r1.reverse .non q⟩
theorem join_bound (sep : List Nat) : ∀ ys : List (List Nat), ys ≠ [] → (ys.map (·.length)).sum + ys.length * sep.length = (joinW sep ys).length + sep.length
  | [], h => absurd rfl h
  | [x], _ => by simp [joinW]
  | x :: y :: r, _ => by
    have ih := join_bound sep (y :: r) (by simp)
    have e : (joinW sep (x :: y :: r)).length = x.length + sep.length + (joinW sep (y :: r)).length := by
      show (x ++ sep ++ joinW sep (y :: r)).length = _
      rw [List.length_append, List.length_append]
    rw [e, List.map_cons, List.sum_cons, List.length_cons, Nat.succ_mul]
    omega
theorem map_toS_len (ys : List (List Nat)) : ((ys.map toS).map (·.length)) = ys.map (·.length) := by
  rw [List.map_map]
  exact List.map_congr_left fun y _ => toS_len y
theorem joinL_W (a : List Nat) : ∀ ys : List (List Nat), TL.joinL a ys = joinW a ys
  | [] => rfl
  | [x] => rfl
  | x :: y :: r => by
    show x ++ (a ++ TL.joinL a (y :: r)) = x ++ a ++ joinW a (y :: r)
    rw [joinL_W a (y :: r), List.append_assoc]
theorem spl_sub (S : List Nat) : ∀ (k : Nat) (acc l : List Nat) (P : Nat → Prop), (∀ c ∈ acc, P c) → (∀ c ∈ l, P c) → ∀ p ∈ TL.spl S k acc l, ∀ c ∈ p, P c
  | k, acc, [], P, ha, _, p, hp => by
    rw [TL.spl_nil] at hp
    rw [List.mem_singleton.mp hp]
    exact ha
  | 0, acc, c :: r, P, ha, hl, p, hp => by
    cases q : TL.pre S (c :: r) with
    | true =>
      rw [TL.spl_hit q] at hp
      rcases List.mem_cons.mp hp with e | hp
      · rw [e]; exact ha
      · exact spl_sub S _ [] r P (fun _ z => by cases z) (fun d m => hl d (List.mem_cons_of_mem _ m)) p hp
    | false =>
      rw [TL.spl_miss q] at hp
      refine spl_sub S _ (acc ++ [c]) r P (fun d m => ?_) (fun d m => hl d (List.mem_cons_of_mem _ m)) p hp
      rcases List.mem_append.mp m with m | m
      · exact ha d m
      · rw [List.mem_singleton.mp m]; exact hl c List.mem_cons_self
  | k + 1, acc, c :: r, P, ha, hl, p, hp => spl_sub S k acc r P ha (fun d m => hl d (List.mem_cons_of_mem _ m)) p hp
theorem RVs.ofStrs {K : PySem.W.Frag} {ρ : Rho} {H : Hp} : ∀ {ps : List (List Nat)}, (∀ p ∈ ps, okS p) → RVs K ρ H (ps.map Val.str) ((ps.map toS).map V.str)
  | [], _ => .nil
  | p :: ps, h => .cons (.str (h p List.mem_cons_self)) (RVs.ofStrs fun q m => h q (List.mem_cons_of_mem _ m))
theorem bm_split {zz : Bool} : MtR X "str.split" (rBm X (.split zz)) := by
  intro pins s σ H x xs v us Q I rx rs hh
  obtain ⟨ρ, h, o, vs, Q1, R, ro, rv, q, af⟩ := hh
  obtain ⟨z, w, rfl, rfl, hw, h256, hl, q⟩ := q
  obtain ⟨y, rfl, ry⟩ := rv.one
  cases ro with
  | str ok =>
    cases ry with
    | str ok2 =>
      refine mt_split pins s σ H _ _ v us Q I rx rs ⟨_, _, rfl, rfl, ?_, by rw [toS_len]; exact hl, fun p hp => ?_⟩
      · rw [toS_len]
        cases w with
        | nil => exact absurd rfl hw
        | cons _ _ => rfl
      · have e : Txt.split (toS z) (toS w) = (TL.spl w 0 [] z).map toS := SX.split_S hw h256
        rw [e]
        exact af.newL R (RVs.ofStrs fun p m => spl_sub w 0 [] z (· < 1114112) (fun _ q => by cases q) ok p m) q hp
theorem bm_join : MtR X "str.join" (rBm X .join) := by
  intro pins s σ H x xs v us Q I rx rs hh
  obtain ⟨ρ, h, o, vs, Q1, R, ro, rv, q, af⟩ := hh
  obtain ⟨z, w, rfl, rfl, q⟩ := q
  obtain ⟨ys, g, zs, es, hl, q⟩ := asSeq.el q
  obtain ⟨y, rfl, ry⟩ := rv.one
  cases ro with
  | str ok =>
    obtain ⟨a, xs, rfl, sq, r1⟩ := g.sq R ry
    obtain ⟨e, oks⟩ := RVs.strs es r1
    subst e
    refine mt_join pins s σ H _ _ v us Q I rx rs ⟨_, a, zs.map toS, rfl, rfl, sq, ?_, ?_⟩
    · rw [map_toS_len, toS_len, List.length_map]
      have hs : sizeLine = 16777216 := sizeLine_eq
      by_cases c : zs = []
      · subst c; simp
      · have b := join_bound z zs c
        omega
    · have e2 : Txt.join (toS z) (zs.map toS) = toS (joinW z zs) := (SX.join_S z zs).trans (by rw [joinL_W]; rfl)
      rw [e2]
      exact af.now R (.str (joinW_ok ok oks)) q

theorem bm_get1 (hu : X.A.units + 65 < cLine) : MtR X "dict.get" (rBm X .get1) := by
  intro pins s σ H x xs v us Q I rx rs hh
  obtain ⟨ρ, h, o, vs, Q1, R, ro, rv, q, af⟩ := hh
  obtain ⟨k, rfl, q⟩ := q
  obtain ⟨kvs, lk, g, ok, q⟩ := asD.el q
  obtain ⟨y, rfl, ry⟩ := rv.one
  obtain ⟨a, rfl, H', oo, I', dg, rf, back⟩ := dic_ask I R g ro ok ry
  obtain ⟨u, rfl, ru⟩ := vals1 rs
  cases rx
  refine d_get1 (by omega) I' dg ru fun w' s3 I3 rw' => ⟨_, H, back s3 I3, rw', ?_⟩
  cases oo with
  | none =>
    cases hk : kvGet k kvs with
    | none => rw [hk] at q; exact af.now R .non q
    | some _ => rw [hk] at rf; exact rf.elim
  | some z =>
    cases hk : kvGet k kvs with
    | none => rw [hk] at rf; exact rf.elim
    | some w => rw [hk] at q rf; exact af.now R rf q
theorem bm_get2 (hu : X.A.units + 65 < cLine) : MtR X "dict.get" (rBm X .get2) := by
  intro pins s σ H x xs v us Q I rx rs hh
  obtain ⟨ρ, h, o, vs, Q1, R, ro, rv, q, af⟩ := hh
  obtain ⟨k, d, rfl, q⟩ := q
  obtain ⟨kvs, lk, g, ok, q⟩ := asD.el q
  obtain ⟨y, z, rfl, ry, rz⟩ := rv.two
  obtain ⟨a, rfl, H', oo, I', dg, rf, back⟩ := dic_ask I R g ro ok ry
  cases rs with
  | cons r1 rs =>
    cases rs with
    | cons r2 rs =>
      cases rs
      cases rx
      refine d_get2 (by omega) I' dg r1 r2 fun w' s3 I3 rw' => ⟨_, H, back s3 I3, rw', ?_⟩
      cases oo with
      | none =>
        cases hk : kvGet k kvs with
        | none => rw [hk] at q; exact af.now R rz q
        | some _ => rw [hk] at rf; exact rf.elim
      | some z =>
        cases hk : kvGet k kvs with
        | none => rw [hk] at rf; exact rf.elim
        | some w => rw [hk] at q rf; exact af.now R rf q
/-- the methods that stand as calls by values -/
structure BmR (X : Cx) (m : Bm) (T : String) (name : Nm) (id : String) : Prop where
  pa : PlainAttrs T
  slot : Slot T name id
  ty : typeOf (.builtin id) = pure (.type "method_descriptor")
  rule : MtR X id (rBm X m)
def bmName : Bm → Nm
  | .append => "append" | .extend => "extend" | .pop0 => "pop" | .pop1 => "pop" | .clear => "clear" | .reverse => "reverse" | .get1 => "get" | .get2 => "get" | .index => "index" | .join => "join" | .split _ => "split" | .replace => "replace" | .upper => "upper" | .bitlen => "bit_length"
def bmOk : Bm → Bool
  | .append => true | .extend => true | .pop0 => true | .pop1 => true | .clear => true | .reverse => true | .join => true | .split _ => true | .get1 => true | .get2 => true
  | _ => false
theorem bm_ok (hu : X.A.units + 65 < cLine) : ∀ m : Bm, bmOk m = true → ∃ id, BmR X m (bmTy m) (bmName m) id
  | .append, _ => ⟨_, PySem.F.plainAttrs_list, PySem.F.slot_list_append, PySem.F.type_list_append, bm_append⟩
  | .extend, _ => ⟨_, PySem.F.plainAttrs_list, PySem.F.slot_list_extend, PySem.F.type_list_extend, bm_extend⟩
  | .pop0, _ => ⟨_, PySem.F.plainAttrs_list, PySem.F.slot_list_pop, PySem.F.type_list_pop, bm_pop0⟩
  | .pop1, _ => ⟨_, PySem.F.plainAttrs_list, PySem.F.slot_list_pop, PySem.F.type_list_pop, bm_pop1⟩
  | .clear, _ => ⟨_, PySem.F.plainAttrs_list, PySem.F.slot_list_clear, PySem.F.type_list_clear, bm_clear⟩
  | .reverse, _ => ⟨_, PySem.F.plainAttrs_list, PySem.F.slot_list_reverse, PySem.F.type_list_reverse, bm_reverse⟩
  | .join, _ => ⟨_, PySem.F.plainAttrs_str, PySem.F.slot_str_join, PySem.F.type_str_join, bm_join⟩
  | .split _, _ => ⟨_, PySem.F.plainAttrs_str, PySem.F.slot_str_split, PySem.F.type_str_split, bm_split⟩
  | .get1, _ => ⟨_, PySem.F.plainAttrs_dict, PySem.F.slot_dict_get, PySem.F.type_dict_get, bm_get1 hu⟩
  | .get2, _ => ⟨_, PySem.F.plainAttrs_dict, PySem.F.slot_dict_get, PySem.F.type_dict_get, bm_get2 hu⟩
  | .index, e => by cases e
  | .replace, e => by cases e
  | .upper, e => by cases e
  | .bitlen, e => by cases e
theorem bmT_ty {K : PySem.W.Frag} {mg : Str → Option Value} {ρ : Rho} {h : Hv} {H : Hp} {v : Val} {x : V} {m : Bm} (hm : bmOk m = true) (R : Rel K mg ρ h H) (r : RV K ρ H v x) (t : bmT m v h) : tyV K (bmTy m) x H := by
  have lst : (∃ n xs, v = .ref n ∧ h.g n = some (.lst xs)) → tyV K "list" x H := fun ⟨n, xs, e, g⟩ => by
    obtain ⟨a, ys, rfl, e2, _⟩ := IsL.sq R (.inr ⟨n, e, g⟩) r
    exact .inl ⟨rfl, ys, .of e2⟩
  have st : (∃ s, v = .str s) → tyV K "str" x H := fun ⟨s, e⟩ => by
    subst e
    cases r
    exact (rfl : "str" = "str")
  have dic : asD v h (fun _ lk => lk = false) → tyV K "dict" x H := fun t => by
    obtain ⟨kvs, lk, g, e⟩ := asD.el t
    subst e
    obtain ⟨a, u, rfl, d, hu⟩ := g.rd R r
    have hu := hu.elim (fun z => z.2) fun z => absurd z.1 (by decide)
    rcases d with ⟨ks, rfl, _⟩ | ⟨ks, rfl, _⟩
    · exact .inr (.inr (.inl ⟨rfl, .inl ⟨_, hu⟩⟩))
    · exact .inr (.inr (.inl ⟨rfl, .inr ⟨_, hu⟩⟩))
  cases m <;> first | exact dic t | exact lst t | exact st t | cases hm
end Lw
set_option Elab.async false
set_option linter.all false
set_option maxRecDepth 100000
set_option maxHeartbeats 4000000
/-! Lw7g: what a call leaves behind is forgotten. -/
namespace Lw
open PySem L2 PyProof.Rows
theorem and_t {a b : Bool} (h : (a && b) = true) : a = true ∧ b = true := (Bool.and_eq_true _ _).mp h
/-! ### what a call leaves behind is forgotten -/
mutual
/-- the references of a value are below k -/
def lowR (k : Nat) : Val → Bool
  | .ref n => decide (n < k)
  | .tup vs => lowRs k vs
  | .cl vs => lowRs k vs
  | .fl vs => lowRs k vs
  | .fd kvs => lowRk k kvs
  | .fi _ vs => lowRs k vs
  | _ => true
def lowRs (k : Nat) : List Val → Bool
  | [] => true
  | v :: vs => lowR k v && lowRs k vs
def lowRk (k : Nat) : List (Val × Val) → Bool
  | [] => true
  | (_, v) :: vs => lowR k v && lowRk k vs
end
def lowF (k : Nat) : List (Option Val) → Bool
  | [] => true
  | some v :: vs => lowR k v && lowF k vs
  | none :: vs => lowF k vs
def lowO (k : Nat) : Ob → Bool
  | .lst vs => lowRs k vs
  | .dic kvs _ => lowRk k kvs
  | .ins _ fs => lowF k fs
def rhoC (ρ : Rho) (k : Nat) : Rho := ⟨fun n => if n < k then ρ n else none, ρ.fz, ρ.fa, ρ.cl⟩
section
variable {K : PySem.W.Frag} {mg : Str → Option Value} {ρ ρ' : Rho} {H H' : Hp} {h h' : Hv} {k : Nat}
theorem rhoC_eq {n : Nat} {a : Addr} (e : rhoC ρ k n = some a) : n < k ∧ ρ n = some a := by
  have e : (if n < k then ρ n else none) = some a := e
  split at e
  · exact ⟨by assumption, e⟩
  · cases e
theorem rhoC_lt {n : Nat} (l : n < k) : rhoC ρ k n = ρ n := if_pos l
mutual
theorem RV.low (l : ∀ n a, ρ n = some a → n < k) : ∀ {v : Val} {x : V}, RV K ρ H v x → lowR k v = true
  | _, _, .non => rfl
  | _, _, .bl _ => rfl
  | _, _, .int _ => rfl
  | _, _, .str _ => rfl
  | _, _, .tup _ r => RVs.low l r
  | _, _, .cl _ r => RVs.low l r
  | _, _, .fl _ _ r => RVs.low l r
  | _, _, .fdK _ _ r => RDk.low l r
  | _, _, .fdT _ _ r => RDt.low l r
  | _, _, .fi _ _ _ _ _ _ _ r => RVs.low l r
  | _, _, .fx => rfl
  | _, _, .ref e => decide_eq_true (l _ _ e)
theorem RVs.low (l : ∀ n a, ρ n = some a → n < k) : ∀ {v : List Val} {x : List V}, RVs K ρ H v x → lowRs k v = true
  | _, _, .nil => rfl
  | _, _, .cons r t => by unfold lowRs; rw [RV.low l r, RVs.low l t]; rfl
theorem RDk.low (l : ∀ n a, ρ n = some a → n < k) : ∀ {v : List (Val × Val)} {x : List (Key × V)}, RDk K ρ H v x → lowRk k v = true
  | _, _, .nil => rfl
  | _, _, .cons _ r t => by unfold lowRk; rw [RV.low l r, RDk.low l t]; rfl
theorem RDt.low (l : ∀ n a, ρ n = some a → n < k) : ∀ {v : List (Val × Val)} {x : List (List Key × V)}, RDt K ρ H v x → lowRk k v = true
  | _, _, .nil => rfl
  | _, _, .cons _ r t => by unfold lowRk; rw [RV.low l r, RDt.low l t]; rfl
end
mutual
theorem RV.cut : ∀ {v : Val} {x : V}, lowR k v = true → RV K ρ H v x → RV K (rhoC ρ k) H v x
  | _, _, _, .non => .non
  | _, _, _, .bl b => .bl b
  | _, _, _, .int i => .int i
  | _, _, _, .str s => .str s
  | _, _, l, .tup e r => .tup e (RVs.cutR l r)
  | _, _, l, .cl e r => .cl e (RVs.cutR l r)
  | _, _, l, .fl f e r => .fl f e (RVs.cutR l r)
  | _, _, l, .fdK f e r => .fdK f e (RDk.cut l r)
  | _, _, l, .fdT f e r => .fdT f e (RDt.cut l r)
  | _, _, l, .fi f c e l1 l2 a n r => .fi f c e l1 l2 a n (RVs.cutR l r)
  | _, _, _, .fx => .fx
  | _, _, l, .ref e => .ref ((rhoC_lt (of_decide_eq_true l)).trans e)
theorem RVs.cutR : ∀ {v : List Val} {x : List V}, lowRs k v = true → RVs K ρ H v x → RVs K (rhoC ρ k) H v x
  | _, _, _, .nil => .nil
  | _, _, l, .cons r t => by
    unfold lowRs at l
    obtain ⟨l1, l2⟩ := and_t l
    exact .cons (RV.cut l1 r) (RVs.cutR l2 t)
theorem RDk.cut : ∀ {v : List (Val × Val)} {x : List (Key × V)}, lowRk k v = true → RDk K ρ H v x → RDk K (rhoC ρ k) H v x
  | _, _, _, .nil => .nil
  | _, _, l, .cons c r t => by
    unfold lowRk at l
    obtain ⟨l1, l2⟩ := and_t l
    exact .cons c (RV.cut l1 r) (RDk.cut l2 t)
theorem RDt.cut : ∀ {v : List (Val × Val)} {x : List (List Key × V)}, lowRk k v = true → RDt K ρ H v x → RDt K (rhoC ρ k) H v x
  | _, _, _, .nil => .nil
  | _, _, l, .cons c r t => by
    unfold lowRk at l
    obtain ⟨l1, l2⟩ := and_t l
    exact .cons c (RV.cut l1 r) (RDt.cut l2 t)
end
theorem lowF_at : ∀ {fs : List (Option Val)} {i : Nat} {v : Val}, lowF k fs = true → fs[i]? = some (some v) → lowR k v = true
  | [], _, _, _, e => by cases e
  | some u :: fs, 0, v, l, e => by
    cases e
    exact (and_t (show (lowR k u && lowF k fs) = true from l)).1
  | none :: fs, 0, v, l, e => by cases e
  | some u :: fs, i + 1, v, l, e => lowF_at (and_t (show (lowR k u && lowF k fs) = true from l)).2 e
  | none :: fs, i + 1, v, l, e => lowF_at (show lowF k fs = true from l) e
theorem lowF_of : ∀ {fs : List (Option Val)}, (∀ v, some v ∈ fs → lowR k v = true) → lowF k fs = true
  | [], _ => rfl
  | some u :: fs, a => by
    show (lowR k u && lowF k fs) = true
    rw [a u List.mem_cons_self, lowF_of fun v m => a v (List.mem_cons_of_mem _ m)]; rfl
  | none :: fs, a => lowF_of (fs := fs) fun v m => a v (List.mem_cons_of_mem _ m)
theorem RO.low (l : ∀ n a, ρ n = some a → n < k) {a : Addr} : ∀ {o : Ob}, RO K mg ρ H a o → lowO k o = true
  | .lst vs, ⟨xs, _, r⟩ => r.low l
  | .dic kvs _, ⟨u, d, _⟩ => by
    rcases d with ⟨ks, _, d⟩ | ⟨ks, _, d⟩
    · exact (RDk.of d).low l
    · exact (RDt.of d).low l
  | .ins C fs, ⟨Ca, dx, gs, _, _, r⟩ => lowF_of fun v m => by
    obtain ⟨i, hi, e⟩ := List.getElem_of_mem m
    have e2 : fs[i]? = some (some v) := by rw [List.getElem?_eq_getElem hi, e]
    have hf : (cflds C)[i]? = some ((cflds C)[i]'(by rw [← r.len]; exact hi)) := List.getElem?_eq_getElem _
    have z := r.at_ i _ hf
    rw [e2] at z
    cases q : gs.lookup ((cflds C)[i]'(by rw [← r.len]; exact hi)) with
    | none => rw [q] at z; exact (show False from z).elim
    | some x =>
      rw [q] at z
      exact RV.low l (show RV K ρ H v x from z)
theorem RO.cut {a : Addr} : ∀ {o : Ob}, lowO k o = true → RO K mg ρ H a o → RO K mg (rhoC ρ k) H a o
  | .lst vs, l, ⟨xs, e, r⟩ => ⟨xs, e, r.cutR l⟩
  | .dic kvs _, l, ⟨u, d, e⟩ => by
    refine ⟨u, ?_, e⟩
    rcases d with ⟨ks, eu, d⟩ | ⟨ks, eu, d⟩
    · exact .inl ⟨ks, eu, ((RDk.of d).cut l).dic⟩
    · exact .inr ⟨ks, eu, ((RDt.of d).cut l).dic⟩
  | .ins C fs, l, ⟨Ca, dx, gs, m, e, r⟩ => ⟨Ca, dx, gs, m, e, r.len, r.few, fun i f hf => by
    have z := r.at_ i f hf
    cases q : fs[i]? with
    | none => rw [q] at z; cases q2 : gs.lookup f <;> (rw [q2] at z; exact z)
    | some o =>
      rw [q] at z
      cases o with
      | none => cases q2 : gs.lookup f <;> (rw [q2] at z; exact z)
      | some v =>
        cases q2 : gs.lookup f with
        | none => rw [q2] at z; exact z
        | some x =>
          rw [q2] at z
          exact RV.cut (lowF_at l q) (show RV K ρ H v x from z), r.no⟩
/-- which heaps may be cut -/
def cutOk (h h' : Hv) : Prop := h.nx ≤ h'.nx ∧ ∀ n, n < h.nx → h'.g n = h.g n ∨ ∃ o, h'.g n = some o ∧ lowO h.nx o = true
theorem Go.cutR (R : Rel K mg ρ h H) (g : Go K ρ H ρ' H') : Go K ρ H (rhoC ρ' h.nx) H' where
  le := fun n a e => (rhoC_lt (R.lt n a e)).trans (g.le n a e)
  nw := fun n a e => g.nw n a (rhoC_eq e).2
  fr := g.fr
  kp := g.kp
  tp := g.tp
  cf := g.cf
  fk := g.fk
  fp := g.fp
  fn := g.fn
  fh := g.fh
  ck := g.ck
theorem Rel.cutR (R : Rel K mg ρ h H) (g : Go K ρ H ρ' H') (R' : Rel K mg ρ' h' H') (c : cutOk h h') : Rel K mg (rhoC ρ' h.nx) (h'.cut h.nx) H' where
  obj := fun n o e => by
    have e : (if n < h.nx then h'.g n else none) = some o := e
    split at e
    · rename_i hn
      obtain ⟨a, ra, ro⟩ := R'.obj n o e
      refine ⟨a, (rhoC_lt hn).trans ra, ro.cut ?_⟩
      rcases c.2 n hn with c | ⟨o2, c, l⟩
      · rw [e] at c
        obtain ⟨a2, _, ro2⟩ := R.obj n o c.symm
        exact ro2.low R.lt
      · rw [e] at c; cases c; exact l
    · cases e
  dom := fun n a e f => by
    obtain ⟨hn, e⟩ := rhoC_eq e
    obtain ⟨o, q⟩ := R'.dom n a e f
    exact ⟨o, (if_pos hn).trans q⟩
  inj := fun n m a e1 e2 => R'.inj n m a (rhoC_eq e1).2 (rhoC_eq e2).2
  lt := fun n a e => (rhoC_eq e).1
  nf := fun n o e => by
    have e : (if n < h.nx then h'.g n else none) = some o := e
    split at e
    · exact R'.nf n o e
    · cases e
  fa := R'.fa
  th := fun n a e => R'.th n a (rhoC_eq e).2
  lv := fun n a e => R'.lv n a (rhoC_eq e).2
  cl := R'.cl
end
def gcQ (h : Hv) (Q : K1) : K1 := fun v h' => lowR h.nx v = true ∧ cutOk h h' ∧ Q v (h'.cut h.nx)
def gcX (h : Hv) (Ex : EK) : EK := fun x h' => lowRs h.nx x.fs = true ∧ cutOk h h' ∧ Ex x (h'.cut h.nx)
theorem lowRs_at {k : Nat} : ∀ {vs : List Val} {i : Nat} {v : Val}, lowRs k vs = true → vs[i]? = some v → lowR k v = true
  | [], _, _, _, e => by cases e
  | u :: vs, 0, v, l, e => by
    cases e
    exact (and_t (show (lowR k u && lowRs k vs) = true from l)).1
  | u :: vs, i + 1, v, l, e => lowRs_at (and_t (show (lowR k u && lowRs k vs) = true from l)).2 e
theorem Aft0.gc {K : PySem.W.Frag} {mg : Str → Option Value} {ρ : Rho} {h : Hv} {H : Hp} {Q1 : K1} {Q : VK} (R : Rel K mg ρ h H) (af : Aft0 K mg ρ H Q1 Q) : Aft0 K mg ρ H (gcQ h Q1) Q := fun v h' q ρ' H' x g R' r =>
  af v _ q.2.2 _ H' x (Go.cutR R g) (Rel.cutR R g R' q.2.1) (r.cut q.1)
theorem AftX0.gc {K : PySem.W.Frag} {mg : Str → Option Value} {ρ : Rho} {h : Hv} {H : Hp} {Q1 : EK} {Q : XK} (R : Rel K mg ρ h H) (af : AftX0 K mg ρ H Q1 Q) : AftX0 K mg ρ H (gcX h Q1) Q := fun x h' q ρ' H' cls d g R' r => by
  refine af x _ q.2.2 _ H' cls d (Go.cutR R g) (Rel.cutR R g R' q.2.1) ?_
  obtain ⟨Ca, dx, gs, a, b, c, e, l, n, f⟩ := r
  exact ⟨Ca, dx, gs, a, b, c, e, l, fun m z => n m (rhoC_eq z).2, fun i f' v h1 h2 => by
    obtain ⟨y, z1, z2⟩ := f i f' v h1 h2
    exact ⟨y, z1, z2.cut (lowRs_at q.1 h2)⟩⟩
end Lw
set_option Elab.async false
set_option linter.all false
set_option maxRecDepth 100000
set_option maxHeartbeats 1000000
/-! Lw8: what a def promises; readings from meanings; matching of the text. -/
namespace Lw
open PySem L2 PyProof.Rows

/-! ### promises -/
def spOf (K : PySem.W.Frag) (mg : Str → Option Value) (sp : Spec) : Sp := fun xs H Q E => ∃ ρ h vs Q1 E1, Rel K mg ρ h H ∧ RVs K ρ H vs xs ∧ sp vs h Q1 E1 ∧ Aft0 K mg ρ H Q1 Q ∧ AftX0 K mg ρ H E1 E
/-- the function at f does as sp says -/
def FnG (P : Program) (w : World) (K : PySem.W.Frag) (mg : Str → Option Value) (base : Heap) (k : Nat) (f : Addr) (sp : Spec) : Prop :=
  ∀ (A : Around) (outer : List Env) (s : Shared) (H : Hp) (us : List Value) (xs : List V) (Q : VK) (E : XK), Room k A → A.guards = some [] → Env0 P w K mg base A outer s H → Vals xs us → spOf K mg sp xs H Q E →
    codeAny (model P w) A (.call (.ref f) ⟨us, []⟩) (CR (L2.CX P w) outer P w H s Q E) s
section
variable {P : Program} {w : World} {K : PySem.W.Frag} {mg : Str → Option Value} {base : Heap} {j k : Nat} {f : Addr} {sp sp' : Spec}
theorem FnG.mono (F : FnG P w K mg base j f sp) (h : j ≤ k) : FnG P w K mg base k f sp := fun A outer s H us xs Q E hr hg e0 r q => F A outer s H us xs Q E (hr.mono h) hg e0 r q
theorem FnG.imp (F : FnG P w K mg base k f sp) (h : ∀ vs h Q E, sp' vs h Q E → sp vs h Q E) : FnG P w K mg base k f sp' := fun A outer s H us xs Q E hr hg e0 r ⟨ρ, hv, vs, Q1, E1, R, rv, q, af, ax⟩ =>
  F A outer s H us xs Q E hr hg e0 r ⟨ρ, hv, vs, Q1, E1, R, rv, h _ _ _ _ q, af, ax⟩
end
/-- a new object of the class C: sp0 is what its __init__ does; the object changes no more (and what else was made is forgotten), or it stays as it is -/
def mkSp (C : Nat) (sp0 : Spec) : Spec := fun vs h Q Ex => sp0 (.ref h.nx :: vs) (h.al (.ins C (List.replicate (cflds C).length none))) (fun v h2 => v = .non ∧ ((∃ w h3, Fz h2 (.ref h.nx) w h3 ∧ gcQ h Q w h3) ∨ Q (.ref h.nx) h2)) (fun x h2 => gcX h Ex x h2 ∨ Ex x h2)
/-- the module's name x is such a function, or a class that is made so -/
def FOk (P : Program) (w : World) (K : PySem.W.Frag) (mg : Str → Option Value) (base : Heap) (k : Nat) (x : Nm) (sp : Spec) : Prop :=
  (∃ f, mg x = some (.ref f) ∧ PySem.W.keepIn K (.ref f) = true ∧ FnG P w K mg base k f sp) ∨
  ∃ C Ca f j sp0, x = cname C ∧ clOf mg C = some Ca ∧ Mk K Ca f ∧ j + 1 ≤ k ∧ FnG P w K mg base j f sp0 ∧ ∀ vs h Q Ex, sp vs h Q Ex → mkSp C sp0 vs h Q Ex
theorem FOk.mono {P : Program} {w : World} {K : PySem.W.Frag} {mg : Str → Option Value} {base : Heap} {j k : Nat} {x : Nm} {sp : Spec} (F : FOk P w K mg base j x sp) (h : j ≤ k) : FOk P w K mg base k x sp := by
  rcases F with ⟨f, a, b, c⟩ | ⟨C, Ca, f, i, sp0, a, b, c, d, e, g⟩
  · exact .inl ⟨f, a, b, c.mono h⟩
  · exact .inr ⟨C, Ca, f, i, sp0, a, b, c, by omega, e, g⟩
/-- the module's name x is such a constant -/
def COk (K : PySem.W.Frag) (mg : Str → Option Value) (x : Nm) (v : Val) : Prop := ∃ u y, mg x = some u ∧ RelV y u ∧ ∀ ρ H, RV K ρ H v y

/-- what is asked of a class: its fields, isinstance, a method, a method that an operator or a builtin calls -/
inductive Mq where
  | fld | isi | mth (n : Nm) (sp : Spec) | own (n : Nm) (sp : Spec)
def isiOk (K : PySem.W.Frag) (Ca : Addr) : Prop := PySem.W.kitOne K (.ref Ca) (.ref Ca) = some true ∧ PySem.W.findIn K (.ref Ca) "__class__" = some (some (.builtin "object.__class__")) ∧
  PySem.W.specialIn K (.builtin "object.__class__") "__get__" = some (some (.builtin "getset_descriptor.__get__")) ∧ PySem.W.takesIn K (.builtin "object.__class__") = some true ∧ PySem.W.mroIn K Ca (.type "object") = some true ∧
  ∀ g, tgB g = true → PySem.W.kitOne K (.type (tgN g)) (.ref Ca) = some false ∧ PySem.W.notFirst K Ca (.type (tgN g)) = true
def MOk (P : Program) (w : World) (K : PySem.W.Frag) (mg : Str → Option Value) (base : Heap) (k : Nat) (C : Nat) : Mq → Prop
  | .fld => ∃ Ca, clOf mg C = some Ca ∧ Cls K Ca ∧ ∀ f ∈ cflds C, NoAttr K Ca f
  | .isi => ∃ Ca, clOf mg C = some Ca ∧ Cls K Ca ∧ isiOk K Ca
  | .mth n sp => ∃ Ca f, clOf mg C = some Ca ∧ Cls K Ca ∧ n ∉ cflds C ∧ Meth K Ca n f ∧ FnG P w K mg base k f sp
  | .own n sp => ∃ Ca f j, clOf mg C = some Ca ∧ Cls K Ca ∧ j + 2 ≤ k ∧ Meth K Ca n f ∧ FnG P w K mg base j f sp

theorem MOk.mono {P : Program} {w : World} {K : PySem.W.Frag} {mg : Str → Option Value} {base : Heap} {j k : Nat} {C : Nat} {q : Mq} (F : MOk P w K mg base j C q) (h : j ≤ k) : MOk P w K mg base k C q := by
  cases q with
  | fld => exact F
  | isi => exact F
  | mth n sp => obtain ⟨Ca, f, a, b, c, d, e⟩ := F; exact ⟨Ca, f, a, b, c, d, e.mono h⟩
  | own n sp => obtain ⟨Ca, f, i, a, b, c, d, e⟩ := F; exact ⟨Ca, f, i, a, b, by omega, d, e⟩
/-! ### the context -/
structure Mc where
  N : List Nm
  sc : Scope
  fn : Nm → Bool
  c : Bool
def biNames : List Nm := ["len", "abs", "max", "min", "sum", "all", "any", "int", "str", "repr", "list", "tuple", "dict", "sorted", "divmod", "range", "isinstance", "bool", "enumerate", "zip", "set"]
structure Ct (X : Cx) (W : L2.WX) (k : Nat) (m : Mc) : Prop where
  N : X.N = m.N
  sc : X.env.scope = m.sc
  fn : ∀ x, m.fn x = true → X.fn x = true
  nd : X.N.Nodup
  calm : m.c = true → X.calm = true
  tk : Takes X W
  room : m.c = true → Room k X.A
  un : X.A.units + 65 < cLine
  gd : X.A.guards = some []
  sys : ∃ o, X.K.lookup sysModules = some o
  bi : ∀ x ∈ biNames, X.mg x = none

/-! ### readings -/
def Same (is : List Nat) (σ σ' : L2.St) : Prop := σ'.length = σ.length ∧ ∀ i, i ∉ is → σ'[i]? = σ[i]?
theorem Same.refl {is : List Nat} {σ : L2.St} : Same is σ σ := ⟨rfl, fun _ _ => rfl⟩
theorem Same.trans {is : List Nat} {σ σ1 σ2 : L2.St} (a : Same is σ σ1) (b : Same is σ1 σ2) : Same is σ σ2 := ⟨b.1.trans a.1, fun i h => (b.2 i h).trans (a.2 i h)⟩
theorem Same.sub {is js : List Nat} {σ σ1 : L2.St} (a : Same is σ σ1) (h : ∀ i ∈ is, i ∈ js) : Same js σ σ1 := ⟨a.1, fun i k => a.2 i fun z => k (h i z)⟩
theorem Same.set {i : Nat} {σ : L2.St} {x : Option V} : Same [i] σ (σ.set i x) := ⟨List.length_set, fun j h => List.getElem?_set_ne fun z => h (by rw [z]; exact List.mem_singleton.mpr rfl)⟩
theorem wipe_get : ∀ (own : List Nat) (σ : L2.St) (i : Nat), (wipe σ own)[i]? = if i ∈ own then (if i < σ.length then some none else none) else σ[i]?
  | [], σ, i => by simp [wipe]
  | v :: r, σ, i => by
    unfold wipe
    have hl := wipe_length σ r
    by_cases e : v = i
    · subst e
      rw [if_pos List.mem_cons_self]
      by_cases hv : v < σ.length
      · rw [List.getElem?_set_self (by omega), if_pos hv]
      · rw [List.getElem?_eq_none (by rw [List.length_set]; omega), if_neg hv]
    · rw [List.getElem?_set_ne e, wipe_get r σ i]
      by_cases m : i ∈ r
      · rw [if_pos m, if_pos (List.mem_cons_of_mem _ m)]
      · rw [if_neg m, if_neg fun z => (List.mem_cons.mp z).elim (fun y => e y.symm) m]
theorem Same.wipe {own : List Nat} {σ σ' : L2.St} (s : Same own σ σ') : L2.wipe σ' own = L2.wipe σ own := by
  apply List.ext_getElem?
  intro i
  rw [wipe_get, wipe_get, s.1]
  by_cases m : i ∈ own
  · rw [if_pos m, if_pos m]
  · rw [if_neg m, if_neg m, s.2 i m]

section
variable (X : Cx) (W : L2.WX)
def AftA (ρ : Rho) (H : Hp) (Q1 : List Val → Hv → Prop) (Q : List V → Hp → Prop) : Prop := ∀ vs h', Q1 vs h' → ∀ ρ' H' xs, Go X.K ρ H ρ' H' → Rel X.K X.mg ρ' h' H' → RVs X.K ρ' H' vs xs → Q xs H'
def AftT (ρ : Rho) (H : Hp) (Q1 : K1) (Q : Bool → Hp → Prop) : Prop := ∀ v h', Q1 v h' → ∀ ρ' H', Go X.K ρ H ρ' H' → Rel X.K X.mg ρ' h' H' → ∃ b, v = .bl b ∧ Q b H'
def rdA (w : Ev → Hv → (List Val → Hv → Prop) → EK → Prop) : TA := fun σ H Q => ∃ ρ env h Q1 E1, Rel X.K X.mg ρ h H ∧ REv X.K ρ H env σ ∧ w env h Q1 E1 ∧ AftA X ρ H Q1 Q ∧ AftX X ρ H E1 (fun c d H' => W c d σ H')
def rdT (w : TW) : TT := fun σ H Q => ∃ ρ env h Q1 E1, Rel X.K X.mg ρ h H ∧ REv X.K ρ H env σ ∧ w env h Q1 E1 ∧ AftT X ρ H Q1 Q ∧ AftX X ρ H E1 (fun c d H' => W c d σ H')
def rdF (w : Ev → Hv → (Bool → Hv → Prop) → Prop) : TT := fun σ H Q => ∃ ρ env h Q1, Rel X.K X.mg ρ h H ∧ REv X.K ρ H env σ ∧ w env h Q1 ∧ ∀ b h', Q1 b h' → ∀ ρ' H', Go X.K ρ H ρ' H' → Rel X.K X.mg ρ' h' H' → Q b H'
def rdO (w : Ev → Hv → (Option Int → Hv → Prop) → EK → Prop) : TO := fun σ H Q => ∃ ρ env h Q1 E1, Rel X.K X.mg ρ h H ∧ REv X.K ρ H env σ ∧ w env h Q1 E1 ∧ (∀ o h', Q1 o h' → ∀ ρ' H', Go X.K ρ H ρ' H' → Rel X.K X.mg ρ' h' H' → Q o H') ∧ AftX X ρ H E1 (fun c d H' => W c d σ H')
def rdG (is : List Nat) (w : Val → Ev → Hv → (Ev → Hv → Prop) → Prop) : TG := fun x σ H Q => ∃ ρ env h v K1, Rel X.K X.mg ρ h H ∧ REv X.K ρ H env σ ∧ RV X.K ρ H v x ∧ w v env h K1 ∧
  ∀ env' h', K1 env' h' → ∀ ρ' H' σ', Go X.K ρ H ρ' H' → Rel X.K X.mg ρ' h' H' → REv X.K ρ' H' env' σ' → Same is σ σ' → Q σ' H'
def rdGs (is : List Nat) (w : List Val → Ev → Hv → (Ev → Hv → Prop) → Prop) : TGs := fun xs σ H Q => ∃ ρ env h vs K1, Rel X.K X.mg ρ h H ∧ REv X.K ρ H env σ ∧ RVs X.K ρ H vs xs ∧ w vs env h K1 ∧
  ∀ env' h', K1 env' h' → ∀ ρ' H' σ', Go X.K ρ H ρ' H' → Rel X.K X.mg ρ' h' H' → REv X.K ρ' H' env' σ' → Same is σ σ' → Q σ' H'
/-- the iterator J walks what w says -/
structure WkR0 (K : PySem.W.Frag) (mg : Str → Option Value) (w : Wk) (ρ0 : Rho) (H0 : Hp) (J : L2.It) : Prop where
  go : ∀ i ρ h H, Gm K ρ0 H0 ρ H → Rel K mg ρ h H → w.G h → i < w.items.length → J.go i H
  yld : ∀ i ρ h H x H' v, Gm K ρ0 H0 ρ H → Rel K mg ρ h H → w.G h → w.items[i]? = some v → J.yld i H x H' → Go K ρ H ρ H' ∧ Rel K mg ρ h H' ∧ RV K ρ H' v x
  stop : ∀ i ρ h H, Gm K ρ0 H0 ρ H → Rel K mg ρ h H → w.G h → w.items.length ≤ i → J.stop i H
abbrev WkR (w : Wk) (ρ0 : Rho) (H0 : Hp) (J : L2.It) : Prop := WkR0 X.K X.mg w ρ0 H0 J
def rdI (w : Ev → Hv → WkK → EK → Prop) : TI := fun σ H R => ∃ ρ env h K1 E1, Rel X.K X.mg ρ h H ∧ REv X.K ρ H env σ ∧ w env h K1 E1 ∧
  (∀ wk h', K1 wk h' → ∀ ρ' H' J, Go X.K ρ H ρ' H' → Rel X.K X.mg ρ' h' H' → WkR X wk ρ' H' J → R J H') ∧ AftX X ρ H E1 (fun c d H' => W c d σ H')
end
section
variable {X : Cx} {W : L2.WX}
theorem AftA.mono {ρ ρ' : Rho} {H H' : Hp} {Q1 : List Val → Hv → Prop} {Q : List V → Hp → Prop} (g : Go X.K ρ H ρ' H') (a : AftA X ρ H Q1 Q) : AftA X ρ' H' Q1 Q := fun v h' q ρ2 H2 x g2 => a v h' q ρ2 H2 x (g.trans g2)
theorem AftT.mono {ρ ρ' : Rho} {H H' : Hp} {Q1 : K1} {Q : Bool → Hp → Prop} (g : Go X.K ρ H ρ' H') (a : AftT X ρ H Q1 Q) : AftT X ρ' H' Q1 Q := fun v h' q ρ2 H2 g2 => a v h' q ρ2 H2 (g.trans g2)
theorem noX {ρ : Rho} {H : Hp} {E : XK} : AftX X ρ H noE E := fun _ _ f => f.elim
end

/-! ### matching -/
def sEq (a b : Nm) : Bool := a.cps.toList == b.cps.toList
theorem sEq_eq {a b : Nm} (h : sEq a b = true) : a = b := by
  have := eq_of_beq h
  cases a; cases b
  simp at this
  rw [this]
theorem sEq_ne {a b : Nm} (h : sEq a b = false) : a ≠ b := fun e => by
  subst e
  unfold sEq at h
  rw [beq_self_eq_true] at h
  cases h
def lkp : List (Nm × NameKind) → Nm → Option NameKind
  | [], _ => none
  | (a, k) :: r, x => if sEq x a = true then some k else lkp r x
theorem lkp_eq : ∀ (l : List (Nm × NameKind)) (x : Nm), lkp l x = l.lookup x
  | [], _ => rfl
  | (a, k) :: r, x => by
    unfold lkp
    cases e : sEq x a with
    | true =>
      rw [sEq_eq e, List.lookup_cons_self]; rfl
    | false =>
      have h : (x == a) = false := beq_false_of_ne (sEq_ne e)
      rw [List.lookup_cons, h, lkp_eq r x]; rfl
def isVis (m : Mc) (x : Nm) : Bool := match lkp m.sc.names x with
  | some .local => true
  | some .cell => true
  | some .free => true
  | _ => false
def isGlo (m : Mc) (x : Nm) : Bool := match lkp m.sc.names x with
  | some .globalImplicit => true
  | _ => false
def okNm (x : Nm) : Bool := !(sEq x "__debug__") && !(sEq x "__classdict__") && !(sEq x "__name__")
def nmAt (m : Mc) (i : Nat) (x : Nm) : Bool := match m.N[i]? with
  | some y => sEq y x
  | none => false
/-- a name that is stored to -/
def isLoc (m : Mc) (x : Nm) : Bool := match lkp m.sc.names x with
  | some .local => true
  | some .cell => m.fn x
  | _ => false
def opIs : O2 → Operator → Bool
  | .add _, .Add => true | .sub, .Sub => true | .mul _, .Mult => true | .fdiv, .FloorDiv => true | .mod, .Mod => true | .pow, .Pow => true | .shl, .LShift => true | .shr, .RShift => true | .band, .BitAnd => true
  | _, _ => false
theorem opIs_eq {o : O2} {p : Operator} (h : opIs o p = true) : p = opOf o := by cases o <;> cases p <;> first | rfl | cases h
def coIs : CO → CmpOp → Bool
  | .lt, .Lt => true | .le, .LtE => true | .gt, .Gt => true | .ge, .GtE => true | .eq, .Eq => true | .ne, .NotEq => true | .isin, .In => true | .notin, .NotIn => true | .is_, .Is => true | .isnt, .IsNot => true
  | _, _ => false
theorem coIs_eq {o : CO} {p : CmpOp} (h : coIs o p = true) : p = cmpOf o := by cases o <;> cases p <;> first | rfl | cases h
def okSb (l : List Nat) : Bool := l.all (· < 1114112)
def mCon : Val → Const → Bool
  | .non, .none => true
  | .bl a, .bool b => a == b
  | .int i, .int j => i == j
  | .str s, .str x => s == x.cps.toList && okSb s
  | _, _ => false
/-- no star, no slice, no set: nothing with a rule of its own where it stands -/
def plainX : Expr → Bool
  | .Starred .. => false
  | .Slice .. => false
  | .Set .. => false
  | _ => true
def noCall : Expr → Bool
  | .Call _ args _ _ => !args.isEmpty
  | _ => true
def mTy (m : Mc) (t : Ty) (e : Expr) : Bool := match e with
  | .Name x _ => tyB t && sEq (Str.ofString (tyN t)) x && isGlo m x
  | _ => false
def mTys (m : Mc) : List Ty → List Expr → Bool
  | [], [] => true
  | t :: ts, e :: es => mTy m t e && mTys m ts es
  | _, _ => false
def mTyA (m : Mc) (ts : List Ty) (e : Expr) : Bool := match e with
  | .Tuple es _ _ => mTys m ts es && decide (ts.length < 1000)
  | e => match ts with
    | [t] => mTy m t e
    | _ => false
/-- the context of a comprehension's block -/
def Mc.blk (m : Mc) (scope : Scope) : Mc := ⟨m.N, relS scope m.sc, fun x => scope.names.lookup x == some .cell, m.c⟩
def ownN (m : Mc) (own : List Nat) : List (Nm × Nat) := own.map fun i => ((m.N[i]?).getD "", i)
mutual
def T.names : T → List Nat
  | .name i => [i]
  | .tup ts => ts.names
  | .sub _ _ => []
  | .fld _ _ _ => []
def Ts.names : Ts → List Nat
  | .nil => []
  | .cons t r => t.names ++ r.names
end
/-- what is tested as it is -/
def plainB : Expr → Bool
  | .Call .. => true
  | .Name .. => true
  | .List .. => true
  | .Subscript .. => true
  | .BinOp .. => true
  | .Dict .. => true
  | .Attribute .. => true
  | _ => false
def isTupE : Expr → Bool
  | .Tuple .. => true
  | _ => false
def isConS : E → Bool
  | .con (.str _) => true
  | _ => false
def fldIs (C i : Nat) (x : Nm) : Bool := match (cflds C)[i]? with
  | some f => sEq f x
  | none => false
mutual
def mE (m : Mc) : E → Expr → Bool
  | .var i, e => match e with
    | .Name x _ => nmAt m i x && isVis m x && okNm x
    | _ => false
  | .con v, e => match e with
    | .Constant c _ _ => mCon v c
    | _ => false
  | .glb x _, e => match e with
    | .Name y _ => sEq x y && isGlo m x && okNm x
    | _ => false
  | .bin o a b, e => match e with
    | .BinOp x p y _ => opIs o p && mE m a x && mE m b y
    | _ => false
  | .neg a, e => match e with
    | .UnaryOp .USub x _ => mE m a x
    | _ => false
  | .cmp o a b, e => match e with
    | .Compare x [p] [y] _ => coIs o p && plainX y && mE m a x && mE m b y
    | _ => false
  | .chain o o' a b c, e => match e with
    | .Compare x [p, p'] [y, z] _ => coIs o p && coIs o' p' && plainX z && mE m a x && mE m b y && mE m c z
    | _ => false
  | .and es, e => match e with
    | .BoolOp .And vs _ => mEs m es vs && !vs.isEmpty
    | _ => false
  | .or es, e => match e with
    | .BoolOp .Or vs _ => mEs m es vs && !vs.isEmpty
    | _ => false
  | .not a, e => match e with
    | .UnaryOp .Not x _ => mE m a x
    | _ => false
  | .ife c a b, e => match e with
    | .IfExp x y z _ => mE m c x && mE m a y && mE m b z
    | _ => false
  | .call x _ es, e => match e with
    | .Call (.Name y _) args [] _ => sEq x y && isGlo m x && okNm x && m.c && mEs m es args
    | _ => false
  | .isc C a, e => match e with
    | .Call (.Name y _) [x, .Name z _] [] _ => sEq "isinstance" y && isGlo m y && plainX x && sEq (cname C) z && isGlo m z && okNm z && mE m a x
    | _ => false
  | .leno _ _ a, e => match e with
    | .Call (.Name y _) [x] [] _ => m.c && sEq "len" y && isGlo m y && plainX x && mE m a x
    | _ => false
  | .stro _ _ a, e => match e with
    | .Call (.Name y _) [x] [] _ => m.c && sEq "str" y && isGlo m y && plainX x && mE m a x
    | _ => false
  | .eqo _ _ a b, e => match e with
    | .Compare x [.Eq] [y] _ => m.c && plainX y && mE m a x && mE m b y
    | _ => false
  | .mth C n _ o es, e => match e with
    | .Call (.Attribute x at_ ap) args [] cp => m.c && sEq n at_ && noCall x && ap.endLine == cp.line && decide (args.length < 29) && mE m o x && mEs m es args
    | _ => false
  | .fld C i o, e => match e with
    | .Attribute x at_ _ => fldIs C i at_ && noCall x && mE m o x
    | _ => false
  | .bi b es, e => match e with
    | .Call (.Name y _) (a :: args) [] _ => sEq (biName b) y && isGlo m y && biOk m.c b && mEs m es (a :: args)
    | _ => false
  | .isi a ts, e => match e with
    | .Call (.Name y _) [x, cl] [] _ => sEq "isinstance" y && isGlo m y && plainX x && mE m a x && mTyA m ts cl
    | _ => false
  | .bm k o es, e => match e with
    | .Call (.Attribute x at_ ap) args [] cp => sEq (bmName k) at_ && bmOk k && noCall x && ap.endLine == cp.line && decide (args.length < 29) && mE m o x && mEs m es args
    | _ => false
  | .idx a b, e => match e with
    | .Subscript x y _ => plainX y && mE m a x && mE m b y
    | _ => false
  | .slc _ a lo hi, e => match e with
    | .Subscript x (.Slice l u none _) _ => mE m a x && mEo m lo l && mEo m hi u
    | _ => false
  | .tup es, e => match e with
    | .Tuple xs _ _ => mEs m es xs
    | _ => false
  | .lst _ es, e => match e with
    | .List xs _ => mEs m es xs
    | _ => false
  | .dict _ ps, e => match e with
    | .Dict ks vs _ => decide (ks.length ≤ 15) && mDs m ps ks vs
    | _ => false
  | .fz a, e => plainB e && mE m a e
  | .lrg _ a, e => match e with
    | .Call (.Name y _) [.Call (.Name y2 _) [x] [] _] [] _ => m.c && sEq "list" y && isGlo m y && sEq "range" y2 && isGlo m y2 && plainX x && mE m a x
    | _ => false
  | .rev _ a, e => match e with
    | .Subscript x (.Slice none none (some (.UnaryOp .USub (.Constant (.int 1) _ _) _)) _) _ => mE m a x
    | _ => false
  | .fst es, e => match e with
    | .JoinedStr (x :: y :: r) _ => mFs m es (x :: y :: r)
    | _ => false
  | .lc _ elt t it ifs own, e => match e with
    | .ListComp x [⟨tg, iter, cs, 0⟩] scope _ => m.c && blkC m.N m.sc scope (ownN m own) && (t.names.all fun i => own.contains i) && plainX iter && mI m it tg iter && mT (m.blk scope) t tg && decide (cs.length ≤ 1) && mEs (m.blk scope) ifs cs && mE (m.blk scope) elt x
    | _ => false
  | .lc2 _ elt t it ifs t1 it1 ifs1 own own1, e => match e with
    | .ListComp x [⟨tg, iter, cs, 0⟩, ⟨tg1, iter1, cs1, 0⟩] scope _ => m.c && blkC m.N m.sc scope (ownN m own) && (t.names.all fun i => own.contains i) && (own1.all fun i => own.contains i) && (t1.names.all fun i => own1.contains i) && plainX iter && plainX iter1 && mI m it tg iter && mT (m.blk scope) t tg && decide (cs.length ≤ 1) && mEs (m.blk scope) ifs cs && mI (m.blk scope) it1 tg1 iter1 && mT (m.blk scope) t1 tg1 && decide (cs1.length ≤ 1) && mEs (m.blk scope) ifs1 cs1 && mE (m.blk scope) elt x
    | _ => false
  | .dc _ k v t it ifs own, e => match e with
    | .DictComp x y [⟨tg, iter, cs, 0⟩] scope _ => m.c && blkC m.N m.sc scope (ownN m own) && (t.names.all fun i => own.contains i) && plainX iter && mI m it tg iter && mT (m.blk scope) t tg && decide (cs.length ≤ 1) && mEs (m.blk scope) ifs cs && mE (m.blk scope) k x && mE (m.blk scope) v y
    | _ => false
def mFs (m : Mc) : Es → List Expr → Bool
  | .nil, es => es.isEmpty
  | .cons a r, es => match es with
    | .FormattedValue x c none _ :: xs => c == -1 && mE m a x && mFs m r xs
    | .Constant (.str s) j p :: xs => isConS a && mE m a (.Constant (.str s) j p) && mFs m r xs
    | _ => false
def mEs (m : Mc) : Es → List Expr → Bool
  | .nil, es => es.isEmpty
  | .cons a r, es => match es with
    | x :: xs => plainX x && mE m a x && mEs m r xs
    | [] => false
def mDs (m : Mc) : Es → List (Option Expr) → List Expr → Bool
  | .nil, ks, vs => ks.isEmpty && vs.isEmpty
  | .cons _ .nil, _, _ => false
  | .cons a (.cons b r), ks, vs => match ks, vs with
    | some x :: ks, y :: vs => mE m a x && mE m b y && mDs m r ks vs
    | _, _ => false
def mEo (m : Mc) : Eo → Option Expr → Bool
  | .none, none => true
  | .some a, some x => mE m a x
  | _, _ => false
def mT (m : Mc) : T → Expr → Bool
  | .name i, e => match e with
    | .Name x _ => nmAt m i x && isLoc m x
    | _ => false
  | .tup ts, e => match e with
    | .Tuple xs _ _ => m.c && mTs m ts xs
    | _ => false
  | .sub o i, e => match e with
    | .Subscript x y _ => plainX y && mE m o x && mE m i y
    | _ => false
  | .fld C i o, e => match e with
    | .Attribute x at_ _ => fldIs C i at_ && mE m o x
    | _ => false
def mTs (m : Mc) : Ts → List Expr → Bool
  | .nil, es => es.isEmpty
  | .cons t r, es => match es with
    | x :: xs => plainX x && mT m t x && mTs m r xs
    | [] => false
def mI (m : Mc) : It → Expr → Expr → Bool
  | .any a, _, e => m.c && mE m a e
  | .rng1 a, _, e => match e with
    | .Call (.Name y _) [x] [] _ => sEq "range" y && isGlo m y && plainX x && mE m a x
    | _ => false
  | .rng2 a b, _, e => match e with
    | .Call (.Name y _) [x, z] [] _ => sEq "range" y && isGlo m y && plainX x && plainX z && mE m a x && mE m b z
    | _ => false
  | .enum a, tg, e => match e with
    | .Call (.Name y _) [x] [] _ => sEq "enumerate" y && isGlo m y && plainX x && isTupE tg && mE m a x
    | _ => false
  | .zip a b, tg, e => match e with
    | .Call (.Name y _) [x, z] [] _ => sEq "zip" y && isGlo m y && plainX x && plainX z && isTupE tg && mE m a x && mE m b z
    | _ => false
  | _, _, _ => false
end
section
/-! the constants and functions that are named -/
variable (F : Nm → Spec → Prop) (C : Nm → Val → Prop) (M : Nat → Mq → Prop)
mutual
def okE : E → Prop
  | .glb x v => C x v
  | .bin _ a b => okE a ∧ okE b
  | .neg a => okE a
  | .cmp _ a b => okE a ∧ okE b
  | .chain _ _ a b c => okE a ∧ okE b ∧ okE c
  | .and es => okEs es
  | .or es => okEs es
  | .not a => okE a
  | .ife c a b => okE c ∧ okE a ∧ okE b
  | .call x sp es => F x sp ∧ okEs es
  | .isc D e => M D .isi ∧ okE e
  | .leno D sp o => M D (.own "__len__" sp) ∧ okE o
  | .stro D sp o => M D (.own "__str__" sp) ∧ okE o
  | .eqo D sp a b => M D (.own "__eq__" sp) ∧ M D .isi ∧ okE a ∧ okE b
  | .mth D n sp o es => M D (.mth n sp) ∧ okE o ∧ okEs es
  | .fld D _ o => M D .fld ∧ okE o
  | .bi _ es => okEs es
  | .isi a _ => okE a
  | .bm _ o es => okE o ∧ okEs es
  | .idx a b => okE a ∧ okE b
  | .slc _ a lo hi => okE a ∧ okEo lo ∧ okEo hi
  | .tup es => okEs es
  | .lst _ es => okEs es
  | .dict _ es => okEs es
  | .fz a => okE a
  | .lrg _ a => okE a
  | .rev _ a => okE a
  | .fst es => okEs es
  | .lc _ elt t it ifs _ => okE elt ∧ okTg t ∧ okI it ∧ okEs ifs
  | .lc2 _ elt t it ifs t1 it1 ifs1 _ _ => okE elt ∧ okTg t ∧ okI it ∧ okEs ifs ∧ okTg t1 ∧ okI it1 ∧ okEs ifs1
  | .dc _ k v t it ifs _ => okE k ∧ okE v ∧ okTg t ∧ okI it ∧ okEs ifs
  | _ => True
def okEs : Es → Prop
  | .nil => True
  | .cons e r => okE e ∧ okEs r
def okEo : Eo → Prop
  | .none => True
  | .some e => okE e
def okTg : T → Prop
  | .name _ => True
  | .tup ts => okTs ts
  | .sub o i => okE o ∧ okE i
  | .fld D _ o => M D .fld ∧ okE o
def okTs : Ts → Prop
  | .nil => True
  | .cons t r => okTg t ∧ okTs r
def okI : It → Prop
  | .any e => okE e
  | .rng1 e => okE e
  | .rng2 a b => okE a ∧ okE b
  | .enum e => okE e
  | .zip a b => okE a ∧ okE b
  | .items e => okE e
  | .values e => okE e
end
end
end Lw
set_option Elab.async false
set_option linter.all false
set_option maxRecDepth 100000
set_option maxHeartbeats 1000000
/-! Lw9: a text that matches keeps its meaning: expressions. -/
namespace Lw
open PySem L2 PyProof.Rows

/-! ### plain expressions -/
theorem star_plain {e : Expr} {es : List Expr} {env : Env} (h : plainX e = true) : starEach (e :: es) env = (false, eval e env) :: starEach es env := by
  cases e <;> first | rfl | cases h
theorem star_any {env : Env} {pos : Pos} : ∀ {es : List Expr}, es.all plainX = true → (backTo pos (starEach es env)).any (·.1) = false
  | [], _ => rfl
  | e :: es, h => by
    rw [List.all_cons, Bool.and_eq_true] at h
    rw [star_plain h.1]
    show (false || (backTo pos (starEach es env)).any (·.1)) = false
    rw [star_any h.2]; rfl
theorem star_few {env : Env} {pos : Pos} : ∀ {es : List Expr}, es.all plainX = true → (backTo pos (starEach es env)).all (fun x => !x.1) = true
  | [], _ => rfl
  | e :: es, h => by
    rw [List.all_cons, Bool.and_eq_true] at h
    rw [star_plain h.1]
    show (true && (backTo pos (starEach es env)).all (fun x => !x.1)) = true
    rw [star_few h.2]; rfl
theorem mark_plain {e : Expr} {op : CmpOp} (h : plainX e = true) : behindInMarks op e = false := by
  cases e <;> first | rfl | cases h
theorem ix_plain {e : Expr} (h : plainX e = true) : PlainIx e := by
  intro o i
  cases e <;> first | rfl | cases h
theorem fold_plain {e : Expr} {env : Env} (h : plainX e = true) (x : Value) : foldedSetIterable e env x = pure x := by
  cases e <;> first | rfl | cases h
theorem base_plain {o : Expr} {at_ : Str} {env : Env} (h : noCall o = true) : attributeBase o at_ env (eval o env) = eval o env := by
  cases o <;> first | rfl | (cases h; done) | skip
  rename_i f args kw pos
  cases args with
  | nil => cases h
  | cons a r => cases f <;> rfl
theorem mEs_plain {m : Mc} : ∀ {a : Es} {es : List Expr}, mEs m a es = true → es.all plainX = true
  | .nil, es, h => by
    cases es with
    | nil => rfl
    | cons _ _ => unfold mEs at h; cases h
  | .cons a r, es, h => by
    cases es with
    | nil => unfold mEs at h; cases h
    | cons x xs =>
      unfold mEs at h
      rw [Bool.and_eq_true, Bool.and_eq_true] at h
      rw [List.all_cons, Bool.and_eq_true]
      exact ⟨h.1.1, mEs_plain h.2⟩
theorem tst_of {v : Val} {P : Bool → Prop} (h : tstV v P) : ∃ b, v = .bl b ∧ P b := by
  cases v with
  | bl b => exact ⟨b, rfl, h⟩
  | _ => exact h.elim

section
variable {X : Cx} {W : L2.WX} {k : Nat} {m : Mc}
theorem pt_of {e : Expr} {w : TW} (h : PE X e (rdE X W w)) (he : ∀ whole, isTrue e X.env whole = (do let v ← whole; standAt e.pos; holding [v] (truthy v))) : PT X e (rdT X W w) := by
  refine PT.imp (pt_val h he) fun σ H Q ⟨ρ, env, h, Q1, E1, R, RE, w, af, ax⟩ => ⟨ρ, env, h, Q1, E1, R, RE, w, fun v h' q ρ' H' x g R' r => ?_, ax⟩
  obtain ⟨b, rfl, q2⟩ := af v h' q ρ' H' g R'
  cases r
  exact ⟨b, rfl, q2⟩
theorem nm_at (ct : Ct X W k m) {i : Nat} {x : Nm} (h : nmAt m i x = true) : X.N[i]? = some x := by
  unfold nmAt at h
  rw [ct.N]
  cases e : m.N[i]? with
  | none => rw [e] at h; cases h
  | some y => rw [e] at h; rw [sEq_eq h]
theorem vis_of (ct : Ct X W k m) {x : Nm} (h : isVis m x = true) : Vis X.env.scope x := by
  unfold isVis at h
  rw [lkp_eq] at h
  rw [ct.sc]
  split at h <;> first | exact .inl (by assumption) | exact .inr (.inl (by assumption)) | exact .inr (.inr (by assumption)) | cases h
theorem glo_of (ct : Ct X W k m) {x : Nm} (h : isGlo m x = true) : Gl X x := by
  unfold isGlo at h
  rw [lkp_eq] at h
  show X.env.scope.names.lookup x = _
  rw [ct.sc]
  split at h <;> first | assumption | cases h
theorem loc_of (ct : Ct X W k m) {x : Nm} (h : isLoc m x = true) : Loc X.env.scope x ∧ (X.fn x = true ∨ X.env.scope.names.lookup x = some .local) := by
  unfold isLoc at h
  rw [lkp_eq] at h
  rw [ct.sc]
  split at h
  · exact ⟨.inl (by assumption), .inr (by assumption)⟩
  · exact ⟨.inr (by assumption), .inl (ct.fn x h)⟩
  · cases h
theorem nm_ok {x : Nm} (h : okNm x = true) : (x == ("__debug__" : Str)) = false ∧ (x == ("__classdict__" : Str)) = false ∧ x ≠ "__name__" := by
  unfold okNm at h
  rw [Bool.and_eq_true, Bool.and_eq_true] at h
  obtain ⟨⟨h1, h2⟩, h3⟩ := h
  have e1 : sEq x "__debug__" = false := by cases q : sEq x "__debug__" <;> rw [q] at h1 <;> first | rfl | cases h1
  have e2 : sEq x "__classdict__" = false := by cases q : sEq x "__classdict__" <;> rw [q] at h2 <;> first | rfl | cases h2
  have e3 : sEq x "__name__" = false := by cases q : sEq x "__name__" <;> rw [q] at h3 <;> first | rfl | cases h3
  exact ⟨beq_false_of_ne (sEq_ne e1), beq_false_of_ne (sEq_ne e2), sEq_ne e3⟩

/-! ### leaves -/
theorem okS_of {l : List Nat} (h : okSb l = true) : okS l := fun c m => by
  have := List.all_eq_true.mp h c m
  exact of_decide_eq_true this
theorem pe_con_of {v : Val} {c : Const} {j : Nat} {pos : Pos} (h : mCon v c = true) : PE X (.Constant c j pos) (rdE X W (wpE (.con v))) := by
  have go : ∀ y, (∀ ρ H, RV X.K ρ H v y) → PE X (.Constant c j pos) (tC y) → PE X (.Constant c j pos) (rdE X W (wpE (.con v))) := fun y r p =>
    PE.imp p fun σ H Q ⟨ρ, env, h, Q1, E1, R, RE, w, af, ax⟩ => by
      unfold wpE at w
      exact Aft.now af R (r ρ H) w
  cases v <;> cases c <;> first | (unfold mCon at h; cases h; done) | skip
  · exact go .non (fun _ _ => .non) pe_non
  · unfold mCon at h
    rename_i a b
    rw [eq_of_beq h] at *
    exact go (.bl b) (fun _ _ => .bl b) pe_bl
  · unfold mCon at h
    rename_i a b
    rw [eq_of_beq h] at *
    exact go (.int b) (fun _ _ => .int b) pe_int
  · unfold mCon at h
    rename_i a b
    rw [Bool.and_eq_true] at h
    have e := eq_of_beq h.1
    refine go (.str b) (fun ρ H => ?_) pe_str
    have r : RV X.K ρ H (.str a) (.str (toS a)) := .str (okS_of h.2)
    have e2 : toS a = b := by rw [e, toS_of]
    rw [e2] at r
    exact r

/-! ### calls -/
theorem run_G {f : Addr} {sp : Spec} {pins : List (Addr × Obj)} {σ : L2.St} {H : Hp} {s : Shared} {Q : VK} {us : List Value} {xs : List V} (F : FnG X.prog X.w X.K X.mg X.base k f sp) (ct : Ct X W k m) (hc : m.c = true)
    (I : L2.Inv X pins σ H s) (r : Vals xs us) (h : spOf X.K X.mg sp xs H Q (WE W σ)) : wpAny (model X.prog X.w) X.A (call (.ref f) us) (EP X pins σ Q) X.xe s := by
  refine wpAny_call (codeAny_mono (F X.A X.stack s H us xs Q (WE W σ) (ct.room hc) ct.gd I.env0 r h) fun res s' hq => ?_)
  match res, hq with
  | .error e, hq => exact passAt ct.tk σ pins H s e s' I hq
  | .ok (.ret u), hq => exact I.after hq
theorem FnG.runs {X : Cx} {W : L2.WX} {k : Nat} {m : Mc} {j : Nat} {f : Addr} {sp : Spec} {σ : L2.St} {pins : List (Addr × Obj)} {H : Hp} {s : Shared} {Q : VK} {us : List Value} {xs : List V} {A : Around} (F : FnG X.prog X.w X.K X.mg X.base j f sp) (ct : Ct X W k m)
    (hr : Room j A) (hg : A.guards = some []) (e0 : Env0 X.prog X.w X.K X.mg X.base A X.stack s H) (I : L2.Inv X pins σ H s) (r : Vals xs us) (h : spOf X.K X.mg sp xs H Q (WE W σ)) : wpAny (model X.prog X.w) A (call (.ref f) us) (EP X pins σ Q) X.xe s := by
  refine wpAny_call (codeAny_mono (F A X.stack s H us xs Q (WE W σ) hr hg e0 r h) fun res s' hq => ?_)
  match res, hq with
  | .error e, hq => exact passAt ct.tk σ pins H s e s' I hq
  | .ok (.ret u), hq => exact I.after hq
theorem of_cl {mg : Str → Option Value} {C : Nat} {Ca : Addr} (h : clOf mg C = some Ca) : mg (cname C) = some (.ref Ca) := by
  unfold clOf at h
  split at h
  · cases h; assumption
  · cases h
/-- an object is made -/
theorem run_mk {C : Nat} {Ca f : Addr} {j : Nat} {sp0 sp : Spec} {pins : List (Addr × Obj)} {σ : L2.St} {H : Hp} {s : Shared} {Q : VK} {us : List Value} {xs : List V} (hcl : clOf X.mg C = some Ca) (M : Mk X.K Ca f) (F : FnG X.prog X.w X.K X.mg X.base j f sp0) (hj : j + 1 ≤ k) (hs : ∀ vs h Q Ex, sp vs h Q Ex → mkSp C sp0 vs h Q Ex)
    (ct : Ct X W k m) (hc : m.c = true) (I : L2.Inv X pins σ H s) (r : Vals xs us) (h : spOf X.K X.mg sp xs H Q (WE W σ)) : wpAny (model X.prog X.w) X.A (call (.ref Ca) us) (EP X pins σ Q) X.xe s := by
  obtain ⟨ρ, hv, vs, Q1, E1, R, rv, q, af, ax⟩ := h
  have q := hs _ _ _ _ q
  have hx : H (s.heap.objs.size + 1) = none := I.hok.fresh (Nat.le_succ _)
  have hd : H s.heap.objs.size = none := I.hok.fresh (Nat.le_refl _)
  have ne : s.heap.objs.size ≠ s.heap.objs.size + 1 := Nat.ne_of_lt (Nat.lt_succ_self _)
  have G1 : Go X.K ρ H ρ (upd H s.heap.objs.size (.own (s.heap.objs.size + 1))) := Go.laid hd
  have R1 : Rel X.K X.mg ρ hv (upd H s.heap.objs.size (.own (s.heap.objs.size + 1))) := R.laid hd
  have hx1 : (upd H s.heap.objs.size (.own (s.heap.objs.size + 1))) (s.heap.objs.size + 1) = none := by rw [upd_ne ne.symm]; exact hx
  have G2 := Go.new (u := .ins Ca s.heap.objs.size []) R1 hx1
  have R2 : Rel X.K X.mg (rhoN ρ hv.nx (s.heap.objs.size + 1)) (hv.al (.ins C (List.replicate (cflds C).length none))) (upd (upd H s.heap.objs.size (.own (s.heap.objs.size + 1))) (s.heap.objs.size + 1) (.ins Ca s.heap.objs.size [])) := by
    refine R1.new hx1 ⟨Ca, s.heap.objs.size, [], ⟨of_cl hcl, ?_⟩, upd_same, ?_⟩
    · show ρ.cl C = some Ca
      rw [R.cl]; exact hcl
    · refine ⟨by rw [List.length_replicate], Nat.zero_le _, fun i f hf => ?_, fun _ _ => rfl⟩
      have hi : i < (cflds C).length := (List.getElem?_eq_some_iff.mp hf).1
      rw [List.getElem?_replicate, if_pos hi]
      exact trivial
  have I2 := Inv.made (C := Ca) I
  have G := G1.trans G2
  have hr := (ct.room hc).mono hj
  refine wpAny_call (make_map (f := f) I.kIn M.makes M.init (beq_iff_eq.mp M.fn) (codeAny_mono (F _ X.stack _ _ (Value.ref (s.heap.objs.size + 1) :: us) (V.ref (s.heap.objs.size + 1) :: xs) (fun v H2 => v = .non ∧ Q (.ref (s.heap.objs.size + 1)) H2) (WE W σ) (hr.make Ca us []) ?_ (I2.env0.make Ca us []) (.cons rfl r) ?_) fun r s' hq' => ?_))
  · have : (X.A.under (.builtin "type.__call__" ⟨.ref Ca :: us, []⟩)).guards = X.A.guards := by first | rfl | simp [Around.under, Code.guards, pushGuards]
    rw [this]; exact ct.gd
  · refine ⟨_, _, .ref hv.nx :: vs, _, _, R2, .cons (.ref rhoN_new) (rv.mono G), q, fun v h' q ρ' H' z g R' r => ?_, fun x h' q ρ' H' cls d g R' rx => ?_⟩
    · obtain ⟨rfl, q⟩ := q
      cases r
      refine ⟨rfl, ?_⟩
      have rr : RV X.K ρ' H' (.ref hv.nx) (.ref (s.heap.objs.size + 1)) := .ref (g.le _ _ rhoN_new)
      rcases q with ⟨w, h3, fz, q⟩ | q
      · obtain ⟨ρ3, g3, R3, r3⟩ := Fz.ok fz R' rr
        exact (Aft0.gc R af) w h3 q ρ3 H' _ (G.trans (g.trans g3)) R3 r3
      · exact af _ h' q ρ' H' _ (G.trans g) R' rr
    · rcases q with q | q
      · exact (AftX0.gc R ax) x h' q ρ' H' cls d (G.trans g) R' rx
      · exact ax x h' q ρ' H' cls d (G.trans g) R' rx
  · cases r with
    | error e =>
      have := passAt ct.tk σ pins _ _ e s' I2 hq'
      exact this
    | ok fl =>
      cases fl with
      | ret u =>
        obtain ⟨v, H', I3, rv, ev, q3⟩ := I2.after hq'
        subst ev
        exact ⟨rv, ⟨V.ref (s.heap.objs.size + 1), H', I3, rfl, q3⟩⟩
      | next => exact False.elim hq'
      | brk => exact False.elim hq'
      | cont => exact False.elim hq'
theorem pe_callG {x : Nm} {sp : Spec} {a : Es} {es : List Expr} {p pos : Pos} (ct : Ct X W k m) (hc : m.c = true) (hg : Gl X x) (hx : (x == ("__debug__" : Str)) = false) (F : FOk X.prog X.w X.K X.mg X.base k x sp)
    (ha : PA X es (rdA X W (wpEs a))) (hp : es.all plainX = true) (hn : es = [] → a = .nil) : PE X (.Call (.Name x p) es [] pos) (rdE X W (wpE (.call x sp a))) := by
  obtain ⟨f, hm, hk, run⟩ : ∃ f, X.mg x = some (.ref f) ∧ PySem.W.keepIn X.K (.ref f) = true ∧ ∀ {pins : List (Addr × Obj)} {σ : L2.St} {H : Hp} {s : Shared} {Q : VK} {us : List Value} {xs : List V},
      L2.Inv X pins σ H s → Vals xs us → spOf X.K X.mg sp xs H Q (WE W σ) → wpAny (model X.prog X.w) X.A (call (.ref f) us) (EP X pins σ Q) X.xe s := by
    rcases F with ⟨f, hm, hk, F⟩ | ⟨C, Ca, f, j, sp0, e, hcl, M, hj, F, hs⟩
    · exact ⟨f, hm, hk, fun I r h => run_G F ct hc I r h⟩
    · subst e
      exact ⟨Ca, of_cl hcl, M.kp, fun I r h => run_mk hcl M F hj hs ct hc I r h⟩
  have key : ∀ {σ : L2.St} {H : Hp} {Q : VK}, rdE X W (wpE (.call x sp a)) σ H Q → rdA X W (wpEs a) σ H (fun xs H1 => spOf X.K X.mg sp xs H1 Q (WE W σ)) := fun {σ H Q} ⟨ρ, env, h, Q1, E1, R, RE, w, af, ax⟩ => by
    unfold wpE at w
    exact ⟨ρ, env, h, _, E1, R, RE, w, fun vs h' q ρ' H' xs g R' rv => ⟨ρ', h', vs, Q1, E1, R', rv, q, af.mono g, ax.mono g⟩, ax⟩
  cases es with
  | nil =>
    obtain rfl := hn rfl
    refine ⟨fun pins s σ H Q I h => wpAny_Call_Name_kw (ld_glob I hg hm (PySem.W.callWith_K0 I.kIn hk ?_) hx)⟩
    obtain ⟨ρ, env, h, Q1, E1, R, RE, w, af, ax⟩ := h
    unfold wpE wpEs at w
    exact run (xs := []) I .nil ⟨ρ, h, [], Q1, E1, R, .nil, w, af, ax⟩
  | cons e es =>
    rw [List.all_cons, Bool.and_eq_true] at hp
    refine ⟨fun pins s σ H Q I h => wpAny_Call_Name_kw (ld_glob I hg hm ?_ hx)⟩
    refine PySem.W.callWith_K (h₀ := X.base) I.ok.mod.kin hk (thn (ha.run pos pins s σ H _ I (key h)) fun us s1 ⟨xs, H1, I1, r, q⟩ => ⟨I1.kIn, ?_⟩) (star_plain hp.1) (star_any hp.2)
    exact run I1 r q

/-! ### iterators -/
theorem It.at_list {tg : Expr} {pins : List (Addr × Obj)} {σ : L2.St} {H : Hp} {s : Shared} {a : Addr} {xs : List V} {R : L2.It → Hp → Prop} (I : L2.Inv X pins σ H s) (hq : SqL X.K H a xs) (q : R (Itl X.K a) H) :
    wpAny (model X.prog X.w) X.A (pyIter (.ref a)) (PIE X pins σ tg R) X.xe s := by
  obtain ⟨its, rv, p, hz⟩ := I.list hq
  exact wpAny_pyIter_list p.isList (pi_one (tk := s.toks) I _ (turn_list a _) ⟨_, Heap.get?_push_size _ rfl, rfl, rfl⟩ q)
theorem It.at_tup {tg : Expr} {pins : List (Addr × Obj)} {σ : L2.St} {H : Hp} {s : Shared} {a : Addr} {xs : List V} {R : L2.It → Hp → Prop} (I : L2.Inv X pins σ H s) (hq : SqT X.K H a xs) (q : R (Itt X.K a) H) :
    wpAny (model X.prog X.w) X.A (pyIter (.ref a)) (PIE X pins σ tg R) X.xe s := by
  obtain ⟨its, rv, p, hz⟩ := I.tuple hq
  exact wpAny_pyIter_tuple (show s.heap.IsTuple a its.toArray from p) (pi_one (tk := s.toks) I _ (turn_tuple a _) ⟨_, Heap.get?_push_size _ rfl, rfl, rfl⟩ q)
theorem It.at_str {tg : Expr} {pins : List (Addr × Obj)} {σ : L2.St} {H : Hp} {s : Shared} {x : Str} {t : Tok} {R : L2.It → Hp → Prop} (I : L2.Inv X pins σ H s) (q : R (Its x) H) :
    wpAny (model X.prog X.w) X.A (pyIter (.str x t)) (PIE X pins σ tg R) X.xe s := by
  cases ha : x.cps.all (· < 128) with
  | false => exact wpAny_pyIter_wide ha (pi_one (tk := s.toks) I _ (turn_str _ x t "str_iterator" (.inr rfl)) ⟨_, Heap.get?_push_size _ rfl, rfl, rfl⟩ q)
  | true => exact wpAny_pyIter_ascii ha (pi_one (tk := s.toks) I _ (turn_str _ x t "str_ascii_iterator" (.inl rfl)) ⟨_, Heap.get?_push_size _ rfl, rfl, rfl⟩ q)
theorem Wk.at_ {ρ : Rho} {H : Hp} {J : L2.It} {w : Wk} {xs : List V} (hr : RVs X.K ρ H w.items xs)
    (go : ∀ i ρ2 h2 H2, Gm X.K ρ H ρ2 H2 → Rel X.K X.mg ρ2 h2 H2 → w.G h2 → (i < xs.length → J.go i H2) ∧ (xs.length ≤ i → J.stop i H2) ∧ ∀ x y H', xs[i]? = some y → J.yld i H2 x H' → H' = H2 ∧ x = y) : WkR X w ρ H J where
  go := fun i ρ2 h2 H2 g R hG hi => (go i ρ2 h2 H2 g R hG).1 (by rw [← hr.length]; exact hi)
  stop := fun i ρ2 h2 H2 g R hG hi => (go i ρ2 h2 H2 g R hG).2.1 (by rw [← hr.length]; exact hi)
  yld := fun i ρ2 h2 H2 x H' v g R hG hv hy => by
    obtain ⟨y, e, r⟩ := hr.get hv
    obtain ⟨e1, e2⟩ := (go i ρ2 h2 H2 g R hG).2.2 x y H' e hy
    subst e1 e2
    exact ⟨Go.refl, R, r.monoM g⟩
theorem RVs.signs {K : PySem.W.Frag} {ρ : Rho} {H : Hp} : ∀ l : List Nat, okS l → RVs K ρ H (l.map fun c => .str [c]) (l.map fun c => .str (toS [c]))
  | [], _ => .nil
  | c :: r, ok => .cons (.str (fun d m => by rw [List.mem_singleton.mp m]; exact ok c List.mem_cons_self)) (RVs.signs r fun d m => ok d (List.mem_cons_of_mem _ m))
theorem pi_any {tg e : Expr} {a : E} (he : PE X e (rdE X W (wpE a))) : PI X tg e (rdI X W (wpI (.any a))) := by
  refine ⟨fun pins s σ H R I ⟨ρ, env, h, K1, E1, Rl, RE, w, af, ax⟩ => ?_⟩
  unfold wpI at w
  refine thn (he.run pins s σ H (fun x H1 => ∃ ρ1 h1 v, Go X.K ρ H ρ1 H1 ∧ Rel X.K X.mg ρ1 h1 H1 ∧ RV X.K ρ1 H1 v x ∧ itAny v h1 K1) I ⟨ρ, env, h, _, E1, Rl, RE, w, fun v h' q ρ' H' x g R' r => ⟨ρ', h', v, g, R', r, q⟩, ax⟩) fun u s1 ⟨x, H1, I1, ru, ρ1, h1, v, g1, R1, rv, q⟩ => ?_
  cases rv with
  | @str l ok =>
    obtain ⟨t, rfl⟩ := ru
    have hl : (toS l).cps.size = l.length := by simp [toS]
    have rs : RVs X.K ρ1 H1 (l.map fun c => .str [c]) (l.map fun c => .str (toS [c])) := RVs.signs l ok
    refine It.at_str I1 (af _ h1 q.2 ρ1 H1 _ g1 R1 (Wk.at_ rs fun i ρ2 h2 H2 _ _ _ => ⟨fun hi => ?_, fun hi => ?_, fun x y H' e hy => ?_⟩))
    · show i < (toS l).cps.size
      rw [hl]; rw [List.length_map] at hi; exact hi
    · show (toS l).cps.size ≤ i
      rw [hl]; rw [List.length_map] at hi; exact hi
    · obtain ⟨e1, c, e2, e3⟩ := hy
      refine ⟨e1, ?_⟩
      have e4 : l[i]? = some c := by
        have : (toS l).cps[i]? = l[i]? := by simp [toS]
        rw [← this]; exact e2
      rw [List.getElem?_map, e4] at e
      cases e
      exact e3
  | @tup vs b xs eb rb =>
    cases ru
    refine It.at_tup I1 (.of eb) (af _ h1 q ρ1 H1 _ g1 R1 (Wk.at_ rb fun i ρ2 h2 H2 g2 _ _ => ?_))
    have e2 : SqT X.K H2 b xs := .of (g2.tp _ _ eb)
    exact ⟨fun hi => ⟨xs, xs[i], e2, by simp [hi]⟩, fun hi => ⟨xs, e2, hi⟩, fun x y H' e hy => ⟨hy.1, by have := hy.2 xs e2; rw [e] at this; cases this; rfl⟩⟩
  | @cl vs b xs eb rb =>
    cases ru
    rcases eb.sq with e1 | e1
    · refine It.at_list I1 e1 (af _ h1 q ρ1 H1 _ g1 R1 (Wk.at_ rb fun i ρ2 h2 H2 g2 _ _ => ?_))
      have e2 : SqL X.K H2 b xs := by
        rcases eb with ⟨o, y⟩ | y | y
        · exact .inl (.inr ⟨o, g2.cf _ _ _ y⟩)
        · exact .inr y
        · rcases e1 with e1 | e1
          · obtain ⟨oo, its, n, k1, k2, k3, k4, k5⟩ := y
            exact absurd (I1.bs _ _ (I1.ok.mod.kin _ _ k1)).2 (by rcases e1 with e1 | ⟨o, e1⟩ <;> (rw [e1]; simp))
          · obtain ⟨oo, its, n, k1, k2, k3, k4, k5⟩ := y
            obtain ⟨o2, its2, n2, l1, l2, _⟩ := e1
            rw [k1] at l1; cases l1
            rw [k2] at l2; injection l2 with l2; exact absurd l2 (by decide)
      exact ⟨fun hi => ⟨xs, xs[i], e2, by simp [hi]⟩, fun hi => ⟨xs, e2, hi⟩, fun x y H' e hy => ⟨hy.1, by have := hy.2 xs e2; rw [e] at this; cases this; rfl⟩⟩
    · refine It.at_tup I1 e1 (af _ h1 q ρ1 H1 _ g1 R1 (Wk.at_ rb fun i ρ2 h2 H2 g2 _ _ => ?_))
      have e2 : SqT X.K H2 b xs := by
        rcases eb with ⟨o, y⟩ | y | y
        · rcases e1 with e1 | e1
          · rcases e1 with e1 | ⟨o2, e1⟩ <;> (rw [y] at e1; cases e1)
          · obtain ⟨o2, its2, n2, l1, _⟩ := e1
            have := (I1.bs _ _ (I1.ok.mod.kin _ _ l1)).2
            rw [y] at this; cases this
        · obtain ⟨oo, its, n, k1, k2, _⟩ := y
          rcases e1 with e1 | e1
          · exact absurd (I1.bs _ _ (I1.ok.mod.kin _ _ k1)).2 (by rcases e1 with e1 | ⟨o, e1⟩ <;> (rw [e1]; simp))
          · obtain ⟨o2, its2, n2, l1, l2, _⟩ := e1
            rw [k1] at l1; cases l1
            rw [k2] at l2; injection l2 with l2; exact absurd l2 (by decide)
        · exact .inr y
      exact ⟨fun hi => ⟨xs, xs[i], e2, by simp [hi]⟩, fun hi => ⟨xs, e2, hi⟩, fun x y H' e hy => ⟨hy.1, by have := hy.2 xs e2; rw [e] at this; cases this; rfl⟩⟩
  | @fl vs b xs fb eb rb =>
    cases ru
    refine It.at_list I1 (.of eb) (af _ h1 q ρ1 H1 _ g1 R1 (Wk.at_ rb fun i ρ2 h2 H2 g2 _ _ => ?_))
    have e2 : SqL X.K H2 b xs := .of (g2.fh _ _ eb fb)
    exact ⟨fun hi => ⟨xs, xs[i], e2, by simp [hi]⟩, fun hi => ⟨xs, e2, hi⟩, fun x y H' e hy => ⟨hy.1, by have := hy.2 xs e2; rw [e] at this; cases this; rfl⟩⟩
  | @ref n b eb =>
    cases ru
    obtain ⟨vs, gn, q⟩ := q
    obtain ⟨a1, xs, d1, e1, rb⟩ := R1.lst gn
    rw [eb] at d1; cases d1
    refine It.at_list I1 (.of e1) (af _ h1 q ρ1 H1 _ g1 R1 ?_)
    have look : ∀ ρ2 h2 H2, Gm X.K ρ1 H1 ρ2 H2 → Rel X.K X.mg ρ2 h2 H2 → h2.g n = some (.lst vs) → ∃ ys, SqL X.K H2 b ys ∧ RVs X.K ρ2 H2 vs ys := fun ρ2 h2 H2 g2 R2 hG => by
      obtain ⟨a2, ys, d2, e2, rb2⟩ := R2.lst hG
      have d3 := g2.le _ _ eb
      rw [d2] at d3; cases d3
      exact ⟨ys, .of e2, rb2⟩
    refine ⟨fun i ρ2 h2 H2 g2 R2 hG hi => ?_, fun i ρ2 h2 H2 x H' v g2 R2 hG hv hy => ?_, fun i ρ2 h2 H2 g2 R2 hG hi => ?_⟩
    · obtain ⟨ys, s2, r2⟩ := look ρ2 h2 H2 g2 R2 hG
      have hi' : i < ys.length := by rw [← r2.length]; exact hi
      exact ⟨ys, ys[i], s2, by simp [hi']⟩
    · obtain ⟨ys, s2, r2⟩ := look ρ2 h2 H2 g2 R2 hG
      obtain ⟨y1, y2⟩ := hy
      subst y1
      obtain ⟨z, z1, z2⟩ := r2.get hv
      have := y2 ys s2
      rw [z1] at this; cases this
      exact ⟨Go.refl, R2, z2⟩
    · obtain ⟨ys, s2, r2⟩ := look ρ2 h2 H2 g2 R2 hG
      exact ⟨ys, s2, by rw [← r2.length]; exact hi⟩
  | _ => exact q.elim
end
end Lw
set_option Elab.async false
set_option linter.all false
set_option maxRecDepth 100000
set_option maxHeartbeats 1000000
/-! Lw10: comprehensions; the meaning of matching expressions. -/
namespace Lw
open PySem L2 PyProof.Rows
abbrev W0 : L2.WX := fun _ _ _ _ => False
section
variable {X : Cx} {W : L2.WX} {k : Nat} {m : Mc}
theorem Ct.blk (ct : Ct X W k m) (s : Shared) (H : Hp) (scope : Scope) (cl : List (Str × Addr)) (C : Addr) (fp : List Addr) : Ct (X.blk s H scope (compEnvC scope cl C X.env) fp) W0 k (m.blk scope) where
  N := ct.N
  sc := by
    show relS scope X.env.scope = relS scope m.sc
    rw [ct.sc]
  fn := fun x h => h
  nd := ct.nd
  calm := ct.calm
  tk := fun u s' ⟨_, _, _, _, _, _, _, _, _, _, _, _, _, _, _, _, f⟩ => f.elim
  room := ct.room
  un := ct.un
  gd := ct.gd
  sys := ct.sys
  bi := ct.bi
theorem Same.wiped (own : List Nat) (σ : L2.St) : Same own σ (L2.wipe σ own) := ⟨wipe_length σ own, fun i h => by rw [wipe_get, if_neg h]⟩
theorem own_ix (ct : Ct X W k m) {own : List Nat} {scope : Scope} (h : blkC m.N m.sc scope (ownN m own) = true) : BlkOk X.N X.env.scope scope (ownN m own) ∧ (ownN m own).map (·.2) = own := by
  refine ⟨by rw [ct.N, ct.sc]; exact blkOk_by h, ?_⟩
  unfold ownN
  rw [List.map_map]
  exact (List.map_congr_left fun a _ => rfl).trans (List.map_id own)

/-- a list that stood not there at the start is ours now, or changes no more -/
theorem Aft.doneL {ρ ρ1 ρ2 : Rho} {h2 : Hv} {H H1 H2 : Hp} {D : Addr} {Q1 : K1} {Q : VK} {z : Bool} {acc : List Val} {xs : List V} (af : Aft X ρ H Q1 Q) (g1 : Go X.K ρ H ρ1 H1) (g2 : Go X.K ρ1 H1 ρ2 H2) (hD : H1 D = none) (R2 : Rel X.K X.mg ρ2 h2 H2)
    (nD : ∀ n, ρ2 n ≠ some D) (fD : ¬ ρ2.fa D) (eD : H2 D = some (.lst xs)) (ra : RVs X.K ρ2 H2 acc xs) (q : Lw.newL z acc h2 Q1) : Q (.ref D) H2 := by
  cases z with
  | false => exact af _ _ q _ _ _ (g1.trans (Go.adopt g2 hD R2)) (R2.adopt nD fD ⟨xs, eD, ra.monoM (Gm.adopt R2)⟩) (.ref rhoN_new)
  | true => exact af _ _ q _ _ _ (g1.trans (Go.keep g2 hD)) (R2.keep nD ⟨_, eD⟩) (.fl (.inr rfl) eD (ra.monoM Gm.keep))
theorem Aft.doneD {ρ ρ1 ρ2 : Rho} {h2 : Hv} {H H1 H2 : Hp} {D : Addr} {Q1 : K1} {Q : VK} {z : Bool} {acc : List (Val × Val)} {u : HO} (af : Aft X ρ H Q1 Q) (g1 : Go X.K ρ H ρ1 H1) (g2 : Go X.K ρ1 H1 ρ2 H2) (hD : H1 D = none) (R2 : Rel X.K X.mg ρ2 h2 H2)
    (nD : ∀ n, ρ2 n ≠ some D) (fD : ¬ ρ2.fa D) (eD : H2 D = some u) (ra : DicOf X.K ρ2 H2 acc u) (q : Lw.newD z acc h2 Q1) : Q (.ref D) H2 := by
  cases z with
  | false => exact af _ _ q _ _ _ (g1.trans (Go.adopt g2 hD R2)) (R2.adopt nD fD ⟨u, ra.monoM (Gm.adopt R2), .inl ⟨rfl, eD⟩⟩) (.ref rhoN_new)
  | true =>
    refine af _ _ q _ _ _ (g1.trans (Go.keep g2 hD)) (R2.keep nD ⟨_, eD⟩) ?_
    rcases ra with ⟨ks, rfl, d⟩ | ⟨ks, rfl, d⟩
    · exact .fdK (.inr rfl) eD ((RDk.of d).monoM Gm.keep)
    · exact .fdT (.inr rfl) eD ((RDt.of d).monoM Gm.keep)
theorem pe_lc_of {z : Bool} {elt tg iter : Expr} {ifs : List Expr} {scope : Scope} {pos : Pos} {own : List Nat} {e : E} {t : T} {it : It} {es : Es} (ct : Ct X W k m) (hc : m.c = true)
    (hb : blkC m.N m.sc scope (ownN m own) = true) (ho : ∀ i ∈ t.names, i ∈ own) (hp : plainX iter = true) (hi : PI X tg iter (rdI X W (wpI it)))
    (hg : ∀ (s : Shared) (H : Hp) (C : Addr) (cl : List (Str × Addr)) (fp : List Addr), PG (X.blk s H scope (compEnvC scope cl C X.env) fp) tg (rdG (X.blk s H scope (compEnvC scope cl C X.env) fp) t.names (wpT t)))
    (ht : ∀ (s : Shared) (H : Hp) (C : Addr) (cl : List (Str × Addr)) (fp : List Addr), PTs (X.blk s H scope (compEnvC scope cl C X.env) fp) ifs (rdF (X.blk s H scope (compEnvC scope cl C X.env) fp) (wpIfs es)))
    (he : ∀ (s : Shared) (H : Hp) (C : Addr) (cl : List (Str × Addr)) (fp : List Addr), PE (X.blk s H scope (compEnvC scope cl C X.env) fp) elt (rdE (X.blk s H scope (compEnvC scope cl C X.env) fp) W0 (wpE e))) :
    ∃ (g : TG) (tt : TT) (te : TE), (∀ σ H Q, rdE X W (wpE (.lc z e t it es own)) σ H Q → tLc (rdI X W (wpI it)) g tt te ((ownN m own).map (·.2)) σ H Q) ∧
      (∀ (s : Shared) (H : Hp) (C : Addr) (cl : List (Str × Addr)) (fp : List Addr), PG (X.blk s H scope (compEnvC scope cl C X.env) fp) tg g) ∧ (∀ (s : Shared) (H : Hp) (C : Addr) (cl : List (Str × Addr)) (fp : List Addr), PTs (X.blk s H scope (compEnvC scope cl C X.env) fp) ifs tt) ∧
      (∀ (s : Shared) (H : Hp) (C : Addr) (cl : List (Str × Addr)) (fp : List Addr), PE (X.blk s H scope (compEnvC scope cl C X.env) fp) elt te) := by
  obtain ⟨ok, e1⟩ := own_ix ct hb
  refine ⟨rdG X t.names (wpT t), rdF X (wpIfs es), rdE X W0 (wpE e), fun σ H Q h => ?_, fun s H C cl fp => hg s H C cl fp, fun s H C cl fp => ht s H C cl fp, fun s H C cl fp => he s H C cl fp⟩
  rw [e1]
  obtain ⟨ρ, env, hv, Q1, E1, R, RE, w, af, ax⟩ := h
  unfold wpE at w
  refine ⟨ρ, env, hv, _, E1, R, RE, w, fun wk h1 q ρ1 H1 J g1 R1 wr D hD => ?_, ax⟩
  have hnD : ∀ n, ρ1 n ≠ some D := fun n z => R1.th _ _ z hD
  have hfD : ¬ ρ1.fa D := fun z => R1.fa _ z hD
  refine ⟨fun i mm H2 => mm = wk.items.length - i ∧ i ≤ wk.items.length ∧ ∃ ρ2 h2 acc xs, Go X.K ρ1 H1 ρ2 H2 ∧ Rel X.K X.mg ρ2 h2 H2 ∧ ((∀ n, ρ2 n ≠ some D) ∧ ¬ ρ2.fa D) ∧ H2 D = some (.lst xs) ∧ RVs X.K ρ2 H2 acc xs ∧
    compW wk (fun x h2 K => wpT t x (wipeE env own) h2 K) (fun e2 h2 K => wpIfs es e2 h2 K) (fun e2 h2 K => wpE e e2 h2 K noE) (wk.items.drop i) h2 acc (fun acc h3 => newL z acc h3 Q1),
    ⟨_, rfl, Nat.zero_le _, ρ1, h1, [], [], Go.fill Go.refl hD, R1.laid hD, ⟨hnD, hfD⟩, upd_same, .nil, q⟩, ?_⟩
  rintro i mm H2 ⟨rfl, hi, ρ2, h2, acc, xs, g2, R2, nD, eD, ra, q⟩
  by_cases hlt : i < wk.items.length
  · rw [List.drop_eq_getElem_cons hlt] at q
    obtain ⟨hG, q⟩ := q
    refine .inr ⟨wr.go i ρ2 h2 H2 g2.gm R2 hG hlt, fun H3 => ∃ ρ3 h3 acc xs, Go X.K ρ1 H1 ρ3 H3 ∧ Rel X.K X.mg ρ3 h3 H3 ∧ ((∀ n, ρ3 n ≠ some D) ∧ ¬ ρ3.fa D) ∧ H3 D = some (.lst xs) ∧ RVs X.K ρ3 H3 acc xs ∧
      compW wk (fun x h2 K => wpT t x (wipeE env own) h2 K) (fun e2 h2 K => wpIfs es e2 h2 K) (fun e2 h2 K => wpE e e2 h2 K noE) (wk.items.drop (i + 1)) h3 acc (fun acc h3 => newL z acc h3 Q1),
      fun H' z => ⟨wk.items.length - (i + 1), by omega, rfl, hlt, z⟩, fun x H' y => ?_⟩
    obtain ⟨gy, Ry, rx⟩ := wr.yld i ρ2 h2 H2 x H' wk.items[i] g2.gm R2 hG (List.getElem?_eq_getElem hlt) y
    have g3 := g2.trans gy
    -- what stands at D stays
    have keepD : ∀ {ρ' H''}, Go X.K ρ2 H' ρ' H'' → H'' D = some (.lst xs) ∧ ((∀ n, ρ' n ≠ some D) ∧ ¬ ρ'.fa D) := fun {ρ' H''} g => by
      have eD' : H' D = some (.lst xs) := gy.fr D _ eD nD.1
      exact ⟨g.fr D _ eD' nD.1, fun n z => (g.nw n D z).elim (nD.1 n) fun z2 => (by rw [eD'] at z2; cases z2), Go.not_fa g eD' nD.1 nD.2⟩
    have REi : REv X.K ρ2 H' (wipeE env own) (wipe σ own) := ((RE.mono (g1.trans g3)).wipe own)
    refine ⟨ρ2, wipeE env own, h2, wk.items[i], _, Ry, REi, rx, q, fun env3 h3 hk ρ3 H3 σ3 gT R3 RE3 sm => ⟨?_, ?_⟩⟩
    · exact (sm.sub ho).wipe.trans (Same.wiped own σ).wipe
    · refine ⟨ρ3, env3, h3, _, R3, RE3, hk, fun b h4 hb ρ4 H4 gF R4 => ?_⟩
      have RE4 := RE3.mono gF
      have g4 := gT.trans gF
      cases b with
      | false =>
        simp only [Bool.false_eq_true, ↓reduceIte] at hb ⊢
        obtain ⟨d1, d2⟩ := keepD g4
        exact ⟨ρ4, h4, acc, xs, g3.trans g4, R4, d2, d1, ra.mono (gy.trans g4), hb⟩
      | true =>
        simp only [↓reduceIte] at hb ⊢
        refine ⟨ρ4, env3, h4, _, noE, R4, RE4, hb, fun v h5 hq ρ5 H5 y5 gE R5 ry => ?_, noX⟩
        obtain ⟨d1, d2⟩ := keepD (g4.trans gE)
        obtain ⟨hl, hq⟩ := hq
        have ra5 := ra.mono (gy.trans (g4.trans gE))
        have gm : Gm X.K ρ5 H5 ρ5 (upd H5 D (.lst (xs ++ [y5]))) := Gm.fill ⟨_, d1, NoCs.lst _⟩ d2.2
        refine ⟨xs, d1, by rw [← ra.length]; exact hl, ρ5, h5, acc ++ [v], xs ++ [y5], Go.fill (g3.trans (g4.trans gE)) hD, R5.fill d2.1 d2.2 ⟨_, d1, NoCs.lst _⟩, d2, upd_same, (ra5.snoc ry).monoM gm, hq⟩
  · have e : i = wk.items.length := by omega
    subst e
    rw [List.drop_length] at q
    obtain ⟨hG, q⟩ := q
    refine .inl ⟨wr.stop _ ρ2 h2 H2 g2.gm R2 hG (Nat.le_refl _), ?_⟩
    exact Aft.doneL af g1 g2 hD R2 nD.1 nD.2 eD ra q
theorem tyN_bi : ∀ t : Ty, tyB t = true → Str.ofString (tyN t) ∈ biNames ∧ bootBuiltins (Str.ofString (tyN t)) = some (.type (tyN t)) ∧ Str.ofString (tyN t) ≠ "__name__" ∧ (Str.ofString (tyN t) == ("__debug__" : Str)) = false := by
  intro t h
  cases t <;> first | decide +kernel | (cases h; done)
theorem biName_bi : ∀ b : Bi, biName b ∈ biNames ∧ bootBuiltins (biName b) = some (biVal b) ∧ biName b ≠ "__name__" ∧ (biName b == ("__debug__" : Str)) = false := by
  intro b
  cases b with
  | list z => exact (by decide +kernel : biName (.list true) ∈ biNames ∧ bootBuiltins (biName (.list true)) = some (biVal (.list true)) ∧ biName (.list true) ≠ "__name__" ∧ (biName (.list true) == ("__debug__" : Str)) = false)
  | dict z => exact (by decide +kernel : biName (.dict true) ∈ biNames ∧ bootBuiltins (biName (.dict true)) = some (biVal (.dict true)) ∧ biName (.dict true) ≠ "__name__" ∧ (biName (.dict true) == ("__debug__" : Str)) = false)
  | sorted z => exact (by decide +kernel : biName (.sorted true) ∈ biNames ∧ bootBuiltins (biName (.sorted true)) = some (biVal (.sorted true)) ∧ biName (.sorted true) ≠ "__name__" ∧ (biName (.sorted true) == ("__debug__" : Str)) = false)
  | _ => decide +kernel
theorem pe_ty (ct : Ct X W k m) {t : Ty} {e : Expr} (h : mTy m t e = true) : plainX e = true ∧ PE X e (tC (.ty (tyN t))) := by
  unfold mTy at h
  split at h
  · rename_i x p
    rw [Bool.and_eq_true, Bool.and_eq_true] at h
    obtain ⟨⟨h1, h2⟩, h3⟩ := h
    have e := sEq_eq h2
    subst e
    obtain ⟨a, b, c, d⟩ := tyN_bi t h1
    exact ⟨rfl, pe_bltn (glo_of ct h3) (ct.bi _ a) b rfl c d⟩
  · cases h
theorem pa_tys (ct : Ct X W k m) : ∀ {ts : List Ty} {es : List Expr}, mTys m ts es = true → es.all plainX = true ∧ ts.all tyB = true ∧ PA X es (fun _ H Q => Q (ts.map fun t => V.ty (tyN t)) H)
  | [], [], _ => ⟨rfl, rfl, pa_nil⟩
  | [], _ :: _, h => by cases h
  | _ :: _, [], h => by cases h
  | t :: ts, e :: es, h => by
    unfold mTys at h
    rw [Bool.and_eq_true] at h
    obtain ⟨p1, p2⟩ := pe_ty ct h.1
    obtain ⟨q1, q2, q3⟩ := pa_tys ct h.2
    have tb : tyB t = true := by
      have := h.1
      unfold mTy at this
      split at this
      · rw [Bool.and_eq_true, Bool.and_eq_true] at this; exact this.1.1
      · cases this
    exact ⟨by rw [List.all_cons, p1, q1]; rfl, by rw [List.all_cons, tb, q2]; rfl, PA.imp (pa_cons p2 q3 (star_plain p1)) fun σ H Q q => q⟩
theorem clsV_tys : ∀ ts : List Ty, Paired ClsV (ts.map fun t => V.ty (tyN t)) (ts.map fun t => Value.type (tyN t))
  | [] => .nil
  | _ :: ts => .cons (.ty _) (clsV_tys ts)
theorem pe_isi_of {x cl : Expr} {y : Nm} {p pos : Pos} {a : E} {ts : List Ty} (ct : Ct X W k m) (hy : y = "isinstance") (hg : Gl X y) (hp : plainX x = true) (hx : PE X x (rdE X W (wpE a))) (hc : mTyA m ts cl = true) :
    PE X (.Call (.Name y p) [x, cl] [] pos) (rdE X W (wpE (.isi a ts))) := by
  subst hy
  have hm : X.mg "isinstance" = none := ct.bi _ (by decide +kernel)
  have hb : bootBuiltins "isinstance" = some (.builtin "isinstance") := by decide +kernel
  have one : ∀ {t : Ty} {e : Expr}, mTy m t e = true → PE X (.Call (.Name "isinstance" p) [x, e] [] pos) (rdE X W (wpE (.isi a [t]))) := fun {t e} h => by
    obtain ⟨p1, p2⟩ := pe_ty ct h
    have tb : tyB t = true := by
      unfold mTy at h
      split at h
      · rw [Bool.and_eq_true, Bool.and_eq_true] at h; exact h.1.1
      · cases h
    refine PE.imp (pe_callB (call_isi (X := X)) hg hm hb (pa_cons hx (pa_cons p2 pa_nil (star_plain p1)) (star_plain hp)) (by decide +kernel) (by decide +kernel) (star_plain hp) (star_any (es := [e]) (by rw [List.all_cons, p1]; rfl))) fun σ H Q ⟨ρ, env, h, Q1, E1, R, RE, w, af, ax⟩ => ?_
    unfold wpE at w
    refine ⟨ρ, env, h, _, E1, R, RE, w, fun v h' q ρ' H' z g R' r => ?_, ax⟩
    obtain ⟨gt, et, hgt, q⟩ := q
    exact ⟨z, .ty (tyN t), .type (tgN gt), .type (tyN t), tgIs gt t, rfl, .ty _, tag_ty R' r et hgt, kit_one gt t hgt tb, (Aft.mono g af).now R' (.bl _) (by simpa using q)⟩
  unfold mTyA at hc
  split at hc
  · rename_i es k2 p2
    rw [Bool.and_eq_true] at hc
    obtain ⟨q1, q2, q3⟩ := pa_tys ct hc.1
    refine PE.imp (pe_callB (call_isiT (X := X)) hg hm hb (pa_cons hx (pa_cons (pe_tup q3) pa_nil) (star_plain hp)) (by decide +kernel) (by decide +kernel) (star_plain hp) (star_any (es := [_]) rfl)) fun σ H Q ⟨ρ, env, h, Q1, E1, R, RE, w, af, ax⟩ => ?_
    unfold wpE at w
    refine ⟨ρ, env, h, _, E1, R, RE, w, fun v h' q ρ' H' z g R' r => ?_, ax⟩
    obtain ⟨gt, et, hgt, q⟩ := q
    refine ⟨?_, fun tp htp => ⟨z, tp, _, .type (tgN gt), _, ts.any (tgIs gt), rfl, upd_same, clsV_tys ts, ?_, kit_any hgt ts q2, ?_⟩⟩
    · have : sizeLine = 16777216 := sizeLine_eq
      have l := of_decide_eq_true hc.2
      rw [List.length_map]
      omega
    · exact tag_ty (R'.laid htp) (r.mono (Go.laid htp)) et hgt
    · exact (Aft.mono (g.trans (Go.laid htp)) af).now (R'.laid htp) (.bl _) q
  · split at hc
    · exact one hc
    · cases hc
end
end Lw
set_option Elab.async false
set_option linter.all false
set_option maxRecDepth 100000
set_option maxHeartbeats 2000000
/-! LwC: dict comprehensions, comprehensions of two clauses. -/
namespace Lw
open PySem L2 PyProof.Rows
section
variable {X : Cx} {W : L2.WX} {k : Nat} {m : Mc}
/-- a list that is being made at D: it is none of ours -/
def AcL (X : Cx) (D : Addr) (ρ1 : Rho) (H1 : Hp) (ρ2 : Rho) (h2 : Hv) (H2 : Hp) (acc : List Val) : Prop := Go X.K ρ1 H1 ρ2 H2 ∧ Rel X.K X.mg ρ2 h2 H2 ∧ ((∀ n, ρ2 n ≠ some D) ∧ ¬ ρ2.fa D) ∧ ∃ xs, H2 D = some (.lst xs) ∧ RVs X.K ρ2 H2 acc xs
theorem AcL.go {D : Addr} {ρ1 ρ2 ρ3 : Rho} {H1 H2 H3 : Hp} {h2 h3 : Hv} {acc : List Val} (a : AcL X D ρ1 H1 ρ2 h2 H2 acc) (g : Go X.K ρ2 H2 ρ3 H3) (R : Rel X.K X.mg ρ3 h3 H3) : AcL X D ρ1 H1 ρ3 h3 H3 acc := by
  obtain ⟨g1, _, nD, xs, eD, ra⟩ := a
  exact ⟨g1.trans g, R, ⟨fun n z => (g.nw n D z).elim (nD.1 n) fun z2 => (by rw [eD] at z2; cases z2), Go.not_fa g eD nD.1 nD.2⟩, xs, g.fr D _ eD nD.1, ra.mono g⟩
theorem AcL.put {D : Addr} {ρ1 ρ2 : Rho} {H1 H2 : Hp} {h2 : Hv} {acc : List Val} {v : Val} {y : V} (hD : H1 D = none) (a : AcL X D ρ1 H1 ρ2 h2 H2 acc) (ry : RV X.K ρ2 H2 v y) : ∃ xs, H2 D = some (.lst xs) ∧ acc.length = xs.length ∧ AcL X D ρ1 H1 ρ2 h2 (upd H2 D (.lst (xs ++ [y]))) (acc ++ [v]) := by
  obtain ⟨g1, R, nD, xs, eD, ra⟩ := a
  have gm : Gm X.K ρ2 H2 ρ2 (upd H2 D (.lst (xs ++ [y]))) := Gm.fill ⟨_, eD, NoCs.lst _⟩ nD.2
  exact ⟨xs, eD, ra.length, Go.fill g1 hD, R.fill nD.1 nD.2 ⟨_, eD, NoCs.lst _⟩, nD, _, upd_same, (ra.snoc ry).monoM gm⟩
/-- the same for a dict -/
def AcD (X : Cx) (D : Addr) (ρ1 : Rho) (H1 : Hp) (ρ2 : Rho) (h2 : Hv) (H2 : Hp) (acc : List (Val × Val)) : Prop := Go X.K ρ1 H1 ρ2 H2 ∧ Rel X.K X.mg ρ2 h2 H2 ∧ ((∀ n, ρ2 n ≠ some D) ∧ ¬ ρ2.fa D) ∧ ∃ ks, H2 D = some (.dK ks) ∧ DicK X.K ρ2 H2 acc ks
theorem AcD.go {D : Addr} {ρ1 ρ2 ρ3 : Rho} {H1 H2 H3 : Hp} {h2 h3 : Hv} {acc : List (Val × Val)} (a : AcD X D ρ1 H1 ρ2 h2 H2 acc) (g : Go X.K ρ2 H2 ρ3 H3) (R : Rel X.K X.mg ρ3 h3 H3) : AcD X D ρ1 H1 ρ3 h3 H3 acc := by
  obtain ⟨g1, _, nD, xs, eD, ra⟩ := a
  exact ⟨g1.trans g, R, ⟨fun n z => (g.nw n D z).elim (nD.1 n) fun z2 => (by rw [eD] at z2; cases z2), Go.not_fa g eD nD.1 nD.2⟩, xs, g.fr D _ eD nD.1, ((RDk.of ra).monoM g.gm).dic⟩
theorem key_is {K : PySem.W.Frag} {ρ : Rho} {H : Hp} {v : Val} {y : V} (r : RV K ρ H v y) (h : keyS v = true) : ∃ c, RK v c ∧ y = kV c := by
  cases r with
  | int i => exact ⟨.inl i, .inl ⟨i, rfl, rfl⟩, rfl⟩
  | str ok => exact ⟨.inr _, .inr ⟨_, ok, rfl, rfl⟩, rfl⟩
  | _ => cases h
theorem AcD.put {D : Addr} {ρ1 ρ2 : Rho} {H1 H2 : Hp} {h2 : Hv} {acc : List (Val × Val)} {c v : Val} {k : Key} {y : V} (hD : H1 D = none) (a : AcD X D ρ1 H1 ρ2 h2 H2 acc) (rk : RK c k) (ry : RV X.K ρ2 H2 v y) : ∃ ks, H2 D = some (.dK ks) ∧ acc.length = ks.length ∧ AcD X D ρ1 H1 ρ2 h2 (upd H2 D (.dK (putK ks k y))) (kvPut c v acc) := by
  obtain ⟨g1, R, nD, ks, eD, ra⟩ := a
  have gm : Gm X.K ρ2 H2 ρ2 (upd H2 D (.dK (putK ks k y))) := Gm.fill ⟨_, eD, NoCs.dK _⟩ nD.2
  exact ⟨ks, eD, Paired.length ra, Go.fill g1 hD, R.fill nD.1 nD.2 ⟨_, eD, NoCs.dK _⟩, nD, _, upd_same, ((RDk.of (dk_put rk ry ra)).monoM gm).dic⟩
theorem rd_dc {z : Bool} {own : List Nat} {ek e : E} {t : T} {it : It} {es : Es} (ho : ∀ i ∈ t.names, i ∈ own) : ∀ σ H Q, rdE X W (wpE (.dc z ek e t it es own)) σ H Q → tDc (rdI X W (wpI it)) (rdG X t.names (wpT t)) (rdF X (wpIfs es)) (rdE X W0 (wpE ek)) (rdE X W0 (wpE e)) own σ H Q := fun σ H Q h => by
  obtain ⟨ρ, env, hv, Q1, E1, R, RE, w, af, ax⟩ := h
  unfold wpE at w
  refine ⟨ρ, env, hv, _, E1, R, RE, w, fun wk h1 q ρ1 H1 J g1 R1 wr D hD => ?_, ax⟩
  have hnD : ∀ n, ρ1 n ≠ some D := fun n z => R1.th _ _ z hD
  have hfD : ¬ ρ1.fa D := fun z => R1.fa _ z hD
  refine ⟨fun i mm H2 => mm = wk.items.length - i ∧ i ≤ wk.items.length ∧ ∃ ρ2 h2 acc, AcD X D ρ1 H1 ρ2 h2 H2 acc ∧
    dcW wk (fun x h2 K => wpT t x (wipeE env own) h2 K) (fun e2 h2 K => wpIfs es e2 h2 K) (fun e2 h2 K => wpE ek e2 h2 K noE) (fun e2 h2 K => wpE e e2 h2 K noE) (wk.items.drop i) h2 acc (fun acc h3 => newD z acc h3 Q1),
    ⟨_, rfl, Nat.zero_le _, ρ1, h1, [], ⟨Go.fill Go.refl hD, R1.laid hD, ⟨hnD, hfD⟩, [], upd_same, .nil⟩, q⟩, ?_⟩
  rintro i mm H2 ⟨rfl, hi, ρ2, h2, acc, ac, q⟩
  by_cases hlt : i < wk.items.length
  · rw [List.drop_eq_getElem_cons hlt] at q
    obtain ⟨hG, q⟩ := q
    refine .inr ⟨wr.go i ρ2 h2 H2 ac.1.gm ac.2.1 hG hlt, fun H3 => ∃ ρ3 h3 acc, AcD X D ρ1 H1 ρ3 h3 H3 acc ∧
      dcW wk (fun x h2 K => wpT t x (wipeE env own) h2 K) (fun e2 h2 K => wpIfs es e2 h2 K) (fun e2 h2 K => wpE ek e2 h2 K noE) (fun e2 h2 K => wpE e e2 h2 K noE) (wk.items.drop (i + 1)) h3 acc (fun acc h3 => newD z acc h3 Q1),
      fun H' z => ⟨wk.items.length - (i + 1), by omega, rfl, hlt, z⟩, fun x H' y => ?_⟩
    obtain ⟨gy, Ry, rx⟩ := wr.yld i ρ2 h2 H2 x H' wk.items[i] ac.1.gm ac.2.1 hG (List.getElem?_eq_getElem hlt) y
    have ac1 := ac.go gy Ry
    have REi : REv X.K ρ2 H' (wipeE env own) (wipe σ own) := ((RE.mono (g1.trans ac1.1)).wipe own)
    refine ⟨ρ2, wipeE env own, h2, wk.items[i], _, Ry, REi, rx, q, fun env3 h3 hk ρ3 H3 σ3 gT R3 RE3 sm => ⟨?_, ?_⟩⟩
    · exact (sm.sub ho).wipe.trans (Same.wiped own σ).wipe
    · have ac3 := ac1.go gT R3
      refine ⟨ρ3, env3, h3, _, R3, RE3, hk, fun b h4 hb ρ4 H4 gF R4 => ?_⟩
      have RE4 := RE3.mono gF
      have ac4 := ac3.go gF R4
      cases b with
      | false =>
        simp only [Bool.false_eq_true, ↓reduceIte] at hb ⊢
        exact ⟨ρ4, h4, acc, ac4, hb⟩
      | true =>
        simp only [↓reduceIte] at hb ⊢
        refine ⟨ρ4, env3, h4, _, noE, R4, RE4, hb, fun c h5 hq ρ5 H5 y5 gE R5 ry => ?_, noX⟩
        refine ⟨ρ5, env3, h5, _, noE, R5, RE4.mono gE, hq, fun v h6 hq ρ6 H6 y6 gE2 R6 ry6 => ?_, noX⟩
        obtain ⟨hkey, hl, hq⟩ := hq
        obtain ⟨c', rk, e5⟩ := key_is ry hkey
        obtain ⟨ks, eD, ln, ac6⟩ := AcD.put hD ((ac4.go gE R5).go gE2 R6) rk ry6
        exact ⟨ks, c', e5, eD, by rw [← ln]; exact hl, ρ6, h6, kvPut c v acc, ac6, hq⟩
  · have e : i = wk.items.length := by omega
    subst e
    rw [List.drop_length] at q
    obtain ⟨hG, q⟩ := q
    refine .inl ⟨wr.stop _ ρ2 h2 H2 ac.1.gm ac.2.1 hG (Nat.le_refl _), ?_⟩
    obtain ⟨g2, R2, nD, ks, eD, ra⟩ := ac
    exact Aft.doneD af g1 g2 hD R2 nD.1 nD.2 eD (.inl ⟨ks, rfl, ra⟩) q
theorem pe_dc_of {z : Bool} {kx vx tg iter : Expr} {ifs : List Expr} {scope : Scope} {pos : Pos} {own : List Nat} {ek e : E} {t : T} {it : It} {es : Es} (ct : Ct X W k m) (hc : m.c = true)
    (hb : blkC m.N m.sc scope (ownN m own) = true) (ho : ∀ i ∈ t.names, i ∈ own) (hp : plainX iter = true) (hi : PI X tg iter (rdI X W (wpI it)))
    (hg : ∀ (s : Shared) (H : Hp) (C : Addr) (cl : List (Str × Addr)) (fp : List Addr), PG (X.blk s H scope (compEnvC scope cl C X.env) fp) tg (rdG (X.blk s H scope (compEnvC scope cl C X.env) fp) t.names (wpT t)))
    (ht : ∀ (s : Shared) (H : Hp) (C : Addr) (cl : List (Str × Addr)) (fp : List Addr), PTs (X.blk s H scope (compEnvC scope cl C X.env) fp) ifs (rdF (X.blk s H scope (compEnvC scope cl C X.env) fp) (wpIfs es)))
    (hk : ∀ (s : Shared) (H : Hp) (C : Addr) (cl : List (Str × Addr)) (fp : List Addr), PE (X.blk s H scope (compEnvC scope cl C X.env) fp) kx (rdE (X.blk s H scope (compEnvC scope cl C X.env) fp) W0 (wpE ek)))
    (he : ∀ (s : Shared) (H : Hp) (C : Addr) (cl : List (Str × Addr)) (fp : List Addr), PE (X.blk s H scope (compEnvC scope cl C X.env) fp) vx (rdE (X.blk s H scope (compEnvC scope cl C X.env) fp) W0 (wpE e))) :
    PE X (.DictComp kx vx [⟨tg, iter, ifs, 0⟩] scope pos) (rdE X W (wpE (.dc z ek e t it es own))) := by
  obtain ⟨ok, e1⟩ := own_ix ct hb
  exact PE.imp (pe_dc (g := rdG X t.names (wpT t)) (tt := rdF X (wpIfs es)) (tk := rdE X W0 (wpE ek)) (tv := rdE X W0 (wpE e)) (ct.calm hc) ct.nd hi ok (fun s H C cl fp => hg s H C cl fp) (fun s H C cl fp => ht s H C cl fp) (fun s H C cl fp => hk s H C cl fp) (fun s H C cl fp => he s H C cl fp) (fold_plain hp)) fun σ H Q h => by
    rw [e1]; exact rd_dc ho σ H Q h
/-- name = {..} on one line, the name a local -/
theorem ps_setDc {i : Nat} {y : Str} {py : Pos} {kx vx tg iter : Expr} {ifs : List Expr} {scope : Scope} {own : List (Str × Nat)} {pos spos : Pos} {wi : TI} {g : TG} {tt : TT} {tk tv : TE} (hc : X.calm = true) (hN : X.N.Nodup) (hy : X.N[i]? = some y) (hyl : X.env.scope.names.lookup y = some .local)
    (hsw : swapsWith (.DictComp kx vx [⟨tg, iter, ifs, 0⟩] scope pos) (some (.Name y py)) spos.line X.env = pure true) (hi : PI X tg iter wi) (ok : BlkOk X.N X.env.scope scope own)
    (hg : ∀ (s : Shared) (H : Hp) (J : Addr) (cls : List (Str × Addr)) (fps : List Addr), PG (X.blk s H scope (compEnvC scope cls J X.env) fps) tg g) (ht : ∀ (s : Shared) (H : Hp) (J : Addr) (cls : List (Str × Addr)) (fps : List Addr), PTs (X.blk s H scope (compEnvC scope cls J X.env) fps) ifs tt)
    (hk : ∀ (s : Shared) (H : Hp) (J : Addr) (cls : List (Str × Addr)) (fps : List Addr), PE (X.blk s H scope (compEnvC scope cls J X.env) fps) kx tk)
    (he : ∀ (s : Shared) (H : Hp) (J : Addr) (cls : List (Str × Addr)) (fps : List Addr), PE (X.blk s H scope (compEnvC scope cls J X.env) fps) vx tv) (hs : ∀ x, foldedSetIterable iter X.env x = pure x) :
    PS X (.Assign [.Name y py] (.DictComp kx vx [⟨tg, iter, ifs, 0⟩] scope pos) spos) (tAsg (tDc wi g tt tk tv (own.map (·.2))) (gName i)) := by
  refine ⟨fun pins s σ H D I hw => ?_⟩
  rw [exec_Assign_Name_used _ _ _ _ hsw]
  refine wpAny_bind (wpAny_standAt (wpAny_bind ?_))
  show wpAny _ X.A (do let _ ← comprehension (.DictComp kx vx [⟨tg, iter, ifs, 0⟩] scope pos) scope X.env (firstIterPos [⟨tg, iter, ifs, 0⟩] pos) newDict false (eval iter X.env) (some (assign (.Name y py) X.env))) _ _ s
  have h : tDc wi g tt tk tv (own.map (·.2)) σ H (fun x H1 => gName i x σ H1 D.nx) := hw
  refine wpAny_bind (thn (dc_core (Qf := fun _ s' => SP X pins D .next s') hc hN I hi ok hg ht hk he hs h fun L C s' m H' I' q hn f => ?_) fun _ s' hq => wpAny_pure (wpAny_pure hq))
  show wpAny _ _ (assign (.Name y py) X.env (.ref L)) _ _ _
  refine wpAny_assign_Name (store_ok2 (v := V.ref L) I' hN hy (.inl hyl) rfl (fun s2 I2 ⟨a, sm, ha⟩ => ?_) (.inr hyl))
  obtain ⟨o0, o1, o2, o3, o4, o5⟩ := f
  have nJa : C ≠ a := by
    cases ha with
    | inl z => rw [z]; exact o1
    | inr z => exact fun e => o4 y a z e.symm
  refine ⟨m, hn.sameBut sm nJa, fun h3 sm3 => ?_⟩
  exact ⟨_, H', I2.turned (t' := s2.toks) (fun b o hb e => (sm3.2 b hb).trans e) o0 o1 o3 o4 o5, q⟩
theorem rd_lc2 {z : Bool} {own own1 : List Nat} {e : E} {t t1 : T} {it it1 : It} {es es1 : Es} (ho : ∀ i ∈ t.names, i ∈ own) (ho2 : ∀ i ∈ t1.names, i ∈ own1) : ∀ σ H Q, rdE X W (wpE (.lc2 z e t it es t1 it1 es1 own own1)) σ H Q →
    tLc2 (rdI X W (wpI it)) (rdG X t.names (wpT t)) (rdF X (wpIfs es)) (rdI X W0 (wpI it1)) (rdG X t1.names (wpT t1)) (rdF X (wpIfs es1)) (rdE X W0 (wpE e)) own own1 σ H Q := fun σ H Q h => by
  obtain ⟨ρ, env, hv, Q1, E1, R, RE, w, af, ax⟩ := h
  unfold wpE at w
  refine ⟨ρ, env, hv, _, E1, R, RE, w, fun wk h1 q ρ1 H1 J g1 R1 wr D hD => ?_, ax⟩
  have hnD : ∀ n, ρ1 n ≠ some D := fun n z => R1.th _ _ z hD
  have hfD : ¬ ρ1.fa D := fun z => R1.fa _ z hD
  let inner : Ev → Hv → List Val → (List Val → Hv → Prop) → Prop := fun e2 h2 acc K => wpI it1 e2 h2 (fun w1 h3 => compW w1 (fun x h4 K => wpT t1 x (wipeE e2 own1) h4 K) (fun e3 h4 K => wpIfs es1 e3 h4 K) (fun e3 h4 K => wpE e e3 h4 K noE) w1.items h3 acc K) noE
  refine ⟨fun i mm H2 => mm = wk.items.length - i ∧ i ≤ wk.items.length ∧ ∃ ρ2 h2 acc, AcL X D ρ1 H1 ρ2 h2 H2 acc ∧
    comp2W wk (fun x h2 K => wpT t x (wipeE env own) h2 K) (fun e2 h2 K => wpIfs es e2 h2 K) inner (wk.items.drop i) h2 acc (fun acc h3 => newL z acc h3 Q1),
    ⟨_, rfl, Nat.zero_le _, ρ1, h1, [], ⟨Go.fill Go.refl hD, R1.laid hD, ⟨hnD, hfD⟩, [], upd_same, .nil⟩, q⟩, ?_⟩
  rintro i mm H2 ⟨rfl, hi, ρ2, h2, acc, ac, q⟩
  by_cases hlt : i < wk.items.length
  · rw [List.drop_eq_getElem_cons hlt] at q
    obtain ⟨hG, q⟩ := q
    let Nx : Hp → Prop := fun H3 => ∃ ρ3 h3 acc, AcL X D ρ1 H1 ρ3 h3 H3 acc ∧
      comp2W wk (fun x h2 K => wpT t x (wipeE env own) h2 K) (fun e2 h2 K => wpIfs es e2 h2 K) inner (wk.items.drop (i + 1)) h3 acc (fun acc h3 => newL z acc h3 Q1)
    refine .inr ⟨wr.go i ρ2 h2 H2 ac.1.gm ac.2.1 hG hlt, Nx, fun H' z => ⟨wk.items.length - (i + 1), by omega, rfl, hlt, z⟩, fun x H' y => ?_⟩
    obtain ⟨gy, Ry, rx⟩ := wr.yld i ρ2 h2 H2 x H' wk.items[i] ac.1.gm ac.2.1 hG (List.getElem?_eq_getElem hlt) y
    have ac1 := ac.go gy Ry
    have REi : REv X.K ρ2 H' (wipeE env own) (wipe σ own) := ((RE.mono (g1.trans ac1.1)).wipe own)
    refine ⟨ρ2, wipeE env own, h2, wk.items[i], _, Ry, REi, rx, q, fun env3 h3 hk ρ3 H3 σ3 gT R3 RE3 sm => ⟨?_, ?_⟩⟩
    · exact (sm.sub ho).wipe.trans (Same.wiped own σ).wipe
    · have ac3 := ac1.go gT R3
      refine ⟨ρ3, env3, h3, _, R3, RE3, hk, fun b h4 hb ρ4 H4 gF R4 => ?_⟩
      have RE4 := RE3.mono gF
      have ac4 := ac3.go gF R4
      cases b with
      | false =>
        simp only [Bool.false_eq_true, ↓reduceIte] at hb ⊢
        exact ⟨ρ4, h4, acc, ac4, hb⟩
      | true =>
        simp only [↓reduceIte] at hb ⊢
        refine ⟨ρ4, env3, h4, _, noE, R4, RE4, hb, fun wk1 h5 q5 ρ5 H5 J1 g5 R5 wr1 => ?_, noX⟩
        have ac5 := ac4.go g5 R5
        have RE5 := RE4.mono g5
        refine ⟨fun j mm H6 => mm = wk1.items.length - j ∧ j ≤ wk1.items.length ∧ ∃ ρ6 h6 acc6, AcL X D ρ1 H1 ρ6 h6 H6 acc6 ∧ Gm X.K ρ5 H5 ρ6 H6 ∧
          compW wk1 (fun x h4 K => wpT t1 x (wipeE env3 own1) h4 K) (fun e3 h4 K => wpIfs es1 e3 h4 K) (fun e3 h4 K => wpE e e3 h4 K noE) (wk1.items.drop j) h6 acc6 (fun acc2 h4 => comp2W wk (fun x h2 K => wpT t x (wipeE env own) h2 K) (fun e2 h2 K => wpIfs es e2 h2 K) inner (wk.items.drop (i + 1)) h4 acc2 (fun acc h3 => newL z acc h3 Q1)),
          ⟨_, rfl, Nat.zero_le _, ρ5, h5, acc, ac5, Gm.refl, q5⟩, ?_⟩
        rintro j mm H6 ⟨rfl, hj, ρ6, h6, acc6, ac6, g6, q6⟩
        by_cases hlt1 : j < wk1.items.length
        · rw [List.drop_eq_getElem_cons hlt1] at q6
          obtain ⟨hG1, q6⟩ := q6
          refine .inr ⟨wr1.go j ρ6 h6 H6 g6 ac6.2.1 hG1 hlt1, fun H7 => ∃ ρ6 h6 acc6, AcL X D ρ1 H1 ρ6 h6 H7 acc6 ∧ Gm X.K ρ5 H5 ρ6 H7 ∧
            compW wk1 (fun x h4 K => wpT t1 x (wipeE env3 own1) h4 K) (fun e3 h4 K => wpIfs es1 e3 h4 K) (fun e3 h4 K => wpE e e3 h4 K noE) (wk1.items.drop (j + 1)) h6 acc6 (fun acc2 h4 => comp2W wk (fun x h2 K => wpT t x (wipeE env own) h2 K) (fun e2 h2 K => wpIfs es e2 h2 K) inner (wk.items.drop (i + 1)) h4 acc2 (fun acc h3 => newL z acc h3 Q1)), fun H' z => ⟨wk1.items.length - (j + 1), by omega, rfl, hlt1, z⟩, fun x H' y => ?_⟩
          obtain ⟨gy, Ry, rx⟩ := wr1.yld j ρ6 h6 H6 x H' wk1.items[j] g6 ac6.2.1 hG1 (List.getElem?_eq_getElem hlt1) y
          have ac7 := ac6.go gy Ry
          have g7 := g6.trans gy.gm
          have RE7 : REv X.K ρ6 H' (wipeE env3 own1) (wipe σ3 own1) := (REv.monoM g7 RE5).wipe own1
          refine ⟨ρ6, wipeE env3 own1, h6, wk1.items[j], _, Ry, RE7, rx, q6, fun env8 h8 hk8 ρ8 H8 σ8 gT8 R8 RE8 sm8 => ⟨?_, ?_⟩⟩
          · exact (sm8.sub ho2).wipe.trans (Same.wiped own1 σ3).wipe
          · refine ⟨ρ8, env8, h8, _, R8, RE8, hk8, fun b9 h9 hb9 ρ9 H9 gF9 R9 => ?_⟩
            have ac9 := (ac7.go gT8 R8).go gF9 R9
            have g9 := (g7.trans gT8.gm).trans gF9.gm
            cases b9 with
            | false =>
              simp only [Bool.false_eq_true, ↓reduceIte] at hb9 ⊢
              exact ⟨ρ9, h9, acc6, ac9, g9, hb9⟩
            | true =>
              simp only [↓reduceIte] at hb9 ⊢
              refine ⟨ρ9, env8, h9, _, noE, R9, RE8.mono gF9, hb9, fun v hA hq ρA HA yA gA RA ry => ?_, noX⟩
              obtain ⟨hl, hq⟩ := hq
              have acA := ac9.go gA RA
              obtain ⟨xs, eD, ln, acB⟩ := AcL.put hD acA ry
              exact ⟨xs, eD, by rw [← ln]; exact hl, ρA, hA, acc6 ++ [v], acB, (g9.trans gA.gm).trans (Gm.fill ⟨_, eD, NoCs.lst _⟩ acA.2.2.1.2), hq⟩
        · have e : j = wk1.items.length := by omega
          subst e
          rw [List.drop_length] at q6
          obtain ⟨hG1, q6⟩ := q6
          exact .inl ⟨wr1.stop _ ρ6 h6 H6 g6 ac6.2.1 hG1 (Nat.le_refl _), ρ6, h6, acc6, ac6, q6⟩
  · have e : i = wk.items.length := by omega
    subst e
    rw [List.drop_length] at q
    obtain ⟨hG, q⟩ := q
    refine .inl ⟨wr.stop _ ρ2 h2 H2 ac.1.gm ac.2.1 hG (Nat.le_refl _), ?_⟩
    obtain ⟨g2, R2, nD, ks, eD, ra⟩ := ac
    exact Aft.doneL af g1 g2 hD R2 nD.1 nD.2 eD ra q
theorem pe_lc2_of {z : Bool} {elt tg iter tg1 iter1 : Expr} {ifs ifs1 : List Expr} {scope : Scope} {pos : Pos} {own own1 : List Nat} {e : E} {t t1 : T} {it it1 : It} {es es1 : Es} (ct : Ct X W k m) (hc : m.c = true)
    (hb : blkC m.N m.sc scope (ownN m own) = true) (ho : ∀ i ∈ t.names, i ∈ own) (ho1 : ∀ i ∈ own1, i ∈ own) (ho2 : ∀ i ∈ t1.names, i ∈ own1) (hp : plainX iter = true) (hp1 : plainX iter1 = true) (hi : PI X tg iter (rdI X W (wpI it)))
    (hg : ∀ (s : Shared) (H : Hp) (C : Addr) (cl : List (Str × Addr)) (fp : List Addr), PG (X.blk s H scope (compEnvC scope cl C X.env) fp) tg (rdG (X.blk s H scope (compEnvC scope cl C X.env) fp) t.names (wpT t)))
    (ht : ∀ (s : Shared) (H : Hp) (C : Addr) (cl : List (Str × Addr)) (fp : List Addr), PTs (X.blk s H scope (compEnvC scope cl C X.env) fp) ifs (rdF (X.blk s H scope (compEnvC scope cl C X.env) fp) (wpIfs es)))
    (hi1 : ∀ (s : Shared) (H : Hp) (C : Addr) (cl : List (Str × Addr)) (fp : List Addr), PI (X.blk s H scope (compEnvC scope cl C X.env) fp) tg1 iter1 (rdI (X.blk s H scope (compEnvC scope cl C X.env) fp) W0 (wpI it1)))
    (hg1 : ∀ (s : Shared) (H : Hp) (C : Addr) (cl : List (Str × Addr)) (fp : List Addr), PG (X.blk s H scope (compEnvC scope cl C X.env) fp) tg1 (rdG (X.blk s H scope (compEnvC scope cl C X.env) fp) t1.names (wpT t1)))
    (ht1 : ∀ (s : Shared) (H : Hp) (C : Addr) (cl : List (Str × Addr)) (fp : List Addr), PTs (X.blk s H scope (compEnvC scope cl C X.env) fp) ifs1 (rdF (X.blk s H scope (compEnvC scope cl C X.env) fp) (wpIfs es1)))
    (he : ∀ (s : Shared) (H : Hp) (C : Addr) (cl : List (Str × Addr)) (fp : List Addr), PE (X.blk s H scope (compEnvC scope cl C X.env) fp) elt (rdE (X.blk s H scope (compEnvC scope cl C X.env) fp) W0 (wpE e))) :
    PE X (.ListComp elt [⟨tg, iter, ifs, 0⟩, ⟨tg1, iter1, ifs1, 0⟩] scope pos) (rdE X W (wpE (.lc2 z e t it es t1 it1 es1 own own1))) := by
  obtain ⟨ok, e1⟩ := own_ix ct hb
  refine PE.imp (pe_lc2 (vs1 := own1) (g := rdG X t.names (wpT t)) (tt := rdF X (wpIfs es)) (wi1 := rdI X W0 (wpI it1)) (g1 := rdG X t1.names (wpT t1)) (tt1 := rdF X (wpIfs es1)) (te := rdE X W0 (wpE e)) (ct.calm hc) ct.nd hi ok (fun i hi => by rw [e1]; exact ho1 i hi)
    (fun s H C cl fp => hg s H C cl fp) (fun s H C cl fp => ht s H C cl fp) (fun s H C cl fp => hi1 s H C cl fp) (fun s H C cl fp => hg1 s H C cl fp) (fun s H C cl fp => ht1 s H C cl fp) (fun s H C cl fp => he s H C cl fp) (fold_plain hp) (fun env => fold_plain hp1)) fun σ H Q h => ?_
  rw [e1]
  exact rd_lc2 ho ho2 σ H Q h
end
end Lw
set_option Elab.async false
set_option linter.all false
set_option maxRecDepth 100000
set_option maxHeartbeats 4000000
/-! LwT: enumerate over a tuple. -/
namespace Lw
open PySem L2 PyProof.Rows
section
variable {prog : Program} {w : World} {A : Around} {E : Value → Shared → Prop} {s : Shared} {it t : Addr} {i : Nat} {items : Array Value}
theorem tupNext {x : Value} {Q : Value → Shared → Prop} (hit : s.heap.IsTupleIter it t i) (ht : s.heap.IsTuple t items) (hx : items[i]? = some x)
    (k : ∀ h', h'.IsTupleIter it t (i + 1) → Heap.SameBut it s.heap h' → Q x { s with heap := h' }) : wpAny (model prog w) A (Builtin.SmallTypes.nextOf (.ref it)) Q E s := by
  obtain ⟨⟨o, ho, hc, hd⟩, ⟨ol, hol, _, nl, hdl⟩⟩ := And.intro hit ht
  have ne : ¬ ((Value.ref t == Value.none) = true) := Bool.false_ne_true
  have k2 := k _ ⟨_, Heap.get?_update_self _ ho (Obj.isFreed_of_fields (Obj.data_mapFields hd (·.setIfInBounds 1 (rawInt ((i : Int) + 1))))), (Obj.cls_mapFields ..).trans hc, by rw [Obj.data_mapFields hd]; simp [rawInt]⟩ (Heap.SameBut.update ..)
  unfold Builtin.SmallTypes.nextOf
  refine wpAny_bind (wpAny_callSpecial?_slot (name := Str.ofString "__next__") hit.typeIs F.slot_tuple_iterator_next (wpAny_call_entry F.slot_tuple_iterator_next hit.typeIs F.entry_tuple_iterator_next ?_ (F.args_tuple_iterator_next_1 _)))
  refine (show wpAny _ _ (field (.ref it) 0 >>= _) _ _ s from wpAny_bind (wpAny_field ho hd (x := .ref t) rfl (show wpAny _ _ (if (Value.ref t == Value.none) = true then _ else _) _ _ s from ?_)))
  rw [if_neg ne]
  refine (show wpAny _ _ (field (.ref it) 1 >>= _) _ _ s from wpAny_bind (wpAny_field ho hd (x := .int i 0) rfl (show wpAny _ _ (seqItems? (.ref t) >>= _) _ _ s from wpAny_bind (wpAny_seqItems hol hdl ?_))))
  simp only [Int.toNat_natCast, hx]
  exact wpAny_bind (wpAny_setField ho hd (by simp) (wpAny_pure ⟨x, rfl, wpAny_pure k2⟩))
theorem tupEnd {Q : Value → Shared → Prop} (hh : A.handled = none) (hit : s.heap.IsTupleIter it t i) (ht : s.heap.IsTuple t items) (hx : items[i]? = none)
    (k : ∀ h' e, Heap.ExtBut it s.heap h' → (∃ o, h'.get? e = some o ∧ o.cls = .type "StopIteration") → E (.ref e) { s with heap := h' }) : wpAny (model prog w) A (Builtin.SmallTypes.nextOf (.ref it)) Q E s := by
  obtain ⟨⟨o, ho, hc, hd⟩, ⟨ol, hol, _, nl, hdl⟩⟩ := And.intro hit ht
  have ne : ¬ ((Value.ref t == Value.none) = true) := Bool.false_ne_true
  unfold Builtin.SmallTypes.nextOf
  refine wpAny_bind (wpAny_callSpecial?_slot (name := Str.ofString "__next__") hit.typeIs F.slot_tuple_iterator_next (wpAny_call_entry F.slot_tuple_iterator_next hit.typeIs F.entry_tuple_iterator_next ?_ (F.args_tuple_iterator_next_1 _)))
  refine (show wpAny _ _ (field (.ref it) 0 >>= _) _ _ s from wpAny_bind (wpAny_field ho hd (x := .ref t) rfl (show wpAny _ _ (if (Value.ref t == Value.none) = true then _ else _) _ _ s from ?_)))
  rw [if_neg ne]
  refine (show wpAny _ _ (field (.ref it) 1 >>= _) _ _ s from wpAny_bind (wpAny_field ho hd (x := .int i 0) rfl (show wpAny _ _ (seqItems? (.ref t) >>= _) _ _ s from wpAny_bind (wpAny_seqItems hol hdl ?_))))
  simp only [Int.toNat_natCast, hx]
  refine wpAny_bind (wpAny_rule (wpAny_bind (wpAny_setField ho hd (by simp) (show wpAny _ _ (newExc (.type "StopIteration") [] >>= _) _ _ _ from wpAny_bind ?_))))
  unfold newExc newTuple
  refine wpAny_bind (wpAny_newObj_type (wpAny_bind (m := firstArgMember _ _) (wpAny_of_eq (a := Value.none) (by first | rfl | (simp only [firstArgMember]; rfl)) (wpAny_newObj_type ?_ (by size_fits)))) (by size_fits))
  unfold raiseNew
  have hh2 : A.in1.handled = none := hh
  refine wpAny_bind (wpAny_handled ?_)
  first | rw [hh2] | rw [hh]
  exact wpAny_bind (wpAny_pure (wpAny_throw (k _ _ (((Heap.SameBut.update ..).extBut.push _).push _) ⟨_, Heap.get?_push_size _ rfl, rfl⟩)))
theorem drawT (hh : A.handled = none) (it t : Addr) (ne : t ≠ it) (items : Array Value) : Draws prog w A it [it, t] items.size (fun i v => items[i]? = some v) (fun i h => h.IsTupleIter it t i ∧ h.IsTuple t items) :=
  { live := fun _ _ ⟨⟨o, ho, _⟩, _⟩ => ⟨o, ho⟩
    frame := fun _ _ _ ⟨⟨o, ho, r⟩, ⟨p, hp, q⟩⟩ hk => ⟨⟨o, hk it (by simp) o ho, r⟩, ⟨p, hk t (by simp) p hp, q⟩⟩
    item := fun i s Q E hi ⟨st, tt⟩ hQ => tupNext st tt (x := items[i]) (by simp [hi]) fun h' a b => hQ _ h' s.toks (by simp [hi]) ⟨a, tt.extBut b.extBut ne⟩ b
    done := fun s Q E ⟨st, tt⟩ hE => tupEnd hh st tt (by simp) hE }
theorem enumNewT (l : Addr) (items : Array Value) (n : Nat) (dct : Option Addr) (sl : Array (Option Value)) :
    Meets (Builtin.«enumerate.__new__» ⟨[.type "enumerate", .ref l], []⟩) (fun _ R s => s.heap.get? l = some { cls := .type "tuple", dict := dct, data := .seq items n, slots := sl } ∧
      R (.ok (.ret (.ref (s.heap.push { cls := .type "tuple_iterator", data := .fields #[.ref l, .int 0 0] }).objs.size))) { s with heap := (s.heap.push { cls := .type "tuple_iterator", data := .fields #[.ref l, .int 0 0] }).push { cls := .type "enumerate", data := .fields #[.none, .bool false, .ref s.heap.objs.size, rawInt 0, .none, .none] } }) :=
  .of_wp fun prog w A R s ⟨hl, h⟩ => by
    obtain ⟨hp, g, d, tk, os⟩ := s
    have sub := sub_enumerate
    have tu : Heap.IsTuple (Shared.heap ⟨hp, g, d, tk, os⟩) l items := ⟨_, hl, rfl, n, rfl⟩
    wp_walk using wpAny_loadPart' hl
    refine wpAny_stack_any fun st => wpAny_pure ?_
    split
    case h_1 c _ _ _ _ _ => cases (c == Value.type "enumerate") <;> (wp_walk using wpAny_loadPart' hl, wpAny_pyIter_tuple tu; exact ⟨_, rfl, h⟩)
    all_goals (wp_walk using wpAny_loadPart' hl, wpAny_pyIter_tuple tu; exact ⟨_, rfl, h⟩)
theorem enumCallT {l : Addr} {Q : Value → Shared → Prop} (hL : s.heap.IsTuple l items)
    (k : ∀ h', IsEnum h' (s.heap.objs.size + 1) s.heap.objs.size 0 .none → h'.IsTupleIter s.heap.objs.size l 0 → (∀ b o, s.heap.get? b = some o → h'.get? b = some o) → Q (.ref (s.heap.objs.size + 1)) { s with heap := h' }) :
    wpAny (model prog w) A (call (.type "enumerate") [.ref l]) Q E s := by
  obtain ⟨⟨c, dct, dt, sl⟩, hl, hc, n, hd⟩ := hL
  obtain rfl : c = .type "tuple" := hc
  obtain rfl : dt = .seq items n := hd
  let h1 := s.heap.push { cls := .type "tuple_iterator", data := .fields #[.ref l, .int 0 0] }
  have z1 : h1.objs.size = s.heap.objs.size + 1 := Heap.size_push ..
  refine callType_new F.called_enumerate (by decide) (F.typeCall_enumerate_1 _) (F.newCall_enumerate_1 _) (fun obj => F.args_object_init_2 obj _) F.entry_enumerate_new (enumNewT l items n dct sl) ⟨hl, show _ ∧ _ from ?_⟩
  have he : IsEnum (h1.push { cls := .type "enumerate", data := .fields #[.none, .bool false, .ref s.heap.objs.size, rawInt 0, .none, .none] }) (s.heap.objs.size + 1) s.heap.objs.size 0 .none := by
    have q := Heap.get?_push_size h1 (o := { cls := .type "enumerate", data := .fields #[.none, .bool false, .ref s.heap.objs.size, rawInt 0, .none, .none] }) rfl
    rwa [z1] at q
  have e1 : (s.heap.push { cls := .type "tuple_iterator", data := .fields #[.ref l, .int 0 0] }).objs.size = s.heap.objs.size + 1 := z1
  rw [e1]
  exact ⟨⟨_, he, rfl⟩, k _ he ⟨_, Heap.get?_push_of_some _ (Heap.get?_push_size _ rfl), rfl, rfl⟩ fun b o x => Heap.get?_push_of_some _ (Heap.get?_push_of_some _ x)⟩
end
/-- the tuple at a, each item in a new pair -/
def IteT (K : PySem.W.Frag) (a : Addr) : L2.It where
  go := fun i H => ∃ (xs : List V) (x : V), SqT K H a xs ∧ xs[i]? = some x
  yld := fun i H v H' => ∃ T x, v = .ref T ∧ H T = none ∧ H' = upd H T (.tup [.int (i : Nat), x]) ∧ ∀ xs, SqT K H a xs → xs[i]? = some x
  stop := fun i H => ∃ xs : List V, SqT K H a xs ∧ xs.length ≤ i
theorem two_mem {b x y : Addr} (h : b ∈ [x, y]) : b = x ∨ b = y := by simpa using h
theorem turnT {P : Program} {w : World} {K : PySem.W.Frag} {elts : List Expr} {kk : Nat} {tpos : Pos} (a e it : Addr) :
    Turn P w K (.Tuple elts kk tpos) (IteT K a) [e, it] e (fun i h => (∃ old, IsEnum h e it ((i : Nat) : Int) old) ∧ h.IsTupleIter it a i ∧ e ≠ it) := by
  have enumNe : ∀ {h : Heap} {i : Nat} {old : Value} {items : Array Value}, IsEnum h e it ((i : Nat) : Int) old → h.IsTuple a items → e ≠ a := fun {h i old items} he ht z => by
    obtain ⟨o, ho, hc, _⟩ := ht
    have he : h.get? e = _ := he
    rw [z, ho] at he
    cases he
    exact absurd hc (by simp)
  have iterNe : ∀ {h : Heap} {i : Nat} {items : Array Value}, h.IsTupleIter it a i → h.IsTuple a items → a ≠ it := fun {h i items} hi ht z => by
    obtain ⟨o, ho, hc, _⟩ := ht
    obtain ⟨o2, ho2, hc2, _⟩ := hi
    rw [← z, ho] at ho2
    cases ho2
    have hc : o.cls = .type "tuple" := hc
    rw [hc] at hc2
    exact absurd hc2 (by simp)
  refine ⟨List.mem_cons_self, fun i h ⟨⟨old, he⟩, ⟨o, ho, _, hd⟩, _⟩ b hb => ?_, fun i h h' ⟨⟨old, he⟩, ⟨o, ho, r⟩, hne⟩ k => ⟨⟨old, k e (by simp) _ he⟩, ⟨o, k it (by simp) o ho, r⟩, hne⟩, ?_, ?_, fun A i s Q E ⟨⟨_, he⟩, _⟩ h => wpAny_pyIter_enum he h⟩
  · rcases two_mem hb with rfl | rfl
    · exact ⟨_, he, fun v q => nomatch q⟩
    · exact ⟨o, ho, fun v q => by rw [hd] at q; cases q⟩
  · rintro X rfl rfl rfl hc i pins s σ H E I hf ⟨⟨old, he⟩, hit, hne⟩ ⟨xs, x, hq, hx⟩
    obtain ⟨its, rv, p, hz⟩ := I.tuple hq
    have tu : s.heap.IsTuple a its.toArray := p
    have hel : e < s.heap.objs.size := Heap.lt_size he
    have hil : it < s.heap.objs.size := by obtain ⟨_, q, _⟩ := hit; exact Heap.lt_size q
    have D := drawT (prog := X.prog) (w := X.w) (A := X.A.in1) (I.ok.hd hc) it a (iterNe hit tu) its.toArray
    have lt : i < its.toArray.size := by
      rw [List.size_toArray, ← rv.length]
      exact (List.getElem?_eq_some_iff.mp hx).1
    have ea : e ∉ [it, a] := fun z => (two_mem z).elim hne (enumNe he tu)
    refine wpAny_pyNext_enum_itemD D he ⟨hit, tu⟩ lt hne ea fun u h' tk hu ho st hT hsz hk => ⟨_, rfl, wpAny_letOwnedTupleGo_enum (s := { s with heap := h', toks := tk + 1 }) ho fun h'' he' sb => ?_⟩
    obtain ⟨y, hy, ru⟩ : ∃ y : V, xs[i]? = some y ∧ RelV y u := by
      obtain ⟨u2, hu2, r2⟩ := rv.get hx
      have hu : its.toArray[i]? = some u := hu
      have e3 : its[i]? = some u := by simpa using hu
      rw [hu2] at e3
      exact ⟨x, hx, by cases e3; exact r2⟩
    rw [hx] at hy; cases hy
    have tup : h''.get? s.heap.objs.size = some { cls := .type "tuple", data := .seq #[.int i tk, u] } := (sb.2 _ (Nat.ne_of_gt hel)).trans hT
    have ok : ObjOk X.prog X.w (upd H s.heap.objs.size (.tup [.int (i : Nat), x])) h'' s.heap.objs.size (.tup [.int (i : Nat), x]) := ⟨(by decide : 2 ≤ sizeLine), [.int i tk, u], .cons ⟨_, rfl⟩ (.cons ru .nil), ⟨_, tup, rfl, _, rfl⟩⟩
    have J := I.turnedNew (t' := tk + 1) (ch := [e, it]) (fun b ob hb q => (sb.2 b fun z => hb (by simp [z])).trans (hk b ob (fun z => hb (by simp [z])) (fun z => hb (by simp [z])) q)) hf (Nat.le_refl _) ok
    refine ⟨.ref s.heap.objs.size, _, J, rfl, ⟨_, x, rfl, I.hok.fresh (Nat.le_refl _), rfl, fun ys h2 => I.tuple_inj h2 hq ▸ hx⟩, ⟨⟨u, ?_⟩, ?_, hne⟩, fun b hb => ?_⟩
    · rw [show ((i + 1 : Nat) : Int) = (i : Int) + 1 by omega]; exact he'
    · obtain ⟨o, ho, r⟩ := st.1
      exact ⟨o, (sb.2 it (Ne.symm hne)).trans ho, r⟩
    · have lt2 : b < s.heap.objs.size := (two_mem hb).elim (fun z => by rw [z]; exact hel) fun z => by rw [z]; exact hil
      rw [upd_ne (Nat.ne_of_lt lt2)]
      exact (hf b hb).1
  · rintro X rfl rfl rfl hc i pins s σ H E I hf ⟨⟨old, he⟩, hit, hne⟩ ⟨xs, hq, hx⟩
    obtain ⟨its, rv, p, hz⟩ := I.tuple hq
    have tu : s.heap.IsTuple a its.toArray := p
    obtain ⟨f0, f1, f2, f3, f4, f5⟩ := hf it (by simp)
    have nx : its.toArray[i]? = none := by
      rw [Array.getElem?_eq_none_iff, List.size_toArray, ← rv.length]; exact hx
    have hT : s.TypeIs (.ref e) "enumerate" := ⟨_, he, rfl⟩
    unfold pyNext
    refine wpAny_bind (wpAny_attempt (wpAny_callSpecial?_slot (name := Str.ofString "__next__") hT F.slot_enumerate_next (wpAny_call_entry F.slot_enumerate_next hT F.entry_enumerate_next ?_ (F.args_enumerate_next_1 _))))
    refine (show wpAny _ _ (field (.ref e) 2 >>= _) _ _ _ from wpAny_bind (wpAny_field he rfl (x := .ref it) rfl (wpAny_bind (tupEnd (I.ok.hd hc) hit tu nx fun h' ex k ⟨o, ho, hc2⟩ => ?_))))
    exact wpAny_bind (wpAny_isInstance (T := "StopIteration") (b := true) ⟨o, ho, hc2⟩ isSubtype_stop (wpAny_pure ⟨rfl, I.turned (t' := s.toks) (fun b o hb q => k b o hb q) f0 f1 f3 f4 f5⟩))
def iEnum2 (K : PySem.W.Frag) (ta : TA) : TI := fun σ H R => ta σ H fun vs H1 => ∃ a xs, vs = [.ref a] ∧ ((SqL K H1 a xs ∧ R (Ite K a) H1) ∨ (SqT K H1 a xs ∧ R (IteT K a) H1))
theorem pi_enum2 {X : Cx} {e : Expr} {ta : TA} {p pos tpos : Pos} {elts : List Expr} {kk : Nat} (hg : Gl X "enumerate") (hm : X.mg "enumerate" = none) (ha : PA X [e] ta) (hs : starEach [e] X.env = [(false, eval e X.env)]) : PI X (.Tuple elts kk tpos) (.Call (.Name "enumerate" p) [e] [] pos) (iEnum2 X.K ta) := by
  refine ⟨fun pins s σ H R I h => Call_ (ld_blt I hg hm boot_enumerate (PyProof.Rows.callWith_type1 (thn (ha.run pos pins s σ H _ I h) fun us s1 ⟨vs, H1, I1, r1, a, xs, ex, q⟩ => ?_) hs rfl))⟩
  subst ex
  obtain ⟨u, rfl, r⟩ := vals1 r1
  cases r
  have free : ∀ b ∈ [s1.heap.objs.size + 1, s1.heap.objs.size], FpOk X pins H1 b := fun b hb => by
    have le : s1.heap.objs.size ≤ b := by rcases two_mem hb with z | z <;> (rw [z]; omega)
    exact I1.fpOk le (I1.hok.fresh le)
  rcases q with ⟨hq, q⟩ | ⟨hq, q⟩
  · obtain ⟨its, rv, p', hz⟩ := I1.list hq
    exact call_enumerate_list p'.isList fun h' he hit hsz hk => wpAny_pyIter_enum he ⟨_, _, _, _, H1, rfl, I1.kept (t' := s1.toks) hk, turn_enum a (s1.heap.objs.size + 1) s1.heap.objs.size, ⟨⟨.none, he⟩, hit, Nat.succ_ne_self _⟩, free, q⟩
  · obtain ⟨its, rv, p', hz⟩ := I1.tuple hq
    exact enumCallT (show s1.heap.IsTuple a its.toArray from p') fun h' he hit hk => wpAny_pyIter_enum he ⟨_, _, _, _, H1, rfl, I1.kept (t' := s1.toks) hk, turnT a (s1.heap.objs.size + 1) s1.heap.objs.size, ⟨⟨.none, he⟩, hit, Nat.succ_ne_self _⟩, free, q⟩
end Lw
set_option Elab.async false
set_option linter.all false
set_option maxRecDepth 100000
set_option maxHeartbeats 2000000
/-! Lw11: matching expressions keep their meaning. -/
namespace Lw
open PySem L2 PyProof.Rows
theorem PW.imp {X : Cx} {e : Expr} {t t' : TT} (p : PW X e t) (h : ∀ σ H Q, t' σ H Q → t σ H Q) : PW X e t' := ⟨fun wh pins s σ H Q I q => p.run wh pins s σ H Q I (h σ H Q q)⟩
theorem PTs.imp {X : Cx} {e : List Expr} {t t' : TT} (p : PTs X e t) (h : ∀ σ H Q, t' σ H Q → t σ H Q) : PTs X e t' := ⟨fun pins s σ H Q I q => p.run pins s σ H Q I (h σ H Q q)⟩
theorem PI.imp {X : Cx} {tg e : Expr} {t t' : TI} (p : PI X tg e t) (h : ∀ σ H Q, t' σ H Q → t σ H Q) : PI X tg e t' := ⟨fun pins s σ H Q I q => p.run pins s σ H Q I (h σ H Q q)⟩
theorem PG.imp {X : Cx} {e : Expr} {t t' : TG} (p : PG X e t) (h : ∀ x σ H Q, t' x σ H Q → t x σ H Q) : PG X e t' := ⟨fun pins s σ H x u Q I r q => p.run pins s σ H x u Q I r (h x σ H Q q)⟩
theorem PGs.imp {X : Cx} {e : List Expr} {t t' : TGs} (p : PGs X e t) (h : ∀ x σ H Q, t' x σ H Q → t x σ H Q) : PGs X e t' := ⟨fun pins s σ H x u Q I r q => p.run pins s σ H x u Q I r (h x σ H Q q)⟩
theorem PO.imp {X : Cx} {e : Option Expr} {t t' : TO} (p : PO X e t) (h : ∀ σ H Q, t' σ H Q → t σ H Q) : PO X e t' := ⟨fun pins s σ H Q I q => p.run pins s σ H Q I (h σ H Q q)⟩

section
variable {X : Cx} {W : L2.WX} {k : Nat} {m : Mc}
/-! ### steps -/
theorem rd_bin {o : O2} {a b : E} {σ : L2.St} {H : Hp} {Q : VK} (h : rdE X W (wpE (.bin o a b)) σ H Q) : tOp (rO2 X o) (rdE X W (wpE a)) (rdE X W (wpE b)) σ H Q := by
  obtain ⟨ρ, env, hv, Q1, E1, R, RE, w, af, ax⟩ := h
  unfold wpE at w
  exact ⟨ρ, env, hv, _, E1, R, RE, w, fun v h' q ρ' H' x g R' r => ⟨ρ', env, h', _, E1, R', RE.mono g, q, fun u h2 q2 ρ2 H2 y g2 R2 r2 => ⟨ρ2, h2, v, u, Q1, R2, r.mono g2, r2, q2, Aft.mono (g.trans g2) af⟩, AftX.mono g ax⟩, ax⟩
theorem rd_cmp {o : CO} {a b : E} {σ : L2.St} {H : Hp} {Q : VK} (h : rdE X W (wpE (.cmp o a b)) σ H Q) : tOp (rCO X o) (rdE X W (wpE a)) (rdE X W (wpE b)) σ H Q := by
  obtain ⟨ρ, env, hv, Q1, E1, R, RE, w, af, ax⟩ := h
  unfold wpE at w
  exact ⟨ρ, env, hv, _, E1, R, RE, w, fun v h' q ρ' H' x g R' r => ⟨ρ', env, h', _, E1, R', RE.mono g, q, fun u h2 q2 ρ2 H2 y g2 R2 r2 => ⟨ρ2, h2, v, u, _, R2, r.mono g2, r2, q2, fun c z => (Aft.mono (g.trans g2) af).now R2 (.bl c) z⟩, AftX.mono g ax⟩, ax⟩
/-- a reading of a value as a test -/
theorem rd_test {w : TW} {σ : L2.St} {H : Hp} {Q : Bool → Hp → Prop} (h : rdT X W w σ H Q) : tTest (rdE X W w) σ H Q := by
  obtain ⟨ρ, env, hv, Q1, E1, R, RE, w, af, ax⟩ := h
  refine ⟨ρ, env, hv, Q1, E1, R, RE, w, fun v h' q ρ' H' x g R' r => ?_, ax⟩
  obtain ⟨b, rfl, q2⟩ := af v h' q ρ' H' g R'
  cases r
  exact ⟨b, rfl, q2⟩
theorem rd_idx {a b : E} {σ : L2.St} {H : Hp} {Q : VK} (h : rdE X W (wpE (.idx a b)) σ H Q) : tOp (rIdx X) (rdE X W (wpE a)) (rdE X W (wpE b)) σ H Q := by
  obtain ⟨ρ, env, hv, Q1, E1, R, RE, w, af, ax⟩ := h
  unfold wpE at w
  exact ⟨ρ, env, hv, _, E1, R, RE, w, fun v h' q ρ' H' x g R' r => ⟨ρ', env, h', _, E1, R', RE.mono g, q, fun u h2 q2 ρ2 H2 y g2 R2 r2 => ⟨ρ2, h2, v, u, Q1, R2, r.mono g2, r2, q2, Aft.mono (g.trans g2) af⟩, AftX.mono g ax⟩, ax⟩
theorem rd_tst {a : E} {K : Bool → Hv → Prop} {Q : Bool → Hp → Prop} {ρ : Rho} {env : Ev} {hv : Hv} {E1 : EK} {σ : L2.St} {H : Hp} (R : Rel X.K X.mg ρ hv H) (RE : REv X.K ρ H env σ) (w : wpE a env hv (fun x h1 => tstV x fun b => K b h1) E1)
    (af : ∀ b h', K b h' → ∀ ρ' H', Go X.K ρ H ρ' H' → Rel X.K X.mg ρ' h' H' → Q b H') (ax : AftX X ρ H E1 (fun c d H' => W c d σ H')) : rdT X W (wpE a) σ H Q :=
  ⟨ρ, env, hv, _, E1, R, RE, w, fun v h' q ρ' H' g R' => by
    obtain ⟨b, rfl, q2⟩ := tst_of q
    exact ⟨b, rfl, af b h' q2 ρ' H' g R'⟩, ax⟩
theorem rd_tstV {a : E} {K : Bool → Hv → Prop} {Q : VK} {ρ : Rho} {env : Ev} {hv : Hv} {E1 : EK} {σ : L2.St} {H : Hp} (R : Rel X.K X.mg ρ hv H) (RE : REv X.K ρ H env σ) (w : wpE a env hv (fun x h1 => tstV x fun b => K b h1) E1)
    (af : ∀ b h', K b h' → ∀ ρ' H', Go X.K ρ H ρ' H' → Rel X.K X.mg ρ' h' H' → Q (.bl b) H') (ax : AftX X ρ H E1 (fun c d H' => W c d σ H')) : rdE X W (wpE a) σ H Q :=
  ⟨ρ, env, hv, _, E1, R, RE, w, fun v h' q ρ' H' x g R' r => by
    obtain ⟨b, rfl, q2⟩ := tst_of q
    cases r
    exact af b h' q2 ρ' H' g R', ax⟩

/-- what a matching expression has -/
structure GE (X : Cx) (W : L2.WX) (a : E) (x : Expr) : Prop where
  e : PE X x (rdE X W (wpE a))
  t : PT X x (rdT X W (wpE a))
theorem GE.of {a : E} {e : Expr} (h : PE X e (rdE X W (wpE a))) (he : ∀ whole, isTrue e X.env whole = (do let v ← whole; standAt e.pos; holding [v] (truthy v)) := by intro _; rfl) : GE X W a e := ⟨h, pt_of h he⟩
structure GEs (X : Cx) (W : L2.WX) (a : Es) (es : List Expr) : Prop where
  pa : PA X es (rdA X W (wpEs a))
  andE : es ≠ [] → ∀ pos, PE X (.BoolOp .And es pos) (rdE X W (wpAnd a))
  andT : es ≠ [] → ∀ pos, PW X (.BoolOp .And es pos) (rdT X W (wpAnd a))
  orE : es ≠ [] → ∀ pos, PE X (.BoolOp .Or es pos) (rdE X W (wpOr a))
  orT : es ≠ [] → ∀ pos, PW X (.BoolOp .Or es pos) (rdT X W (wpOr a))
  ifs : es.length ≤ 1 → PTs X es (rdF X (wpIfs a))
theorem GEs.nil : GEs X W .nil [] := by
  refine ⟨PA.imp pa_nil fun σ H Q ⟨ρ, env, hv, Q1, E1, R, RE, w, af, ax⟩ => ?_, fun h => absurd rfl h, fun h => absurd rfl h, fun h => absurd rfl h, fun h => absurd rfl h, fun _ => PTs.imp pts_nil fun σ H Q ⟨ρ, env, hv, Q1, R, RE, w, af⟩ => ?_⟩
  · unfold wpEs at w
    exact af [] hv w ρ H [] Go.refl R .nil
  · unfold wpIfs at w
    exact af true hv w ρ H Go.refl R
theorem GEs.cons {a : E} {r : Es} {e : Expr} {es : List Expr} (hp : plainX e = true) (g : GE X W a e) (gs : GEs X W r es) (hr : r = .nil ↔ es = []) : GEs X W (.cons a r) (e :: es) where
  pa := PA.imp (pa_cons g.e gs.pa (star_plain hp)) fun σ H Q ⟨ρ, env, hv, Q1, E1, R, RE, w, af, ax⟩ => by
    unfold wpEs at w
    exact ⟨ρ, env, hv, _, E1, R, RE, w, fun v h' q ρ' H' x g R' rv => ⟨ρ', env, h', _, E1, R', RE.mono g, q, fun vs h2 q2 ρ2 H2 xs g2 R2 rs => af _ h2 q2 ρ2 H2 _ (g.trans g2) R2 (.cons (rv.mono g2) rs), AftX.mono g ax⟩, ax⟩
  andE := fun _ pos => by
    cases es with
    | nil =>
      obtain rfl := hr.mpr rfl
      exact PE.imp (pe_one g.e) fun σ H Q ⟨ρ, env, hv, Q1, E1, R, RE, w, af, ax⟩ => by
        unfold wpAnd at w
        exact rd_tstV R RE w (fun b h' q ρ' H' g R' => af _ h' q ρ' H' _ g R' (.bl b)) ax
    | cons e2 es =>
      refine PE.imp (pe_and g.e (gs.andE (by simp) pos)) fun σ H Q ⟨ρ, env, hv, Q1, E1, R, RE, w, af, ax⟩ => ?_
      cases r with
      | nil => exact absurd (hr.mp rfl) (by simp)
      | cons e2 r =>
        unfold wpAnd at w
        refine ⟨ρ, env, hv, _, E1, R, RE, w, fun v h' q ρ' H' x g R' rv => ?_, ax⟩
        obtain ⟨b, rfl, q⟩ := tst_of q
        cases rv
        refine ⟨b, rfl, ?_⟩
        cases b with
        | true => exact ⟨ρ', env, h', Q1, E1, R', RE.mono g, q, Aft.mono g af, AftX.mono g ax⟩
        | false => exact af _ h' q ρ' H' _ g R' (.bl false)
  andT := fun _ pos => by
    cases es with
    | nil =>
      obtain rfl := hr.mpr rfl
      exact PW.imp (pw_and1 g.t) fun σ H Q ⟨ρ, env, hv, Q1, E1, R, RE, w, af, ax⟩ => by
        unfold wpAnd at w
        exact rd_tst R RE w (fun b h' q ρ' H' g R' => by obtain ⟨c, e, z⟩ := af _ h' q ρ' H' g R'; cases e; exact z) ax
    | cons e2 es =>
      refine PW.imp (pw_and g.t (gs.andT (by simp) pos)) fun σ H Q ⟨ρ, env, hv, Q1, E1, R, RE, w, af, ax⟩ => ?_
      cases r with
      | nil => exact absurd (hr.mp rfl) (by simp)
      | cons e2 r =>
        unfold wpAnd at w
        refine rd_tst (K := fun b h' => if b = true then wpAnd (.cons e2 r) env h' Q1 E1 else Q1 (.bl false) h') R RE w (fun b h' q ρ' H' g R' => ?_) ax
        cases b with
        | true => exact ⟨ρ', env, h', Q1, E1, R', RE.mono g, q, AftT.mono g af, AftX.mono g ax⟩
        | false =>
          obtain ⟨c, e, z⟩ := af _ h' q ρ' H' g R'
          cases e; exact z
  orE := fun _ pos => by
    cases es with
    | nil =>
      obtain rfl := hr.mpr rfl
      exact PE.imp (pe_one g.e) fun σ H Q ⟨ρ, env, hv, Q1, E1, R, RE, w, af, ax⟩ => by
        unfold wpOr at w
        exact rd_tstV R RE w (fun b h' q ρ' H' g R' => af _ h' q ρ' H' _ g R' (.bl b)) ax
    | cons e2 es =>
      refine PE.imp (pe_or g.e (gs.orE (by simp) pos)) fun σ H Q ⟨ρ, env, hv, Q1, E1, R, RE, w, af, ax⟩ => ?_
      cases r with
      | nil => exact absurd (hr.mp rfl) (by simp)
      | cons e2 r =>
        unfold wpOr at w
        refine ⟨ρ, env, hv, _, E1, R, RE, w, fun v h' q ρ' H' x g R' rv => ?_, ax⟩
        obtain ⟨b, rfl, q⟩ := tst_of q
        cases rv
        refine ⟨b, rfl, ?_⟩
        cases b with
        | false => exact ⟨ρ', env, h', Q1, E1, R', RE.mono g, q, Aft.mono g af, AftX.mono g ax⟩
        | true => exact af _ h' q ρ' H' _ g R' (.bl true)
  orT := fun _ pos => by
    cases es with
    | nil =>
      obtain rfl := hr.mpr rfl
      exact PW.imp (pw_or1 g.t) fun σ H Q ⟨ρ, env, hv, Q1, E1, R, RE, w, af, ax⟩ => by
        unfold wpOr at w
        exact rd_tst R RE w (fun b h' q ρ' H' g R' => by obtain ⟨c, e, z⟩ := af _ h' q ρ' H' g R'; cases e; exact z) ax
    | cons e2 es =>
      refine PW.imp (pw_or g.t (gs.orT (by simp) pos)) fun σ H Q ⟨ρ, env, hv, Q1, E1, R, RE, w, af, ax⟩ => ?_
      cases r with
      | nil => exact absurd (hr.mp rfl) (by simp)
      | cons e2 r =>
        unfold wpOr at w
        refine rd_tst (K := fun b h' => if b = true then Q1 (.bl true) h' else wpOr (.cons e2 r) env h' Q1 E1) R RE w (fun b h' q ρ' H' g R' => ?_) ax
        cases b with
        | false => exact ⟨ρ', env, h', Q1, E1, R', RE.mono g, q, AftT.mono g af, AftX.mono g ax⟩
        | true =>
          obtain ⟨c, e, z⟩ := af _ h' q ρ' H' g R'
          cases e; exact z
  ifs := fun hl => by
    cases es with
    | cons _ _ => simp at hl
    | nil =>
      obtain rfl := hr.mpr rfl
      exact PTs.imp (pts_one g.t) fun σ H Q ⟨ρ, env, hv, Q1, R, RE, w, af⟩ => by
        unfold wpIfs at w
        refine rd_tst (W := W) (Q := Q) (K := fun b h' => if b = true then wpIfs .nil env h' Q1 else Q1 false h') R RE w (fun b h' q ρ' H' g R' => ?_) noX
        cases b with
        | true =>
          have q2 : wpIfs .nil env h' Q1 := q
          unfold wpIfs at q2
          exact af true h' q2 ρ' H' g R'
        | false => exact af false h' q ρ' H' g R'

/-! ### stores -/
def rSt (X : Cx) : TSet := fun o i v H Q => ∃ ρ h a b c K, Rel X.K X.mg ρ h H ∧ RV X.K ρ H a o ∧ RV X.K ρ H b i ∧ RV X.K ρ H c v ∧ stSub a b c h K ∧ ∀ h', K h' → ∀ ρ' H', Go X.K ρ H ρ' H' → Rel X.K X.mg ρ' h' H' → Q H'
theorem st_ok (hu : X.A.units + 65 < cLine) : PSet X (rSt X) := by
  intro pins s σ H o i v ov iv u Q I ro ri rv hh
  obtain ⟨ρ, h, a, b, c, K, R, ra, rb, rc, q, af⟩ := hh
  cases ra with
  | @ref n ad e =>
    rcases q with ⟨vs, j, kk, g, rfl, ix, q⟩ | ⟨kvs, g, ok, hl, q⟩
    · cases rb
      obtain ⟨a1, xs, d1, h2, r1⟩ := R.lst g
      rw [e] at d1; cases d1
      exact set_list pins s σ H _ _ v ov iv u Q I ro ri rv ⟨_, xs, j, kk, rfl, rfl, h2, by rw [← r1.length]; exact ix, af _ q ρ _ (Go.put R e ⟨_, g⟩) (R.put e ⟨_, g⟩ ⟨_, upd_same, (r1.set kk rc).mono (Go.put R e ⟨_, g⟩)⟩)⟩
    · obtain ⟨H0, u', I0, dp, d⟩ := dic_put I R g e ok hl rb rc
      exact set_dict (by omega) pins s σ H0 _ _ v ov iv u Q I0 ro ri rv ⟨_, _, rfl, dp, af _ q ρ _ (Go.put R e ⟨_, g⟩) (R.put e ⟨_, g⟩ ⟨u', d.mono (Go.put R e ⟨_, g⟩), .inl ⟨rfl, upd_same⟩⟩)⟩
  | _ => exact q.elim
theorem each_plain {env : Env} : ∀ {es : List Expr}, es.all plainX = true → (assignEach es env).length = es.length ∧ (assignEach es env).findIdx? (·.1) = none
  | [], _ => ⟨rfl, rfl⟩
  | e :: es, h => by
    rw [List.all_cons, Bool.and_eq_true] at h
    have st : assignEach (e :: es) env = (false, assign e env) :: assignEach es env := by
      have h1 := h.1
      cases e <;> first | rfl | cases h1
    obtain ⟨h1, h2⟩ := each_plain (env := env) h.2
    rw [st]
    refine ⟨by rw [List.length_cons, List.length_cons, h1], ?_⟩
    rw [List.findIdx?_cons, h2]
    rfl
theorem each_cons {env : Env} {e : Expr} {es : List Expr} (h : plainX e = true) : (assignEach (e :: es) env).map (·.2) = assign e env :: (assignEach es env).map (·.2) := by
  cases e <;> first | rfl | cases h
theorem assign_plain {env : Env} {o i : Expr} {pos : Pos} (h : plainX i = true) (v : Value) : assign (.Subscript o i pos) env v = (do
      let ov ← holding [v] (eval o env)
      let iv ← holding [v, ov] (eval i env)
      standAt pos
      holding [v, ov, iv] (setItem ov iv v)
      release [v, ov, iv] []) := by
  cases i <;> first | rfl | cases h

/-! ### the pairs of a display -/
def flatP : List (V × V) → List V
  | [] => []
  | p :: r => p.1 :: p.2 :: flatP r
def rdPs (X : Cx) (W : L2.WX) (w : Ev → Hv → (List Val → Hv → Prop) → EK → Prop) (σ : L2.St) (H : Hp) (Q : List (V × V) → Hp → Prop) : Prop :=
  ∃ ρ env h Q1 E1, Rel X.K X.mg ρ h H ∧ REv X.K ρ H env σ ∧ w env h Q1 E1 ∧ (∀ vs h', Q1 vs h' → ∀ ρ' H' ps, Go X.K ρ H ρ' H' → Rel X.K X.mg ρ' h' H' → RVs X.K ρ' H' vs (flatP ps) → Q ps H') ∧ AftX X ρ H E1 (fun c d H' => W c d σ H')
def GPs (X : Cx) (W : L2.WX) (a : Es) (ks : List (Option Expr)) (vs : List Expr) : Prop := ∀ pos, ∃ trs, PPs X pos ks vs trs ∧ ks.all (·.isSome) = true ∧ ks.length = vs.length ∧ ∀ σ H Q, rdPs X W (wpEs a) σ H Q → tPairs trs σ H Q
theorem GPs.nil : GPs X W .nil [] [] := fun pos => ⟨[], pps_nil, rfl, rfl, fun σ H Q ⟨ρ, env, hv, Q1, E1, R, RE, w, af, ax⟩ => by
  unfold wpEs at w
  exact af [] hv w ρ H [] Go.refl R .nil⟩
theorem GPs.cons {a b : E} {r : Es} {x y : Expr} {ks : List (Option Expr)} {vs : List Expr} (g1 : PE X x (rdE X W (wpE a))) (g2 : PE X y (rdE X W (wpE b))) (g : GPs X W r ks vs) : GPs X W (.cons a (.cons b r)) (some x :: ks) (y :: vs) := fun pos => by
  obtain ⟨trs, p, hk, hl, hr⟩ := g pos
  refine ⟨_, pps_cons g1 g2 p, by rw [List.all_cons, hk]; rfl, by rw [List.length_cons, List.length_cons, hl], fun σ H Q ⟨ρ, env, hv, Q1, E1, R, RE, w, af, ax⟩ => ?_⟩
  unfold wpEs at w
  refine ⟨ρ, env, hv, _, E1, R, RE, w, fun v h' q ρ' H' x g R' rv => ?_, ax⟩
  unfold wpEs at q
  refine ⟨ρ', env, h', _, E1, R', RE.mono g, q, fun u h2 q2 ρ2 H2 y g2 R2 ru => ?_, AftX.mono g ax⟩
  refine hr _ _ _ ⟨ρ2, env, h2, _, E1, R2, RE.mono (g.trans g2), q2, fun vs h3 q3 ρ3 H3 ps g3 R3 rs => ?_, AftX.mono (g.trans g2) ax⟩
  exact af _ h3 q3 ρ3 H3 ((_, _) :: ps) (g.trans (g2.trans g3)) R3 (.cons (rv.mono (g2.trans g3)) (.cons (ru.mono g3) rs))
theorem pairs_dic {K : PySem.W.Frag} {ρ : Rho} {H : Hp} : ∀ {vs : List Val} {ps : List (V × V)} {acc out : List (Val × Val)} {ks : List (Key × V)}, RVs K ρ H vs (flatP ps) → dsW vs acc = some out → DicK K ρ H acc ks →
    ∃ kvs : List (Key × V), ps = kvs.map (fun kv => (kV kv.1, kv.2)) ∧ DicK K ρ H out (mergeK ks kvs) := by
  intro vs ps
  induction ps generalizing vs with
  | nil =>
    intro acc out ks r e d
    cases r
    cases e
    exact ⟨[], rfl, d⟩
  | cons p ps ih =>
    intro acc out ks r e d
    obtain ⟨p1, p2⟩ := p
    match vs, r with
    | v :: w :: vs, .cons r1 (.cons r2 t) =>
      unfold dsW at e
      split at e
      · rename_i hk
        have key : ∃ c, RK v c ∧ p1 = kV c := by
          cases r1 with
          | int i => exact ⟨.inl i, .inl ⟨i, rfl, rfl⟩, rfl⟩
          | str ok => exact ⟨.inr _, .inr ⟨_, ok, rfl, rfl⟩, rfl⟩
          | _ => cases hk
        obtain ⟨c, rk, e1⟩ := key
        obtain ⟨kvs, e2, d2⟩ := ih t e (dk_put rk r2 d)
        refine ⟨(c, p2) :: kvs, ?_, d2⟩
        rw [List.map_cons, ← e2, ← e1]
      · cases e
theorem flatP_len : ∀ ps : List (V × V), (flatP ps).length = 2 * ps.length
  | [] => rfl
  | p :: r => by
    show (flatP r).length + 1 + 1 = _
    rw [flatP_len r, List.length_cons]; omega
theorem pe_dict_of {zz : Bool} {a : Es} {ks : List (Option Expr)} {vs : List Expr} {pos : Pos} (g : GPs X W a ks vs) (hl : ks.length ≤ 15) (hn : ks = [] → a = .nil) : PE X (.Dict ks vs pos) (rdE X W (wpE (.dict zz a))) := by
  obtain ⟨trs, p, h1, h2, hr⟩ := g pos
  cases hk : ks with
  | nil =>
    subst hk
    obtain rfl := hn rfl
    have : vs = [] := List.length_eq_zero_iff.mp h2.symm
    subst this
    refine PE.imp pe_dnewK fun σ H Q ⟨ρ, env, hv, Q1, E1, R, RE, w, af, ax⟩ => fun q hq => ?_
    unfold wpE wpEs at w
    obtain ⟨_, kvs, e, w⟩ := w
    cases e
    exact af.newD R (.inl ⟨_, rfl, .nil⟩) w hq
  | cons x r =>
    rw [← hk]
    have h0 : ks ≠ [] := by rw [hk]; simp
    refine PE.imp (pe_disp p h1 h2 h0 hl) fun σ H Q ⟨ρ, env, hv, Q1, E1, R, RE, w, af, ax⟩ => fun q hq => ?_
    unfold wpE at w
    have hn : ∀ n, ρ n ≠ some q := fun n z => R.th _ _ z hq
    have hf : ¬ ρ.fa q := fun z => R.fa _ z hq
    have gl := Go.laid (K := X.K) (ρ := ρ) (u := .dK []) hq
    refine hr _ _ _ ⟨ρ, env, hv, _, E1, R.laid hq, RE.mono gl, w, fun vs h' z ρ' H' ps g R' rs => ?_, AftX.mono gl ax⟩
    obtain ⟨hlen, kvs, e, z⟩ := z
    have eD : H' q = some (.dK []) := g.fr q _ upd_same hn
    have nD : ∀ n, ρ' n ≠ some q := fun n y => (g.nw n q y).elim (hn n) fun y2 => by rw [upd_same] at y2; cases y2
    have fD : ¬ ρ'.fa q := Go.not_fa g upd_same hn hf
    obtain ⟨kc, e2, d⟩ := pairs_dic (acc := []) (ks := []) rs e .nil
    have gm : Gm X.K ρ' H' ρ' (upd H' q (.dK (mergeK [] kc))) := Gm.fill ⟨_, eD, NoCs.dK _⟩ fD
    refine ⟨eD, kc, e2, ?_, ?_⟩
    · have l1 := rs.length
      rw [flatP_len] at l1
      have l2 : ps.length = kc.length := by rw [e2, List.length_map]
      omega
    · have R2 := R'.fill (u := .dK (mergeK [] kc)) nD fD ⟨_, eD, NoCs.dK _⟩
      exact Aft.doneD af .refl (Go.fill (u := .dK (mergeK [] kc)) (Go.trans gl g) hq) hq R2 nD fD upd_same (.inl ⟨_, rfl, Paired.mapP d fun _ _ y => ⟨y.1, y.2.monoM gm⟩⟩) z
end
end Lw
set_option Elab.async false
set_option linter.all false
set_option maxRecDepth 100000
set_option maxHeartbeats 4000000
/-! Lw12: the theorem for expressions. -/
namespace Lw
open PySem L2 PyProof.Rows
section
variable {X : Cx} {W : L2.WX} {k : Nat} {m : Mc}
/-- conditional expression, as a test -/
theorem pt_ife {c x y : Expr} {pos : Pos} {tc ta tb : TT} (hc : PT X c tc) (ha : PT X x ta) (hb : PT X y tb) : PT X (.IfExp c x y pos) (fun σ H Q => tc σ H fun b H1 => if b = true then ta σ H1 Q else tb σ H1 Q) := by
  refine ⟨fun pins s σ H Q I h => ?_⟩
  show wpAny _ _ (do if ← isTrue c X.env (eval c X.env) then isTrue x X.env (eval x X.env) else isTrue y X.env (eval y X.env)) _ _ s
  refine wpAny_bind (thn (hc.run pins s σ H _ I h) fun b s1 ⟨H1, I1, q⟩ => ?_)
  cases b with
  | true => exact ha.run pins s1 σ H1 Q I1 q
  | false => exact hb.run pins s1 σ H1 Q I1 q
abbrev OkE (X : Cx) (k : Nat) (a : E) : Prop := okE (FOk X.prog X.w X.K X.mg X.base k) (COk X.K X.mg) (MOk X.prog X.w X.K X.mg X.base k) a
abbrev OkEs (X : Cx) (k : Nat) (a : Es) : Prop := okEs (FOk X.prog X.w X.K X.mg X.base k) (COk X.K X.mg) (MOk X.prog X.w X.K X.mg X.base k) a
abbrev OkEo (X : Cx) (k : Nat) (a : Eo) : Prop := okEo (FOk X.prog X.w X.K X.mg X.base k) (COk X.K X.mg) (MOk X.prog X.w X.K X.mg X.base k) a
abbrev OkT (X : Cx) (k : Nat) (a : T) : Prop := okTg (FOk X.prog X.w X.K X.mg X.base k) (COk X.K X.mg) (MOk X.prog X.w X.K X.mg X.base k) a
abbrev OkTs (X : Cx) (k : Nat) (a : Ts) : Prop := okTs (FOk X.prog X.w X.K X.mg X.base k) (COk X.K X.mg) (MOk X.prog X.w X.K X.mg X.base k) a
abbrev OkI (X : Cx) (k : Nat) (a : It) : Prop := okI (FOk X.prog X.w X.K X.mg X.base k) (COk X.K X.mg) (MOk X.prog X.w X.K X.mg X.base k) a

theorem ge_bin {o : O2} {a b : E} {x y : Expr} {pos : Pos} (g1 : GE X W a x) (g2 : GE X W b y) : GE X W (.bin o a b) (.BinOp x (opOf o) y pos) :=
  .of (PE.imp (pe_op (o2_ok o) g1.e g2.e) fun _ _ _ h => rd_bin h)
theorem ge_neg {a : E} {x : Expr} {pos : Pos} (g : GE X W a x) : GE X W (.neg a) (.UnaryOp .USub x pos) :=
  .of (PE.imp (pe_un un_neg g.e) fun σ H Q ⟨ρ, env, hv, Q1, E1, R, RE, w, af, ax⟩ => by
    unfold wpE at w
    refine ⟨ρ, env, hv, _, E1, R, RE, w, fun v h' q ρ' H' x g R' rv => ?_, ax⟩
    obtain ⟨i, rfl, q⟩ := q
    cases rv
    exact ⟨i, rfl, af _ h' q ρ' H' _ g R' (.int _)⟩)
theorem ge_cmp {o : CO} {a b : E} {x y : Expr} {pos : Pos} (ct : Ct X W k m) (g1 : GE X W a x) (g2 : GE X W b y) (hp : plainX y = true) : GE X W (.cmp o a b) (.Compare x [cmpOf o] [y] pos) where
  e := PE.imp (pe_cmpR (co_ok ct.un o) g1.e g2.e (mark_plain hp)) fun _ _ _ h => rd_cmp h
  t := PT.imp (pt_cmpR (co_ok ct.un o) g1.e g2.e (mark_plain hp)) fun σ H Q h => rd_cmp (rd_test h)
theorem rd_chain {o o' : CO} {a b c : E} {σ : L2.St} {H : Hp} {Q : VK} (h : rdE X W (wpE (.chain o o' a b c)) σ H Q) : tChain (rCO X o) (rCO X o') (rdE X W (wpE a)) (rdE X W (wpE b)) (rdE X W (wpE c)) σ H Q := by
  obtain ⟨ρ, env, hv, Q1, E1, R, RE, w, af, ax⟩ := h
  unfold wpE at w
  refine ⟨ρ, env, hv, _, E1, R, RE, w, fun v h' q ρ' H' x g R' r => ⟨ρ', env, h', _, E1, R', RE.mono g, q, fun u h2 q2 ρ2 H2 y g2 R2 r2 => ⟨ρ2, h2, v, u, _, R2, r.mono g2, r2, q2, fun c z => ⟨c, rfl, ?_⟩⟩, AftX.mono g ax⟩, ax⟩
  cases c with
  | true =>
    refine ⟨ρ2, env, h2, _, E1, R2, RE.mono (g.trans g2), z, fun w3 h3 q3 ρ3 H3 y3 g3 R3 r3 => ⟨ρ3, h3, u, w3, _, R3, r2.mono g3, r3, q3, fun d z3 => ?_⟩, AftX.mono (g.trans g2) ax⟩
    exact (Aft.mono (g.trans (g2.trans g3)) af).now R3 (.bl d) z3
  | false => exact (Aft.mono (g.trans g2) af).now R2 (.bl false) z
theorem ge_chain {o o' : CO} {a b c : E} {x y z : Expr} {pos : Pos} (ct : Ct X W k m) (g1 : GE X W a x) (g2 : GE X W b y) (g3 : GE X W c z) (hp : plainX z = true) : GE X W (.chain o o' a b c) (.Compare x [cmpOf o, cmpOf o'] [y, z] pos) where
  e := PE.imp (pe_chain (co_ok ct.un o) (co_ok ct.un o') g1.e g2.e g3.e (mark_plain hp)) fun _ _ _ h => rd_chain h
  t := PT.imp (pt_chain (co_ok ct.un o) (co_ok ct.un o') g1.e g2.e g3.e (mark_plain hp)) fun σ H Q h => rd_chain (rd_test h)
theorem ge_not {a : E} {x : Expr} {pos : Pos} (g : GE X W a x) : GE X W (.not a) (.UnaryOp .Not x pos) where
  e := PE.imp (pe_not g.e) fun σ H Q ⟨ρ, env, hv, Q1, E1, R, RE, w, af, ax⟩ => by
    unfold wpE at w
    refine ⟨ρ, env, hv, _, E1, R, RE, w, fun v h' q ρ' H' x g R' rv => ?_, ax⟩
    obtain ⟨b, rfl, q⟩ := tst_of q
    cases rv
    exact ⟨b, rfl, af _ h' q ρ' H' _ g R' (.bl _)⟩
  t := PT.imp (pt_not g.t) fun σ H Q ⟨ρ, env, hv, Q1, E1, R, RE, w, af, ax⟩ => by
    unfold wpE at w
    refine rd_tst R RE w (fun b h' q ρ' H' g R' => ?_) ax
    obtain ⟨c, e, z⟩ := af _ h' q ρ' H' g R'
    cases e; exact z
theorem ge_ife {c a b : E} {x y z : Expr} {pos : Pos} (gc : GE X W c x) (ga : GE X W a y) (gb : GE X W b z) : GE X W (.ife c a b) (.IfExp x y z pos) where
  e := PE.imp (pe_ifExp gc.t ga.e gb.e) fun σ H Q ⟨ρ, env, hv, Q1, E1, R, RE, w, af, ax⟩ => by
    unfold wpE at w
    refine rd_tst (K := fun b2 h' => if b2 = true then wpE a env h' Q1 E1 else wpE b env h' Q1 E1) R RE w (fun b h' q ρ' H' g R' => ?_) ax
    cases b with
    | true => exact ⟨ρ', env, h', Q1, E1, R', RE.mono g, q, Aft.mono g af, AftX.mono g ax⟩
    | false => exact ⟨ρ', env, h', Q1, E1, R', RE.mono g, q, Aft.mono g af, AftX.mono g ax⟩
  t := PT.imp (pt_ife gc.t ga.t gb.t) fun σ H Q ⟨ρ, env, hv, Q1, E1, R, RE, w, af, ax⟩ => by
    unfold wpE at w
    refine rd_tst (K := fun b2 h' => if b2 = true then wpE a env h' Q1 E1 else wpE b env h' Q1 E1) R RE w (fun b h' q ρ' H' g R' => ?_) ax
    cases b with
    | true => exact ⟨ρ', env, h', Q1, E1, R', RE.mono g, q, AftT.mono g af, AftX.mono g ax⟩
    | false => exact ⟨ρ', env, h', Q1, E1, R', RE.mono g, q, AftT.mono g af, AftX.mono g ax⟩
theorem pe_bi_of {b : Bi} {a : Es} {y : Nm} {p pos : Pos} {e : Expr} {es : List Expr} (ct : Ct X W k m) (hy : y = biName b) (hg : Gl X y) (hb : biOk m.c b = true) (ha : PA X (e :: es) (rdA X W (wpEs a))) (hp : (e :: es).all plainX = true) :
    PE X (.Call (.Name y p) (e :: es) [] pos) (rdE X W (wpE (.bi b a))) := by
  subst hy
  obtain ⟨n1, n2, n3, n4⟩ := biName_bi b
  have hm := ct.bi _ n1
  have cr := bi_ok ct.calm ct.gd ct.un ct.sys b hb
  rw [List.all_cons] at hp
  obtain ⟨p1, p2⟩ := and_t hp
  have key : ∀ {σ : L2.St} {H : Hp} {Q : VK}, rdE X W (wpE (.bi b a)) σ H Q → tCB (rBi X b) (rdA X W (wpEs a)) σ H Q := fun {σ H Q} ⟨ρ, env, hv, Q1, E1, R, RE, w, af, ax⟩ => by
    unfold wpE at w
    exact ⟨ρ, env, hv, _, E1, R, RE, w, fun vs h' q ρ' H' xs g R' rv => ⟨ρ', h', vs, Q1, R', rv, q, Aft.mono g af⟩, ax⟩
  cases b <;> first
    | exact PE.imp (pe_callB cr hg hm n2 ha n3 n4 (star_plain p1) (star_any p2)) fun _ _ _ h => key h
    | exact PE.imp (pe_callTy cr hg hm n2 ha n3 n4 (star_plain p1) (star_any p2)) fun _ _ _ h => key h
theorem pe_bm_of (ct : Ct X W k m) {b : Bm} {o : E} {a : Es} {x : Expr} {ap pos : Pos} {at_ : Nm} {es : List Expr} (hy : at_ = bmName b) (hb : bmOk b = true) (hn : noCall x = true) (hl : (ap.endLine == pos.line) = true) (h29 : es.length < 29)
    (ho : PE X x (rdE X W (wpE o))) (ha : PA X es (rdA X W (wpEs a))) (hp : es.all plainX = true) (h0 : es = [] → a = .nil) : PE X (.Call (.Attribute x at_ ap) es [] pos) (rdE X W (wpE (.bm b o a))) := by
  subst hy
  obtain ⟨id, B⟩ := bm_ok (X := X) ct.un b hb
  cases es with
  | nil =>
    obtain rfl := h0 rfl
    refine PE.imp (pe_bm0 B.pa B.slot B.ty B.rule ho (base_plain hn) hl) fun σ H Q ⟨ρ, env, hv, Q1, E1, R, RE, w, af, ax⟩ => ?_
    unfold wpE at w
    refine ⟨ρ, env, hv, _, E1, R, RE, w, fun v h' q ρ' H' x g R' rv => ⟨bmT_ty hb R' rv q.1, ?_⟩, ax⟩
    have q2 := q.2
    unfold wpEs at q2
    exact ⟨ρ', h', v, [], Q1, R', rv, .nil, q2, Aft.mono g af⟩
  | cons e es =>
    have hp' := hp
    rw [List.all_cons] at hp
    obtain ⟨p1, p2⟩ := and_t hp
    refine PE.imp (pe_bm B.pa B.slot B.ty B.rule ho ha (base_plain hn) ?_ hl (star_plain p1) (star_any p2)) fun σ H Q ⟨ρ, env, hv, Q1, E1, R, RE, w, af, ax⟩ => ?_
    · rw [star_few hp']
      show (true && true && decide _) = true
      have : (e :: es).length + ([] : List Keyword).length + (if ([] : List Keyword).isEmpty then 0 else 1) < 30 := by
        show (e :: es).length + 0 + 0 < 30
        omega
      rw [decide_eq_true this]; rfl
    · unfold wpE at w
      refine ⟨ρ, env, hv, _, E1, R, RE, w, fun v h' q ρ' H' x g R' rv => ⟨bmT_ty hb R' rv q.1, ?_⟩, ax⟩
      exact ⟨ρ', env, h', _, E1, R', RE.mono g, q.2, fun vs h2 q2 ρ2 H2 xs g2 R2 rs => ⟨ρ2, h2, v, vs, Q1, R2, rv.mono g2, rs, q2, Aft.mono (g.trans g2) af⟩, AftX.mono g ax⟩
theorem rd_slc {zz : Bool} {a : E} {lo hi : Eo} {σ : L2.St} {H : Hp} {Q : VK} (h : rdE X W (wpE (.slc zz a lo hi)) σ H Q) : tSl (rSlc X zz) (rdE X W (wpE a)) (rdO X W (wpEo lo)) (rdO X W (wpEo hi)) σ H Q := by
  obtain ⟨ρ, env, hv, Q1, E1, R, RE, w, af, ax⟩ := h
  unfold wpE at w
  exact ⟨ρ, env, hv, _, E1, R, RE, w, fun v h' q ρ' H' x g R' r => ⟨ρ', env, h', _, E1, R', RE.mono g, q, fun l h2 q2 ρ2 H2 g2 R2 => ⟨ρ2, env, h2, _, E1, R2, RE.mono (g.trans g2), q2, fun u h3 q3 ρ3 H3 g3 R3 =>
    ⟨ρ3, h3, v, Q1, R3, r.mono (g2.trans g3), q3, Aft.mono (g.trans (g2.trans g3)) af⟩, AftX.mono (g.trans g2) ax⟩, AftX.mono g ax⟩, ax⟩
theorem po_none_of : PO X none (rdO X W (wpEo .none)) := PO.imp po_none fun σ H Q ⟨ρ, env, hv, Q1, E1, R, RE, w, af, ax⟩ => by
  unfold wpEo at w
  exact af none hv w ρ H Go.refl R
theorem po_some_of {a : E} {x : Expr} (g : PE X x (rdE X W (wpE a))) : PO X (some x) (rdO X W (wpEo (.some a))) := PO.imp (po_some g) fun σ H Q ⟨ρ, env, hv, Q1, E1, R, RE, w, af, ax⟩ => by
  unfold wpEo at w
  refine ⟨ρ, env, hv, _, E1, R, RE, w, fun v h' q ρ' H' x g R' rv => ?_, ax⟩
  obtain ⟨i, rfl, q⟩ := q
  cases rv
  exact ⟨i, rfl, af _ h' q ρ' H' g R'⟩
theorem ge_tup {a : Es} {es : List Expr} {j : Nat} {pos : Pos} (g : PA X es (rdA X W (wpEs a))) : GE X W (.tup a) (.Tuple es j pos) :=
  .of (PE.imp (pe_tup g) fun σ H Q ⟨ρ, env, hv, Q1, E1, R, RE, w, af, ax⟩ => by
    unfold wpE at w
    exact ⟨ρ, env, hv, _, E1, R, RE, w, fun vs h' q ρ' H' xs g R' rv => ⟨by rw [← rv.length]; exact q.1, fun p hp => Aft.tup (Aft.mono g af) R' rv q.2 hp⟩, ax⟩)
theorem ge_lst {zz : Bool} {a : Es} {es : List Expr} {pos : Pos} (g : PA X es (rdA X W (wpEs a))) : GE X W (.lst zz a) (.List es pos) :=
  .of (PE.imp (pe_lst g) fun σ H Q ⟨ρ, env, hv, Q1, E1, R, RE, w, af, ax⟩ => by
    unfold wpE at w
    exact ⟨ρ, env, hv, _, E1, R, RE, w, fun vs h' q ρ' H' xs g R' rv => ⟨by rw [← rv.length]; exact q.1, fun p hp => Aft.newL (Aft.mono g af) R' rv q.2 hp⟩, ax⟩)
theorem ge_var (ct : Ct X W k m) {i : Nat} {x : Nm} {pos : Pos} (h1 : nmAt m i x = true) (h2 : isVis m x = true) (h3 : okNm x = true) : GE X W (.var i) (.Name x pos) := by
  obtain ⟨a, b, c⟩ := nm_ok h3
  refine .of (PE.imp (pe_var (nm_at ct h1) (vis_of ct h2) a b) fun σ H Q ⟨ρ, env, hv, Q1, E1, R, RE, w, af, ax⟩ => ?_)
  unfold wpE at w
  obtain ⟨v, e, w⟩ := w
  obtain ⟨y, e2, r⟩ := RE.2 i v e
  exact ⟨y, e2, Aft.now af R r w⟩
theorem ge_glb (ct : Ct X W k m) {x : Nm} {v : Val} {pos : Pos} (h1 : isGlo m x = true) (h3 : okNm x = true) (C : COk X.K X.mg x v) : GE X W (.glb x v) (.Name x pos) := by
  obtain ⟨a, b, c⟩ := nm_ok h3
  obtain ⟨u, y, e1, e2, r⟩ := C
  refine .of (PE.imp (pe_glob (glo_of ct h1) e1 e2 a) fun σ H Q ⟨ρ, env, hv, Q1, E1, R, RE, w, af, ax⟩ => ?_)
  unfold wpE at w
  exact Aft.now af R (r ρ H) w
/-- what changes no more -/
theorem pe_fz_of {a : E} {x : Expr} (g : PE X x (rdE X W (wpE a))) : PE X x (rdE X W (wpE (.fz a))) := PE.imp g fun σ H Q ⟨ρ, env, hv, Q1, E1, R, RE, w, af, ax⟩ => by
  unfold wpE at w
  refine ⟨ρ, env, hv, _, E1, R, RE, w, fun v h' q ρ' H' x g R' rv => ?_, ax⟩
  obtain ⟨u, h2, f, q⟩ := q
  obtain ⟨ρ2, g2, R2, r2⟩ := f.ok R' rv
  exact af u h2 q ρ2 H' x (g.trans g2) R2 r2
theorem pe_rev_of {zz : Bool} {a : E} {e : Expr} {k : Nat} {p1 p2 p3 pos : Pos} (g : PE X e (rdE X W (wpE a))) : PE X (.Subscript e (.Slice none none (some (.UnaryOp .USub (.Constant (.int 1) k p1) p2)) p3) pos) (rdE X W (wpE (.rev zz a))) :=
  PE.imp (pe_revL g) fun σ H Q ⟨ρ, env, hv, Q1, E1, R, RE, w, af, ax⟩ => by
    unfold wpE at w
    refine ⟨ρ, env, hv, _, E1, R, RE, w, fun v h' q ρ' H' x g R' rv => ?_, ax⟩
    obtain ⟨b, vs, xs, rfl, e1, r1, q⟩ := asL.rd q R' rv
    exact ⟨b, xs, rfl, .of e1, fun p hp => Aft.newL (Aft.mono g af) R' r1.reverse q hp⟩
theorem pe_lrg_of {zz : Bool} {a : E} {x : Expr} {y y2 : Nm} {p p2 p3 pos : Pos} (ct : Ct X W k m) (hc : m.c = true) (hy : y = "list") (hg : Gl X y) (hy2 : y2 = "range") (hg2 : Gl X y2) (hp : plainX x = true) (g : PE X x (rdE X W (wpE a))) :
    PE X (.Call (.Name y p) [.Call (.Name y2 p2) [x] [] p3] [] pos) (rdE X W (wpE (.lrg zz a))) := by
  subst hy hy2
  refine PE.imp (pe_listRg (ct.calm hc) hg (ct.bi _ (by decide +kernel)) (prg_1 hg2 (ct.bi _ (by decide +kernel)) g (star_plain hp))) fun σ H Q ⟨ρ, env, hv, Q1, E1, R, RE, w, af, ax⟩ => ?_
  unfold wpE at w
  refine ⟨ρ, env, hv, _, E1, R, RE, w, fun v h' q ρ' H' x g R' rv => ?_, ax⟩
  obtain ⟨j, rfl, hj0, hj, q⟩ := q
  cases rv
  have e0 : (j - 0).toNat = j.toNat := by rw [Int.sub_zero]
  refine ⟨j, rfl, ⟨by omega, by omega, by omega, by omega, by omega⟩, fun q' hq => ?_⟩
  refine Aft.newL (Aft.mono g af) R' ?_ q hq
  unfold rgV
  rw [e0]
  have go : ∀ l : List Nat, RVs X.K ρ' H' (l.map fun (i : Nat) => Val.int i) (l.map fun i => V.int (0 + (i : Nat))) := fun l => by
    induction l with
    | nil => exact .nil
    | cons i l ih =>
      refine .cons ?_ ih
      show RV X.K ρ' H' (.int i) (.int (0 + (i : Nat)))
      rw [Int.zero_add]
      exact .int _
  exact go _
/-! ### texts of parts -/
def fsOk (x : Expr) : Bool := match x with
  | .FormattedValue _ c none _ => c == -1
  | .Constant (.str _) _ _ => true
  | _ => false
/-- the parts of a text -/
structure GFs (X : Cx) (W : L2.WX) (a : Es) (es : List Expr) : Prop where
  pj : ∃ ts, PJ X es ts ∧ ∀ (acc : List Nat) σ H Q, okS acc → (∃ ρ env h Q1 E1, Rel X.K X.mg ρ h H ∧ REv X.K ρ H env σ ∧ wpF a env h acc Q1 E1 ∧
    (∀ s h', Q1 s h' → ∀ ρ' H', Go X.K ρ H ρ' H' → Rel X.K X.mg ρ' h' H' → okS s → Q (toS s) H') ∧ AftX X ρ H E1 (fun c d H' => W c d σ H')) → tJs ts (toS acc) σ H Q
theorem GFs.nil : GFs X W .nil [] := ⟨[], .nil, fun acc σ H Q ok ⟨ρ, env, h, Q1, E1, R, RE, w, af, ax⟩ => by
  unfold wpF at w
  exact af _ _ w ρ H .refl R ok⟩
theorem GFs.cons {a : E} {r : Es} {x : Expr} {es : List Expr} {te : TE} (hx : PE X x te) (ht : ∀ σ H Q, rdE X W (wpE a) σ H (fun v H1 => (∃ y : Str, v = .str y ∧ y.length ≤ sizeLine ∧ Q (.str y) H1) ∨ ∃ i : Int, v = .int i ∧ i.natAbs.log2 < 1920 ∧ Q (.str (toString i)) H1) → te σ H Q)
    (g : GFs X W r es) : GFs X W (.cons a r) (x :: es) := by
  obtain ⟨ts, pj, h⟩ := g.pj
  refine ⟨te :: ts, .cons hx pj, fun acc σ H Q ok ⟨ρ, env, hv, Q1, E1, R, RE, w, af, ax⟩ => ?_⟩
  unfold wpF at w
  refine ht _ _ _ ⟨ρ, env, hv, _, E1, R, RE, w, fun v h' q ρ' H' y g R' rv => ?_, ax⟩
  have fin : ∀ (s : List Nat) (z : Str), okS s → z = toS s → acc.length + s.length ≤ sizeLine → wpF r env h' (acc ++ s) Q1 E1 → ∃ y : Str, V.str z = .str y ∧ (toS acc ++ y).length ≤ sizeLine ∧ tJs ts (toS acc ++ y) σ H' Q := fun s z oks ez hl q => by
    subst ez
    refine ⟨_, rfl, ?_, ?_⟩
    · rw [toS_append, toS_len, List.length_append]; exact hl
    · rw [toS_append]
      exact h _ _ _ _ (ok.append oks) ⟨ρ', env, h', Q1, E1, R', RE.mono g, q, fun s2 h2 q2 ρ2 H2 g2 R2 ok2 => af _ h2 q2 ρ2 H2 (g.trans g2) R2 ok2, AftX.mono g ax⟩
  cases v with
  | str s =>
    cases rv with | str oks => ?_
    exact .inl ⟨_, rfl, by rw [toS_len]; have := q.1; omega, fin s _ oks rfl q.1 q.2⟩
  | int i =>
    cases rv
    exact .inr ⟨i, rfl, q.1, fin _ _ (okT_int i) (toS_of _).symm q.2.1 q.2.2⟩
  | _ => exact q.elim
theorem pe_fst_of {a : Es} {x1 x2 : Expr} {es : List Expr} {pos : Pos} (g : GFs X W a (x1 :: x2 :: es)) : PE X (.JoinedStr (x1 :: x2 :: es) pos) (rdE X W (wpE (.fst a))) := by
  obtain ⟨ts, pj, h⟩ := g.pj
  refine PE.imp (pe_joined pj) fun σ H Q ⟨ρ, env, hv, Q1, E1, R, RE, w, af, ax⟩ => ?_
  unfold wpE at w
  exact h [] _ _ _ (fun _ m => by cases m) ⟨ρ, env, hv, _, E1, R, RE, w, fun s h' q ρ' H' g R' ok => af _ h' q ρ' H' _ g R' (.str ok), ax⟩
/-! ### targets -/
theorem pg_nm (ct : Ct X W k m) {i : Nat} {x : Nm} {pos : Pos} (h1 : nmAt m i x = true) (h2 : isLoc m x = true) : PG X (.Name x pos) (rdG X [i] (wpT (.name i))) := by
  obtain ⟨a, b⟩ := loc_of ct h2
  refine PG.imp (pg_name ct.nd (nm_at ct h1) a b) fun x σ H Q ⟨ρ, env, hv, v, K1, R, RE, rv, w, af⟩ => ?_
  unfold wpT at w
  exact af _ hv w ρ H _ Go.refl R (RE.set i rv) Same.set
theorem pgs_nil_of : PGs X [] (rdGs X [] (wpTs .nil)) := PGs.imp pgs_nil fun x σ H Q ⟨ρ, env, hv, vs, K1, R, RE, rv, w, af⟩ => by
  unfold wpTs at w
  obtain ⟨rfl, w⟩ := w
  cases rv
  exact ⟨rfl, af env hv w ρ H σ Go.refl R RE Same.refl⟩
theorem pgs_cons_of {t : T} {r : Ts} {e : Expr} {es : List Expr} (hp : plainX e = true) (g : PG X e (rdG X t.names (wpT t))) (gs : PGs X es (rdGs X r.names (wpTs r))) : PGs X (e :: es) (rdGs X (Ts.cons t r).names (wpTs (.cons t r))) :=
  PGs.imp (pgs_cons g gs (each_cons hp)) fun xs σ H Q ⟨ρ, env, hv, vs, K1, R, RE, rv, w, af⟩ => by
    unfold wpTs at w
    obtain ⟨v, vr, rfl, w⟩ := w
    cases rv with
    | cons r1 r2 =>
      refine ⟨_, _, rfl, ρ, env, hv, v, _, R, RE, r1, w, fun env' h' q ρ' H' σ' g' R' RE' sm => ?_⟩
      refine ⟨ρ', env', h', vr, _, R', RE', r2.mono g', q, fun env2 h2 q2 ρ2 H2 σ2 g2 R2 RE2 sm2 => ?_⟩
      refine af env2 h2 q2 ρ2 H2 σ2 (g'.trans g2) R2 RE2 ((sm.sub fun i hi => ?_).trans (sm2.sub fun i hi => ?_))
      · exact List.mem_append_left _ hi
      · exact List.mem_append_right _ hi
theorem pg_or {e : Expr} {t1 t2 : TG} (h1 : PG X e t1) (h2 : PG X e t2) : PG X e (fun v σ H Q => t1 v σ H Q ∨ t2 v σ H Q) :=
  ⟨fun pins s σ H v u Q I r hw => hw.elim (h1.run pins s σ H v u Q I r) (h2.run pins s σ H v u Q I r)⟩
theorem pg_tup_of {ts : Ts} {es : List Expr} {j : Nat} {pos : Pos} (ct : Ct X W k m) (hc : m.c = true) (hp : es.all plainX = true) (hl : ts.len = es.length) (g : PGs X es (rdGs X ts.names (wpTs ts))) : PG X (.Tuple es j pos) (rdG X (T.tup ts).names (wpT (.tup ts))) := by
  obtain ⟨e1, e2⟩ := each_plain (env := X.env) hp
  refine PG.imp (pg_or (pg_tup (ct.calm hc) g e1 e2) (pg_unl (ct.calm hc) g e1 e2)) fun x σ H Q ⟨ρ, env, hv, v, K1, R, RE, rv, w, af⟩ => ?_
  unfold wpT at w
  cases rv with
  | @tup vs a xs e r =>
    obtain ⟨l, w⟩ := w
    exact .inl ⟨a, xs, rfl, .of e, by rw [← r.length, l, hl], ρ, env, hv, vs, K1, R, RE, r, w, af⟩
  | @fl vs a xs fa e r =>
    obtain ⟨l, w⟩ := w
    exact .inr ⟨a, xs, rfl, .of e, by rw [← r.length, l, hl], ρ, env, hv, vs, K1, R, RE, r, w, af⟩
  | _ => exact w.elim
theorem pg_sub_of {a b : E} {o i : Expr} {pos : Pos} (ct : Ct X W k m) (hp : plainX i = true) (go : PE X o (rdE X W (wpE a))) (gi : PE X i (rdE X W (wpE b))) : PG X (.Subscript o i pos) (rdG X [] (wpT (.sub a b))) :=
  PG.imp (pg_sub go gi (st_ok ct.un) (assign_plain hp)) fun x σ H Q ⟨ρ, env, hv, v, K1, R, RE, rv, w, af⟩ => by
    unfold wpT at w
    refine ⟨ρ, env, hv, _, noE, R, RE, w, fun y h1 q ρ1 H1 x1 g1 R1 r1 => ?_, noX⟩
    refine ⟨ρ1, env, h1, _, noE, R1, RE.mono g1, q, fun z h2 q2 ρ2 H2 x2 g2 R2 r2 => ?_, noX⟩
    exact ⟨ρ2, h2, y, z, v, _, R2, r1.mono g2, r2, rv.mono (g1.trans g2), q2, fun h3 q3 ρ3 H3 g3 R3 => af env h3 q3 ρ3 H3 σ (g1.trans (g2.trans g3)) R3 (RE.mono (g1.trans (g2.trans g3))) Same.refl⟩
/-! ### ranges -/
theorem wk_rng {ρ : Rho} {H : Hp} {lo : Int} {n : Nat} : WkR X ⟨(List.range n).map fun (k : Nat) => Val.int (lo + k), fun _ => True⟩ ρ H (Itr lo n) where
  go := fun i _ _ _ _ _ _ hi => by
    show i < n
    simpa using hi
  stop := fun i _ _ _ _ _ _ hi => by
    show n ≤ i
    simpa using hi
  yld := fun i ρ2 h2 H2 x H' v g R _ hv hy => by
    obtain ⟨e1, e2⟩ := hy
    subst e1 e2
    have hv : ((List.range n).map fun (k : Nat) => Val.int (lo + k))[i]? = some v := hv
    rw [List.getElem?_map] at hv
    by_cases hi : i < n
    · rw [List.getElem?_range hi] at hv
      cases hv
      exact ⟨Go.refl, R, .int _⟩
    · rw [List.getElem?_eq_none (by simpa using hi)] at hv
      cases hv
theorem range_bi (ct : Ct X W k m) : X.mg "range" = none := ct.bi _ (by decide +kernel)
theorem pi_rng1 {a : E} {tg x : Expr} {y : Nm} {p pos : Pos} (ct : Ct X W k m) (hy : y = "range") (hg : Gl X y) (hp : plainX x = true) (g : PE X x (rdE X W (wpE a))) : PI X tg (.Call (.Name y p) [x] [] pos) (rdI X W (wpI (.rng1 a))) := by
  subst hy
  refine PI.imp (pi_range1 hg (range_bi ct) (pa_cons g pa_nil (star_plain hp)) (star_plain hp)) fun σ H Q ⟨ρ, env, hv, Q1, E1, R, RE, w, af, ax⟩ => ?_
  unfold wpI at w
  refine ⟨ρ, env, hv, _, E1, R, RE, w, fun v h' q ρ' H' x g R' rv => ?_, ax⟩
  obtain ⟨j, rfl, b1, b2, q⟩ := q
  cases rv
  refine ⟨j, rfl, b1, b2, af _ h' q ρ' H' _ g R' ?_⟩
  have z := wk_rng (X := X) (ρ := ρ') (H := H') (lo := 0) (n := j.toNat)
  simpa using z
theorem pi_rng2 {a b : E} {tg x z : Expr} {y : Nm} {p pos : Pos} (ct : Ct X W k m) (hy : y = "range") (hg : Gl X y) (hp : plainX x = true) (hp2 : plainX z = true) (g : PE X x (rdE X W (wpE a))) (g2 : PE X z (rdE X W (wpE b))) :
    PI X tg (.Call (.Name y p) [x, z] [] pos) (rdI X W (wpI (.rng2 a b))) := by
  subst hy
  refine PI.imp (pi_range2 hg (range_bi ct) (pa_cons g (pa_cons g2 pa_nil (star_plain hp2)) (star_plain hp)) ((star_plain hp).trans (by rw [star_plain hp2]; rfl)) (star_plain hp2)) fun σ H Q ⟨ρ, env, hv, Q1, E1, R, RE, w, af, ax⟩ => ?_
  unfold wpI at w
  refine ⟨ρ, env, hv, _, E1, R, RE, w, fun v h' q ρ' H' x g R' rv => ⟨ρ', env, h', _, E1, R', RE.mono g, q, fun u h2 q2 ρ2 H2 y g2 R2 ru => ?_, AftX.mono g ax⟩, ax⟩
  obtain ⟨i, j, rfl, rfl, b, q2⟩ := q2
  cases rv; cases ru
  exact ⟨i, j, rfl, b, af _ h2 q2 ρ2 H2 _ (g.trans g2) R2 wk_rng⟩
/-! ### enumerate, zip -/
theorem enumW_len : ∀ (vs : List Val) (k : Nat), (enumW k vs).length = vs.length
  | [], _ => rfl
  | _ :: r, k => by show (enumW (k + 1) r).length + 1 = r.length + 1; rw [enumW_len r]
theorem enumW_get : ∀ (vs : List Val) (k i : Nat) (v : Val), (enumW k vs)[i]? = some v → ∃ w, vs[i]? = some w ∧ v = .tup [.int ((k + i : Nat) : Int), w]
  | [], _, _, _, h => by cases h
  | u :: r, k, 0, v, h => by
    have h : some (Val.tup [.int k, u]) = some v := h
    cases h
    exact ⟨u, rfl, by rw [Nat.add_zero]⟩
  | u :: r, k, i + 1, v, h => by
    obtain ⟨w, e1, e2⟩ := enumW_get r (k + 1) i v h
    exact ⟨w, e1, by rw [e2, show k + 1 + i = k + (i + 1) by omega]⟩
theorem zipW_len : ∀ (vs ws : List Val), (zipW vs ws).length = min vs.length ws.length
  | [], _ => by simp [zipW]
  | _ :: _, [] => by simp [zipW]
  | _ :: r, _ :: t => by show (zipW r t).length + 1 = _; rw [zipW_len r t]; simp [Nat.succ_min_succ]
theorem zipW_get : ∀ (vs ws : List Val) (i : Nat) (v : Val), (zipW vs ws)[i]? = some v → ∃ a b, vs[i]? = some a ∧ ws[i]? = some b ∧ v = .tup [a, b]
  | [], _, _, _, h => by cases h
  | _ :: _, [], _, _, h => by cases h
  | a :: r, b :: t, 0, v, h => by
    have h : some (Val.tup [a, b]) = some v := h
    cases h
    exact ⟨a, b, rfl, rfl, rfl⟩
  | a :: r, b :: t, i + 1, v, h => zipW_get r t i v h
theorem isL_at {ρ ρ2 : Rho} {H H2 : Hp} {v : Val} {vs : List Val} {a : Addr} {h2 : Hv} (r : RV X.K ρ H v (.ref a)) (g : Gm X.K ρ H ρ2 H2) (R2 : Rel X.K X.mg ρ2 h2 H2) (l : IsL h2 v vs) : ∃ xs, H2 a = some (.lst xs) ∧ RVs X.K ρ2 H2 vs xs := by
  obtain ⟨b, xs, e, e1, r1⟩ := l.rd R2 (r.monoM g)
  cases e
  exact ⟨xs, e1, r1⟩
theorem pi_enum_of {a : E} {x : Expr} {elts : List Expr} {kk : Nat} {tp : Pos} {y : Nm} {p pos : Pos} (ct : Ct X W k m) (hy : y = "enumerate") (hg : Gl X y) (hp : plainX x = true) (g : PE X x (rdE X W (wpE a))) : PI X (.Tuple elts kk tp) (.Call (.Name y p) [x] [] pos) (rdI X W (wpI (.enum a))) := by
  subst hy
  refine PI.imp (pi_enum2 hg (ct.bi _ (by decide +kernel)) (pa_cons g pa_nil (star_plain hp)) (star_plain hp)) fun σ H Q ⟨ρ, env, hv, Q1, E1, R, RE, w, af, ax⟩ => ?_
  unfold wpI at w
  refine ⟨ρ, env, hv, _, E1, R, RE, w, fun v h' q ρ' H' x g R' rv => ?_, ax⟩
  have lists : ∀ {vs : List Val}, IsL h' v vs → Q1 ⟨enumW 0 vs, fun h2 => IsL h2 v vs⟩ h' → ∃ a xs, [x] = [.ref a] ∧ ((SqL X.K H' a xs ∧ Q (Ite X.K a) H') ∨ (SqT X.K H' a xs ∧ Q (IteT X.K a) H')) := fun {vs} l q => by
    obtain ⟨b, xs, rfl, e1, r1⟩ := l.rd R' rv
    refine ⟨b, xs, rfl, .inl ⟨.of e1, af _ h' q ρ' H' _ g R' ⟨fun i ρ2 h2 H2 g2 R2 hG hi => ?_, fun i ρ2 h2 H2 x H3 v2 g2 R2 hG hv hy => ?_, fun i ρ2 h2 H2 g2 R2 hG hi => ?_⟩⟩⟩
    · obtain ⟨ys, s2, r2⟩ := isL_at rv g2 R2 hG
      have hi : i < (enumW 0 vs).length := hi
      rw [enumW_len] at hi
      have hi' : i < ys.length := by rw [← r2.length]; exact hi
      exact ⟨ys, ys[i], .of s2, by simp [hi']⟩
    · obtain ⟨ys, s2, r2⟩ := isL_at rv g2 R2 hG
      obtain ⟨T, z, rfl, hT, rfl, hz⟩ := hy
      obtain ⟨w, ew, rfl⟩ := enumW_get vs 0 i v2 hv
      obtain ⟨z2, ez, rz⟩ := r2.get ew
      have := hz ys (.of s2)
      rw [ez] at this; cases this
      rw [Nat.zero_add]
      exact ⟨Go.laid hT, R2.laid hT, .tup upd_same (.cons (.int _) (.cons (rz.mono (Go.laid hT)) .nil))⟩
    · obtain ⟨ys, s2, r2⟩ := isL_at rv g2 R2 hG
      have hi : (enumW 0 vs).length ≤ i := hi
      rw [enumW_len] at hi
      exact ⟨ys, .of s2, by rw [← r2.length]; exact hi⟩
  cases v with
  | tup vs =>
    cases rv with
    | @tup _ b xs eb rb =>
      refine ⟨b, xs, rfl, .inr ⟨.of eb, af _ h' q ρ' H' _ g R' ⟨fun i ρ2 h2 H2 g2 R2 hG hi => ?_, fun i ρ2 h2 H2 x H3 v2 g2 R2 hG hv hy => ?_, fun i ρ2 h2 H2 g2 R2 hG hi => ?_⟩⟩⟩
      · have e2 : SqT X.K H2 b xs := .of (g2.tp _ _ eb)
        have hi : i < (enumW 0 vs).length := hi
        rw [enumW_len, rb.length] at hi
        exact ⟨xs, xs[i], e2, List.getElem?_eq_getElem hi⟩
      · obtain ⟨T, z, rfl, hT, rfl, hz⟩ := hy
        obtain ⟨w, ew, rfl⟩ := enumW_get vs 0 i v2 hv
        obtain ⟨z2, ez, rz⟩ := (rb.monoM g2).get ew
        have := hz xs (.of (g2.tp _ _ eb))
        rw [ez] at this; cases this
        rw [Nat.zero_add]
        exact ⟨Go.laid hT, R2.laid hT, .tup upd_same (.cons (.int _) (.cons (rz.mono (Go.laid hT)) .nil))⟩
      · have hi : (enumW 0 vs).length ≤ i := hi
        rw [enumW_len, rb.length] at hi
        exact ⟨xs, .of (g2.tp _ _ eb), hi⟩
  | fl vs => exact lists (.inl rfl) q
  | ref n =>
    obtain ⟨vs, e, q⟩ := q
    exact lists (.inr ⟨n, rfl, e⟩) q
  | _ => exact q.elim
theorem pi_zip_of {a b : E} {x x2 : Expr} {elts : List Expr} {kk : Nat} {tp : Pos} {y : Nm} {p pos : Pos} (ct : Ct X W k m) (hy : y = "zip") (hg : Gl X y) (hp : plainX x = true) (hp2 : plainX x2 = true) (g : PE X x (rdE X W (wpE a))) (g2 : PE X x2 (rdE X W (wpE b))) :
    PI X (.Tuple elts kk tp) (.Call (.Name y p) [x, x2] [] pos) (rdI X W (wpI (.zip a b))) := by
  subst hy
  refine PI.imp (pi_zip hg (ct.bi _ (by decide +kernel)) (pa_cons g (pa_cons g2 pa_nil (star_plain hp2)) (star_plain hp)) (star_plain hp) (star_any (es := [x2]) (by rw [List.all_cons, hp2]; rfl))) fun σ H Q ⟨ρ, env, hv, Q1, E1, R, RE, w, af, ax⟩ => ?_
  unfold wpI at w
  refine ⟨ρ, env, hv, _, E1, R, RE, w, fun v h' q ρ' H' x g R' rv => ⟨ρ', env, h', _, E1, R', RE.mono g, q, fun u h2 q2 ρ2 H2 y g2 R2 ru => ?_, AftX.mono g ax⟩, ax⟩
  obtain ⟨vs, l, q2⟩ := asL.el q2
  obtain ⟨ws, l2, q2⟩ := asL.el q2
  have rv2 := rv.mono g2
  obtain ⟨c, xs, rfl, e1, r1⟩ := l.rd R2 rv2
  obtain ⟨d, ys, rfl, e2, r2⟩ := l2.rd R2 ru
  refine ⟨c, d, xs, ys, rfl, .of e1, .of e2, af _ h2 q2 ρ2 H2 _ (g.trans g2) R2 ⟨fun i ρ3 h3 H3 g3 R3 hG hi => ?_, fun i ρ3 h3 H3 x H4 v2 g3 R3 hG hv hy => ?_, fun i ρ3 h3 H3 g3 R3 hG hi => ?_⟩⟩
  · obtain ⟨xs3, s3, r3⟩ := isL_at rv2 g3 R3 hG.1
    obtain ⟨ys3, t3, q3⟩ := isL_at ru g3 R3 hG.2
    have hi : i < (zipW vs ws).length := hi
    rw [zipW_len] at hi
    have h1 : i < xs3.length := by rw [← r3.length]; omega
    have h2 : i < ys3.length := by rw [← q3.length]; omega
    exact ⟨xs3, ys3, xs3[i], ys3[i], .of s3, .of t3, by simp [h1], by simp [h2]⟩
  · obtain ⟨xs3, s3, r3⟩ := isL_at rv2 g3 R3 hG.1
    obtain ⟨ys3, t3, q3⟩ := isL_at ru g3 R3 hG.2
    obtain ⟨T, z1, z2, rfl, hT, rfl, hz1, hz2⟩ := hy
    obtain ⟨w1, w2, ew1, ew2, rfl⟩ := zipW_get vs ws i v2 hv
    obtain ⟨a1, ea1, ra1⟩ := r3.get ew1
    obtain ⟨a2, ea2, ra2⟩ := q3.get ew2
    have t1 := hz1 xs3 (.of s3)
    have t2 := hz2 ys3 (.of t3)
    rw [ea1] at t1; cases t1
    rw [ea2] at t2; cases t2
    exact ⟨Go.laid hT, R3.laid hT, .tup upd_same (.cons (ra1.mono (Go.laid hT)) (.cons (ra2.mono (Go.laid hT)) .nil))⟩
  · obtain ⟨xs3, s3, r3⟩ := isL_at rv2 g3 R3 hG.1
    obtain ⟨ys3, t3, q3⟩ := isL_at ru g3 R3 hG.2
    have hi : (zipW vs ws).length ≤ i := hi
    rw [zipW_len] at hi
    refine ⟨xs3, ys3, .of s3, .of t3, ?_⟩
    rw [← r3.length, ← q3.length]
    omega
end
end Lw
set_option Elab.async false
set_option linter.all false
set_option maxRecDepth 100000
set_option maxHeartbeats 4000000
/-! LwO: objects of own classes: fields, methods, isinstance, own len and ==. -/
namespace Lw
open PySem L2 PyProof.Rows
theorem cl_of {mg : Str → Option Value} {C : Nat} {Ca : Addr} (h : mg (cname C) = some (.ref Ca)) : clOf mg C = some Ca := by
  unfold clOf; rw [h]
section
variable {K : PySem.W.Frag} {mg : Str → Option Value} {ρ : Rho} {h : Hv} {H : Hp} {v : Val} {x : V} {C : Nat} {Ca : Addr}
theorem ins_at (R : Rel K mg ρ h H) (r : RV K ρ H v x) (i : isIns C v h) (hc : clOf mg C = some Ca) : ∃ a dx gs, x = .ref a ∧ H a = some (.ins Ca dx gs) ∧ ∀ f, f ∉ cflds C → gs.lookup f = none := by
  cases r with
  | fi f c e l1 l2 at_ no rs =>
    have i : _ = C := i
    subst i
    rw [R.cl, hc] at c
    cases c
    exact ⟨_, _, _, rfl, e, no⟩
  | ref ea =>
    obtain ⟨fs, e⟩ := i
    obtain ⟨Ca', dx, gs, ⟨_, hm⟩, e1, ri⟩ := R.at_ e ea
    rw [R.cl, hc] at hm
    cases hm
    exact ⟨_, dx, gs, rfl, e1, ri.no⟩
  | _ => exact i.elim
theorem fld_at {i : Nat} {f : Nm} {Q : K1} (R : Rel K mg ρ h H) (r : RV K ρ H v x) (q : oFld C i v h Q) (hc : clOf mg C = some Ca) (hf : (cflds C)[i]? = some f) :
    ∃ a dx gs y u, x = .ref a ∧ H a = some (.ins Ca dx gs) ∧ gs.lookup f = some y ∧ RV K ρ H u y ∧ Q u h := by
  cases r with
  | @fi D vs a Ca' dx gs xs fa c e l1 l2 at_ no rs =>
    obtain ⟨i1, u, e2, q'⟩ := (show D = C ∧ ∃ v, vs[i]? = some v ∧ Q v h from q)
    subst i1
    rw [R.cl, hc] at c
    cases c
    obtain ⟨y, e3, ry⟩ := rs.get e2
    exact ⟨_, _, _, y, u, rfl, e, by rw [at_ i f hf]; exact e3, ry, q'⟩
  | ref ea =>
    obtain ⟨fs, u, e, e2, q⟩ := (show ∃ fs v, h.g _ = some (.ins C fs) ∧ fs[i]? = some (some v) ∧ Q v h from q)
    obtain ⟨Ca', dx, gs, ⟨_, hm⟩, e1, ri⟩ := R.at_ e ea
    rw [R.cl, hc] at hm
    cases hm
    have z := ri.at_ i f hf
    rw [e2] at z
    have z : RF K ρ H (some u) (gs.lookup f) := z
    cases q2 : gs.lookup f with
    | none => rw [q2] at z; exact z.elim
    | some y => rw [q2] at z; exact ⟨_, dx, gs, y, u, rfl, e1, q2, z, q⟩
  | _ => exact q.elim
/-- what a value is, for isinstance of an own class -/
theorem isi_at {Kb : Bool → Prop} (R : Rel K mg ρ h H) (r : RV K ρ H v x) (q : isCV C v h Kb) (hc : clOf mg C = some Ca) (cl : Cls K Ca) (io : isiOk K Ca) :
    ∃ t b, TyX K H x t ∧ PySem.W.kitOne K t (.ref Ca) = some b ∧ PySem.W.notFirst K Ca t = true ∧ Kb b := by
  obtain ⟨k1, k2, k3, k4, k5, k6⟩ := io
  unfold isCV at q
  split at q
  · rename_i D e
    obtain ⟨e1, q⟩ := q
    subst e1
    have ii : isIns D v h := by
      cases v with
      | fi D' vs => cases e; exact rfl
      | ref n =>
        unfold tag at e
        simp only at e
        split at e
        · cases e
        · cases e
        · rename_i e2; cases e; exact ⟨_, e2⟩
        · cases e
      | _ => cases e
    obtain ⟨a, dx, gs, rfl, e2, _⟩ := ins_at R r ii hc
    exact ⟨.ref Ca, true, .base (.ins e2 cl k2 k3 k4 k5), k1, by unfold PySem.W.notFirst; rw [beq_self_eq_true]; rfl, q⟩
  · rename_i g hne e
    have hg : tgB g = true := by
      cases g with
      | ins D => exact (hne D rfl).elim
      | _ => rfl
    obtain ⟨k7, k8⟩ := k6 g hg
    exact ⟨_, false, tag_ty R r e hg, k7, k8, q⟩
  · exact q.elim
end
theorem cflds_nd (C : Nat) : (cflds C).Nodup := by
  unfold cflds
  split <;> first | decide +kernel | (split <;> decide +kernel)
theorem putF_same {f : Str} {y : V} : ∀ {gs : List (Str × V)} {z : V}, gs.lookup f = some z → (putF f y gs).length = gs.length
  | [], _, e => by cases e
  | (g, x) :: r, z, e => by
    unfold putF
    by_cases q : g = f
    · rw [if_pos q]; rfl
    · rw [if_neg q, List.length_cons, List.length_cons]
      rw [List.lookup_cons, beq_false_of_ne (fun w => q w.symm)] at e
      rw [putF_same (show r.lookup f = some z from e)]
theorem set_cnt {v : Val} : ∀ {fs : List (Option Val)} {i : Nat} {o : Option Val}, fs[i]? = some o → ((fs.set i (some v)).filter Option.isSome).length = (fs.filter Option.isSome).length + (if o.isSome = true then 0 else 1)
  | [], _, _, e => by cases e
  | u :: fs, 0, o, e => by
    cases e
    cases u with
    | none => rfl
    | some w => rfl
  | u :: fs, i + 1, o, e => by
    have ih := set_cnt (v := v) (fs := fs) (i := i) e
    rw [List.set_cons_succ]
    cases u with
    | none => exact ih
    | some w =>
      show (List.filter Option.isSome (fs.set i (some v))).length + 1 = (fs.filter Option.isSome).length + 1 + _
      rw [ih]; omega
section
variable {X : Cx} {W : L2.WX} {k : Nat} {m : Mc}
theorem fld_is {C i : Nat} {x : Nm} (h : fldIs C i x = true) : (cflds C)[i]? = some x := by
  unfold fldIs at h
  split at h
  · rename_i f e; rw [e, sEq_eq h]
  · cases h
theorem pe_fld_of (ct : Ct X W k m) {C i : Nat} {o : E} {x : Expr} {f : Nm} {pos : Pos} (hf : fldIs C i f = true) (hn : noCall x = true) (M : MOk X.prog X.w X.K X.mg X.base k C .fld) (g : PE X x (rdE X W (wpE o))) : PE X (.Attribute x f pos) (rdE X W (wpE (.fld C i o))) := by
  obtain ⟨Ca, hc, cl, na⟩ := M
  have e := fld_is hf
  refine PE.imp (L2.pe_fld g (base_plain hn)) fun σ H Q ⟨ρ, env, h, Q1, E1, R, RE, w, af, ax⟩ => ?_
  unfold wpE at w
  refine ⟨ρ, env, h, _, E1, R, RE, w, fun v h' q ρ' H' x g R' r => ?_, ax⟩
  obtain ⟨a, dx, gs, y, u, rfl, e1, l, ru, q⟩ := fld_at R' r q hc e
  exact ⟨a, Ca, dx, gs, y, rfl, e1, cl, na f (List.mem_of_getElem? e), l, (Aft.mono g af).now R' ru q⟩
theorem call_form {x : Expr} {n : Nm} {ap pos : Pos} {es : List Expr} (hn : noCall x = true) (hl : (ap.endLine == pos.line) = true) (h29 : es.length < 29) (hp : es.all plainX = true) : eval (.Call (.Attribute x n ap) es [] pos) X.env = (do
      let ov ← eval x X.env
      standAt ap.atName
      let (f, first) ← holding [ov] (getMethod ov n (do return (← importBound x X.env).getD true))
      callWith pos f first (backTo pos (starEach es X.env)) (backToKw pos (keywordEach [] X.env))) := by
  rw [arm_eval_Call, base_plain hn]
  have hform : methodCallForm (es.length + ([] : List Keyword).length) (backTo pos (starEach es X.env)) (backToKw pos (keywordEach [] X.env)) = true := by
    unfold methodCallForm
    rw [star_few hp]
    show (true && true && decide _) = true
    have : es.length + ([] : List Keyword).length + (if (backToKw pos (keywordEach [] X.env)).isEmpty then 0 else 1) < 30 := by
      show es.length + 0 + 0 < 30
      omega
    rw [decide_eq_true this]; rfl
  have hpos : methodCallPos true x X.env ap pos = pure pos := by unfold methodCallPos; simp [hl]
  unfold methodCall
  rw [hform, hpos]
  unfold calleeOf
  simp only [if_true, pure_bind]
theorem pe_mth_of (ct : Ct X W k m) {C : Nat} {n : Nm} {sp : Spec} {o : E} {a : Es} {x : Expr} {ap pos : Pos} {es : List Expr} (hmc : m.c = true) (hn : noCall x = true) (hl : (ap.endLine == pos.line) = true) (h29 : es.length < 29) (M : MOk X.prog X.w X.K X.mg X.base k C (.mth n sp))
    (go : PE X x (rdE X W (wpE o))) (ga : PA X es (rdA X W (wpEs a))) (hp : es.all plainX = true) (h0 : es = [] → a = .nil) : PE X (.Call (.Attribute x n ap) es [] pos) (rdE X W (wpE (.mth C n sp o a))) := by
  obtain ⟨Ca, f, hc, cl, nf, hm, F⟩ := M
  have ht := call_form (X := X) (n := n) hn hl h29 hp
  have key : ∀ {σ : L2.St} {H : Hp} {Q : VK}, rdE X W (wpE (.mth C n sp o a)) σ H Q → rdE X W (wpE o) σ H (fun y H1 => ∃ b dx fs, y = .ref b ∧ H1 b = some (.ins Ca dx fs) ∧ fs.lookup n = none ∧ rdA X W (wpEs a) σ H1 (fun xs H2 => spOf X.K X.mg sp (y :: xs) H2 Q (WE W σ))) := fun {σ H Q} ⟨ρ, env, h, Q1, E1, R, RE, w, af, ax⟩ => by
    unfold wpE at w
    refine ⟨ρ, env, h, _, E1, R, RE, w, fun v h' q ρ' H' y g R' r => ?_, ax⟩
    obtain ⟨b, dx, gs, rfl, e, no⟩ := ins_at R' r q.1 hc
    exact ⟨b, dx, gs, rfl, e, no n nf, ρ', env, h', _, E1, R', RE.mono g, q.2, fun vs h2 q2 ρ2 H2 xs g2 R2 rv => ⟨ρ2, h2, v :: vs, Q1, E1, R2, .cons (r.mono g2) rv, q2, Aft.mono (g.trans g2) af, AftX.mono (g.trans g2) ax⟩, AftX.mono g ax⟩
  refine ⟨fun pins s σ H Q I h => ?_⟩
  refine PySem.W.methodCall_KW (pl := (do return (← importBound x X.env).getD true)) (thn (go.run pins s σ H _ I (key h)) fun u s1 ⟨y, H1, I1, ry, b, dx, fs, ey, eb, l, q⟩ => ?_) ht
  subst ey
  obtain rfl : u = Value.ref b := ry
  refine getmeth_ok I1 eb cl hm l ?_
  cases es with
  | nil =>
    obtain rfl := h0 rfl
    refine PySem.W.callWith_K0 (first := [.ref b]) I1.kIn hm.kp ?_
    obtain ⟨ρ, env, h, Q1, E1, R, RE, w, af, ax⟩ := q
    unfold wpEs at w
    exact run_G F ct hmc (us := [.ref b]) (xs := [.ref b]) I1 (.cons rfl .nil) (af _ h w ρ H1 [] Go.refl R .nil)
  | cons e es =>
    rw [List.all_cons, Bool.and_eq_true] at hp
    refine PySem.W.callWith_K (first := [.ref b]) (h₀ := X.base) I.ok.mod.kin hm.kp (thn (ga.run pos pins s1 σ H1 _ I1 q) fun us s2 ⟨xs, H2, I2, r, q2⟩ => ⟨I2.kIn, ?_⟩) (star_plain hp.1) (star_any hp.2)
    exact run_G F ct hmc (us := .ref b :: us) (xs := .ref b :: xs) I2 (.cons rfl r) q2
theorem pe_isc_of (ct : Ct X W k m) {C : Nat} {a : E} {x : Expr} {y z : Nm} {p p2 pos : Pos} (hy : y = "isinstance") (hg : Gl X y) (hp : plainX x = true) (hz : z = cname C) (hgz : Gl X z) (hzo : okNm z = true) (M : MOk X.prog X.w X.K X.mg X.base k C .isi) (hx : PE X x (rdE X W (wpE a))) :
    PE X (.Call (.Name y p) [x, .Name z p2] [] pos) (rdE X W (wpE (.isc C a))) := by
  subst hy hz
  obtain ⟨Ca, hc, cl, io⟩ := M
  have hm : X.mg "isinstance" = none := ct.bi _ (by decide +kernel)
  have hb : bootBuiltins "isinstance" = some (.builtin "isinstance") := by decide +kernel
  have hd := (nm_ok hzo).1
  have pc : PE X (.Name (cname C) p2) (tC (.ref Ca)) := pe_glob (u := .ref Ca) hgz (of_cl hc) rfl hd
  refine PE.imp (pe_callB (call_isi (X := X)) hg hm hb (pa_cons hx (pa_cons pc pa_nil) (star_plain hp)) (by decide +kernel) (by decide +kernel) (star_plain hp) (star_any (es := [_]) rfl)) fun σ H Q ⟨ρ, env, h, Q1, E1, R, RE, w, af, ax⟩ => ?_
  unfold wpE at w
  refine ⟨ρ, env, h, _, E1, R, RE, w, fun v h' q ρ' H' z g R' r => ?_, ax⟩
  obtain ⟨t, b, ty, ko, _, q⟩ := isi_at R' r q hc cl io
  exact ⟨z, .ref Ca, t, .ref Ca, b, rfl, .own _, ty, ko, (Aft.mono g af).now R' (.bl _) q⟩
theorem pg_fld_of (ct : Ct X W k m) {C i : Nat} {o : E} {x : Expr} {f : Nm} {pos : Pos} (hf : fldIs C i f = true) (M : MOk X.prog X.w X.K X.mg X.base k C .fld) (g : PE X x (rdE X W (wpE o))) : PG X (.Attribute x f pos) (rdG X [] (wpT (.fld C i o))) := by
  obtain ⟨Ca, hc, cl, na⟩ := M
  have ef := fld_is hf
  refine ⟨fun pins s σ H y u Q I ry ⟨ρ, env, h, v, K1, R, RE, rv, w, af⟩ => ?_⟩
  unfold wpT at w
  have hq : rdE X W (wpE o) σ H (fun z H1 => ∃ b dx gs, z = .ref b ∧ H1 b = some (.ins Ca dx gs) ∧ gs.length < 1000 ∧ Q σ (upd H1 b (.ins Ca dx (putF f y gs)))) := by
    refine ⟨ρ, env, h, _, noE, R, RE, w, fun z h1 q ρ1 H1 x1 g1 R1 r1 => ?_, noX⟩
    cases z with
    | ref n =>
      obtain ⟨fs, e, hi, q⟩ := q
      cases r1 with
      | @ref _ b ea =>
      obtain ⟨Ca', dx, gs, hm, e1, ri⟩ := R1.at_ e ea
      have hm2 := hm.2
      rw [R1.cl, hc] at hm2
      cases hm2
      have hcl : gs.length ≤ (cflds C).length := ri.few'
      have hsmall : (cflds C).length < 900 := by
        unfold cflds
        split <;> first | decide | (split <;> decide)
      refine ⟨b, dx, gs, rfl, e1, by omega, ?_⟩
      have G := Go.put (u := .ins Ca dx (putF f y gs)) R1 ea ⟨_, e⟩
      have look : ∀ f2, (putF f y gs).lookup f2 = if f2 = f then some y else gs.lookup f2 := fun f2 => lookup_putF f f2 y gs
      refine af env _ q ρ1 _ σ (g1.trans G) (R1.put ea ⟨_, e⟩ ⟨Ca, dx, _, hm, upd_same, ?_⟩) (RE.mono (g1.trans G)) Same.refl
      have rvy := rv.mono (g1.trans G)
      refine ⟨by rw [List.length_set]; exact ri.len, ?_, fun j f2 hf2 => ?_, fun f2 h2 => ?_⟩
      · have hlen := length_putF f y gs
        have few := ri.few
        have eo : fs[i]? = some fs[i] := List.getElem?_eq_getElem hi
        rw [set_cnt eo]
        cases q3 : fs[i] with
        | none =>
          show _ ≤ _ + 1
          omega
        | some w =>
          show _ ≤ _ + 0
          have z := ri.at_ i f ef
          rw [eo, q3] at z
          have z : RF X.K ρ1 H1 (some w) (gs.lookup f) := z
          cases q4 : gs.lookup f with
          | none => rw [q4] at z; exact z.elim
          | some y2 => rw [putF_same q4]; omega
      · rw [look]
        by_cases q2 : f2 = f
        · subst q2
          have ej : j = i := (List.getElem?_inj (by exact (List.getElem?_eq_some_iff.mp hf2).1) (cflds_nd C)).mp (hf2.trans ef.symm)
          subst ej
          rw [if_pos rfl, List.getElem?_set_self hi]
          exact rvy
        · rw [if_neg q2, List.getElem?_set_ne (fun z => q2 (by subst z; rw [ef] at hf2; cases hf2; rfl))]
          exact (ri.at_ j f2 hf2).mono G.gm
      · rw [look, if_neg (fun z => h2 (by rw [z]; exact List.mem_of_getElem? ef))]
        exact ri.no f2 h2
    | _ => exact q.elim
  rw [assign_Attribute]
  refine wpAny_bind (wpAny_holding (thn (g.run pins s σ H _ I hq) fun ov s1 ⟨z, H1, I1, rz, b, dx, gs, ez, eb, l, q⟩ => ?_))
  subst ez
  obtain rfl : ov = Value.ref b := rz
  refine wpAny_bind (wpAny_standAt (wpAny_bind (wpAny_holding (setattr_ok I1 eb cl (na f (List.mem_of_getElem? ef)) l ry fun s2 I2 => ?_))))
  exact wpAny_release ⟨σ, _, I2, q⟩
/-- a value's type is looked up -/
theorem ty_look {pins : List (Addr × Obj)} {σ : L2.St} {H : Hp} {s : Shared} {x : V} {u t : Value} (I : L2.Inv X pins σ H s) (rx : RelV x u) (ty : TyX X.K H x t) : PySem.W.Looks (model X.prog X.w) s.heap (typeOf u) t := by
  have ld : ∀ {a : Addr} {o : Obj} {t' : Value}, s.heap.get? a = some o → o.cls = t' → PySem.W.Looks (model X.prog X.w) s.heap (typeOf (.ref a)) t' := fun h e => e ▸ (PySem.W.Looks.ld h).andThen .now
  cases ty with
  | base b =>
    cases b with
    | non => cases (show u = Value.none from rx); exact PySem.W.Looks.of_pure rfl
    | bl y => cases (show u = Value.bool y from rx); exact PySem.W.Looks.of_pure rfl
    | int i => obtain ⟨t, q⟩ := (show ∃ t, u = Value.int i t from rx); cases q; exact PySem.W.Looks.of_pure rfl
    | str y => obtain ⟨t, q⟩ := (show ∃ t, u = Value.str y t from rx); cases q; exact PySem.W.Looks.of_pure rfl
    | flt y => obtain ⟨t, q⟩ := (show ∃ t, u = Value.float y t from rx); cases q; exact PySem.W.Looks.of_pure rfl
    | @lst a xs ea =>
      cases (show u = Value.ref a from rx)
      obtain ⟨_, _, n, _, h1⟩ := (show ObjOk X.prog X.w H s.heap a (.lst xs) from I.hok a _ ea)
      exact ld h1 rfl
    | @frz a ob xs ea =>
      cases (show u = Value.ref a from rx)
      obtain ⟨_, _, _, n, _, h1⟩ := (show ObjOk X.prog X.w H s.heap a (.frz ob (.lst xs)) from I.hok a _ ea)
      exact ld h1 rfl
    | @tup a xs ea =>
      cases (show u = Value.ref a from rx)
      obtain ⟨_, _, _, o, h1, h2, _⟩ := (show ObjOk X.prog X.w H s.heap a (.tup xs) from I.hok a _ ea)
      exact ld h1 h2
    | @dK a kvs ea =>
      cases (show u = Value.ref a from rx)
      obtain ⟨_, _, vs, _, o, es, ep, h1, h2, _⟩ := (show ObjOk X.prog X.w H s.heap a (.dK kvs) from I.hok a _ ea)
      exact ld h1 h2.1
    | @dT a kvs ea =>
      cases (show u = Value.ref a from rx)
      obtain ⟨_, _, xs, _, o, es, ep, h1, h2, _⟩ := (show ObjOk X.prog X.w H s.heap a (.dT kvs) from I.hok a _ ea)
      exact ld h1 h2.1
    | @ins a C dx fs ea cl ha hn htk hm =>
      cases (show u = Value.ref a from rx)
      obtain ⟨mA, O, _⟩ := ins_get I.hok ea
      obtain ⟨od, J, _⟩ := O.look
      exact J.type
  | byt y => obtain ⟨t, q⟩ := (show ∃ t, u = Value.bytes y t from rx); cases q; exact PySem.W.Looks.of_pure rfl
  | @set a S n ea =>
    cases (show u = Value.ref a from rx)
    obtain ⟨o, _, _, _, e, ex, _⟩ := I.hok a _ ea
    exact ld e ex.1
  | @kList a o e c =>
    cases (show u = Value.ref a from rx)
    exact ld (I.kIn a o e) c
  | @kTuple a o e c =>
    cases (show u = Value.ref a from rx)
    exact ld (I.kIn a o e) c
  | @kDict a o e c =>
    cases (show u = Value.ref a from rx)
    exact ld (I.kIn a o e) c
  | @fTuple a ob xs ea =>
    cases (show u = Value.ref a from rx)
    obtain ⟨_, _, _, _, o, h1, h2, _⟩ := (show ObjOk X.prog X.w H s.heap a (.frz ob (.tup xs)) from I.hok a _ ea)
    exact ld h1 h2
  | @fDict a ob kvs ea =>
    cases (show u = Value.ref a from rx)
    obtain ⟨_, _, _, vs, _, o, es, ep, h1, h2, _⟩ := (show ObjOk X.prog X.w H s.heap a (.frz ob (.dK kvs)) from I.hok a _ ea)
    exact ld h1 h2.1
/-- the own == of a class -/
theorem ge_eqo (ct : Ct X W k m) {C : Nat} {sp : Spec} {a b : E} {x y : Expr} {pos : Pos} (hmc : m.c = true) (Mo : MOk X.prog X.w X.K X.mg X.base k C (.own "__eq__" sp)) (Mi : MOk X.prog X.w X.K X.mg X.base k C .isi) (g1 : PE X x (rdE X W (wpE a))) (g2 : PE X y (rdE X W (wpE b)))
    (hp : plainX y = true) : GE X W (.eqo C sp a b) (.Compare x [.Eq] [y] pos) := by
  obtain ⟨Ca, f, j, hc, cl, hj, hm, F⟩ := Mo
  obtain ⟨Ca', hc', _, io⟩ := Mi
  rw [hc] at hc'
  cases hc'
  let RR : L2.St → VK → V → V → Hp → Prop := fun σ Q y1 y2 H2 => ∃ b dx fs t, y1 = .ref b ∧ H2 b = some (.ins Ca dx fs) ∧ TyX X.K H2 y2 t ∧ PySem.W.notFirst X.K Ca t = true ∧ spOf X.K X.mg sp [y1, y2] H2 (fun z H3 => ∃ k, z = .bl k ∧ Q z H3) (WE W σ)
  have key : ∀ {σ : L2.St} {H : Hp} {Q : VK}, rdE X W (wpE (.eqo C sp a b)) σ H Q → rdE X W (wpE a) σ H fun y1 H1 => rdE X W (wpE b) σ H1 fun y2 H2 => RR σ Q y1 y2 H2 := fun {σ H Q} ⟨ρ, env, h, Q1, E1, R, RE, w, af, ax⟩ => by
    unfold wpE at w
    refine ⟨ρ, env, h, _, E1, R, RE, w, fun v h' q ρ' H' y g R' r => ?_, ax⟩
    refine ⟨ρ', env, h', _, E1, R', RE.mono g, q, fun v2 h2 q2 ρ2 H2 y2 gg R2 r2 => ?_, AftX.mono g ax⟩
    obtain ⟨q3, q4, q5⟩ := q2
    obtain ⟨b, dx, gs, rfl, e, no⟩ := ins_at R2 (r.mono gg) q3 hc
    obtain ⟨t, _, ty, _, nf, _⟩ := isi_at R2 r2 q4 hc cl io
    refine ⟨b, dx, gs, t, rfl, e, ty, nf, ρ2, h2, [v, v2], _, E1, R2, .cons (r.mono gg) (.cons r2 .nil), q5, fun z h3 q ρ3 H3 z' g3 R3 r3 => ?_, AftX.mono (g.trans gg) ax⟩
    obtain ⟨kk, rfl, q⟩ := tst_of q
    cases r3
    exact ⟨kk, rfl, (Aft.mono (g.trans (gg.trans g3)) af).now R3 (.bl kk) q⟩
  have core : ∀ {pins : List (Addr × Obj)} {s : Shared} {σ : L2.St} {H2 : Hp} {y1 y2 : V} {v u : Value} {Q : VK}, L2.Inv X pins σ H2 s → RelV y1 v → RelV y2 u → RR σ Q y1 y2 H2 → wpAny (model X.prog X.w) X.A (compareOp .Eq v u) (EP X pins σ fun z H3 => ∃ k, z = .bl k ∧ Q z H3) X.xe s := fun {pins s σ H2 y1 y2 v u Q} I2 rx ry ⟨b, dx, fs, t, e1, eb, ty, nf, sp'⟩ => by
    subst e1
    obtain rfl : v = Value.ref b := rx
    obtain ⟨mA, J, _⟩ := ins_get I2.hok eb
    obtain ⟨od, J, _⟩ := J.look
    obtain ⟨mm, hF⟩ := I2.fr
    show wpAny (model X.prog X.w) X.A (richCompare .Eq (.ref b) u) _ _ _
    have room := (ct.room hmc).mono (j := j) (by omega)
    refine PySem.W.cmp_K (op := .Eq) (tb := t) room.units0 hF I2.ok.mod.kin J (ty_look I2 ry ty) nf hm.at_ hm.fn ?_
    refine wpAny_mono (F.runs (us := [.ref b, u]) (xs := [.ref b, y2]) ct room ct.gd I2.env0 I2 (.cons rfl (.cons ry .nil)) sp') (fun r s' z => ?_) fun _ _ x => x
    obtain ⟨z, H3, I3, rz, kk, ez, qz⟩ := z
    subst ez
    cases rz
    exact ⟨.bl kk, H3, I3, rfl, kk, rfl, qz⟩
  refine ⟨⟨fun pins s σ H Q I h => ?_⟩, ⟨fun pins s σ H Q I h => ?_⟩⟩
  · refine wpAny_Compare1 (binT g1 g2 I (key h) fun v u s2 x y H2 I2 rx ry q => wpAny_mono (core I2 rx ry q) (fun r s' z => ?_) fun _ _ x => x) (mark_plain hp)
    obtain ⟨z, H3, I3, rz, kk, ez, qz⟩ := z
    exact ⟨z, H3, I3, rz, qz⟩
  · refine wpAny_isTrue_Compare1 (thn (g1.run pins s σ H _ I (key (rd_test h))) fun v s1 ⟨x, H1, I1, r1, q1⟩ => thn (g2.run pins s1 σ H1 _ I1 q1) fun u s2 ⟨y, H2, I2, r2, q2⟩ => thn (core I2 r1 r2 q2) fun c s3 ⟨z, H3, I3, r3, kk, e, kk2, e2, q3⟩ => ?_) (mark_plain hp)
    subst e
    cases e2
    cases r3
    exact wpAny_truthy_bool ⟨H3, I3, q3⟩
theorem special_K {M : Model} {A : Around} {E : Value → Shared → Prop} {s : Shared} {K : PySem.W.Frag} {x C f : Addr} {ox : Obj} {od : Option Obj} {name : Str} {args : List Value} {Q : Option Value → Shared → Prop} (X : K.In s.heap) (I : PySem.W.InstAt s.heap x ox C od) (hs : PySem.W.findIn K (.ref C) name = some (some (.ref f))) (hf : PySem.W.isFn K (.ref f) = true)
    (h : wpAny M A (call (.ref f) (.ref x :: args)) (fun v => Q (some v)) E s) : wpAny M A (callSpecial? (.ref x) name args) Q E s := by
  unfold callSpecial? specialOf
  refine wpAny_bind (wpAny_bind (I.type.here ((PySem.W.looks_findIn X hs).here ?_)))
  refine wpAny_holding (wpAny_bind ((PySem.W.bind_fn X _ (beq_iff_eq.mp hf)).here ?_))
  exact wpAny_bind (wpAny_mono h (fun v s' h' => wpAny_pure h') fun _ _ h' => h')
/-- what len and str ask of the object -/
theorem own_key (ct : Ct X W k m) {C : Nat} {sp : Spec} {Ca : Addr} {a : E} {wt : TW} {P : Val → Prop} (hc : clOf X.mg C = some Ca) (hw : ∀ env h Q Ex, wt env h Q Ex → wpE a env h (fun x h1 => isIns C x h1 ∧ sp [x] h1 (fun v h2 => P v ∧ Q v h2) Ex) Ex) {σ : L2.St} {H : Hp} {Q : VK} (q : rdE X W wt σ H Q) :
    rdE X W (wpE a) σ H fun y H1 => ∃ b dx fs, y = .ref b ∧ H1 b = some (.ins Ca dx fs) ∧ spOf X.K X.mg sp [y] H1 (fun z H3 => (∃ ρ v, P v ∧ RV X.K ρ H3 v z) ∧ Q z H3) (WE W σ) := by
  obtain ⟨ρ, env, h, Q1, E1, R, RE, w, af, ax⟩ := q
  refine ⟨ρ, env, h, _, E1, R, RE, hw _ _ _ _ w, fun v h' q ρ' H' y g R' r => ?_, ax⟩
  obtain ⟨b, dx, gs, rfl, e, no⟩ := ins_at R' r q.1 hc
  exact ⟨b, dx, gs, rfl, e, ρ', h', [v], _, E1, R', .cons r .nil, q.2, fun z h3 q ρ3 H3 z' g3 R3 r3 => ⟨⟨ρ3, z, q.1, r3⟩, (Aft.mono (g.trans g3) af).now R3 r3 q.2⟩, AftX.mono g ax⟩
theorem Room.two {k j : Nat} {A : Around} (r : Room k A) (h : j + 2 ≤ k) : Room j A.in1.in1 := ((r.mono h : Room (j + 1 + 1) A).in1).in1
theorem pe_leno_of (ct : Ct X W k m) {C : Nat} {sp : Spec} {a : E} {x : Expr} {y : Nm} {p pos : Pos} (hmc : m.c = true) (hy : y = "len") (hg : Gl X y) (hp : plainX x = true) (Mo : MOk X.prog X.w X.K X.mg X.base k C (.own "__len__" sp)) (hx : PE X x (rdE X W (wpE a))) :
    PE X (.Call (.Name y p) [x] [] pos) (rdE X W (wpE (.leno C sp a))) := by
  subst hy
  obtain ⟨Ca, f, j, hc, cl, hj, hm, F⟩ := Mo
  have hmg : X.mg "len" = none := ct.bi _ (by decide +kernel)
  have hb : bootBuiltins "len" = some (.builtin "len") := by decide +kernel
  refine ⟨fun pins s σ H Q I h => wpAny_Call_Name_kw (ld_blt I hg hmg hb ?_ (by decide +kernel) (by decide +kernel))⟩
  have key := own_key ct (P := lenOk) hc (fun env h Q Ex w => by unfold wpE at w; exact w) h
  refine PyProof.Rows.callWith_builtin1 (thn ((pa_cons hx pa_nil (star_plain hp)).run pos pins s σ H (fun xs H1 => ∃ b dx fs, xs = [.ref b] ∧ H1 b = some (.ins Ca dx fs) ∧ spOf X.K X.mg sp xs H1 (fun z H3 => (∃ ρ v, lenOk v ∧ RV X.K ρ H3 v z) ∧ Q z H3) (WE W σ)) I ?_) fun us s1 ⟨vs, H1, I1, r1, b, dx, fs, e1, eb, sp1⟩ => ?_) (star_plain hp) (star_any (es := []) rfl)
  · obtain ⟨ρ, env, h, Q1, E1, R, RE, w, af, ax⟩ := key
    exact ⟨ρ, env, h, Q1, E1, R, RE, w, fun v h' q ρ' H' y g R' r => let ⟨b, dx, fs, e1, e2, e3⟩ := af v h' q ρ' H' y g R' r; ⟨b, dx, fs, by rw [e1], e2, e3⟩, ax⟩
  · subst e1
    obtain rfl : us = [.ref b] := by cases r1 with | cons r t => cases t; cases r; rfl
    obtain ⟨mA, J, _⟩ := ins_get I1.hok eb
    obtain ⟨od, J, _⟩ := J.look
    have room := (ct.room hmc).mono (j := j + 1) (by omega)
    refine Calls.call_function_entry kind_len plain_len entry_len (args_len1 _) ?_
    unfold Builtin.«len»
    refine wpAny_bind (m := oneArg "len" _) (wpAny_pure ?_)
    refine wpAny_bind (m := callSpecial? (.ref b) (Str.ofString "__len__")) (special_K I1.kIn J hm.at_ hm.fn (wpAny_mono (F.runs (us := [.ref b]) (xs := [.ref b]) ct room.in1 ct.gd I1.env0.in1 I1 (.cons rfl .nil) sp1) (fun r s' z => ?_) fun _ _ x => x))
    obtain ⟨z, H3, I3, rz, ⟨ρ3, v3, lk, r3⟩, qz⟩ := z
    cases r3 with
    | int n =>
      obtain ⟨h0, h1⟩ := (show 0 ≤ n ∧ n < 4611686018427387904 from lk)
      obtain ⟨tk, rfl⟩ := (show ∃ t, r = Value.int n t from rz)
      refine wpAny_bind (wpAny_holding (wpAny_pure ?_))
      refine wpAny_bind (wpAny_letGo ?_)
      show wpAny _ _ (if n < 0 then _ else _) _ _ _
      rw [if_neg (by omega)]
      show wpAny _ _ (if n ≥ 2 ^ 63 then _ else _) _ _ _
      rw [if_neg (by omega)]
      exact wpAny_bind (wpAny_mkInt (wpAny_pure ⟨_, rfl, .int n, H3, I3.tok _, ⟨_, rfl⟩, qz⟩))
    | _ => exact (show False from lk).elim
theorem pe_stro_of (ct : Ct X W k m) {C : Nat} {sp : Spec} {a : E} {x : Expr} {y : Nm} {p pos : Pos} (hmc : m.c = true) (hy : y = "str") (hg : Gl X y) (hp : plainX x = true) (Mo : MOk X.prog X.w X.K X.mg X.base k C (.own "__str__" sp)) (hx : PE X x (rdE X W (wpE a))) :
    PE X (.Call (.Name y p) [x] [] pos) (rdE X W (wpE (.stro C sp a))) := by
  subst hy
  obtain ⟨Ca, f, j, hc, cl, hj, hm, F⟩ := Mo
  have hmg : X.mg "str" = none := ct.bi _ (by decide +kernel)
  have hb : bootBuiltins "str" = some (.type "str") := by decide +kernel
  refine ⟨fun pins s σ H Q I h => wpAny_Call_Name_kw (ld_blt I hg hmg hb ?_ (by decide +kernel) (by decide +kernel))⟩
  have key := own_key ct (P := strOk) hc (fun env h Q Ex w => by unfold wpE at w; exact w) h
  refine PyProof.Rows.callWith_type1 (thn ((pa_cons hx pa_nil (star_plain hp)).run pos pins s σ H (fun xs H1 => ∃ b dx fs, xs = [.ref b] ∧ H1 b = some (.ins Ca dx fs) ∧ spOf X.K X.mg sp xs H1 (fun z H3 => (∃ ρ v, strOk v ∧ RV X.K ρ H3 v z) ∧ Q z H3) (WE W σ)) I ?_) fun us s1 ⟨vs, H1, I1, r1, b, dx, fs, e1, eb, sp1⟩ => ?_) (star_plain hp) (star_any (es := []) rfl)
  · obtain ⟨ρ, env, h, Q1, E1, R, RE, w, af, ax⟩ := key
    exact ⟨ρ, env, h, Q1, E1, R, RE, w, fun v h' q ρ' H' y g R' r => let ⟨b, dx, fs, e1, e2, e3⟩ := af v h' q ρ' H' y g R' r; ⟨b, dx, fs, by rw [e1], e2, e3⟩, ax⟩
  · subst e1
    obtain rfl : us = [.ref b] := by cases r1 with | cons r t => cases t; cases r; rfl
    obtain ⟨mA, J, _⟩ := ins_get I1.hok eb
    obtain ⟨od, J, _⟩ := J.look
    have room := (ct.room hmc).mono hj
    refine callType_newIn (S := fun A R s => A = X.A.in1 ∧ s = s1 ∧ (∀ r s', (∃ z H3, L2.Inv X pins σ H3 s' ∧ RelV z r ∧ (∃ ρ v, strOk v ∧ RV X.K ρ H3 v z) ∧ Q z H3) → R (.ok (.ret r)) s') ∧ ∀ e s', X.xe e s' → R (.error e) s') PySem.F.called_str (by decide) (PySem.F.typeCall_str_1 _) (PySem.F.newCall_str_1 _) (fun obj => PySem.F.args_object_init_2 obj _) PySem.F.entry_str_new ?_ ?_
    · refine MeetsIn.of_wp fun A R s hS => ?_
      obtain ⟨eA, es, hR, hX⟩ := hS
      subst eA es
      rw [str_new_tree]
      refine wpAny_bind (wpAny_pure ?_)
      refine wpAny_bind (wpAny_of_eq isSubtype_str_str ?_)
      refine wpAny_bind ?_
      unfold Builtin.Str.strOf
      rw [show Builtin.Str.isExactStr (Value.ref b) = false from rfl]
      simp only [Bool.false_eq_true, if_false]
      refine wpAny_bind (wpAny_cRoomFor (room.in1.in1).units0 ?_)
      refine wpAny_bind (m := callSpecial? (.ref b) (Str.ofString "__str__")) (special_K I1.kIn J hm.at_ hm.fn (wpAny_mono (F.runs (us := [.ref b]) (xs := [.ref b]) ct room.in1.in1 ct.gd I1.env0.in1.in1 I1 (.cons rfl .nil) sp1) (fun r s' z => ?_) fun e s' x => hX e s' x))
      obtain ⟨z, H3, I3, rz, ⟨ρ3, v3, lk, r3⟩, qz⟩ := z
      cases r3 with
      | @str sx ok =>
        obtain ⟨tk, rfl⟩ := (show ∃ t, r = Value.str (toS sx) t from rz)
        refine wpAny_bind (wpAny_pure ?_)
        exact wpAny_pure (wpAny_pure ⟨_, rfl, hR _ _ ⟨.str (toS sx), H3, I3, ⟨_, rfl⟩, ⟨ρ3, .str sx, lk, .str ok⟩, qz⟩⟩)
      | _ => exact (show False from lk).elim
    · refine ⟨rfl, rfl, fun r s' ⟨z, H3, I3, rz, ⟨ρ3, v3, lk, r3⟩, qz⟩ => ?_, fun e s' x => x⟩
      cases r3 with
      | @str sx ok =>
        obtain ⟨tk, rfl⟩ := (show ∃ t, r = Value.str (toS sx) t from rz)
        exact ⟨typeIs_str _ _ _, .str (toS sx), H3, I3, ⟨_, rfl⟩, qz⟩
      | _ => exact (show False from lk).elim
end
end Lw
set_option Elab.async false
set_option linter.all false
set_option maxRecDepth 100000
set_option maxHeartbeats 4000000
/-! Lw13: every matching expression. -/
namespace Lw
open PySem L2 PyProof.Rows
theorem mEs_nil {m : Mc} : ∀ {a : Es} {es : List Expr}, mEs m a es = true → (a = .nil ↔ es = [])
  | .nil, es, h => by
    unfold mEs at h
    cases es with
    | nil => exact ⟨fun _ => rfl, fun _ => rfl⟩
    | cons _ _ => cases h
  | .cons a r, es, h => by
    cases es with
    | nil => unfold mEs at h; cases h
    | cons x xs => exact ⟨fun z => (by cases z), fun z => (by cases z)⟩
theorem mTs_len {m : Mc} : ∀ {a : Ts} {es : List Expr}, mTs m a es = true → a.len = es.length ∧ es.all plainX = true
  | .nil, es, h => by
    cases es with
    | nil => exact ⟨rfl, rfl⟩
    | cons _ _ => unfold mTs at h; cases h
  | .cons a r, es, h => by
    cases es with
    | nil => unfold mTs at h; cases h
    | cons x xs =>
      unfold mTs at h
      obtain ⟨h1, h2⟩ := and_t h
      obtain ⟨h3, h4⟩ := and_t h1
      obtain ⟨e1, e2⟩ := mTs_len h2
      exact ⟨by show r.len + 1 = xs.length + 1; rw [e1], by rw [List.all_cons, h3, e2]; rfl⟩
theorem mDs_nil {m : Mc} {a : Es} {vs : List Expr} (h : mDs m a [] vs = true) : a = .nil := by
  match a with
  | .nil => rfl
  | .cons _ .nil => unfold mDs at h; cases h
  | .cons _ (.cons _ _) => unfold mDs at h; cases h
mutual
theorem sE : ∀ (a : E) {X : Cx} {W : L2.WX} {k : Nat} {m : Mc} {e : Expr}, Ct X W k m → mE m a e = true → OkE X k a → GE X W a e
  | .var i, X, W, k, m, e, ct, h, ok => by
    unfold mE at h
    split at h
    · obtain ⟨h1, h3⟩ := and_t h
      obtain ⟨h1, h2⟩ := and_t h1
      exact ge_var ct h1 h2 h3
    · cases h
  | .con v, X, W, k, m, e, ct, h, ok => by
    unfold mE at h
    split at h
    · exact .of (pe_con_of h)
    · cases h
  | .glb x v, X, W, k, m, e, ct, h, ok => by
    unfold mE at h
    split at h
    · obtain ⟨h1, h3⟩ := and_t h
      obtain ⟨h1, h2⟩ := and_t h1
      cases sEq_eq h1
      exact ge_glb ct h2 h3 ok
    · cases h
  | .bin o a b, X, W, k, m, e, ct, h, ok => by
    unfold mE at h
    split at h
    · obtain ⟨h1, h3⟩ := and_t h
      obtain ⟨h1, h2⟩ := and_t h1
      cases opIs_eq h1
      exact ge_bin (sE a ct h2 ok.1) (sE b ct h3 ok.2)
    · cases h
  | .neg a, X, W, k, m, e, ct, h, ok => by
    unfold mE at h
    split at h
    · exact ge_neg (sE a ct h ok)
    · cases h
  | .cmp o a b, X, W, k, m, e, ct, h, ok => by
    unfold mE at h
    split at h
    · obtain ⟨h, h4⟩ := and_t h
      obtain ⟨h, h3⟩ := and_t h
      obtain ⟨h1, h2⟩ := and_t h
      cases coIs_eq h1
      exact ge_cmp ct (sE a ct h3 ok.1) (sE b ct h4 ok.2) h2
    · cases h
  | .chain o o' a b c, X, W, k, m, e, ct, h, ok => by
    unfold mE at h
    split at h
    · obtain ⟨h, h6⟩ := and_t h
      obtain ⟨h, h5⟩ := and_t h
      obtain ⟨h, h4⟩ := and_t h
      obtain ⟨h, h3⟩ := and_t h
      obtain ⟨h1, h2⟩ := and_t h
      cases coIs_eq h1
      cases coIs_eq h2
      exact ge_chain ct (sE a ct h4 ok.1) (sE b ct h5 ok.2.1) (sE c ct h6 ok.2.2) h3
    · cases h
  | .and es, X, W, k, m, e, ct, h, ok => by
    unfold mE at h
    split at h
    · obtain ⟨h1, h2⟩ := and_t h
      have g := sEs es ct h1 ok
      rename_i vs pos
      have hn : vs ≠ [] := fun z => by subst z; cases h2
      exact ⟨PE.imp (g.andE hn pos) fun _ _ _ z => by
        obtain ⟨ρ, env, hv, Q1, E1, R, RE, w, af, ax⟩ := z
        unfold wpE at w
        exact ⟨ρ, env, hv, Q1, E1, R, RE, w, af, ax⟩, PT.imp (g.andT hn pos).pt fun _ _ _ z => by
        obtain ⟨ρ, env, hv, Q1, E1, R, RE, w, af, ax⟩ := z
        unfold wpE at w
        exact ⟨ρ, env, hv, Q1, E1, R, RE, w, af, ax⟩⟩
    · cases h
  | .or es, X, W, k, m, e, ct, h, ok => by
    unfold mE at h
    split at h
    · obtain ⟨h1, h2⟩ := and_t h
      have g := sEs es ct h1 ok
      rename_i vs pos
      have hn : vs ≠ [] := fun z => by subst z; cases h2
      exact ⟨PE.imp (g.orE hn pos) fun _ _ _ z => by
        obtain ⟨ρ, env, hv, Q1, E1, R, RE, w, af, ax⟩ := z
        unfold wpE at w
        exact ⟨ρ, env, hv, Q1, E1, R, RE, w, af, ax⟩, PT.imp (g.orT hn pos).pt fun _ _ _ z => by
        obtain ⟨ρ, env, hv, Q1, E1, R, RE, w, af, ax⟩ := z
        unfold wpE at w
        exact ⟨ρ, env, hv, Q1, E1, R, RE, w, af, ax⟩⟩
    · cases h
  | .not a, X, W, k, m, e, ct, h, ok => by
    unfold mE at h
    split at h
    · exact ge_not (sE a ct h ok)
    · cases h
  | .ife c a b, X, W, k, m, e, ct, h, ok => by
    unfold mE at h
    split at h
    · obtain ⟨h1, h3⟩ := and_t h
      obtain ⟨h1, h2⟩ := and_t h1
      exact ge_ife (sE c ct h1 ok.1) (sE a ct h2 ok.2.1) (sE b ct h3 ok.2.2)
    · cases h
  | .call x sp es, X, W, k, m, e, ct, h, ok => by
    unfold mE at h
    split at h
    · obtain ⟨h, h5⟩ := and_t h
      obtain ⟨h, h4⟩ := and_t h
      obtain ⟨h, h3⟩ := and_t h
      obtain ⟨h1, h2⟩ := and_t h
      cases sEq_eq h1
      exact .of (pe_callG ct h4 (glo_of ct h2) (nm_ok h3).1 ok.1 (sEs es ct h5 ok.2).pa (mEs_plain h5) (mEs_nil h5).mpr)
    · cases h
  | .isc C a, X, W, k, m, e, ct, h, ok => by
    unfold mE at h
    split at h
    · obtain ⟨h, h7⟩ := and_t h
      obtain ⟨h, h6⟩ := and_t h
      obtain ⟨h, h5⟩ := and_t h
      obtain ⟨h, h4⟩ := and_t h
      obtain ⟨h, h3⟩ := and_t h
      obtain ⟨h1, h2⟩ := and_t h
      exact .of (pe_isc_of ct (sEq_eq h1).symm (glo_of ct h2) h3 (sEq_eq h4).symm (glo_of ct h5) h6 ok.1 (sE a ct h7 ok.2).e)
    · cases h
  | .leno C sp a, X, W, k, m, e, ct, h, ok => by
    unfold mE at h
    split at h
    · obtain ⟨h, h5⟩ := and_t h
      obtain ⟨h, h4⟩ := and_t h
      obtain ⟨h, h3⟩ := and_t h
      obtain ⟨h1, h2⟩ := and_t h
      exact .of (pe_leno_of ct h1 (sEq_eq h2).symm (glo_of ct h3) h4 ok.1 (sE a ct h5 ok.2).e)
    · cases h
  | .stro C sp a, X, W, k, m, e, ct, h, ok => by
    unfold mE at h
    split at h
    · obtain ⟨h, h5⟩ := and_t h
      obtain ⟨h, h4⟩ := and_t h
      obtain ⟨h, h3⟩ := and_t h
      obtain ⟨h1, h2⟩ := and_t h
      exact .of (pe_stro_of ct h1 (sEq_eq h2).symm (glo_of ct h3) h4 ok.1 (sE a ct h5 ok.2).e)
    · cases h
  | .eqo C sp a b, X, W, k, m, e, ct, h, ok => by
    unfold mE at h
    split at h
    · obtain ⟨h, h4⟩ := and_t h
      obtain ⟨h, h3⟩ := and_t h
      obtain ⟨h1, h2⟩ := and_t h
      exact ge_eqo ct h1 ok.1 ok.2.1 (sE a ct h3 ok.2.2.1).e (sE b ct h4 ok.2.2.2).e h2
    · cases h
  | .mth C n sp o es, X, W, k, m, e, ct, h, ok => by
    unfold mE at h
    split at h
    · obtain ⟨h, h7⟩ := and_t h
      obtain ⟨h, h6⟩ := and_t h
      obtain ⟨h, h5⟩ := and_t h
      obtain ⟨h, h4⟩ := and_t h
      obtain ⟨h, h3⟩ := and_t h
      obtain ⟨h1, h2⟩ := and_t h
      cases sEq_eq h2
      exact .of (pe_mth_of ct h1 h3 h4 (of_decide_eq_true h5) ok.1 (sE o ct h6 ok.2.1).e (sEs es ct h7 ok.2.2).pa (mEs_plain h7) (mEs_nil h7).mpr)
    · cases h
  | .bi b es, X, W, k, m, e, ct, h, ok => by
    unfold mE at h
    split at h
    · obtain ⟨h, h4⟩ := and_t h
      obtain ⟨h, h3⟩ := and_t h
      obtain ⟨h1, h2⟩ := and_t h
      exact .of (pe_bi_of ct (sEq_eq h1).symm (glo_of ct h2) h3 (sEs es ct h4 ok).pa (mEs_plain h4))
    · cases h
  | .isi a ts, X, W, k, m, e, ct, h, ok => by
    unfold mE at h
    split at h
    · obtain ⟨h, h5⟩ := and_t h
      obtain ⟨h, h4⟩ := and_t h
      obtain ⟨h, h3⟩ := and_t h
      obtain ⟨h1, h2⟩ := and_t h
      exact .of (pe_isi_of ct (sEq_eq h1).symm (glo_of ct h2) h3 (sE a ct h4 ok).e h5)
    · cases h
  | .bm b o es, X, W, k, m, e, ct, h, ok => by
    unfold mE at h
    split at h
    · obtain ⟨h, h7⟩ := and_t h
      obtain ⟨h, h6⟩ := and_t h
      obtain ⟨h, h5⟩ := and_t h
      obtain ⟨h, h4⟩ := and_t h
      obtain ⟨h, h3⟩ := and_t h
      obtain ⟨h1, h2⟩ := and_t h
      exact .of (pe_bm_of ct (sEq_eq h1).symm h2 h3 h4 (of_decide_eq_true h5) (sE o ct h6 ok.1).e (sEs es ct h7 ok.2).pa (mEs_plain h7) (mEs_nil h7).mpr)
    · cases h
  | .fld C i o, X, W, k, m, e, ct, h, ok => by
    unfold mE at h
    split at h
    · obtain ⟨h, h3⟩ := and_t h
      obtain ⟨h1, h2⟩ := and_t h
      exact .of (pe_fld_of ct h1 h2 ok.1 (sE o ct h3 ok.2).e)
    · cases h
  | .idx a b, X, W, k, m, e, ct, h, ok => by
    unfold mE at h
    split at h
    · obtain ⟨h1, h3⟩ := and_t h
      obtain ⟨h1, h2⟩ := and_t h1
      exact .of (PE.imp (⟨fun pins s σ H Q I z => Subscript_ (binT (sE a ct h2 ok.1).e (sE b ct h3 ok.2).e I z fun v u s2 x y H2 I2 rx ry q => idx_ok ct.un _ (ix_plain h1) (ix_plain h1) _ pins s2 σ H2 x y v u Q I2 rx ry q)⟩) fun _ _ _ z => rd_idx z)
    · cases h
  | .slc _ a lo hi, X, W, k, m, e, ct, h, ok => by
    unfold mE at h
    split at h
    · obtain ⟨h1, h3⟩ := and_t h
      obtain ⟨h1, h2⟩ := and_t h1
      exact .of (PE.imp (pe_slice slc_ok (sE a ct h1 ok.1).e (sEo lo ct h2 ok.2.1) (sEo hi ct h3 ok.2.2)) fun _ _ _ z => rd_slc z)
    · cases h
  | .rev _ a, X, W, k, m, e, ct, h, ok => by
    unfold mE at h
    split at h
    · exact .of (pe_rev_of (sE a ct h ok).e)
    · cases h
  | .lrg _ a, X, W, k, m, e, ct, h, ok => by
    unfold mE at h
    split at h
    · obtain ⟨h, h7⟩ := and_t h
      obtain ⟨h, h6⟩ := and_t h
      obtain ⟨h, h5⟩ := and_t h
      obtain ⟨h, h4⟩ := and_t h
      obtain ⟨h, h3⟩ := and_t h
      obtain ⟨h1, h2⟩ := and_t h
      exact .of (pe_lrg_of ct h1 (sEq_eq h2).symm (glo_of ct h3) (sEq_eq h4).symm (glo_of ct h5) h6 (sE a ct h7 ok).e)
    · cases h
  | .fz a, X, W, k, m, e, ct, h, ok => by
    unfold mE at h
    obtain ⟨h1, h2⟩ := and_t h
    refine .of (pe_fz_of (sE a ct h2 ok).e) ?_
    intro whole
    cases e <;> first | rfl | cases h1
  | .tup es, X, W, k, m, e, ct, h, ok => by
    unfold mE at h
    split at h
    · exact ge_tup (sEs es ct h ok).pa
    · cases h
  | .lst _ es, X, W, k, m, e, ct, h, ok => by
    unfold mE at h
    split at h
    · exact ge_lst (sEs es ct h ok).pa
    · cases h
  | .dict _ ps, X, W, k, m, e, ct, h, ok => by
    unfold mE at h
    split at h
    · obtain ⟨h1, h2⟩ := and_t h
      exact .of (pe_dict_of (sDs ps ct h2 ok) (of_decide_eq_true h1) fun z => by subst z; exact mDs_nil h2)
    · cases h
  | .lc _ elt t it ifs own, X, W, k, m, e, ct, h, ok => by
    unfold mE at h
    split at h
    · obtain ⟨h, h9⟩ := and_t h
      obtain ⟨h, h8⟩ := and_t h
      obtain ⟨h, h7⟩ := and_t h
      obtain ⟨h, h6⟩ := and_t h
      obtain ⟨h, h5⟩ := and_t h
      obtain ⟨h, h4⟩ := and_t h
      obtain ⟨h, h3⟩ := and_t h
      obtain ⟨h1, h2⟩ := and_t h
      have hi := sI it ct h5 ok.2.2.1
      obtain ⟨g, tt, te, r1, r2, r3, r4⟩ := pe_lc_of (pos := ⟨0, 0, 0, 0⟩) (e := elt) (t := t) (it := it) (es := ifs) ct h1 h2 (fun i hi => by
          have := List.all_eq_true.mp h3 i hi
          exact List.contains_iff_mem.mp this) h4 (hi)
        (fun s H C cl fp => sT t (ct.blk s H _ cl C fp) h6 ok.2.1) (fun s H C cl fp => (sEs ifs (ct.blk s H _ cl C fp) h8 ok.2.2.2).ifs (of_decide_eq_true h7)) (fun s H C cl fp => (sE elt (ct.blk s H _ cl C fp) h9 ok.1).e)
      exact .of (PE.imp (pe_lc (ct.calm h1) ct.nd (hi) (own_ix ct h2).1 r2 r3 r4 (fold_plain h4)) r1)
    · cases h
  | .lc2 _ elt t it ifs t1 it1 ifs1 own own1, X, W, k, m, e, ct, h, ok => by
    unfold mE at h
    split at h
    · obtain ⟨h, h16⟩ := and_t h
      obtain ⟨h, h15⟩ := and_t h
      obtain ⟨h, h14⟩ := and_t h
      obtain ⟨h, h13⟩ := and_t h
      obtain ⟨h, h12⟩ := and_t h
      obtain ⟨h, h11⟩ := and_t h
      obtain ⟨h, h10⟩ := and_t h
      obtain ⟨h, h9⟩ := and_t h
      obtain ⟨h, h8⟩ := and_t h
      obtain ⟨h, h7⟩ := and_t h
      obtain ⟨h, h6⟩ := and_t h
      obtain ⟨h, h5⟩ := and_t h
      obtain ⟨h, h4⟩ := and_t h
      obtain ⟨h, h3⟩ := and_t h
      obtain ⟨h1, h2⟩ := and_t h
      have al : ∀ {l o : List Nat}, (l.all fun i => o.contains i) = true → ∀ i ∈ l, i ∈ o := fun q i hi => List.contains_iff_mem.mp (List.all_eq_true.mp q i hi)
      exact .of (pe_lc2_of ct h1 h2 (al h3) (al h4) (al h5) h6 h7 (sI it ct h8 ok.2.2.1)
        (fun s H C cl fp => sT t (ct.blk s H _ cl C fp) h9 ok.2.1) (fun s H C cl fp => (sEs ifs (ct.blk s H _ cl C fp) h11 ok.2.2.2.1).ifs (of_decide_eq_true h10))
        (fun s H C cl fp => sI it1 (ct.blk s H _ cl C fp) h12 ok.2.2.2.2.2.1) (fun s H C cl fp => sT t1 (ct.blk s H _ cl C fp) h13 ok.2.2.2.2.1) (fun s H C cl fp => (sEs ifs1 (ct.blk s H _ cl C fp) h15 ok.2.2.2.2.2.2).ifs (of_decide_eq_true h14)) (fun s H C cl fp => (sE elt (ct.blk s H _ cl C fp) h16 ok.1).e))
    · cases h
  | .dc _ ek ev t it ifs own, X, W, k, m, e, ct, h, ok => by
    unfold mE at h
    split at h
    · obtain ⟨h, h10⟩ := and_t h
      obtain ⟨h, h9⟩ := and_t h
      obtain ⟨h, h8⟩ := and_t h
      obtain ⟨h, h7⟩ := and_t h
      obtain ⟨h, h6⟩ := and_t h
      obtain ⟨h, h5⟩ := and_t h
      obtain ⟨h, h4⟩ := and_t h
      obtain ⟨h, h3⟩ := and_t h
      obtain ⟨h1, h2⟩ := and_t h
      exact .of (pe_dc_of ct h1 h2 (fun i hi => List.contains_iff_mem.mp (List.all_eq_true.mp h3 i hi)) h4 (sI it ct h5 ok.2.2.2.1)
        (fun s H C cl fp => sT t (ct.blk s H _ cl C fp) h6 ok.2.2.1) (fun s H C cl fp => (sEs ifs (ct.blk s H _ cl C fp) h8 ok.2.2.2.2).ifs (of_decide_eq_true h7)) (fun s H C cl fp => (sE ek (ct.blk s H _ cl C fp) h9 ok.1).e) (fun s H C cl fp => (sE ev (ct.blk s H _ cl C fp) h10 ok.2.1).e))
    · cases h
  | .fst es, X, W, k, m, e, ct, h, ok => by
    unfold mE at h
    split at h
    · exact .of (pe_fst_of (sFs es ct h ok))
    · cases h
theorem sFs : ∀ (a : Es) {X : Cx} {W : L2.WX} {k : Nat} {m : Mc} {es : List Expr}, Ct X W k m → mFs m a es = true → OkEs X k a → GFs X W a es
  | .nil, X, W, k, m, es, ct, h, ok => by
    unfold mFs at h
    cases es with
    | nil => exact GFs.nil
    | cons _ _ => cases h
  | .cons a r, X, W, k, m, es, ct, h, ok => by
    unfold mFs at h
    split at h
    · obtain ⟨h, h3⟩ := and_t h
      obtain ⟨h1, h2⟩ := and_t h
      have e1 := eq_of_beq h1
      subst e1
      exact GFs.cons (pe_fmt (sE a ct h2 ok.1).e) (fun _ _ _ z => z) (sFs r ct h3 ok.2)
    · obtain ⟨h, h3⟩ := and_t h
      obtain ⟨h1, h2⟩ := and_t h
      refine GFs.cons pe_str (fun σ H Q z => ?_) (sFs r ct h3 ok.2)
      cases a with
      | con u =>
        cases u with
        | str l =>
          obtain ⟨ρ, env, hv, Q1, E1, R, RE, w, af, ax⟩ := z
          unfold wpE at w
          unfold mE mCon at h2
          have okl : okS l := okS_of (and_t h2).2
          have e := eq_of_beq (and_t h2).1
          have e2 : toS l = _ := (congrArg toS e).trans (toS_of _)
          rcases af.now R (.str okl) w with ⟨y, e3, _, q⟩ | ⟨i, e3, _, q⟩
          · cases e3
            rw [e2] at q
            exact q
          · cases e3
        | _ => cases h1
      | _ => cases h1
    · cases h
theorem sEs : ∀ (a : Es) {X : Cx} {W : L2.WX} {k : Nat} {m : Mc} {es : List Expr}, Ct X W k m → mEs m a es = true → OkEs X k a → GEs X W a es
  | .nil, X, W, k, m, es, ct, h, ok => by
    have := (mEs_nil h).mp rfl
    subst this
    exact GEs.nil
  | .cons a r, X, W, k, m, es, ct, h, ok => by
    cases es with
    | nil => unfold mEs at h; cases h
    | cons x xs =>
      unfold mEs at h
      obtain ⟨h1, h3⟩ := and_t h
      obtain ⟨h1, h2⟩ := and_t h1
      exact GEs.cons h1 (sE a ct h2 ok.1) (sEs r ct h3 ok.2) (mEs_nil h3)
theorem sDs : ∀ (a : Es) {X : Cx} {W : L2.WX} {k : Nat} {m : Mc} {ks : List (Option Expr)} {vs : List Expr}, Ct X W k m → mDs m a ks vs = true → OkEs X k a → GPs X W a ks vs
  | .nil, X, W, k, m, ks, vs, ct, h, ok => by
    unfold mDs at h
    obtain ⟨h1, h2⟩ := and_t h
    have e1 := List.isEmpty_iff.mp h1
    have e2 := List.isEmpty_iff.mp h2
    subst e1 e2
    exact GPs.nil
  | .cons _ .nil, X, W, k, m, ks, vs, ct, h, ok => by unfold mDs at h; cases h
  | .cons a (.cons b r), X, W, k, m, ks, vs, ct, h, ok => by
    unfold mDs at h
    split at h
    · obtain ⟨h1, h3⟩ := and_t h
      obtain ⟨h1, h2⟩ := and_t h1
      exact GPs.cons (sE a ct h1 ok.1).e (sE b ct h2 ok.2.1).e (sDs r ct h3 ok.2.2)
    · cases h
theorem sEo : ∀ (a : Eo) {X : Cx} {W : L2.WX} {k : Nat} {m : Mc} {e : Option Expr}, Ct X W k m → mEo m a e = true → OkEo X k a → PO X e (rdO X W (wpEo a))
  | .none, X, W, k, m, e, ct, h, ok => by
    cases e with
    | none => exact po_none_of
    | some x => unfold mEo at h; cases h
  | .some a, X, W, k, m, e, ct, h, ok => by
    cases e with
    | none => unfold mEo at h; cases h
    | some x =>
      unfold mEo at h
      exact po_some_of (sE a ct h ok).e
theorem sT : ∀ (a : T) {X : Cx} {W : L2.WX} {k : Nat} {m : Mc} {e : Expr}, Ct X W k m → mT m a e = true → OkT X k a → PG X e (rdG X a.names (wpT a))
  | .name i, X, W, k, m, e, ct, h, ok => by
    unfold mT at h
    split at h
    · obtain ⟨h1, h2⟩ := and_t h
      exact pg_nm ct h1 h2
    · cases h
  | .tup ts, X, W, k, m, e, ct, h, ok => by
    unfold mT at h
    split at h
    · obtain ⟨h1, h2⟩ := and_t h
      obtain ⟨e1, e2⟩ := mTs_len h2
      exact pg_tup_of ct h1 e2 e1 (sTs ts ct h2 ok)
    · cases h
  | .sub o i, X, W, k, m, e, ct, h, ok => by
    unfold mT at h
    split at h
    · obtain ⟨h1, h3⟩ := and_t h
      obtain ⟨h1, h2⟩ := and_t h1
      exact pg_sub_of ct h1 (sE o ct h2 ok.1).e (sE i ct h3 ok.2).e
    · cases h
  | .fld C i o, X, W, k, m, e, ct, h, ok => by
    unfold mT at h
    split at h
    · obtain ⟨h1, h2⟩ := and_t h
      exact pg_fld_of ct h1 ok.1 (sE o ct h2 ok.2).e
    · cases h
theorem sTs : ∀ (a : Ts) {X : Cx} {W : L2.WX} {k : Nat} {m : Mc} {es : List Expr}, Ct X W k m → mTs m a es = true → OkTs X k a → PGs X es (rdGs X a.names (wpTs a))
  | .nil, X, W, k, m, es, ct, h, ok => by
    have e := (mTs_len h).1
    have : es = [] := List.length_eq_zero_iff.mp e.symm
    subst this
    exact pgs_nil_of
  | .cons t r, X, W, k, m, es, ct, h, ok => by
    cases es with
    | nil => unfold mTs at h; cases h
    | cons x xs =>
      unfold mTs at h
      obtain ⟨h1, h3⟩ := and_t h
      obtain ⟨h1, h2⟩ := and_t h1
      exact pgs_cons_of h1 (sT t ct h2 ok.1) (sTs r ct h3 ok.2)
theorem sI : ∀ (a : It) {X : Cx} {W : L2.WX} {k : Nat} {m : Mc} {tg e : Expr}, Ct X W k m → mI m a tg e = true → OkI X k a → PI X tg e (rdI X W (wpI a))
  | .any a, X, W, k, m, tg, e, ct, h, ok => by
    unfold mI at h
    obtain ⟨h1, h2⟩ := and_t h
    exact pi_any (sE a ct h2 ok).e
  | .rng1 a, X, W, k, m, tg, e, ct, h, ok => by
    unfold mI at h
    split at h
    · obtain ⟨h, h4⟩ := and_t h
      obtain ⟨h, h3⟩ := and_t h
      obtain ⟨h1, h2⟩ := and_t h
      exact pi_rng1 ct (sEq_eq h1).symm (glo_of ct h2) h3 (sE a ct h4 ok).e
    · cases h
  | .rng2 a b, X, W, k, m, tg, e, ct, h, ok => by
    unfold mI at h
    split at h
    · obtain ⟨h, h6⟩ := and_t h
      obtain ⟨h, h5⟩ := and_t h
      obtain ⟨h, h4⟩ := and_t h
      obtain ⟨h, h3⟩ := and_t h
      obtain ⟨h1, h2⟩ := and_t h
      exact pi_rng2 ct (sEq_eq h1).symm (glo_of ct h2) h3 h4 (sE a ct h5 ok.1).e (sE b ct h6 ok.2).e
    · cases h
  | .enum a, X, W, k, m, tg, e, ct, h, ok => by
    unfold mI at h
    split at h
    · obtain ⟨h, h5⟩ := and_t h
      obtain ⟨h, h4⟩ := and_t h
      obtain ⟨h, h3⟩ := and_t h
      obtain ⟨h1, h2⟩ := and_t h
      cases tg <;> first | exact pi_enum_of ct (sEq_eq h1).symm (glo_of ct h2) h3 (sE a ct h5 ok).e | cases h4
    · cases h
  | .zip a b, X, W, k, m, tg, e, ct, h, ok => by
    unfold mI at h
    split at h
    · obtain ⟨h, h7⟩ := and_t h
      obtain ⟨h, h6⟩ := and_t h
      obtain ⟨h, h5⟩ := and_t h
      obtain ⟨h, h4⟩ := and_t h
      obtain ⟨h, h3⟩ := and_t h
      obtain ⟨h1, h2⟩ := and_t h
      cases tg <;> first | exact pi_zip_of ct (sEq_eq h1).symm (glo_of ct h2) h3 h4 (sE a ct h6 ok.1).e (sE b ct h7 ok.2).e | cases h5
    · cases h
  | .items _, X, W, k, m, tg, e, ct, h, ok => by unfold mI at h; cases h
  | .values _, X, W, k, m, tg, e, ct, h, ok => by unfold mI at h; cases h
end
end Lw
set_option Elab.async false
set_option linter.all false
set_option maxRecDepth 100000
set_option maxHeartbeats 4000000
/-! Lw14: statements. -/
namespace Lw
open PySem L2 PyProof.Rows
section
variable (X : Cx) (W : L2.WX)
structure EnR (ρ : Rho) (H : Hp) (D1 : En) (D : Ends) : Prop where
  nx : ∀ env' h', D1.nx env' h' → ∀ ρ' H' σ', Go X.K ρ H ρ' H' → Rel X.K X.mg ρ' h' H' → REv X.K ρ' H' env' σ' → D.nx σ' H'
  rt : ∀ v h', D1.rt v h' → ∀ ρ' H' x, Go X.K ρ H ρ' H' → Rel X.K X.mg ρ' h' H' → RV X.K ρ' H' v x → D.rt x H'
  bk : ∀ env' h', D1.bk env' h' → ∀ ρ' H' σ', Go X.K ρ H ρ' H' → Rel X.K X.mg ρ' h' H' → REv X.K ρ' H' env' σ' → D.bk σ' H'
  ct : ∀ env' h', D1.ct env' h' → ∀ ρ' H' σ', Go X.K ρ H ρ' H' → Rel X.K X.mg ρ' h' H' → REv X.K ρ' H' env' σ' → D.ct σ' H'
  ex : ∀ x env' h', D1.ex x env' h' → ∀ ρ' H' σ' cls d, Go X.K ρ H ρ' H' → Rel X.K X.mg ρ' h' H' → REv X.K ρ' H' env' σ' → RX X.K X.mg ρ' H' x cls d → W cls d σ' H'
def rdS (w : En → Ev → Hv → Prop) : TS := fun D σ H => ∃ ρ env h D1, Rel X.K X.mg ρ h H ∧ REv X.K ρ H env σ ∧ w D1 env h ∧ EnR X W ρ H D1 D
end
section
variable {X : Cx} {W : L2.WX} {k : Nat} {m : Mc}
theorem EnR.mono {ρ ρ1 : Rho} {H H1 : Hp} {D1 : En} {D : Ends} (g : Go X.K ρ H ρ1 H1) (r : EnR X W ρ H D1 D) : EnR X W ρ1 H1 D1 D :=
  ⟨fun a b q ρ' H' σ' g' => r.nx a b q ρ' H' σ' (g.trans g'), fun a b q ρ' H' σ' g' => r.rt a b q ρ' H' σ' (g.trans g'), fun a b q ρ' H' σ' g' => r.bk a b q ρ' H' σ' (g.trans g'), fun a b q ρ' H' σ' g' => r.ct a b q ρ' H' σ' (g.trans g'),
    fun x a b q ρ' H' σ' c d g' => r.ex x a b q ρ' H' σ' c d (g.trans g')⟩
theorem EnR.ax {ρ : Rho} {H : Hp} {D1 : En} {D : Ends} {env : Ev} {σ : L2.St} (r : EnR X W ρ H D1 D) (RE : REv X.K ρ H env σ) : AftX X ρ H (fun x h1 => D1.ex x env h1) (fun c d H' => W c d σ H') :=
  fun x h' q ρ' H' cls d g R' rx => r.ex x env h' q ρ' H' σ cls d g R' (RE.mono g) rx
/-- a statement's context -/
structure Cs (X : Cx) (W : L2.WX) (k : Nat) (m : Mc) : Prop extends Ct X W k m where
  ps : PassesOwn (model X.prog X.w) X.A X.env X.xe
  kind : X.env.scope.kind = .function

/-! ### what an assignment's text must have -/
def isComp : Expr → Bool
  | .ListComp .. => true
  | .SetComp .. => true
  | .DictComp .. => true
  | _ => false
def isName : Expr → Bool
  | .Name .. => true
  | _ => false
def isLoc1 (m : Mc) (x : Nm) : Bool := match lkp m.sc.names x with
  | some .local => true
  | _ => false
theorem loc1_of (ct : Ct X W k m) {x : Nm} (h : isLoc1 m x = true) : X.env.scope.names.lookup x = some .local := by
  unfold isLoc1 at h
  rw [lkp_eq] at h
  rw [ct.sc]
  split at h <;> first | assumption | cases h
/-- the value is swapped into no name -/
def noSwap (m : Mc) (tg e : Expr) : Bool := !(isComp e && isName tg) || (match tg with
  | .Name y _ => !isLoc1 m y
  | _ => false)
def notLoc (m : Mc) : Expr → Bool
  | .Name x _ => !isLoc1 m x
  | _ => true
def noStores (m : Mc) (tg e : Expr) : Bool := match tg, e with
  | .Tuple ts _ _, .Tuple vs _ _ => vs.all (foldedForSure 8) || decide (3 < ts.length) || ts.any (notLoc m)
  | .List .., _ => false
  | _, _ => true
theorem sw_no {tg e : Expr} {l : Nat} (ct : Ct X W k m) (h : noSwap m tg e = true) : swapsWithSole [tg] e l X.env = pure false := by
  unfold noSwap at h
  rw [Bool.or_eq_true] at h
  rcases h with h | h
  case inr =>
    cases tg <;> first | (cases h; done) | skip
    rename_i y py
    have q : (!isLoc1 m y) = true := h
    have z : (X.env.kindOf y == some .local) = false := by
      cases z : (X.env.kindOf y == some .local) with
      | false => rfl
      | true =>
        have z := eq_of_beq z
        have z : X.env.scope.names.lookup y = some .local := z
        rw [ct.sc, ← lkp_eq] at z
        unfold isLoc1 at q
        rw [z] at q
        cases q
    unfold swapsWithSole swapsWith
    cases e <;> first | rfl | skip
    all_goals
      dsimp only
      simp only [z, Bool.and_false, Bool.false_and]
  cases e <;> first | rfl | (cases tg <;> first | rfl | cases h)
theorem sw_none {e : Expr} {l : Nat} {env : Env} (h : isComp e = false) : swapsWith e none l env = pure false := by
  cases e <;> first | rfl | cases h
theorem st_fold {ts vs : List Expr} {a c : Nat} {b d : Pos} {env : Env} (h : vs.all (foldedForSure 8) = true) : swappedStores [.Tuple ts a b] (.Tuple vs c d) env = pure none := by
  unfold swappedStores
  dsimp only
  rw [h]
  repeat' (first | rfl | split)
theorem st_long {ts vs : List Expr} {a c : Nat} {b d : Pos} {env : Env} (h : 3 < ts.length) : swappedStores [.Tuple ts a b] (.Tuple vs c d) env = pure none := by
  have e1 : (!(ts.length == 2 || ts.length == 3)) = true := by
    have a2 : (ts.length == 2) = false := beq_false_of_ne (by omega)
    have a3 : (ts.length == 3) = false := beq_false_of_ne (by omega)
    rw [a2, a3]; rfl
  unfold swappedStores
  dsimp only
  rw [e1]
  rfl
theorem st_oth {tg e : Expr} {env : Env} (h : ∀ ts a b, tg = .Tuple ts a b → ∀ vs c d, e ≠ .Tuple vs c d) (h2 : ∀ ts a, tg ≠ .List ts a) : swappedStores [tg] e env = pure none := by
  cases tg <;> first | rfl | exact absurd rfl (h2 _ _) | skip
  cases e <;> first | rfl | exact absurd rfl (h _ _ _ rfl _ _ _)
theorem st_two {x y : Nm} {px py b d : Pos} {p q : Expr} {a c : Nat} {env : Env} (hk : env.blockKind = .function) (h1 : plainX p = true) (h2 : plainX q = true) (hx : env.kindOf x = some .local) (hy : env.kindOf y = some .local) (hl : (py.line == px.line) = true)
   (hxy : x ≠ y) (hf : (foldedForSure 8 p && foldedForSure 8 q) = false) (hc : (constantsAlone 8 p && constantsAlone 8 q) = false) : swappedStores [.Tuple [.Name x px, .Name y py] a b] (.Tuple [p, q] c d) env = pure (some [x, y]) := by
  have e1 : ([p, q].any fun | .Starred .. => true | _ => false) = false := by
    cases p <;> first | (cases h1; done) | (cases q <;> first | rfl | (cases h2; done))
  unfold swappedStores
  dsimp only
  have l1 : (px.line == px.line) = true := beq_self_eq_true _
  have e2 : ([Expr.Name x px, Expr.Name y py].filterMap fun
    | .Name id pos => if (env.kindOf id == some .local && pos.line == (Expr.Name x px).pos.line) = true then some id else none
    | _ => none) = [x, y] := by
    simp only [List.filterMap_cons, List.filterMap_nil, hx, hy, Expr.pos, hl, l1]
    rfl
  have e3 : [x, y].eraseDups.length = 2 := by
    have : (y == x) = false := beq_false_of_ne (Ne.symm hxy)
    simp [List.eraseDups_cons, this]
  rw [if_neg (by rw [hk]; exact Bool.false_ne_true)]
  refine Eq.trans (if_neg fun w => ?_) ?_
  · exact Bool.false_ne_true (e1.symm.trans w)
  generalize hn : List.filterMap _ _ = names
  have e4 : names = [x, y] := by rw [← hn]; exact e2
  subst e4
  rw [e3]
  show (if false = true then _ else if ([p, q].all (foldedForSure 8)) = true then _ else if ([p, q].all (constantsAlone 8)) = true then _ else _) = _
  have f1 : [p, q].all (foldedForSure 8) = false := by
    show (foldedForSure 8 p && (foldedForSure 8 q && true)) = false
    rw [Bool.and_true]; exact hf
  have f2 : [p, q].all (constantsAlone 8) = false := by
    show (constantsAlone 8 p && (constantsAlone 8 q && true)) = false
    rw [Bool.and_true]; exact hc
  rw [f1, f2]
  rfl
theorem st_three {x y z : Nm} {px py pz b d : Pos} {p q r : Expr} {a c : Nat} {env : Env} (hk : env.blockKind = .function) (h1 : plainX p = true) (h2 : plainX q = true) (h3 : plainX r = true) (hx : env.kindOf x = some .local) (hy : env.kindOf y = some .local) (hz : env.kindOf z = some .local) (hl : (py.line == px.line) = true) (hl2 : (pz.line == px.line) = true)
   (hxy : x ≠ y) (hxz : x ≠ z) (hyz : y ≠ z) (hf : (foldedForSure 8 p && (foldedForSure 8 q && foldedForSure 8 r)) = false) (hc : (constantsAlone 8 p && (constantsAlone 8 q && constantsAlone 8 r)) = false) : swappedStores [.Tuple [.Name x px, .Name y py, .Name z pz] a b] (.Tuple [p, q, r] c d) env = pure (some [x, y, z]) := by
  have st : ∀ {e : Expr}, plainX e = true → (match e with | .Starred .. => true | _ => false) = false := fun {e} h => by
    cases e <;> first | rfl | (cases h; done)
  have e1 : ([p, q, r].any fun | .Starred .. => true | _ => false) = false := by
    simp only [List.any_cons, List.any_nil, st h1, st h2, st h3]
    rfl
  unfold swappedStores
  dsimp only
  have l1 : (px.line == px.line) = true := beq_self_eq_true _
  have e2 : ([Expr.Name x px, Expr.Name y py, Expr.Name z pz].filterMap fun
    | .Name id pos => if (env.kindOf id == some .local && pos.line == (Expr.Name x px).pos.line) = true then some id else none
    | _ => none) = [x, y, z] := by
    simp only [List.filterMap_cons, List.filterMap_nil, hx, hy, hz, Expr.pos, hl, hl2, l1]
    rfl
  have e3 : [x, y, z].eraseDups.length = 3 := by
    have a1 : (y == x) = false := beq_false_of_ne (Ne.symm hxy)
    have a2 : (z == x) = false := beq_false_of_ne (Ne.symm hxz)
    have a3 : (z == y) = false := beq_false_of_ne (Ne.symm hyz)
    simp [List.eraseDups_cons, a1, a2, a3]
  rw [if_neg (by rw [hk]; exact Bool.false_ne_true)]
  refine Eq.trans (if_neg fun w => ?_) ?_
  · exact Bool.false_ne_true (e1.symm.trans w)
  generalize hn : List.filterMap _ _ = names
  have e4 : names = [x, y, z] := by rw [← hn]; exact e2
  subst e4
  rw [e3]
  show (if false = true then _ else if ([p, q, r].all (foldedForSure 8)) = true then _ else if ([p, q, r].all (constantsAlone 8)) = true then _ else _) = _
  have f1 : [p, q, r].all (foldedForSure 8) = false := by
    show (foldedForSure 8 p && (foldedForSure 8 q && (foldedForSure 8 r && true))) = false
    rw [Bool.and_true]; exact hf
  have f2 : [p, q, r].all (constantsAlone 8) = false := by
    show (constantsAlone 8 p && (constantsAlone 8 q && (constantsAlone 8 r && true))) = false
    rw [Bool.and_true]; exact hc
  rw [f1, f2]
  rfl
theorem fm_short {α β : Type} (f : α → Option β) : ∀ l : List α, (l.filterMap f).length ≤ l.length ∧ ((∃ a ∈ l, f a = none) → (l.filterMap f).length < l.length)
  | [] => ⟨Nat.le_refl _, fun ⟨_, m, _⟩ => by cases m⟩
  | x :: r => by
    obtain ⟨h1, h2⟩ := fm_short f r
    rw [List.filterMap_cons]
    cases e : f x with
    | none => exact ⟨by simp only [List.length_cons]; omega, fun _ => by simp only [List.length_cons]; omega⟩
    | some y =>
      refine ⟨by simp only [List.length_cons]; omega, fun ⟨a, m, q⟩ => ?_⟩
      rcases List.mem_cons.mp m with rfl | m
      · rw [e] at q; cases q
      · have := h2 ⟨a, m, q⟩
        simp only [List.length_cons]; omega
theorem st_cell {ts vs : List Expr} {a c : Nat} {b d : Pos} {env : Env} (h : ∃ t ∈ ts, ∀ x p, t = .Name x p → env.kindOf x ≠ some .local) : swappedStores [.Tuple ts a b] (.Tuple vs c d) env = pure none := by
  unfold swappedStores
  dsimp only
  split
  · rfl
  · split
    · rfl
    · refine Eq.trans (if_pos ?_) rfl
      generalize hn : List.filterMap _ ts = names
      have lt : names.length < ts.length := by
        rw [← hn]
        refine (fm_short _ ts).2 ?_
        obtain ⟨t, m, k⟩ := h
        refine ⟨t, m, ?_⟩
        split
        · rename_i x p
          have := k x p rfl
          rw [if_neg]
          intro z
          rw [Bool.and_eq_true] at z
          exact this (eq_of_beq z.1)
        · rfl
      have e : (names.length != ts.length) = true := by
        rw [bne_iff_ne]; omega
      rw [e]
      rfl
theorem st_no {tg e : Expr} {X : Cx} {W : L2.WX} {k : Nat} {m : Mc} (ct : Ct X W k m) (h : noStores m tg e = true) : swappedStores [tg] e X.env = pure none := by
  unfold noStores at h
  split at h
  · rw [Bool.or_eq_true, Bool.or_eq_true] at h
    rcases h with (h | h) | h
    · exact st_fold h
    · exact st_long (of_decide_eq_true h)
    · obtain ⟨t, m1, q⟩ := List.any_eq_true.mp h
      refine st_cell ⟨t, m1, fun x p e z => ?_⟩
      subst e
      have q : (!isLoc1 m x) = true := q
      have z : X.env.scope.names.lookup x = some .local := z
      rw [ct.sc, ← lkp_eq] at z
      unfold isLoc1 at q
      rw [z] at q
      cases q
  · cases h
  · refine st_oth (fun ts a b e1 vs c d e2 => ?_) fun ts a e1 => ?_
    · subst e1 e2
      simp_all
      rename_i h1
      exact h1 _ _ _ _ _ _ rfl rfl rfl rfl rfl rfl
    · subst e1
      simp_all
/-! ### matching -/
def parOk (m : Mc) : List Nat → List Expr → List Expr → Bool
  | [i, j], [.Name x px, .Name y py], [a, b] => nmAt m i x && nmAt m j y && isLoc1 m x && isLoc1 m y && (i != j) && !(sEq x y) && (py.line == px.line) && !(foldedForSure 8 a && foldedForSure 8 b) && !(constantsAlone 8 a && constantsAlone 8 b)
  | [i, j, l], [.Name x px, .Name y py, .Name z pz], [a, b, c] => nmAt m i x && nmAt m j y && nmAt m l z && isLoc1 m x && isLoc1 m y && isLoc1 m z && (i != j) && (i != l) && (j != l) && !(sEq x y) && !(sEq x z) && !(sEq y z) &&
      (py.line == px.line) && (pz.line == px.line) && !(foldedForSure 8 a && (foldedForSure 8 b && foldedForSure 8 c)) && !(constantsAlone 8 a && (constantsAlone 8 b && constantsAlone 8 c))
  | _, _, _ => false
/-- x = [.. for ..] on one line -/
def lcOk (m : Mc) (tg e : Expr) : Bool := match tg, e with
  | .Name y py, .ListComp _ _ scope p => isLoc1 m y && (py.line == p.line) && !(scope.names.any fun (n, k) => n == y && (k == .local || k == .cell))
  | .Name y py, .DictComp _ _ _ scope p => isLoc1 m y && (py.line == p.line) && !(scope.names.any fun (n, k) => n == y && (k == .local || k == .cell))
  | _, _ => false
mutual
def mS (m : Mc) : S → Stmt → Bool
  | .expr e, s => match s with
    | .Expr x _ => !isComp x && mE m e x
    | _ => false
  | .ret e, s => match s with
    | .Return (some x) _ => mE m e x
    | _ => false
  | .retN, s => match s with
    | .Return none _ => true
    | _ => false
  | .pass, s => match s with
    | .Pass _ => true
    | _ => false
  | .doc, s => match s with
    | .Expr (.Constant (.str _) _ _) _ => true
    | _ => false
  | .brk, s => match s with
    | .Break _ => true
    | _ => false
  | .cont, s => match s with
    | .Continue _ => true
    | _ => false
  | .asg t e, s => match s with
    | .Assign [tg] x _ => plainX tg && mT m t tg && mE m e x && ((noSwap m tg x && noStores m tg x) || lcOk m tg x)
    | _ => false
  | .par is es, s => match s with
    | .Assign [.Tuple ts _ _] (.Tuple vs _ _) _ => m.c && parOk m is ts vs && mEs m es vs
    | _ => false
  | .ite c a b, s => match s with
    | .If x y z _ => mE m c x && mSs m a y && mSs m b z
    | _ => false
  | .whl c b, s => match s with
    | .While x y [] _ => mE m c x && mSs m b y
    | _ => false
  | .for_ t it b, s => match s with
    | .For tg iter y [] _ => m.c && plainX iter && mT m t tg && mI m it tg iter && mSs m b y
    | _ => false
  | .dead, _ => true
  | _, _ => false
def mSs (m : Mc) : Ss → List Stmt → Bool
  | .nil, ss => ss.isEmpty
  | .cons (.gh _) r, ss => mSs m r ss
  | .cons a r, ss => match ss with
    | s :: rest => mS m a s && mSs m r rest
    | [] => false
end
end
section
variable (F : Nm → Spec → Prop) (C : Nm → Val → Prop) (M : Nat → Mq → Prop)
mutual
def okS_ : S → Prop
  | .expr e => okE F C M e
  | .ret e => okE F C M e
  | .asg t e => okTg F C M t ∧ okE F C M e
  | .par _ es => okEs F C M es
  | .ite c a b => okE F C M c ∧ okSs a ∧ okSs b
  | .whl c b => okE F C M c ∧ okSs b
  | .for_ t it b => okTg F C M t ∧ okI F C M it ∧ okSs b
  | _ => True
def okSs : Ss → Prop
  | .nil => True
  | .cons s r => okS_ s ∧ okSs r
end
end
end Lw
set_option Elab.async false
set_option linter.all false
set_option maxRecDepth 100000
set_option maxHeartbeats 4000000
/-! Lw15: every matching statement. -/
namespace Lw
open PySem L2 PyProof.Rows
section
variable {X : Cx} {W : L2.WX} {k : Nat} {m : Mc}
theorem ps_ite_of {c : E} {a b : Ss} {x : Expr} {y z : List Stmt} {pos : Pos} (gc : GE X W c x) (ga : PSs X y (rdS X W (wpSs a))) (gb : PSs X z (rdS X W (wpSs b))) : PS X (.If x y z pos) (rdS X W (wpS (.ite c a b))) :=
  PS.imp (ps_if gc.t ga gb) fun D σ H ⟨ρ, env, hv, D1, R, RE, w, en⟩ => by
    unfold wpS at w
    refine rd_tst (K := fun b2 h' => if b2 = true then wpSs a D1 env h' else wpSs b D1 env h') R RE w (fun b2 h' q ρ' H' g R' => ?_) (en.ax RE)
    cases b2 with
    | true => exact ⟨ρ', env, h', D1, R', RE.mono g, q, en.mono g⟩
    | false => exact ⟨ρ', env, h', D1, R', RE.mono g, q, en.mono g⟩
theorem ps_whl_of {c : E} {b : Ss} {x : Expr} {y : List Stmt} {pos : Pos} (cs : Cs X W k m) (gc : GE X W c x) (gb : PSs X y (rdS X W (wpSs b))) : PS X (.While x y [] pos) (rdS X W (wpS (.whl c b))) :=
  PS.imp (ps_while cs.ps gc.t gb) fun D σ H ⟨ρ, env, hv, D1, R, RE, w, en⟩ => by
    unfold wpS at w
    obtain ⟨W1, ⟨m0, w0⟩, w⟩ := w
    refine ⟨fun mm σ2 H2 => ∃ ρ2 env2 h2, Go X.K ρ H ρ2 H2 ∧ Rel X.K X.mg ρ2 h2 H2 ∧ REv X.K ρ2 H2 env2 σ2 ∧ W1 mm env2 h2, ⟨m0, ρ, env, hv, Go.refl, R, RE, w0⟩, ?_⟩
    rintro mm σ2 H2 ⟨ρ2, env2, h2, g2, R2, RE2, w2⟩
    refine rd_tst (K := fun k h1 => if k = true then wpSs b { D1 with nx := fun env' h' => ∃ m', m' < mm ∧ W1 m' env' h', ct := fun env' h' => ∃ m', m' < mm ∧ W1 m' env' h', bk := D1.nx } env2 h1 else D1.nx env2 h1) R2 RE2 (w mm env2 h2 w2) (fun b2 h' q ρ' H' g R' => ?_) ((en.mono g2).ax RE2)
    cases b2 with
    | false => exact en.nx env2 h' q ρ' H' σ2 (g2.trans g) R' (RE2.mono g)
    | true =>
      refine ⟨fun σ3 H3 => ∃ m', m' < mm ∧ ∃ ρ3 env3 h3, Go X.K ρ H ρ3 H3 ∧ Rel X.K X.mg ρ3 h3 H3 ∧ REv X.K ρ3 H3 env3 σ3 ∧ W1 m' env3 h3, fun σ3 H3 z => z, ρ', env2, h', _, R', RE2.mono g, q, ?_⟩
      have en2 := en.mono (g2.trans g)
      exact ⟨fun env3 h3 ⟨m', hm, q3⟩ ρ3 H3 σ3 g3 R3 RE3 => ⟨m', hm, ρ3, env3, h3, g2.trans (g.trans g3), R3, RE3, q3⟩, en2.rt, en2.nx, fun env3 h3 ⟨m', hm, q3⟩ ρ3 H3 σ3 g3 R3 RE3 => ⟨m', hm, ρ3, env3, h3, g2.trans (g.trans g3), R3, RE3, q3⟩, en2.ex⟩
theorem ps_for_of {t : T} {it : It} {b : Ss} {tg iter : Expr} {y : List Stmt} {pos : Pos} (cs : Cs X W k m) (hc : m.c = true) (hp : plainX iter = true) (gi : PI X tg iter (rdI X W (wpI it))) (gt : PG X tg (rdG X t.names (wpT t))) (gb : PSs X y (rdS X W (wpSs b))) :
    PS X (.For tg iter y [] pos) (rdS X W (wpS (.for_ t it b))) :=
  PS.imp (ps_for cs.ps (cs.calm hc) gi gt gb (fold_plain hp)) fun D σ H ⟨ρ, env, hv, D1, R, RE, w, en⟩ => by
    unfold wpS at w
    refine ⟨ρ, env, hv, _, _, R, RE, w, fun wk h1 q ρ1 H1 J g1 R1 wr => ?_, en.ax RE⟩
    refine ⟨fun i mm σ2 H2 => mm = wk.items.length - i ∧ i ≤ wk.items.length ∧ ∃ ρ2 env2 h2, Go X.K ρ1 H1 ρ2 H2 ∧ Rel X.K X.mg ρ2 h2 H2 ∧ REv X.K ρ2 H2 env2 σ2 ∧
      forW wk (fun x env2 h2 K => wpT t x env2 h2 K) (fun D' env2 h2 => wpSs b D' env2 h2) D1 (wk.items.drop i) env2 h2, ⟨_, rfl, Nat.zero_le _, ρ1, env, h1, Go.refl, R1, RE.mono g1, q⟩, ?_⟩
    rintro i mm σ2 H2 ⟨rfl, hi, ρ2, env2, h2, g2, R2, RE2, q⟩
    by_cases hlt : i < wk.items.length
    · rw [List.drop_eq_getElem_cons hlt] at q
      obtain ⟨hG, q⟩ := q
      refine .inr ⟨wr.go i ρ2 h2 H2 g2.gm R2 hG hlt, fun σ3 H3 => ∃ ρ3 env3 h3, Go X.K ρ1 H1 ρ3 H3 ∧ Rel X.K X.mg ρ3 h3 H3 ∧ REv X.K ρ3 H3 env3 σ3 ∧
        forW wk (fun x env2 h2 K => wpT t x env2 h2 K) (fun D' env2 h2 => wpSs b D' env2 h2) D1 (wk.items.drop (i + 1)) env3 h3, fun σ3 H3 z => ⟨_, by omega, rfl, hlt, z⟩, fun x H' y => ?_⟩
      obtain ⟨gy, Ry, rx⟩ := wr.yld i ρ2 h2 H2 x H' wk.items[i] g2.gm R2 hG (List.getElem?_eq_getElem hlt) y
      refine ⟨ρ2, env2, h2, wk.items[i], _, Ry, RE2.mono gy, rx, q, fun env3 h3 q3 ρ3 H3 σ3 g3 R3 RE3 _ => ?_⟩
      have gA := g2.trans (gy.trans g3)
      have en2 := en.mono (g1.trans gA)
      exact ⟨ρ3, env3, h3, _, R3, RE3, q3, ⟨fun env4 h4 q4 ρ4 H4 σ4 g4 R4 RE4 => ⟨ρ4, env4, h4, gA.trans g4, R4, RE4, q4⟩, en2.rt, en2.nx, fun env4 h4 q4 ρ4 H4 σ4 g4 R4 RE4 => ⟨ρ4, env4, h4, gA.trans g4, R4, RE4, q4⟩, en2.ex⟩⟩
    · have e : i = wk.items.length := by omega
      subst e
      rw [List.drop_length] at q
      obtain ⟨hG, q⟩ := q
      exact .inl ⟨wr.stop _ ρ2 h2 H2 g2.gm R2 hG (Nat.le_refl _), en.nx _ _ q ρ2 H2 σ2 (g1.trans g2) R2 RE2⟩
theorem rd_asg {t : T} {e : E} {D : Ends} {σ : L2.St} {H : Hp} (h : rdS X W (wpS (.asg t e)) D σ H) : rdE X W (wpE e) σ H (fun x H1 => rdG X t.names (wpT t) x σ H1 D.nx) := by
  obtain ⟨ρ, env, hv, D1, R, RE, w, en⟩ := h
  unfold wpS at w
  exact ⟨ρ, env, hv, _, _, R, RE, w, fun v h' q ρ' H' x g R' r => ⟨ρ', env, h', v, _, R', RE.mono g, r, q, fun env' h2 q2 ρ2 H2 σ2 g2 R2 RE2 _ => en.nx env' h2 q2 ρ2 H2 σ2 (g.trans g2) R2 RE2⟩, en.ax RE⟩
theorem ps_par_of {is : List Nat} {es : Es} {ts vs : List Expr} {j1 j2 : Nat} {p1 p2 pos : Pos} (cs : Cs X W k m) (hc : m.c = true) (hp : parOk m is ts vs = true) (hm : mEs m es vs = true) (ga : PA X vs (rdA X W (wpEs es))) :
    PS X (.Assign [.Tuple ts j1 p1] (.Tuple vs j2 p2) pos) (rdS X W (wpS (.par is es))) := by
  have hk : X.env.blockKind = .function := by
    unfold Env.blockKind
    rw [cs.kind]; rfl
  have pl := mEs_plain hm
  unfold parOk at hp
  split at hp
  · rename_i i j x px y py a b
    obtain ⟨hp, h9⟩ := and_t hp
    obtain ⟨hp, h8⟩ := and_t hp
    obtain ⟨hp, h7⟩ := and_t hp
    obtain ⟨hp, h6⟩ := and_t hp
    obtain ⟨hp, h5⟩ := and_t hp
    obtain ⟨hp, h4⟩ := and_t hp
    obtain ⟨hp, h3⟩ := and_t hp
    obtain ⟨h1, h2⟩ := and_t hp
    simp only [List.all_cons, List.all_nil, Bool.and_true, Bool.and_eq_true] at pl
    have f8 : (foldedForSure 8 a && foldedForSure 8 b) = false := by cases q : (foldedForSure 8 a && foldedForSure 8 b) <;> rw [q] at h8 <;> first | rfl | cases h8
    have f9 : (constantsAlone 8 a && constantsAlone 8 b) = false := by cases q : (constantsAlone 8 a && constantsAlone 8 b) <;> rw [q] at h9 <;> first | rfl | cases h9
    have xy : x ≠ y := sEq_ne (by cases q : sEq x y <;> rw [q] at h6 <;> first | rfl | cases h6)
    have ij : i ≠ j := by intro z; subst z; simp at h5
    have lx := loc1_of cs.toCt h3
    have ly := loc1_of cs.toCt h4
    refine PS.imp (ps_par (cs.calm hc) cs.nd (nm_at cs.toCt h1) (nm_at cs.toCt h2) ij lx ly ga (st_two hk pl.1 pl.2 lx ly h7 xy f8 f9)) fun D σ H ⟨ρ, env, hv, D1, R, RE, w, en⟩ => ?_
    unfold wpS at w
    refine ⟨ρ, env, hv, _, _, R, RE, w, fun us h' q ρ' H' xs g R' rs => ?_, en.ax RE⟩
    obtain ⟨env2, e, q⟩ := q
    match us, rs, e with
    | [u1, u2], .cons r1 (.cons r2 .nil), e =>
      cases e
      exact ⟨_, _, rfl, en.nx _ _ q ρ' H' _ g R' (((RE.mono g).set i r1).set j r2)⟩
    | [], _, e => cases e
    | [_], _, e => cases e
    | _ :: _ :: _ :: _, _, e => cases e
  · rename_i i j l x px y py z pz a b c
    obtain ⟨hp, h16⟩ := and_t hp
    obtain ⟨hp, h15⟩ := and_t hp
    obtain ⟨hp, h14⟩ := and_t hp
    obtain ⟨hp, h13⟩ := and_t hp
    obtain ⟨hp, h12⟩ := and_t hp
    obtain ⟨hp, h11⟩ := and_t hp
    obtain ⟨hp, h10⟩ := and_t hp
    obtain ⟨hp, h9⟩ := and_t hp
    obtain ⟨hp, h8⟩ := and_t hp
    obtain ⟨hp, h7⟩ := and_t hp
    obtain ⟨hp, h6⟩ := and_t hp
    obtain ⟨hp, h5⟩ := and_t hp
    obtain ⟨hp, h4⟩ := and_t hp
    obtain ⟨hp, h3⟩ := and_t hp
    obtain ⟨h1, h2⟩ := and_t hp
    simp only [List.all_cons, List.all_nil, Bool.and_true, Bool.and_eq_true] at pl
    have ff : ∀ {q : Bool}, (!q) = true → q = false := fun {q} h => by cases q <;> first | rfl | cases h
    have ne : ∀ {i j : Nat}, (i != j) = true → i ≠ j := fun {i j} h z => by subst z; simp at h
    have lx := loc1_of cs.toCt h4
    have ly := loc1_of cs.toCt h5
    have lz := loc1_of cs.toCt h6
    refine PS.imp (ps_par3 (cs.calm hc) cs.nd (nm_at cs.toCt h1) (nm_at cs.toCt h2) (nm_at cs.toCt h3) (ne h7) (ne h8) (ne h9) lx ly lz ga (st_three hk pl.1 pl.2.1 pl.2.2 lx ly lz h13 h14 (sEq_ne (ff h10)) (sEq_ne (ff h11)) (sEq_ne (ff h12)) (ff h15) (ff h16))) fun D σ H ⟨ρ, env, hv, D1, R, RE, w, en⟩ => ?_
    unfold wpS at w
    refine ⟨ρ, env, hv, _, _, R, RE, w, fun us h' q ρ' H' xs g R' rs => ?_, en.ax RE⟩
    obtain ⟨env2, e, q⟩ := q
    match us, rs, e with
    | [u1, u2, u3], .cons r1 (.cons r2 (.cons r3 .nil)), e =>
      cases e
      exact ⟨_, _, _, rfl, en.nx _ _ q ρ' H' _ g R' ((((RE.mono g).set i r1).set j r2).set l r3)⟩
    | [], _, e => cases e
    | [_], _, e => cases e
    | [_, _], _, e => cases e
    | _ :: _ :: _ :: _ :: _, _, e => cases e
  · cases hp
/-- x = [.. for ..] -/
theorem ps_lc_of {t : T} {e : E} {tg x : Expr} {pos : Pos} (cs : Cs X W k m) (hl : lcOk m tg x = true) (ht : mT m t tg = true) (he : mE m e x = true) (ok : OkE X k e) : PS X (.Assign [tg] x pos) (rdS X W (wpS (.asg t e))) := by
  unfold lcOk at hl
  split at hl
  · rename_i y py elt gens scope p
    obtain ⟨hl, h3⟩ := and_t hl
    obtain ⟨h1, h2⟩ := and_t hl
    have ly := loc1_of cs.toCt h1
    have nl : (scope.names.any fun (n, k) => n == y && (k == .local || k == .cell)) = false := by
      cases q : (scope.names.any fun (n, k) => n == y && (k == .local || k == .cell)) <;> rw [q] at h3 <;> first | rfl | cases h3
    have ct := cs.toCt
    cases e <;> first | (unfold mE at he; cases he; done) | (unfold mE at he; exact absurd (and_t he).1 (by decide)) | skip
    case lc zz elt' t' it ifs own =>
      unfold mE at he
      split at he
      · rename_i elt tg' iter cs' sc' p' heq
        cases heq
        obtain ⟨h, h9⟩ := and_t he
        obtain ⟨h, h8⟩ := and_t h
        obtain ⟨h, h7⟩ := and_t h
        obtain ⟨h, h6⟩ := and_t h
        obtain ⟨h, h5⟩ := and_t h
        obtain ⟨h, h4⟩ := and_t h
        obtain ⟨h, h30⟩ := and_t h
        obtain ⟨h10, h20⟩ := and_t h
        have hi := sI it ct h5 ok.2.2.1
        obtain ⟨g, tt, te, r1, r2, r3, r4⟩ := pe_lc_of (pos := ⟨0, 0, 0, 0⟩) (e := elt') (t := t') (it := it) (es := ifs) ct h10 h20 (fun i hi => by
            have := List.all_eq_true.mp h30 i hi
            exact List.contains_iff_mem.mp this) h4 hi
          (fun s H C cl fp => sT t' (ct.blk s H _ cl C fp) h6 ok.2.1) (fun s H C cl fp => (sEs ifs (ct.blk s H _ cl C fp) h8 ok.2.2.2).ifs (of_decide_eq_true h7)) (fun s H C cl fp => (sE elt' (ct.blk s H _ cl C fp) h9 ok.1).e)
        cases t <;> first | (unfold mT at ht; cases ht; done) | skip
        rename_i i
        unfold mT at ht
        obtain ⟨n1, n2⟩ := and_t ht
        refine PS.imp (ps_setLc (ct.calm h10) ct.nd (nm_at ct n1) ly (sw_true cs.kind ly h2 nl) hi (own_ix ct h20).1 r2 r3 r4 (fold_plain h4)) fun D σ H h => ?_
        refine r1 _ _ _ ?_
        obtain ⟨ρ, env, hv, D1, R, RE, w, en⟩ := h
        unfold wpS at w
        refine ⟨ρ, env, hv, _, _, R, RE, w, fun v h' q ρ' H' x g R' r => ?_, en.ax RE⟩
        have q : D1.nx (env.set i (some v)) h' := q
        exact en.nx _ h' q ρ' H' _ g R' ((RE.mono g).set i r)
      · cases he
    case lc2 zz elt' t' it ifs t1 it1 ifs1 own own1 =>
      unfold mE at he
      split at he
      · rename_i elt tg' iter cs' tg1 iter1 cs1 sc' p' heq
        cases heq
        obtain ⟨h, h16⟩ := and_t he
        obtain ⟨h, h15⟩ := and_t h
        obtain ⟨h, h14⟩ := and_t h
        obtain ⟨h, h13⟩ := and_t h
        obtain ⟨h, h12⟩ := and_t h
        obtain ⟨h, h11⟩ := and_t h
        obtain ⟨h, h10⟩ := and_t h
        obtain ⟨h, h9⟩ := and_t h
        obtain ⟨h, h8⟩ := and_t h
        obtain ⟨h, h7⟩ := and_t h
        obtain ⟨h, h6⟩ := and_t h
        obtain ⟨h, h5⟩ := and_t h
        obtain ⟨h, h4⟩ := and_t h
        obtain ⟨h, k3⟩ := and_t h
        obtain ⟨k1, k2⟩ := and_t h
        have al : ∀ {l o : List Nat}, (l.all fun i => o.contains i) = true → ∀ i ∈ l, i ∈ o := fun q i hi => List.contains_iff_mem.mp (List.all_eq_true.mp q i hi)
        cases t <;> first | (unfold mT at ht; cases ht; done) | skip
        rename_i i
        unfold mT at ht
        obtain ⟨n1, n2⟩ := and_t ht
        have e1 := (own_ix ct k2).2
        refine PS.imp (ps_setLc2 (vs1 := own1) (g := rdG X t'.names (wpT t')) (tt := rdF X (wpIfs ifs)) (wi1 := rdI X W0 (wpI it1)) (g1 := rdG X t1.names (wpT t1)) (tt1 := rdF X (wpIfs ifs1)) (te := rdE X W0 (wpE elt')) (ct.calm k1) ct.nd (nm_at ct n1) ly (sw_true cs.kind ly h2 nl) (sI it ct h8 ok.2.2.1) (own_ix ct k2).1 (fun i hi => by rw [e1]; exact al h4 i hi)
          (fun s H C cl fp => sT t' (ct.blk s H _ cl C fp) h9 ok.2.1) (fun s H C cl fp => (sEs ifs (ct.blk s H _ cl C fp) h11 ok.2.2.2.1).ifs (of_decide_eq_true h10)) (fun s H C cl fp => sI it1 (ct.blk s H _ cl C fp) h12 ok.2.2.2.2.2.1) (fun s H C cl fp => sT t1 (ct.blk s H _ cl C fp) h13 ok.2.2.2.2.1) (fun s H C cl fp => (sEs ifs1 (ct.blk s H _ cl C fp) h15 ok.2.2.2.2.2.2).ifs (of_decide_eq_true h14)) (fun s H C cl fp => (sE elt' (ct.blk s H _ cl C fp) h16 ok.1).e) (fold_plain h6) (fun env => fold_plain h7)) fun D σ H h => ?_
        rw [e1]
        refine rd_lc2 (X := X) (W := W) (z := zz) (al k3) (al h5) σ H _ ?_
        obtain ⟨ρ, env, hv, D1, R, RE, w, en⟩ := h
        unfold wpS at w
        refine ⟨ρ, env, hv, _, _, R, RE, w, fun v h' q ρ' H' x g R' r => ?_, en.ax RE⟩
        have q : D1.nx (env.set i (some v)) h' := q
        exact en.nx _ h' q ρ' H' _ g R' ((RE.mono g).set i r)
      · cases he
  · rename_i y py kx vx gens scope p
    obtain ⟨hl, h3⟩ := and_t hl
    obtain ⟨h1, h2⟩ := and_t hl
    have ly := loc1_of cs.toCt h1
    have nl : (scope.names.any fun (n, k) => n == y && (k == .local || k == .cell)) = false := by
      cases q : (scope.names.any fun (n, k) => n == y && (k == .local || k == .cell)) <;> rw [q] at h3 <;> first | rfl | cases h3
    have ct := cs.toCt
    cases e <;> first | (unfold mE at he; cases he; done) | (unfold mE at he; exact absurd (and_t he).1 (by decide)) | skip
    case dc zz ek ev t' it ifs own =>
      unfold mE at he
      split at he
      · rename_i kx vx tg' iter cs' sc' p' heq
        cases heq
        obtain ⟨h, h10⟩ := and_t he
        obtain ⟨h, h9⟩ := and_t h
        obtain ⟨h, h8⟩ := and_t h
        obtain ⟨h, h7⟩ := and_t h
        obtain ⟨h, h6⟩ := and_t h
        obtain ⟨h, h5⟩ := and_t h
        obtain ⟨h, h4⟩ := and_t h
        obtain ⟨h, k3⟩ := and_t h
        obtain ⟨k1, k2⟩ := and_t h
        have al : ∀ {l o : List Nat}, (l.all fun i => o.contains i) = true → ∀ i ∈ l, i ∈ o := fun q i hi => List.contains_iff_mem.mp (List.all_eq_true.mp q i hi)
        cases t <;> first | (unfold mT at ht; cases ht; done) | skip
        rename_i i
        unfold mT at ht
        obtain ⟨n1, n2⟩ := and_t ht
        have e1 := (own_ix ct k2).2
        have sw : swapsWith (.DictComp kx vx [⟨tg', iter, cs', 0⟩] scope p) (some (.Name y py)) pos.line X.env = pure true := by
          have ky : X.env.kindOf y = some .local := ly
          have hb : X.env.blockKind = .function := by unfold Env.blockKind; rw [cs.kind]; rfl
          unfold swapsWith
          simp only [hb, ky, nl, Expr.pos, h2]
          rfl
        refine PS.imp (ps_setDc (g := rdG X t'.names (wpT t')) (tt := rdF X (wpIfs ifs)) (tk := rdE X W0 (wpE ek)) (tv := rdE X W0 (wpE ev)) (ct.calm k1) ct.nd (nm_at ct n1) ly sw (sI it ct h5 ok.2.2.2.1) (own_ix ct k2).1
          (fun s H C cl fp => sT t' (ct.blk s H _ cl C fp) h6 ok.2.2.1) (fun s H C cl fp => (sEs ifs (ct.blk s H _ cl C fp) h8 ok.2.2.2.2).ifs (of_decide_eq_true h7)) (fun s H C cl fp => (sE ek (ct.blk s H _ cl C fp) h9 ok.1).e) (fun s H C cl fp => (sE ev (ct.blk s H _ cl C fp) h10 ok.2.1).e) (fold_plain h4)) fun D σ H h => ?_
        rw [e1]
        refine rd_dc (X := X) (W := W) (z := zz) (al k3) σ H _ ?_
        obtain ⟨ρ, env, hv, D1, R, RE, w, en⟩ := h
        unfold wpS at w
        refine ⟨ρ, env, hv, _, _, R, RE, w, fun v h' q ρ' H' x g R' r => ?_, en.ax RE⟩
        have q : D1.nx (env.set i (some v)) h' := q
        exact en.nx _ h' q ρ' H' _ g R' ((RE.mono g).set i r)
      · cases he
  · cases hl
theorem sSs_cons {a : S} {r : Ss} {ss : List Stmt} (pa : ∀ {s}, mS m a s = true → PS X s (rdS X W (wpS a))) (pr : ∀ {ss}, mSs m r ss = true → PSs X ss (rdS X W (wpSs r)))
    (h : (match ss with | s :: rest => mS m a s && mSs m r rest | [] => false) = true) : PSs X ss (rdS X W (wpSs (.cons a r))) := by
  cases ss with
  | nil => cases h
  | cons s rest =>
    obtain ⟨h1, h2⟩ := and_t h
    have p := pss_cons (pa h1) (pr h2)
    refine ⟨fun pins s σ H D I ⟨ρ, env, hv, D1, R, RE, w, en⟩ => p.run pins s σ H D I ?_⟩
    unfold wpSs at w
    exact ⟨ρ, env, hv, _, R, RE, w, ⟨fun env2 h2 q2 ρ2 H2 σ2 g2 R2 RE2 => ⟨ρ2, env2, h2, D1, R2, RE2, q2, en.mono g2⟩, en.rt, en.bk, en.ct, en.ex⟩⟩
mutual
theorem sS : ∀ (a : S) {s : Stmt}, Cs X W k m → mS m a s = true → okS_ (FOk X.prog X.w X.K X.mg X.base k) (COk X.K X.mg) (MOk X.prog X.w X.K X.mg X.base k) a → PS X s (rdS X W (wpS a))
  | .expr e, s, cs, h, ok => by
    unfold mS at h
    split at h
    · rename_i x p
      obtain ⟨h1, h2⟩ := and_t h
      have nc : isComp x = false := by cases q : isComp x <;> rw [q] at h1 <;> first | rfl | cases h1
      exact PS.imp (ps_expr (sE e cs.toCt h2 ok).e (sw_none nc)) fun D σ H ⟨ρ, env, hv, D1, R, RE, w, en⟩ => by
        unfold wpS at w
        exact ⟨ρ, env, hv, _, _, R, RE, w, fun v h' q ρ' H' x g R' r => en.nx env h' q ρ' H' σ g R' (RE.mono g), en.ax RE⟩
    · cases h
  | .ret e, s, cs, h, ok => by
    unfold mS at h
    split at h
    · exact PS.imp (ps_ret (sE e cs.toCt h ok).e) fun D σ H ⟨ρ, env, hv, D1, R, RE, w, en⟩ => by
        unfold wpS at w
        exact ⟨ρ, env, hv, _, _, R, RE, w, en.rt, en.ax RE⟩
    · cases h
  | .retN, s, cs, h, ok => by
    unfold mS at h
    split at h
    · exact PS.imp ps_retN fun D σ H ⟨ρ, env, hv, D1, R, RE, w, en⟩ => by
        unfold wpS at w
        exact en.rt _ hv w ρ H _ Go.refl R .non
    · cases h
  | .pass, s, cs, h, ok => by
    unfold mS at h
    split at h
    · exact PS.imp ps_pass fun D σ H ⟨ρ, env, hv, D1, R, RE, w, en⟩ => by
        unfold wpS at w
        exact en.nx env hv w ρ H _ Go.refl R RE
    · cases h
  | .doc, s, cs, h, ok => by
    unfold mS at h
    split at h
    · exact PS.imp ps_doc fun D σ H ⟨ρ, env, hv, D1, R, RE, w, en⟩ => by
        unfold wpS at w
        exact en.nx env hv w ρ H _ Go.refl R RE
    · cases h
  | .brk, s, cs, h, ok => by
    unfold mS at h
    split at h
    · exact PS.imp ps_break fun D σ H ⟨ρ, env, hv, D1, R, RE, w, en⟩ => by
        unfold wpS at w
        exact en.bk env hv w ρ H _ Go.refl R RE
    · cases h
  | .cont, s, cs, h, ok => by
    unfold mS at h
    split at h
    · exact PS.imp ps_continue fun D σ H ⟨ρ, env, hv, D1, R, RE, w, en⟩ => by
        unfold wpS at w
        exact en.ct env hv w ρ H _ Go.refl R RE
    · cases h
  | .asg t e, s, cs, h, ok => by
    unfold mS at h
    split at h
    · obtain ⟨h, h4⟩ := and_t h
      obtain ⟨h, h3⟩ := and_t h
      obtain ⟨h1, h2⟩ := and_t h
      rw [Bool.or_eq_true] at h4
      rcases h4 with h4 | h4
      · obtain ⟨n1, n2⟩ := and_t h4
        exact PS.imp (ps_asg (sE e cs.toCt h3 ok.2).e (sT t cs.toCt h2 ok.1) (sw_no cs.toCt n1) (st_no cs.toCt n2) (each_cons h1)) fun D σ H z => rd_asg z
      · exact ps_lc_of cs h4 h2 h3 ok.2
    · cases h
  | .par is es, s, cs, h, ok => by
    unfold mS at h
    split at h
    · obtain ⟨h, h3⟩ := and_t h
      obtain ⟨h1, h2⟩ := and_t h
      exact ps_par_of cs h1 h2 h3 (sEs es cs.toCt h3 ok).pa
    · cases h
  | .ite c a b, s, cs, h, ok => by
    unfold mS at h
    split at h
    · obtain ⟨h, h3⟩ := and_t h
      obtain ⟨h1, h2⟩ := and_t h
      exact ps_ite_of (sE c cs.toCt h1 ok.1) (sSs a cs h2 ok.2.1) (sSs b cs h3 ok.2.2)
    · cases h
  | .whl c b, s, cs, h, ok => by
    unfold mS at h
    split at h
    · obtain ⟨h1, h2⟩ := and_t h
      exact ps_whl_of cs (sE c cs.toCt h1 ok.1) (sSs b cs h2 ok.2)
    · cases h
  | .for_ t it b, s, cs, h, ok => by
    unfold mS at h
    split at h
    · obtain ⟨h, h5⟩ := and_t h
      obtain ⟨h, h4⟩ := and_t h
      obtain ⟨h, h3⟩ := and_t h
      obtain ⟨h1, h2⟩ := and_t h
      exact ps_for_of cs h1 h2 (sI it cs.toCt h4 ok.2.1) (sT t cs.toCt h3 ok.1) (sSs b cs h5 ok.2.2)
    · cases h
  | .raise _ _, s, cs, h, ok => by unfold mS at h; cases h
  | .raiseN _ _, s, cs, h, ok => by unfold mS at h; cases h
  | .try_ _ _, s, cs, h, ok => by unfold mS at h; cases h
  | .gh _, s, cs, h, ok => by unfold mS at h; cases h
  | .dead, s, cs, h, ok => ⟨fun pins s σ H D I ⟨ρ, env, hv, D1, R, RE, w, en⟩ => by unfold wpS at w; exact w.elim⟩
theorem sSs : ∀ (a : Ss) {ss : List Stmt}, Cs X W k m → mSs m a ss = true → okSs (FOk X.prog X.w X.K X.mg X.base k) (COk X.K X.mg) (MOk X.prog X.w X.K X.mg X.base k) a → PSs X ss (rdS X W (wpSs a))
  | .nil, ss, cs, h, ok => by
    unfold mSs at h
    have e := List.isEmpty_iff.mp h
    subst e
    exact ⟨fun pins s σ H D I ⟨ρ, env, hv, D1, R, RE, w, en⟩ => pss_nil.run pins s σ H D I (by
      unfold wpSs at w
      exact en.nx env hv w ρ H _ Go.refl R RE)⟩
  | .cons (.gh i) r, ss, cs, h, ok => by
    have h : mSs m r ss = true := by unfold mSs at h; exact h
    refine ⟨fun pins s σ H D I ⟨ρ, env, hv, D1, R, RE, w, en⟩ => (sSs r cs h ok.2).run pins s σ H D I ?_⟩
    unfold wpSs wpS at w
    obtain ⟨v, u, h1, e, f, w⟩ := w
    obtain ⟨x, ex, rx⟩ := RE.2 i v e
    obtain ⟨ρ2, g2, R2, r2⟩ := f.ok R rx
    exact ⟨ρ2, _, h1, D1, R2, (RE.mono g2).reset ex r2, w, en.mono g2⟩
  | .cons (.expr e) r, ss, cs, h, ok => sSs_cons (fun h1 => sS (.expr e) cs h1 ok.1) (fun h2 => sSs r cs h2 ok.2) (by unfold mSs at h; exact h)
  | .cons (.ret e) r, ss, cs, h, ok => sSs_cons (fun h1 => sS (.ret e) cs h1 ok.1) (fun h2 => sSs r cs h2 ok.2) (by unfold mSs at h; exact h)
  | .cons (.retN) r, ss, cs, h, ok => sSs_cons (fun h1 => sS (.retN) cs h1 ok.1) (fun h2 => sSs r cs h2 ok.2) (by unfold mSs at h; exact h)
  | .cons (.pass) r, ss, cs, h, ok => sSs_cons (fun h1 => sS (.pass) cs h1 ok.1) (fun h2 => sSs r cs h2 ok.2) (by unfold mSs at h; exact h)
  | .cons (.brk) r, ss, cs, h, ok => sSs_cons (fun h1 => sS (.brk) cs h1 ok.1) (fun h2 => sSs r cs h2 ok.2) (by unfold mSs at h; exact h)
  | .cons (.cont) r, ss, cs, h, ok => sSs_cons (fun h1 => sS (.cont) cs h1 ok.1) (fun h2 => sSs r cs h2 ok.2) (by unfold mSs at h; exact h)
  | .cons (.doc) r, ss, cs, h, ok => sSs_cons (fun h1 => sS (.doc) cs h1 ok.1) (fun h2 => sSs r cs h2 ok.2) (by unfold mSs at h; exact h)
  | .cons (.asg t e) r, ss, cs, h, ok => sSs_cons (fun h1 => sS (.asg t e) cs h1 ok.1) (fun h2 => sSs r cs h2 ok.2) (by unfold mSs at h; exact h)
  | .cons (.par is es) r, ss, cs, h, ok => sSs_cons (fun h1 => sS (.par is es) cs h1 ok.1) (fun h2 => sSs r cs h2 ok.2) (by unfold mSs at h; exact h)
  | .cons (.ite c a b) r, ss, cs, h, ok => sSs_cons (fun h1 => sS (.ite c a b) cs h1 ok.1) (fun h2 => sSs r cs h2 ok.2) (by unfold mSs at h; exact h)
  | .cons (.whl c b) r, ss, cs, h, ok => sSs_cons (fun h1 => sS (.whl c b) cs h1 ok.1) (fun h2 => sSs r cs h2 ok.2) (by unfold mSs at h; exact h)
  | .cons (.for_ t it b) r, ss, cs, h, ok => sSs_cons (fun h1 => sS (.for_ t it b) cs h1 ok.1) (fun h2 => sSs r cs h2 ok.2) (by unfold mSs at h; exact h)
  | .cons (.raise C es) r, ss, cs, h, ok => sSs_cons (fun h1 => sS (.raise C es) cs h1 ok.1) (fun h2 => sSs r cs h2 ok.2) (by unfold mSs at h; exact h)
  | .cons (.raiseN C es) r, ss, cs, h, ok => sSs_cons (fun h1 => sS (.raiseN C es) cs h1 ok.1) (fun h2 => sSs r cs h2 ok.2) (by unfold mSs at h; exact h)
  | .cons (.try_ b hs) r, ss, cs, h, ok => sSs_cons (fun h1 => sS (.try_ b hs) cs h1 ok.1) (fun h2 => sSs r cs h2 ok.2) (by unfold mSs at h; exact h)
  | .cons (.dead) r, ss, cs, h, ok => sSs_cons (fun h1 => sS (.dead) cs h1 ok.1) (fun h2 => sSs r cs h2 ok.2) (by unfold mSs at h; exact h)
end
end
end Lw
set_option Elab.async false
set_option linter.all false
set_option maxRecDepth 100000
set_option maxHeartbeats 4000000
/-! Lw16: a def that matches; the law's end. -/
namespace Lw
open PySem L2 PyProof.Rows
def defM (N : List Nm) (scope : Scope) : Mc := ⟨N, scope, fun _ => true, true⟩
theorem body_run {X : Cx} {W : L2.WX} {k : Nat} {m : Mc} {b : Ss} {body : List Stmt} {pins : List (Addr × Obj)} {σ : L2.St} {H : Hp} {s : Shared} {ρ : Rho} {env : Ev} {h : Hv} {D1 : En} {D : Ends} (cs : Cs X W k m) (hm : mSs m b body = true)
    (ok : okSs (FOk X.prog X.w X.K X.mg X.base k) (COk X.K X.mg) (MOk X.prog X.w X.K X.mg X.base k) b) (I : L2.Inv X pins σ H s) (R : Rel X.K X.mg ρ h H) (RE : REv X.K ρ H env σ) (q : wpSs b D1 env h) (en : EnR X W ρ H D1 D) : wpAny (model X.prog X.w) X.A (execs body X.env) (SP X pins D) X.xe s :=
  (sSs b cs hm ok).run pins s σ H D I ⟨ρ, env, h, D1, R, RE, q, en⟩
/-- the two ways out of a body -/
theorem out_ret {X : Cx} {pins : List (Addr × Obj)} {Q : VK} {u : Value} {s' : Shared} {D : Ends} (hs : SP X pins D (.ret u) s') (h : D.rt = Q) :
    ∃ v H', s'.os = X.s_0.os ∧ AllBare s'.gens ∧ Un X.fs X.ex X.H_0 H' X.s_0.heap s'.heap ∧ HOk X.prog X.w H' s'.heap ∧ RelV v u ∧ Q v H' := by
  subst h
  obtain ⟨v, σ', H', J, rr, q⟩ := hs
  exact ⟨v, H', J.os, J.bare, J.base, J.hok, rr, q⟩
theorem out_next {X : Cx} {pins : List (Addr × Obj)} {Q : VK} {s' : Shared} {D : Ends} (hs : SP X pins D .next s') (h : D.nx = fun _ H' => Q .non H') :
    ∃ v H', s'.os = X.s_0.os ∧ AllBare s'.gens ∧ Un X.fs X.ex X.H_0 H' X.s_0.heap s'.heap ∧ HOk X.prog X.w H' s'.heap ∧ RelV v Value.none ∧ Q v H' := by
  obtain ⟨σ', H', J, q⟩ := hs
  rw [h] at q
  exact ⟨.non, H', J.os, J.bare, J.base, J.hok, rfl, q⟩
theorem fnG_of {P : Program} {w : World} {K : PySem.W.Frag} {mg : Str → Option Value} {base : Heap} {k : Nat} {x qual : Str} {params : Arguments} {body : List Stmt} {scope : Scope} {f : Addr} {fd : FuncData} {N ps : List Str} {b : Ss}
    (Fd : FunD K x qual params body scope [] [] f fd) (S : FnScope N ps scope) (hb : Binds K fd ps []) (hm : mSs (defM N scope) b body = true) (bi : ∀ x ∈ biNames, mg x = none) (sys : ∃ o, K.lookup sysModules = some o)
    (ok : okSs (FOk P w K mg base k) (COk K mg) (MOk P w K mg base k) b) : FnG P w K mg base (k + 1) f (bodyW N.length ps.length b) := by
  intro A outer s H us xs Q E room gd e0 rel ⟨ρ, h, vs, Q1, E1, R, rv, sp, af, ax⟩
  obtain ⟨oc, od, dV, kV, doc, pm, an, cdv, ctv, osl, rfl, look, hcode, _, _⟩ := Fd.ex
  have hlx : xs.length = ps.length := by rw [← rv.length]; exact sp.1
  have hlu : (us ++ ([] : List Value)).length = ps.length := by rw [List.append_nil, ← rel.length]; exact hlx
  have inK : K.In s.heap := e0.mod.kin.keeps fun a o z => (e0.bs a o z).1
  have bind := hb s us inK hlu
  rw [List.append_nil] at bind
  have seen : ∀ y ∈ ps.zip us, scope.names.lookup y.1 = some .local ∨ (scope.names.lookup y.1 = some .cell ∧ ((cellsFrom (s.heap.objs.size + 1) scope.names []).lookup y.1).isSome = true) := by
    rintro ⟨n, v⟩ hy
    have hp := S.par n (List.of_mem_zip hy).1
    exact hp.imp id fun q => ⟨q, PySem.W.cellsFrom_some _ _ _ (.inl q)⟩
  refine codeAny_call_function room.depth (inK _ _ look) rfl S.co S.gen rfl (PySem.W.codeRec_of inK hcode) (bind _ _ _ _ ?_)
  refine wpAny_newFunctionEnv_cells S.kind seen fun env ee s1 inc => ?_
  subst ee
  refine ⟨(e0.mod.nolimit.keeps fun a o z => (e0.bs a o z).1).keeps inc.toInCall.keep, codeAny_func ?_⟩
  let X : Cx := cxOf (L2.CX P w) P w K mg base N qual scope f cdv A outer s H E
  have I : L2.Inv X [] (start N xs) H s1 := inv_start S room.hd e0 hlx rel inc
  have deep : Room k X.A := room.deeper _
  have cs : Cs X (fun cls d _ H' => E cls d H') k (defM N scope) :=
    { N := rfl, sc := rfl, fn := fun _ _ => rfl, nd := S.nd, calm := fun _ => rfl, tk := takes_of rfl rfl rfl rfl, room := fun _ => deep, un := by have := deep.un; omega, gd := gd, sys := sys, bi := bi, ps := passes_of rfl, kind := S.kind }
  have en : EnR X (fun cls d _ H' => E cls d H') ρ H { nx := fun _ h1 => Q1 .non h1, rt := Q1, ex := fun x _ h1 => E1 x h1 } { nx := fun _ H' => Q .non H', rt := Q } :=
    ⟨fun env' h' q ρ' H' σ' g R' _ => af _ h' q ρ' H' _ g R' .non, af, fun _ _ q => q.elim, fun _ _ q => q.elim, fun x env' h' q ρ' H' σ' cls d g R' _ rx => ax x h' q ρ' H' cls d g R' rx⟩
  refine wpAny_mono (body_run cs hm ok I R (REv.start rv) sp.2 en) (fun fl s' hs => ?_) fun e s' hs => hs
  cases fl with
  | ret u => exact out_ret hs rfl
  | next => exact out_next hs rfl
  | brk =>
    obtain ⟨_, _, _, q⟩ := hs
    exact (show False from q).elim
  | cont =>
    obtain ⟨_, _, _, q⟩ := hs
    exact (show False from q).elim
theorem FnG.gc {P : Program} {w : World} {K : PySem.W.Frag} {mg : Str → Option Value} {base : Heap} {k : Nat} {f : Addr} {sp sp' : Spec} (F : FnG P w K mg base k f sp) (h : ∀ vs h Q Ex, sp' vs h Q Ex → sp vs h (gcQ h Q) (gcX h Ex)) : FnG P w K mg base k f sp' :=
  fun A outer s H us xs Q E hr hg e0 r ⟨ρ, hv, vs, Q1, E1, R, rv, q, af, ax⟩ => F A outer s H us xs Q E hr hg e0 r ⟨ρ, hv, vs, _, _, R, rv, h _ _ _ _ q, af.gc R, ax.gc R⟩
/-! ### the end -/
/-- at the start: the script alone, if it is none of the module's own -/
def startH (K : PySem.W.Frag) (a : Addr) (o : Obj) (xs : List V) : Hp := fun b => match K.lookup a with
  | some _ => none
  | none => if b = a then some (.frz o (.lst xs)) else none
def rho0 (mg : Str → Option Value) : Rho := ⟨fun _ => none, fun _ => false, fun _ => False, clOf mg⟩
def noHv : Hv := ⟨fun _ => none, 0, fun _ _ => rfl⟩
theorem startH_some {K : PySem.W.Frag} {a b : Addr} {o : Obj} {xs : List V} {u : HO} (e : startH K a o xs b = some u) : b = a ∧ K.lookup a = none ∧ u = .frz o (.lst xs) := by
  unfold startH at e
  split at e
  · cases e
  · rename_i hk
    split at e
    · rename_i hb; cases e; exact ⟨hb, hk, rfl⟩
    · cases e
theorem law_G {P : Program} {w : World} {K : PySem.W.Frag} {mg mb : Str → Option Value} {k : Nat} {fa a : Addr} {sp : Spec} {s1 : Shared} {vs : List Value} {ns : List Int}
    (inK : K.In s1.heap) (glo : s1.heap.Ns mainGlobals mg) (blt : s1.heap.Ns builtinsNs mb) (hbl : ∀ x : Str, x ≠ "__name__" → mb x = bootBuiltins x) (lim : s1.heap.NoLimit) (gens : s1.gens = #[])
    (at_ : s1.heap.get? a = some { cls := .type "list", data := .seq vs.toArray }) (isI : IntsAre vs ns) (few : ns.length ≤ sizeLine) (room : Room k callerA)
    (F : ∀ base : Heap, K.In base → base.Ns mainGlobals mg → FnG P w K mg base k fa sp) (law : sp [.cl (ns.map .int)] noHv (fun v _ => v = .bl true) noE) :
    codeAny (model P w) callerA (.call (.ref fa) ⟨[.ref a], []⟩) (fun r s' => r = .ok (.ret (.bool true)) ∧ OldK s1.heap s'.heap ∧ s'.os = s1.os ∧ AllBare s'.gens) s1 := by
  have rel := vals_ints isI
  have len := isI.length
  let ob : Obj := { cls := .type "list", data := .seq vs.toArray }
  let H : Hp := startH K a ob (ns.map V.int)
  have only : ∀ b u, H b = some u → b = a ∧ K.lookup a = none ∧ u = .frz ob (.lst (ns.map V.int)) := fun b u e => startH_some e
  have kept : ∀ b o, s1.heap.get? b = some o → H b = none → (hidT s1.heap H).get? b = some o := fun b o => hidT_get
  have dicts : ∀ b o es ep, s1.heap.get? b = some o → o.data = .dict es ep → H b = none := fun b o es ep e d => by
    cases q : H b with
    | none => rfl
    | some u =>
      obtain ⟨e1, _, _⟩ := only b u q
      rw [e1, at_] at e
      cases e
      exact absurd (show Data.seq vs.toArray _ = Data.dict es ep from d) (fun z => by cases z)
  have spaces : ∀ {b : Addr} {g : Str → Option Value}, s1.heap.Ns b g → (hidT s1.heap H).Ns b g := fun {b g} z => by
    obtain ⟨o, es, ep, e, d, r⟩ := z
    exact ⟨o, es, ep, kept b o e (dicts b o es ep e d), d, r⟩
  have baseK : K.In (hidT s1.heap H) := fun b o e => kept b o (inK b o e) (by
    cases q : H b with
    | none => rfl
    | some u =>
      obtain ⟨e1, e2, _⟩ := only b u q
      rw [e1, e2] at e; cases e)
  have hok : HOk P w H s1.heap := fun b u e => by
    obtain ⟨rfl, _, rfl⟩ := only b u e
    exact ⟨at_, by rw [List.length_map]; exact few, vs, _, rel, at_⟩
  have csv : CsV K H a (ns.map V.int) := by
    cases q : K.lookup a with
    | some o =>
      have e := inK a o q
      rw [at_] at e; cases e
      exact .inr (.inl ⟨_, vs.toArray, _, q, rfl, rfl, rfl, by rw [List.size_toArray, len]; exact few, by simpa using rel⟩)
    | none =>
      refine .inl ⟨ob, ?_⟩
      show startH K a ob _ a = _
      unfold startH
      rw [q]
      exact if_pos rfl
  have rvs : ∀ l : List Int, RVs K (rho0 mg) H (l.map Val.int) (l.map V.int) := fun l => by
    induction l with
    | nil => exact .nil
    | cons x r ih => exact .cons (.int x) ih
  have modb : L2.Mod K mg (hidT s1.heap H) := ⟨baseK, spaces glo, ⟨mb, spaces blt, hbl⟩, by obtain ⟨mc, z1, z2⟩ := lim; exact ⟨mc, spaces z1, z2⟩⟩
  have e0 : Env0 P w K mg (hidT s1.heap H) callerA [] s1 H := ⟨rfl, modb, fun b o e => of_hidT e, Nat.le_of_eq (hidT_size _ _), trivial, fun b z => absurd (show b ∈ ([] : List Addr) from z) (by simp), hok, .of_eq gens⟩
  have R : Rel K mg (rho0 mg) noHv H := ⟨fun _ _ z => (nomatch z), fun _ _ z => (nomatch z), fun _ _ _ z => (nomatch z), fun _ _ z => (nomatch z), fun _ _ z => (nomatch z), fun _ z => z.elim, fun _ _ z => (nomatch z), fun _ _ z => (nomatch z), rfl⟩
  have go := F _ baseK (spaces glo) callerA [] s1 H [.ref a] [.ref a] (fun v _ => v = .bl true) (fun _ _ _ => False) room rfl e0 (.cons rfl .nil)
    ⟨rho0 mg, noHv, [.cl (ns.map .int)], _, noE, R, .cons (.cl csv (rvs ns)) .nil, law, fun v h' q ρ' H' x g R' r => by subst q; cases r; rfl, fun _ _ f => f.elim⟩
  refine codeAny_mono go fun r s' hr => ?_
  cases r with
  | error e =>
    obtain ⟨_, _, _, _, _, _, _, _, _, _, _, _, f⟩ := hr
    exact f.elim
  | ok fl =>
    cases fl with
    | next => exact (show False from hr).elim
    | brk => exact (show False from hr).elim
    | cont => exact (show False from hr).elim
    | ret u =>
      obtain ⟨v, H', os, bare, un, hok', rr, q⟩ := hr
      have q : v = .bl true := q
      subst q
      obtain rfl : u = Value.bool true := rr
      refine ⟨rfl, OldK.of_keep fun b o e => ?_, os, bare⟩
      cases z : H b with
      | none => exact un.keep b o e z (fun y => absurd (show b ∈ ([] : List Addr) from y) (by simp)) (by simp)
      | some u =>
        obtain ⟨e1, _, e3⟩ := only b u z
        subst e3
        have z2 := un.frzs b ob _ z
        have k2 := (show ObjOk P w H' s'.heap b (.frz ob (.lst (ns.map V.int))) from hok' _ _ z2).1
        rw [e1, at_] at e
        cases e
        exact k2
theorem law_walk {l : PySem.W.OpenLaw} {n k : Nat} {q : Program} {loose : List Str} {XP : (Str → Option Value) → Heap → Prop} {YP : World → Heap → Prop} {d : DefRec}
    (hn : l.most = some n) (hn2 : n ≤ sizeLine) (hdf : d.params.defaults = []) (hr : Room k callerA)
    (F : ∀ (w : World) (mg : Str → Option Value) (fa : Addr) (h : Heap), YP w h → h.Ns mainGlobals mg → mg d.name = some (.ref fa) →
      ∃ (K : PySem.W.Frag) (sp : Spec), K.In h ∧ (∀ ns : List Int, ns.length ≤ n → sp [.cl (ns.map .int)] noHv (fun v _ => v = .bl true) noE) ∧
        ∀ base : Heap, K.In base → base.Ns mainGlobals mg → FnG l.prog w K mg base k fa sp) :
    PySem.W.WalkO q loose XP YP l.row.toRowW d [] (fun f vs => PySem.call f vs) := by
  refine Att.attach_call hn hdf fun w s₀ s1 mg mb fa o pm cd doc a vs ns G Y ho hd hcd hmg hobj hints hlen hg => ?_
  obtain ⟨K, sp, inK, law, hF⟩ := F w mg fa _ Y G.T.g hmg
  exact law_G inK G.T.g G.T.b G.T.builtins G.T.nolimit hg hobj hints (Nat.le_trans hlen hn2) hr hF (law ns hlen)

/-! ### what the head looks at: the written part, and the table of modules -/
def lookK (n : Nat) (g : Addr → Option Obj) : PySem.W.Frag := He.frG g (sysModules :: (He.asD g n ++ He.growG g [mainGlobals]))
/-- further facts of the written part -/
abbrev Xf := PySem.W.Frag → Bool
def obsS (n : Nat) (fa : List He.Fa) (fn : List He.DefD) (xs : List Xf) (g : Addr → Option Obj) : He.AlD × Bool := (He.obsD fa fn (lookK n g), ((lookK n g).lookup sysModules).isSome && xs.all fun f => f (lookK n g))
def hookS (n : Nat) (fa : List He.Fa) (fn : List He.DefD) (xs : List Xf) : PySem.W.Hook where
  α := He.AlD × Bool
  obs := fun s => obsS n fa fn xs s.heap.get?
  val := fun _ => (He.valD fn, true)
  says := fun _ h => ∃ K : PySem.W.Frag, K.In h ∧ He.SaysD fa fn K ∧ (∃ o, K.lookup sysModules = some o) ∧ ∀ f ∈ xs, f K = true
  of := fun _ _ e => ⟨_, He.frG_in, congrArg Prod.fst e, Option.isSome_iff_exists.mp ((Bool.and_eq_true _ _).mp (congrArg Prod.snd e)).1, fun f m => List.all_eq_true.mp ((Bool.and_eq_true _ _).mp (congrArg Prod.snd e)).2 f m⟩
  keeps := fun _ _ _ z k => by
    obtain ⟨K, inK, c, q⟩ := z
    exact ⟨K, inK.keeps k, c, q⟩
theorem obsS_eq {n : Nat} {fa : List He.Fa} {fn : List He.DefD} {xs : List Xf} {g : Addr → Option Obj} {s : Shared} (h : ∀ a, g a = s.heap.get? a) : obsS n fa fn xs g = (hookS n fa fn xs).obs s := by
  rw [show g = s.heap.get? from funext h]; rfl
/-! ### a constant of the module: a tuple of ints and texts -/
def it1 (v : Val) (u : Value) : Bool := match v with
  | .int i => (match u with | .int j _ => i == j | _ => false)
  | .str s => (match u with | .str z _ => s == z.cps.toList && okSb s | _ => false)
  | _ => false
def itOk : List Val → List Value → Bool
  | [], us => us.isEmpty
  | v :: vs, us => match us with
    | u :: r => it1 v u && itOk vs r
    | [] => false
def tupC (x : Str) (vs : List Val) : Xf := fun K => match PySem.W.nsIn K mainGlobals x with
  | some (some (.ref a)) => (match K.lookup a with
    | some o => decide (o.cls = .type "tuple") && (match o.data with
      | .seq its _ => decide (its.size ≤ 16777216) && itOk vs its.toList
      | _ => false)
    | none => false)
  | _ => false
theorem it1_ok {K : PySem.W.Frag} {v : Val} {u : Value} (h : it1 v u = true) : ∃ x : V, RelV x u ∧ ∀ ρ H, RV K ρ H v x := by
  unfold it1 at h
  split at h
  · split at h
    · rename_i i _ j t
      have e := eq_of_beq h
      subst e
      exact ⟨.int i, ⟨t, rfl⟩, fun _ _ => .int i⟩
    · cases h
  · split at h
    · rename_i s _ z t
      obtain ⟨h1, h3⟩ := and_t h
      have e := eq_of_beq h1
      refine ⟨.str z, ⟨t, rfl⟩, fun ρ H => ?_⟩
      have y : RV K ρ H (.str s) (.str (toS s)) := .str (okS_of h3)
      have e2 : toS s = z := (congrArg toS e).trans (toS_of _)
      rw [e2] at y
      exact y
    · cases h
  · cases h
theorem itOk_ok {K : PySem.W.Frag} : ∀ {vs : List Val} {us : List Value}, itOk vs us = true → ∃ xs : List V, Vals xs us ∧ ∀ ρ H, RVs K ρ H vs xs
  | [], us, h => by
    have e := List.isEmpty_iff.mp (show us.isEmpty = true from h)
    subst e
    exact ⟨[], .nil, fun _ _ => .nil⟩
  | v :: vs, [], h => nomatch h
  | v :: vs, u :: us, h => by
    obtain ⟨h1, h2⟩ := and_t (show (it1 v u && itOk vs us) = true from h)
    obtain ⟨x, a, b⟩ := it1_ok (K := K) h1
    obtain ⟨xs, r, q⟩ := itOk_ok (K := K) h2
    exact ⟨x :: xs, .cons a r, fun ρ H => .cons (b ρ H) (q ρ H)⟩
theorem tupC_ok {K : PySem.W.Frag} {h : Heap} {mg : Str → Option Value} {x : Str} {vs : List Val} (X : K.In h) (G : h.Ns mainGlobals mg) (c : tupC x vs K = true) : COk K mg x (.cl vs) := by
  unfold tupC at c
  split at c
  · rename_i a e
    split at c
    · rename_i o eo
      obtain ⟨c1, c2⟩ := and_t c
      split at c2
      · rename_i its n ed
        obtain ⟨c2, c3⟩ := and_t c2
        obtain ⟨xs, r, q⟩ := itOk_ok (K := K) c3
        exact ⟨.ref a, .ref a, PySem.W.mg_of X G e, rfl, fun ρ H => .cl (.inr (.inr ⟨o, its, n, eo, of_decide_eq_true c1, ed, by rw [sizeLine_eq]; exact of_decide_eq_true c2, r⟩)) (q ρ H)⟩
      · cases c2
    · cases c
  · cases c
end Lw
set_option Elab.async false
set_option linter.all false
set_option maxRecDepth 100000
set_option maxHeartbeats 1000000
/-! Lw17: how meanings are worked out. -/
namespace Lw
open PySem

theorem Hv.al_g (h : Hv) (o : Ob) (n : Nat) : (h.al o).g n = if n = h.nx then some o else h.g n := rfl
theorem Hv.put_g {h : Hv} {a : Nat} {o x : Ob} (e : h.g a = some x) (n : Nat) : (h.put a o).g n = if n = a then some o else h.g n := by
  by_cases q : n = a
  · subst q; rw [if_pos rfl]; exact Hv.put_same e
  · rw [if_neg q]; exact Hv.put_ne q

/-! ### comparisons -/
theorem shp_int (i : Int) : shp (.int i) := ⟨Nat.zero_le _, rfl⟩
theorem shp_str (s : PySem.Str) : shp (.str s) := ⟨Nat.zero_le _, rfl⟩
theorem shp_bl (b : Bool) : shp (.bool b) := ⟨Nat.zero_le _, rfl⟩
theorem shp_non : shp .none := ⟨Nat.zero_le _, rfl⟩
theorem eq_int {i j : Int} {h : Hv} {R : Bool → Prop} (q : R (decide (i = j))) : cEq (.int i) (.int j) h R :=
  .inl ⟨.int i, .int j, .int i, .int j, shp_int i, shp_int j, by show R (i == j); rw [show (i == j) = decide (i = j) from Bool.beq_eq_decide_eq ..]; exact q⟩
theorem eq_bl {i j : Bool} {h : Hv} {R : Bool → Prop} (q : R (i == j)) : cEq (.bl i) (.bl j) h R := .inl ⟨.bool i, .bool j, .bl i, .bl j, shp_bl i, shp_bl j, q⟩
theorem eq_str {s t : List Nat} {h : Hv} {R : Bool → Prop} (q : R (decide (s = t))) : cEq (.str s) (.str t) h R :=
  .inl ⟨.str (toS s), .str (toS t), .str s, .str t, shp_str _, shp_str _, by
    show R (toS s == toS t)
    have e : (toS s == toS t) = decide (s = t) := by
      by_cases z : s = t
      · subst z; simp
      · rw [decide_eq_false z]; exact beq_false_of_ne fun y => z (toS_inj y)
    rw [e]; exact q⟩
/-- the same data on both sides -/
theorem eq_same {x y : Val} {h : Hv} {R : Bool → Prop} {d : PyData} (dx : Dp h x d) (dy : Dp h y d) (s : shp d) (c : d.canLay0 = true) (q : R true) : cEq x y h R :=
  .inl ⟨d, d, dx, dy, s, s, by rw [PySem.SeqAt.eqv_refl d c]; exact q⟩

/-! ### rules that fire where the values are known -/
section
variable {z : Bool} {h : Hv} {Q : K1} {R : Bool → Prop} {i j : Int} {s t : List Nat} {K : Bool → Prop} {b : Bool} {vs ws : List Val} {n : Nat}
theorem add_ii : o2 (.add z) (.int i) (.int j) h Q = Q (.int (i + j)) h := rfl
theorem add_ss : o2 (.add z) (.str s) (.str t) h Q = (s.length + t.length ≤ sizeLine ∧ Q (.str (s ++ t)) h) := rfl
theorem mul_ii : o2 (.mul z) (.int i) (.int j) h Q = (((-(2 ^ 64) < i ∧ i < 2 ^ 64) ∨ (-(2 ^ 64) < j ∧ j < 2 ^ 64)) ∧ Q (.int (i * j)) h) := rfl
theorem mul_si : o2 (.mul z) (.str s) (.int j) h Q = (0 ≤ j ∧ s.length * j.toNat ≤ sizeLine ∧ j < 2 ^ 24 ∧ Q (.str (repL j.toNat s)) h) := rfl
theorem sub_ii : o2 .sub (.int i) (.int j) h Q = Q (.int (i - j)) h := propext ⟨fun ⟨_, _, e1, e2, q⟩ => by cases e1; cases e2; exact q, fun q => ⟨_, _, rfl, rfl, q⟩⟩
theorem mod_ii : o2 .mod (.int i) (.int j) h Q = (0 < j ∧ Q (.int (i % j)) h) := propext ⟨fun ⟨_, _, e1, e2, q⟩ => by cases e1; cases e2; exact q, fun q => ⟨_, _, rfl, rfl, q⟩⟩
theorem fdiv_ii : o2 .fdiv (.int i) (.int j) h Q = ((0 < j ∧ j < 1073741824) ∧ Q (.int (i / j)) h) := propext ⟨fun ⟨_, _, e1, e2, q⟩ => by cases e1; cases e2; exact q, fun q => ⟨_, _, rfl, rfl, q⟩⟩
theorem pow_ii : o2 .pow (.int i) (.int j) h Q = ((0 ≤ j ∧ j ≤ 1000000 ∧ i.natAbs < 2 ^ 64) ∧ Q (.int (i ^ j.toNat)) h) := propext ⟨fun ⟨_, _, e1, e2, q⟩ => by cases e1; cases e2; exact q, fun q => ⟨_, _, rfl, rfl, q⟩⟩
theorem lt_ii : co .lt (.int i) (.int j) h R = R (decide (i < j)) := rfl
theorem gt_ii : co .gt (.int i) (.int j) h R = R (decide (j < i)) := rfl
theorem le_ii : co .le (.int i) (.int j) h R = R (!decide (j < i)) := rfl
theorem ge_ii : co .ge (.int i) (.int j) h R = R (!decide (i < j)) := rfl
theorem lt_ss : co .lt (.str s) (.str t) h R = R (decide (s < t)) := rfl
theorem gt_ss : co .gt (.str s) (.str t) h R = R (decide (t < s)) := rfl
theorem le_ss : co .le (.str s) (.str t) h R = R (!decide (t < s)) := rfl
theorem ge_ss : co .ge (.str s) (.str t) h R = R (!decide (s < t)) := rfl
theorem Dp.int' {d : PyData} (p : Dp h (.int i) d) : d = .int i := by cases p; rfl
theorem Dp.str' {d : PyData} (p : Dp h (.str s) d) : d = .str (toS s) := by cases p; rfl
theorem Dp.bl' {d : PyData} (p : Dp h (.bl b) d) : d = .bool b := by cases p; rfl
theorem eq_ii : co .eq (.int i) (.int j) h R = R (decide (i = j)) := propext ⟨fun z => by
  obtain ⟨d, e, p, q, _, _, r⟩ | ⟨_, _, y, _⟩ := z
  case inr => rcases y with y | ⟨_, y, _⟩ <;> cases y
  rw [p.int', q.int'] at r
  have r : R (i == j) := r
  rw [show (i == j) = decide (i = j) from Bool.beq_eq_decide_eq ..] at r; exact r, eq_int⟩
theorem ne_ii : co .ne (.int i) (.int j) h R = R (!decide (i = j)) := eq_ii (R := fun b => R (!b))
theorem eq_ss : co .eq (.str s) (.str t) h R = R (decide (s = t)) := propext ⟨fun z => by
  obtain ⟨d, e, p, q, _, _, r⟩ | ⟨_, _, y, _⟩ := z
  case inr => rcases y with y | ⟨_, y, _⟩ <;> cases y
  rw [p.str', q.str'] at r
  have r : R (toS s == toS t) := r
  by_cases z : s = t
  · subst z
    rw [beq_self_eq_true] at r
    rw [decide_eq_true rfl]; exact r
  · rw [beq_false_of_ne fun y => z (toS_inj y)] at r
    rw [decide_eq_false z]; exact r, eq_str⟩
theorem ne_ss : co .ne (.str s) (.str t) h R = R (!decide (s = t)) := eq_ss (R := fun b => R (!b))
theorem is_vb {v : Val} : co .is_ v (.bl b) h R = R (match v with | .bl c => b == c | _ => false) := rfl
theorem isnt_vb {v : Val} : co .isnt v (.bl b) h R = R (!(match v with | .bl c => b == c | _ => false)) := rfl
theorem is_vn {v : Val} : co .is_ v .non h R = R (match v with | .non => true | _ => false) := rfl
theorem isnt_vn {v : Val} : co .isnt v .non h R = R (!(match v with | .non => true | _ => false)) := rfl
theorem tst_b : tstV (.bl b) K = K b := rfl
theorem tag_i : tag h (.int i) = some .int := rfl
theorem tag_b : tag h (.bl b) = some .bool := rfl
theorem tag_s : tag h (.str s) = some .str := rfl
theorem tag_t : tag h (.tup vs) = some .tuple := rfl
theorem tag_n : tag h .non = some .non := rfl
theorem len_s : biW .len [.str s] h Q = (s.length ≤ sizeLine ∧ Q (.int s.length) h) := propext ⟨fun ⟨_, e, q⟩ => by cases e; exact q, fun q => ⟨_, rfl, q⟩⟩
theorem len_t : biW .len [.tup vs] h Q = Q (.int vs.length) h := propext ⟨fun ⟨_, e, q⟩ => by cases e; exact q, fun q => ⟨_, rfl, q⟩⟩
theorem len_c : biW .len [.cl vs] h Q = Q (.int vs.length) h := propext ⟨fun ⟨_, e, q⟩ => by cases e; exact q, fun q => ⟨_, rfl, q⟩⟩
theorem max_ii : biW .max2 [.int i, .int j] h Q = Q (.int (if j > i then j else i)) h := propext ⟨fun ⟨_, _, e, q⟩ => by cases e; exact q, fun q => ⟨_, _, rfl, q⟩⟩
theorem min_ii : biW .min2 [.int i, .int j] h Q = Q (.int (if j < i then j else i)) h := propext ⟨fun ⟨_, _, e, q⟩ => by cases e; exact q, fun q => ⟨_, _, rfl, q⟩⟩
theorem abs_i : biW .abs [.int i] h Q = Q (.int (if i < 0 then -i else i)) h := propext ⟨fun ⟨_, e, q⟩ => by cases e; exact q, fun q => ⟨_, rfl, q⟩⟩
theorem le_vv {v w : Val} : co .le v w h R = cmpLt w v fun b => R (!b) := rfl
theorem it_s {P : WkK} : itAny (.str s) h P = (s.length ≤ sizeLine ∧ P ⟨s.map fun c => .str [c], fun _ => True⟩ h) := rfl
theorem it_t {P : WkK} : itAny (.tup vs) h P = P ⟨vs, fun _ => True⟩ h := rfl
theorem en_t {P : WkK} : enW (.tup vs) h P = P ⟨enumW 0 vs, fun _ => True⟩ h := rfl
theorem en_f {P : WkK} : enW (.fl vs) h P = P ⟨enumW 0 vs, fun h' => IsL h' (.fl vs) vs⟩ h := rfl
theorem en_r {P : WkK} : enW (.ref n) h P = ∃ vs, h.g n = some (.lst vs) ∧ P ⟨enumW 0 vs, fun h' => IsL h' (.ref n) vs⟩ h := rfl
theorem it_c {P : WkK} : itAny (.cl vs) h P = P ⟨vs, fun _ => True⟩ h := rfl
theorem it_l {P : WkK} (e : h.g n = some (.lst vs)) (q : P ⟨vs, fun h' => h'.g n = some (.lst vs)⟩ h) : itAny (.ref n) h P := ⟨vs, e, q⟩
theorem in_c {c : Nat} (q : R (decide (c ∈ t))) : co .isin (.str [c]) (.str t) h R := ⟨[c], rfl, .inl ⟨c, rfl, q⟩⟩
theorem notin_c {c : Nat} (q : R (!decide (c ∈ t))) : co .notin (.str [c]) (.str t) h R := ⟨[c], rfl, .inl ⟨c, rfl, q⟩⟩
theorem eq_vv {v w : Val} : co .eq v w h R = cEq v w h R := rfl
theorem slc_s {lo hi : Option Int} : oSlc z (.str s) lo hi h Q = (s.length ≤ sizeLine ∧ Q (.str (cut s lo hi)) h) := rfl
theorem slc_t {lo hi : Option Int} : oSlc z (.tup vs) lo hi h Q = Q (.tup (cut vs lo hi)) h := rfl
theorem slc_f {lo hi : Option Int} : oSlc z (.fl vs) lo hi h Q = newL z (cut vs lo hi) h Q := rfl
theorem slc_r {lo hi : Option Int} : oSlc z (.ref n) lo hi h Q = asL (.ref n) h fun vs => newL z (cut vs lo hi) h Q := rfl
theorem rev_f : oRev z (.fl vs) h Q = newL z vs.reverse h Q := rfl
theorem rev_r : oRev z (.ref n) h Q = asL (.ref n) h fun vs => newL z vs.reverse h Q := rfl
theorem un_f {m : Nat} {P : List Val → Prop} : unTup (.fl vs) m P = (vs.length = m ∧ P vs) := rfl
theorem un_t {m : Nat} {P : List Val → Prop} : unTup (.tup vs) m P = (vs.length = m ∧ P vs) := rfl
theorem join_w {v : Val} {sep : List Nat} : bmW .join (.str sep) [v] h Q = asSeq v h fun xs => ∃ zs, allStr xs = some zs ∧ (joinW sep zs).length + sep.length ≤ sizeLine ∧ Q (.str (joinW sep zs)) h :=
  propext ⟨fun ⟨_, _, e1, e2, q⟩ => by cases e1; cases e2; exact q, fun q => ⟨_, _, rfl, rfl, q⟩⟩
theorem split_w : bmW (.split z) (.str s) [.str t] h Q = (t ≠ [] ∧ t.all (· < 256) = true ∧ s.length + 2 ≤ sizeLine ∧ newL z ((TL.spl t 0 [] s).map Val.str) h Q) :=
  propext ⟨fun ⟨_, _, e1, e2, q⟩ => by cases e1; cases e2; exact q, fun q => ⟨_, _, rfl, rfl, q⟩⟩
theorem get1_w {v k : Val} : bmW .get1 v [k] h Q = asD v h fun kvs lk => okKey k kvs lk ∧ Q ((kvGet k kvs).getD .non) h := propext ⟨fun ⟨_, e, q⟩ => by cases e; exact q, fun q => ⟨_, rfl, q⟩⟩
theorem get2_w {v k d : Val} : bmW .get2 v [k, d] h Q = asD v h fun kvs lk => okKey k kvs lk ∧ Q ((kvGet k kvs).getD d) h := propext ⟨fun ⟨_, _, e, q⟩ => by cases e; exact q, fun q => ⟨_, _, rfl, q⟩⟩
theorem append_w {v : Val} : bmW .append (.ref n) [v] h Q = ∃ xs, h.g n = some (.lst xs) ∧ xs.length < sizeLine ∧ Q .non (h.put n (.lst (xs ++ [v]))) := propext ⟨fun ⟨_, xs, _, e1, e2, q⟩ => by cases e1; cases e2; exact ⟨xs, q⟩, fun ⟨xs, q⟩ => ⟨_, xs, _, rfl, rfl, q⟩⟩
theorem pop1_w : bmW .pop1 (.ref n) [.int i] h Q = ∃ xs k v, h.g n = some (.lst xs) ∧ L2.ixN xs.length i = some k ∧ xs[k]? = some v ∧ Q v (h.put n (.lst (xs.eraseIdx k))) := propext ⟨fun ⟨_, xs, _, k, v, e1, e2, q⟩ => by cases e1; cases e2; exact ⟨xs, k, v, q⟩, fun ⟨xs, k, v, q⟩ => ⟨_, xs, _, k, v, rfl, rfl, q⟩⟩
theorem clear_w : bmW .clear (.ref n) [] h Q = ∃ xs, h.g n = some (.lst xs) ∧ Q .non (h.put n (.lst [])) := propext ⟨fun ⟨_, xs, e1, e2, q⟩ => by cases e1; exact ⟨xs, q⟩, fun ⟨xs, q⟩ => ⟨_, xs, rfl, rfl, q⟩⟩
theorem extend_w {v : Val} : bmW .extend (.ref n) [v] h Q = ∃ xs, h.g n = some (.lst xs) ∧ asL v h fun ys => xs.length + ys.length ≤ sizeLine ∧ Q .non (h.put n (.lst (xs ++ ys))) := propext ⟨fun ⟨_, _, xs, e1, e2, q⟩ => by cases e1; cases e2; exact ⟨xs, q⟩, fun ⟨xs, q⟩ => ⟨_, _, xs, rfl, rfl, q⟩⟩
theorem tl_r : (∃ m xs, Val.ref n = .ref m ∧ h.g m = some (.lst xs)) = ∃ xs, h.g n = some (.lst xs) := propext ⟨fun ⟨_, xs, e, q⟩ => by cases e; exact ⟨xs, q⟩, fun ⟨xs, q⟩ => ⟨_, xs, rfl, q⟩⟩
theorem newL_t : newL true vs h Q = Q (.fl vs) h := rfl
theorem newL_f : newL false vs h Q = Q (.ref h.nx) (h.al (.lst vs)) := rfl
theorem newD_t {kvs : List (Val × Val)} : newD true kvs h Q = Q (.fd kvs) h := rfl
theorem newD_f {kvs : List (Val × Val)} : newD false kvs h Q = Q (.ref h.nx) (h.al (.dic kvs false)) := rfl
theorem asL_f {P : List Val → Prop} : asL (.fl vs) h P = P vs := rfl
theorem asL_r {P : List Val → Prop} : asL (.ref n) h P = ∃ vs, h.g n = some (.lst vs) ∧ P vs := rfl
theorem asSeq_f {P : List Val → Prop} : asSeq (.fl vs) h P = P vs := rfl
theorem asSeq_t {P : List Val → Prop} : asSeq (.tup vs) h P = P vs := rfl
theorem asSeq_c {P : List Val → Prop} : asSeq (.cl vs) h P = P vs := rfl
theorem asSeq_r {P : List Val → Prop} : asSeq (.ref n) h P = ∃ vs, h.g n = some (.lst vs) ∧ P vs := rfl
theorem asD_f {kvs : List (Val × Val)} {P : List (Val × Val) → Bool → Prop} : asD (.fd kvs) h P = P kvs false := rfl
theorem asD_r {P : List (Val × Val) → Bool → Prop} : asD (.ref n) h P = ∃ kvs lk, h.g n = some (.dic kvs lk) ∧ P kvs lk := rfl
theorem add_ff : o2 (.add z) (.fl vs) (.fl ws) h Q = (vs.length + ws.length ≤ sizeLine ∧ newL z (vs ++ ws) h Q) := rfl
theorem add_rl {y : Val} : o2 (.add z) (.ref n) y h Q = asL (.ref n) h fun s => asL y h fun t => s.length + t.length ≤ sizeLine ∧ newL z (s ++ t) h Q := rfl
theorem add_fr : o2 (.add z) (.fl vs) (.ref n) h Q = asL (.ref n) h fun t => vs.length + t.length ≤ sizeLine ∧ newL z (vs ++ t) h Q := rfl
theorem add_tt : o2 (.add z) (.tup vs) (.tup ws) h Q = (vs.length + ws.length ≤ sizeLine ∧ Q (.tup (vs ++ ws)) h) := rfl
theorem mul_fi : o2 (.mul z) (.fl vs) (.int j) h Q = (0 ≤ j ∧ j < 2 ^ 24 ∧ vs.length * j.toNat ≤ sizeLine ∧ newL z (repL j.toNat vs) h Q) := rfl
theorem len_f : biW .len [.fl vs] h Q = Q (.int vs.length) h := propext ⟨fun ⟨_, e, q⟩ => by cases e; exact q, fun q => ⟨_, rfl, q⟩⟩
theorem len_d {kvs : List (Val × Val)} : biW .len [.fd kvs] h Q = Q (.int kvs.length) h := propext ⟨fun ⟨_, e, q⟩ => by cases e; exact q, fun q => ⟨_, rfl, q⟩⟩
theorem list_w {v : Val} : biW (.list z) [v] h Q = listW z v h Q := propext ⟨fun ⟨_, e, q⟩ => by cases e; exact q, fun q => ⟨_, rfl, q⟩⟩
theorem listW_f : listW z (.fl vs) h Q = newL z vs h Q := rfl
theorem listW_t : listW z (.tup vs) h Q = newL z vs h Q := rfl
theorem listW_c : listW z (.cl vs) h Q = newL z vs h Q := rfl
theorem listW_d {kvs : List (Val × Val)} : listW z (.fd kvs) h Q = (kvs.all (fun p => keyS p.1) = true ∧ newL z (kvs.map (·.1)) h Q) := rfl
theorem tuple_w {v : Val} : biW .tuple [v] h Q = tupW v h Q := propext ⟨fun ⟨_, e, q⟩ => by cases e; exact q, fun q => ⟨_, rfl, q⟩⟩
theorem tupW_f : tupW (.fl vs) h Q = Q (.tup vs) h := rfl
theorem tupW_t : tupW (.tup vs) h Q = Q (.tup vs) h := rfl
theorem tupW_r : tupW (.ref n) h Q = asL (.ref n) h fun xs => Q (.tup xs) h := rfl
theorem all_w {v : Val} : biW .all [v] h Q = asL v h fun xs => ∃ bs, allBl xs = some bs ∧ Q (.bl (bs.all id)) h := propext ⟨fun ⟨_, e, q⟩ => by cases e; exact q, fun q => ⟨_, rfl, q⟩⟩
theorem any_w {v : Val} : biW .any [v] h Q = asL v h fun xs => ∃ bs, allBl xs = some bs ∧ Q (.bl (bs.any id)) h := propext ⟨fun ⟨_, e, q⟩ => by cases e; exact q, fun q => ⟨_, rfl, q⟩⟩
theorem sum_w {v : Val} : biW .sum [v] h Q = asL v h fun xs => ∃ is, allInt xs = some is ∧ Q (.int is.sum) h := propext ⟨fun ⟨_, e, q⟩ => by cases e; exact q, fun q => ⟨_, rfl, q⟩⟩
theorem max_w {v : Val} : biW .max1 [v] h Q = asL v h fun xs => ∃ i is, allInt xs = some (i :: is) ∧ Q (.int (maxI i is)) h := propext ⟨fun ⟨_, e, q⟩ => by cases e; exact q, fun q => ⟨_, rfl, q⟩⟩
theorem min_w {v : Val} : biW .min1 [v] h Q = asL v h fun xs => ∃ i is, allInt xs = some (i :: is) ∧ Q (.int (minI i is)) h := propext ⟨fun ⟨_, e, q⟩ => by cases e; exact q, fun q => ⟨_, rfl, q⟩⟩
theorem dict_w {v : Val} : biW (.dict z) [v] h Q = dictW z v h Q := propext ⟨fun ⟨_, e, q⟩ => by cases e; exact q, fun q => ⟨_, rfl, q⟩⟩
theorem dictW_f : dictW z (.fl vs) h Q = dicP z vs h Q := rfl
theorem dictW_d {kvs : List (Val × Val)} : dictW z (.fd kvs) h Q = (kvs.all (fun p => keyS p.1) = true ∧ newD z kvs h Q) := rfl
theorem divmod_w : biW .divmod [.int i, .int j] h Q = ((0 < j ∧ j < 1073741824) ∧ Q (.tup [.int (i / j), .int (i % j)]) h) := propext ⟨fun ⟨_, _, e, q⟩ => by cases e; exact q, fun q => ⟨_, _, rfl, q⟩⟩
theorem int_i : biW .int [.int i] h Q = Q (.int i) h := propext ⟨fun z => (by
  rcases z with ⟨_, e, q⟩ | ⟨_, e, q⟩ | ⟨_, _, e, q⟩
  · cases e; exact q
  · cases e
  · cases e), fun q => .inl ⟨_, rfl, q⟩⟩
theorem int_b : biW .int [.bl b] h Q = Q (.int (if b then 1 else 0)) h := propext ⟨fun z => (by
  rcases z with ⟨_, e, q⟩ | ⟨_, e, q⟩ | ⟨_, _, e, q⟩
  · cases e
  · cases e; exact q
  · cases e), fun q => .inr (.inl ⟨_, rfl, q⟩)⟩
theorem str_i : biW .str [.int i] h Q = (i.natAbs.log2 < 1920 ∧ Q (.str (Str.ofString (toString i)).cps.toList) h) := propext ⟨fun ⟨_, e, q⟩ => by cases e; exact q, fun q => ⟨_, rfl, q⟩⟩
theorem fmt_s {P : List Nat → Prop} : fmtV (.str s) P = P s := rfl
theorem fmt_i {P : List Nat → Prop} : fmtV (.int i) P = (i.natAbs.log2 < 1920 ∧ P (Str.ofString (toString i)).cps.toList) := rfl
theorem it_f {P : WkK} : itAny (.fl vs) h P = P ⟨vs, fun _ => True⟩ h := rfl
theorem it_r {P : WkK} : itAny (.ref n) h P = ∃ vs, h.g n = some (.lst vs) ∧ P ⟨vs, fun h' => h'.g n = some (.lst vs)⟩ h := rfl
theorem tag_f : tag h (.fl vs) = some .list := rfl
theorem tag_d {kvs : List (Val × Val)} : tag h (.fd kvs) = some .dict := rfl
theorem tag_o {C : Nat} {fs : List Val} : tag h (.fi C fs) = some (.ins C) := rfl
theorem fld_o {C D k : Nat} {fs : List Val} : oFld C k (.fi D fs) h Q = (D = C ∧ ∃ v, fs[k]? = some v ∧ Q v h) := rfl
theorem isIns_o {C D : Nat} {fs : List Val} : isIns C (.fi D fs) h = (D = C) := rfl
/-! the heap -/
theorem al_put {o o2 : Ob} (e : n = h.nx) : (h.al o).put n o2 = h.al o2 := by
  subst e
  refine Hv.ext (fun m => ?_) rfl
  by_cases q : m = h.nx
  · subst q; rw [Hv.put_same (Hv.al_new h o), Hv.al_new]
  · rw [Hv.put_ne q, Hv.al_old q, Hv.al_old q]
theorem al_put_ne {o o2 : Ob} (e : n < h.nx) : (h.al o).put n o2 = (h.put n o2).al o := by
  refine Hv.ext (fun m => ?_) rfl
  by_cases q : m = n
  · subst q
    have q2 : m ≠ h.nx := by omega
    have q3 : m ≠ (h.put m o2).nx := q2
    rw [Hv.al_old q3]
    show (if m = m ∧ m < h.nx + 1 then some o2 else _) = if m = m ∧ m < h.nx then some o2 else _
    rw [if_pos ⟨rfl, by omega⟩, if_pos ⟨rfl, e⟩]
  · rw [Hv.put_ne q]
    by_cases q2 : m = h.nx
    · subst q2; rw [Hv.al_new]; exact (Hv.al_new (h.put n o2) o).symm
    · rw [Hv.al_old q2]
      have q3 : m ≠ (h.put n o2).nx := q2
      rw [Hv.al_old q3, Hv.put_ne q]
theorem put_put {o o2 : Ob} : (h.put n o).put n o2 = h.put n o2 := by
  refine Hv.ext (fun m => ?_) rfl
  by_cases q : m = n
  · subst q
    show (if m = m ∧ m < h.nx then some o2 else _) = if m = m ∧ m < h.nx then some o2 else _
    split <;> rename_i c
    · rfl
    · show (if m = m ∧ m < h.nx then some o else _) = _
      rw [if_neg c]
  · rw [Hv.put_ne q, Hv.put_ne q, Hv.put_ne q]
theorem put_get {o : Ob} (e : n < h.nx) : (h.put n o).g n = some o := if_pos ⟨rfl, e⟩
theorem put_id {o : Ob} (e : h.g n = some o) : h.put n o = h := by
  refine Hv.ext (fun m => ?_) rfl
  by_cases q : m = n
  · subst q; rw [Hv.put_same e, e]
  · rw [Hv.put_ne q]
theorem cut_self : h.cut h.nx = h := by
  refine Hv.ext (fun m => ?_) rfl
  show (if m < h.nx then h.g m else none) = h.g m
  split
  · rfl
  · exact (h.wf m (by omega)).symm
/-! a call's end -/
theorem cut_ext {h' : Hv} (e : ∀ m, m < h.nx → h'.g m = h.g m) : h'.cut h.nx = h := by
  refine Hv.ext (fun m => ?_) rfl
  show (if m < h.nx then h'.g m else none) = h.g m
  split
  · exact e m (by assumption)
  · exact (h.wf m (by omega)).symm
theorem gc_same {v : Val} (l : lowR h.nx v = true) (q : Q v h) : gcQ h Q v h := ⟨l, ⟨Nat.le_refl _, fun _ _ => .inl rfl⟩, by rw [cut_self]; exact q⟩
theorem gc_ext {v : Val} {h' : Hv} (l : lowR h.nx v = true) (hn : h.nx ≤ h'.nx) (e : ∀ m, m < h.nx → h'.g m = h.g m) (q : Q v h) : gcQ h Q v h' := ⟨l, ⟨hn, fun m hm => .inl (e m hm)⟩, by rw [cut_ext e]; exact q⟩
theorem gc_put {v : Val} {h' : Hv} {o : Ob} (l : lowR h.nx v = true) (lo : lowO h.nx o = true) (hb : n < h.nx) (hn : h.nx ≤ h'.nx) (e : ∀ m, m < h.nx → h'.g m = (h.put n o).g m) (q : Q v (h.put n o)) : gcQ h Q v h' := by
  refine ⟨l, ⟨hn, fun m hm => ?_⟩, ?_⟩
  · by_cases z : m = n
    · subst z
      exact .inr ⟨o, (e m hm).trans (put_get hb), lo⟩
    · exact .inl ((e m hm).trans (Hv.put_ne z))
  · have e2 : h'.cut (h.put n o).nx = h.put n o := cut_ext e
    rw [show h'.cut h.nx = h.put n o from e2]; exact q
theorem gcx_same {x : Exn} {Ex : EK} (l : lowRs h.nx x.fs = true) (q : Ex x h) : gcX h Ex x h := ⟨l, ⟨Nat.le_refl _, fun _ _ => .inl rfl⟩, by rw [cut_self]; exact q⟩
theorem gcx_ext {x : Exn} {Ex : EK} {h' : Hv} (l : lowRs h.nx x.fs = true) (hn : h.nx ≤ h'.nx) (e : ∀ m, m < h.nx → h'.g m = h.g m) (q : Ex x h) : gcX h Ex x h' := ⟨l, ⟨hn, fun m hm => .inl (e m hm)⟩, by rw [cut_ext e]; exact q⟩
/-- the stuck ones -/
theorem len_l (e : h.g n = some (.lst vs)) (q : Q (.int vs.length) h) : biW .len [.ref n] h Q := ⟨_, rfl, .inl ⟨vs, e, q⟩⟩
theorem idx_l {v : Val} (e : h.g n = some (.lst vs)) (ix : L2.atI vs i = some v) (q : Q v h) : oIdx (.ref n) (.int i) h Q := .inl ⟨vs, i, v, e, rfl, ix, q⟩
theorem idx_t {v : Val} (ix : L2.atI vs i = some v) (q : Q v h) : oIdx (.tup vs) (.int i) h Q := ⟨i, v, rfl, ix, q⟩
theorem idx_c {v : Val} (ix : L2.atI vs i = some v) (q : Q v h) : oIdx (.cl vs) (.int i) h Q := ⟨i, v, rfl, ix, q⟩
theorem idx_s {c : Nat} (hl : s.length ≤ sizeLine) (ix : L2.atI s i = some c) (q : Q (.str [c]) h) : oIdx (.str s) (.int i) h Q := ⟨i, c, rfl, hl, ix, q⟩
theorem idx_f {v : Val} (ix : L2.atI vs i = some v) (q : Q v h) : oIdx (.fl vs) (.int i) h Q := ⟨i, v, rfl, ix, q⟩
theorem set_l {v : Val} {k : Nat} {P : Hv → Prop} (e : h.g n = some (.lst vs)) (ix : L2.ixN vs.length i = some k) (q : P (h.put n (.lst (vs.set k v)))) : stSub (.ref n) (.int i) v h P := .inl ⟨vs, i, k, e, rfl, ix, q⟩
theorem get_f {v : Val} {kvs : List (Val × Val)} {k : Val} (ok : okKey k kvs) (e : kvGet k kvs = some v) (q : Q v h) : oIdx (.fd kvs) k h Q := ⟨v, ok, e, q⟩
end
theorem allBl_map' {α : Type} (p : α → Val) (q : α → Bool) (e : ∀ x, p x = .bl (q x)) : ∀ s : List α, allBl (s.map p) = some (s.map q)
  | [] => rfl
  | c :: r => by
    rw [List.map_cons, List.map_cons, e c]
    show (allBl (r.map p)).map _ = _
    rw [allBl_map' p q e r]; rfl
theorem allBl_map {α : Type} (p : α → Bool) : ∀ s : List α, allBl (s.map fun c => .bl (p c)) = some (s.map p)
  | [] => rfl
  | c :: r => by
    show (allBl (r.map fun c => .bl (p c))).map _ = _
    rw [allBl_map p r]; rfl
/-- a sign's text -/
def onC (f : Nat → Option Val) : Val → Option Val
  | .str [c] => f c
  | _ => none
theorem onC_map (f : Nat → Option Val) : ∀ s : List Nat, (s.map fun c => Val.str [c]).filterMap (onC f) = s.filterMap f
  | [] => rfl
  | c :: r => by
    rw [List.map_cons, List.filterMap_cons, List.filterMap_cons, onC_map f r]
    rfl
theorem mem_signs {x : Val} {s : List Nat} (m : x ∈ s.map fun c => Val.str [c]) : ∃ c, c ∈ s ∧ x = .str [c] := let ⟨c, h, e⟩ := List.mem_map.mp m; ⟨c, h, e.symm⟩
theorem fm_if (p : Nat → Prop) [DecidablePred p] : ∀ s : List Nat, (s.filterMap fun c => if p c then some (Val.str [c]) else none) = ((s.filter fun c => decide (p c)).map fun c => [c]).map Val.str
  | [] => rfl
  | c :: r => by
    rw [List.filterMap_cons, List.filter_cons]
    by_cases h : p c
    · rw [if_pos h, decide_eq_true h, if_pos rfl, List.map_cons, List.map_cons, ← fm_if p r]
    · rw [if_neg h, decide_eq_false h, if_neg (by decide), ← fm_if p r]
theorem one_lt {a b : Nat} : decide ([a] < [b]) = decide (a < b) := by
  by_cases h : a < b
  · rw [decide_eq_true h, decide_eq_true (by simp [List.cons_lt_cons_iff, h])]
  · rw [decide_eq_false h, decide_eq_false (by simp [List.cons_lt_cons_iff]; omega)]
theorem small {n : Nat} (h : n ≤ 16777216 := by decide) : n ≤ sizeLine := by rw [sizeLine_eq]; exact h

theorem tag_ref {h : Hv} {n : Nat} {g : Tg} (e : tag h (.ref n) = some g) : g = .list ∨ g = .dict ∨ ∃ C, g = .ins C := by
  unfold tag at e
  simp only at e
  split at e <;> first | cases e | skip
  · exact .inl rfl
  · exact .inr (.inl rfl)
  · exact .inr (.inr ⟨_, rfl⟩)
theorem if_dec {P : Prop} [Decidable P] {A B : Prop} (h1 : P → A) (h2 : ¬P → B) : if decide P = true then A else B := by
  by_cases h : P
  · rw [decide_eq_true h, if_pos rfl]; exact h1 h
  · rw [decide_eq_false h, if_neg (by decide)]; exact h2 h
theorem if_ndec {P : Prop} [Decidable P] {A B : Prop} (h1 : ¬P → A) (h2 : P → B) : if (!decide P) = true then A else B := by
  by_cases h : P
  · rw [decide_eq_true h]; exact h2 h
  · rw [decide_eq_false h]; exact h1 h

/-! ### loops, comprehensions -/
theorem forW_by (P : Ev → Hv → Prop) {w : Wk} {ft : Val → Ev → Hv → (Ev → Hv → Prop) → Prop} {fb : En → Ev → Hv → Prop} {D : En} (hG : ∀ env h, P env h → w.G h) (he : ∀ env h, P env h → D.nx env h)
    (step : ∀ x env h (N : Ev → Hv → Prop), P env h → (∀ env' h', P env' h' → N env' h') → x ∈ w.items → ft x env h fun env2 h2 => fb { D with nx := N, ct := N, bk := D.nx } env2 h2) :
    ∀ {env : Ev} {h : Hv}, P env h → forW w ft fb D w.items env h := by
  have go : ∀ (items : List Val), (∀ x ∈ items, x ∈ w.items) → ∀ {env : Ev} {h : Hv}, P env h → forW w ft fb D items env h := by
    intro items
    induction items with
    | nil => intro _ env h p; exact ⟨hG _ _ p, he _ _ p⟩
    | cons x r ih =>
      intro hm env h p
      exact ⟨hG _ _ p, step x env h _ p (fun env' h' p' => ih (fun y m => hm y (List.mem_cons_of_mem _ m)) p') (hm x List.mem_cons_self)⟩
  intro env h p
  exact go _ (fun _ m => m) p
theorem forW_ix (P : Nat → Ev → Hv → Prop) {w : Wk} {ft : Val → Ev → Hv → (Ev → Hv → Prop) → Prop} {fb : En → Ev → Hv → Prop} {D : En} {env : Ev} {h : Hv} (h0 : P 0 env h) (hG : ∀ i env h, P i env h → w.G h) (he : ∀ env h, P w.items.length env h → D.nx env h)
    (step : ∀ i x env h (N : Ev → Hv → Prop), i < w.items.length → w.items[i]? = some x → P i env h → (∀ env' h', P (i + 1) env' h' → N env' h') → ft x env h fun env2 h2 => fb { D with nx := N, ct := N, bk := D.nx } env2 h2) :
    forW w ft fb D w.items env h := by
  have go : ∀ (r : Nat) (i : Nat) (items : List Val), i + r = w.items.length → items = w.items.drop i → ∀ {env : Ev} {h : Hv}, P i env h → forW w ft fb D items env h := by
    intro r
    induction r with
    | zero =>
      intro i items hi e env h p
      have : i = w.items.length := by omega
      subst this
      rw [List.drop_length] at e
      subst e
      exact ⟨hG _ _ _ p, he _ _ p⟩
    | succ r ih =>
      intro i items hi e env h p
      have hlt : i < w.items.length := by omega
      rw [List.drop_eq_getElem_cons hlt] at e
      subst e
      exact ⟨hG _ _ _ p, step i _ env h _ hlt (List.getElem?_eq_getElem hlt) p fun env' h' p' => ih (i + 1) _ (by omega) rfl p'⟩
  exact go w.items.length 0 _ (by omega) rfl h0
theorem rng_at {n i : Nat} {x : Val} (e : ((List.range n).map fun (k : Nat) => Val.int k)[i]? = some x) : x = .int i ∧ i < n := by
  rw [List.getElem?_map] at e
  by_cases h : i < n
  · rw [List.getElem?_range h] at e
    cases e
    exact ⟨rfl, h⟩
  · rw [List.getElem?_eq_none (by simpa using h)] at e
    cases e
/-- a comprehension whose turns change nothing -/
theorem compW_by (f : Val → Option Val) {w : Wk} {ft : Val → Hv → (Ev → Hv → Prop) → Prop} {fi : Ev → Hv → (Bool → Hv → Prop) → Prop} {fe : Ev → Hv → K1 → Prop} {h : Hv} {Q : List Val → Hv → Prop} (hG : w.G h)
    (step : ∀ x ∈ w.items, ∀ K : Option Val → Hv → Prop, K (f x) h → ft x h fun env2 h2 => fi env2 h2 fun b h3 => if b = true then fe env2 h3 (fun v h4 => K (some v) h4) else K none h3) :
    ∀ (items : List Val) (acc : List Val), (∀ x ∈ items, x ∈ w.items) → acc.length + items.length ≤ sizeLine → Q (acc ++ items.filterMap f) h → compW w ft fi fe items h acc Q := by
  intro items
  induction items with
  | nil => intro acc _ _ q; exact ⟨hG, by simpa using q⟩
  | cons x r ih =>
    intro acc hm hl q
    rw [List.length_cons] at hl
    refine ⟨hG, ?_⟩
    have st := step x (hm x List.mem_cons_self) (fun o h' => match o with
      | some v => acc.length < sizeLine ∧ compW w ft fi fe r h' (acc ++ [v]) Q
      | none => compW w ft fi fe r h' acc Q) ?_
    · exact st
    · cases e : f x with
      | none =>
        rw [List.filterMap_cons, e] at q
        exact ih acc (fun y m => hm y (List.mem_cons_of_mem _ m)) (by omega) q
      | some v =>
        rw [List.filterMap_cons, e] at q
        refine ⟨by omega, ih (acc ++ [v]) (fun y m => hm y (List.mem_cons_of_mem _ m)) (by rw [List.length_append]; simp; omega) ?_⟩
        rw [List.append_assoc]; exact q
/-- a comprehension, by what stands at each turn -/
theorem compW_ix (P : Nat → List Val → Hv → Prop) {w : Wk} {ft : Val → Hv → (Ev → Hv → Prop) → Prop} {fi : Ev → Hv → (Bool → Hv → Prop) → Prop} {fe : Ev → Hv → K1 → Prop} {h : Hv} {Q : List Val → Hv → Prop} (h0 : P 0 [] h) (hG : ∀ i acc h, P i acc h → w.G h) (he : ∀ acc h, P w.items.length acc h → Q acc h)
    (step : ∀ i x acc h (N : List Val → Hv → Prop), i < w.items.length → w.items[i]? = some x → P i acc h → (∀ acc' h', P (i + 1) acc' h' → N acc' h') → ft x h fun env2 h2 => fi env2 h2 fun b h3 => if b = true then fe env2 h3 (fun v h4 => acc.length < sizeLine ∧ N (acc ++ [v]) h4) else N acc h3) :
    compW w ft fi fe w.items h [] Q := by
  have go : ∀ (r i : Nat) (items acc : List Val) (h : Hv), i + r = w.items.length → items = w.items.drop i → P i acc h → compW w ft fi fe items h acc Q := by
    intro r
    induction r with
    | zero =>
      intro i items acc h hi e p
      have : i = w.items.length := by omega
      subst this
      rw [List.drop_length] at e
      subst e
      exact ⟨hG _ _ _ p, he _ _ p⟩
    | succ r ih =>
      intro i items acc h hi e p
      have hlt : i < w.items.length := by omega
      rw [List.drop_eq_getElem_cons hlt] at e
      subst e
      exact ⟨hG _ _ _ p, step i _ acc h (fun acc' h' => compW w ft fi fe (w.items.drop (i + 1)) h' acc' Q) hlt (List.getElem?_eq_getElem hlt) p fun acc' h' p' => ih (i + 1) _ acc' h' (by omega) rfl p'⟩
  exact go w.items.length 0 _ [] h (by omega) rfl h0
theorem joinW_one : ∀ cs : List Nat, joinW [] (cs.map fun c => [c]) = cs
  | [] => rfl
  | [c] => rfl
  | c :: d :: r => by
    show [c] ++ [] ++ joinW [] ((d :: r).map fun c => [c]) = _
    rw [joinW_one (d :: r)]; rfl
theorem allStr_one : ∀ cs : List Nat, allStr (cs.map fun c => Val.str [c]) = some (cs.map fun c => [c])
  | [] => rfl
  | c :: r => by
    show (allStr (r.map fun c => Val.str [c])).map _ = _
    rw [allStr_one r]; rfl
theorem repL_one (c : Nat) : ∀ n : Nat, repL n [c] = List.replicate n c
  | 0 => rfl
  | n + 1 => by
    unfold repL
    rw [List.replicate_succ, List.flatten_cons]
    show [c] ++ repL n [c] = _
    rw [repL_one c n]; rfl
theorem cut_to {α : Type} (s : List α) {n : Int} (h0 : 0 ≤ n) : cut s none (some n) = s.take n.toNat := by
  obtain ⟨k, rfl⟩ := Int.eq_ofNat_of_zero_le h0
  unfold cut
  have e : HT.sIx s.length s.length (some (k : Int)) = min k s.length := HT.sIx_nat _ _ _
  rw [HT.sIx_none, e]
  simp
theorem cut_from {α : Type} (s : List α) {n : Int} (h0 : 0 ≤ n) : cut s (some n) none = s.drop n.toNat := by
  obtain ⟨k, rfl⟩ := Int.eq_ofNat_of_zero_le h0
  unfold cut
  have e : HT.sIx s.length 0 (some (k : Int)) = min k s.length := HT.sIx_nat _ _ _
  rw [HT.sIx_none, e]
  by_cases z : k ≤ s.length
  · rw [Nat.min_eq_left z]
    rw [List.take_of_length_le (by simp)]; simp
  · rw [Nat.min_eq_right (by omega)]
    simp
    omega
/-! ### items -/
theorem atI_int {α : Type} {xs : List α} {i : Int} (h0 : 0 ≤ i) (h1 : i < xs.length) : ∃ v, v ∈ xs ∧ xs[i.toNat]? = some v ∧ L2.atI xs i = some v := by
  have h2 : i.toNat < xs.length := by omega
  refine ⟨xs[i.toNat], List.getElem_mem h2, List.getElem?_eq_getElem h2, ?_⟩
  have e : (i.toNat : Int) = i := Int.toNat_of_nonneg h0
  have z := L2.atI_nat (List.getElem?_eq_getElem h2)
  rw [e] at z
  exact z
end Lw
set_option Elab.async false
set_option linter.all false
set_option maxRecDepth 100000
set_option maxHeartbeats 1000000
/-! Lw18: values that are data. -/
namespace Lw
open PySem

/-! ### how long a shown text may be -/
mutual
def tsz : PyData → Nat
  | .none => 5
  | .bool _ => 5
  | .int _ => 42
  | .str x => 10 * x.length + 2
  | .list xs => tszs xs + 2
  | .tuple xs => tszs xs + 3
  | .dict kvs => tszk kvs + 2
def tszs : List PyData → Nat
  | [] => 0
  | x :: r => tsz x + 2 + tszs r
def tszk : List (PyData × PyData) → Nat
  | [] => 0
  | (k, v) :: r => tsz k + tsz v + 4 + tszk r
end
mutual
/-- ints of no great size, texts of signs that exist -/
def nice : PyData → Prop
  | .int i => i.natAbs < 10 ^ 40
  | .str x => okS x.cps.toList
  | .list xs => nices xs
  | .tuple xs => nices xs
  | .dict kvs => nicek kvs
  | _ => True
def nices : List PyData → Prop
  | [] => True
  | x :: r => nice x ∧ nices r
def nicek : List (PyData × PyData) → Prop
  | [] => True
  | (k, v) :: r => nice k ∧ nice v ∧ nicek r
end
mutual
def niceB : PyData → Bool
  | .int i => decide (i.natAbs < 10 ^ 40)
  | .str x => x.cps.toList.all fun c => decide (c < 1114112)
  | .list xs => niceBs xs
  | .tuple xs => niceBs xs
  | .dict kvs => niceBk kvs
  | _ => true
def niceBs : List PyData → Bool
  | [] => true
  | x :: r => niceB x && niceBs r
def niceBk : List (PyData × PyData) → Bool
  | [] => true
  | (k, v) :: r => niceB k && niceB v && niceBk r
end
mutual
theorem nice_of : ∀ d : PyData, niceB d = true → nice d
  | .none, _ => trivial
  | .bool _, _ => trivial
  | .int i, h => by
    have z : decide (i.natAbs < 10 ^ 40) = true := h
    show i.natAbs < 10 ^ 40
    exact of_decide_eq_true z
  | .str x, h => fun c m => of_decide_eq_true (List.all_eq_true.mp (show (x.cps.toList.all fun c => decide (c < 1114112)) = true from h) c m)
  | .list xs, h => nices_of xs h
  | .tuple xs, h => nices_of xs h
  | .dict kvs, h => nicek_of kvs h
theorem nices_of : ∀ ds : List PyData, niceBs ds = true → nices ds
  | [], _ => trivial
  | d :: r, h => by
    have h : (niceB d && niceBs r) = true := h
    rw [Bool.and_eq_true] at h
    exact ⟨nice_of d h.1, nices_of r h.2⟩
theorem nicek_of : ∀ ds : List (PyData × PyData), niceBk ds = true → nicek ds
  | [], _ => trivial
  | (k, v) :: r, h => by
    have h : (niceB k && niceB v && niceBk r) = true := h
    rw [Bool.and_eq_true, Bool.and_eq_true] at h
    exact ⟨nice_of k h.1.1, nice_of v h.1.2, nicek_of r h.2⟩
end
def sumL : List Str → Nat
  | [] => 0
  | t :: r => t.length + 2 + sumL r
theorem len_app (x y : Str) : (x ++ y).length = x.length + y.length := strLen_append x y
theorem from_len : ∀ (ts : List Str) (k : Nat) (acc : Str), (textFrom k acc ts).length ≤ acc.length + sumL ts
  | [], _, acc => Nat.le_add_right _ _
  | t :: r, k, acc => by
    have ih := from_len r (k + 1) (acc ++ (if k > 0 then ", " else "" : String) ++ t)
    show (textFrom (k + 1) _ r).length ≤ _
    rw [len_app, len_app] at ih
    have l2 : ((if k > 0 then ", " else "" : String) : Str).length ≤ 2 := by split <;> decide
    show _ ≤ acc.length + (t.length + 2 + sumL r)
    omega
theorem join_len : ∀ ts : List Str, (Str.join ", " ts).length ≤ sumL ts
  | [] => Nat.le_refl _
  | [x] => by show x.length ≤ x.length + 2 + 0; omega
  | x :: y :: r => by
    have ih := join_len (y :: r)
    have e : (Str.join ", " (x :: y :: r)).length = x.length + 2 + (Str.join ", " (y :: r)).length := by
      show (x ++ ", " ++ Str.join ", " (y :: r)).length = _
      rw [len_app, len_app]; rfl
    rw [e]
    show _ ≤ x.length + 2 + sumL (y :: r)
    omega
mutual
theorem shown_le : ∀ d : PyData, nice d → d.shown.length ≤ tsz d ∧ d.showable = true
  | .none, _ => ⟨by decide, rfl⟩
  | .bool true, _ => ⟨by decide, rfl⟩
  | .bool false, _ => ⟨by decide, rfl⟩
  | .int i, h => by
    have h : i.natAbs < 10 ^ 40 := h
    have e := int_text_length_le10 (k := 40) (by decide) h
    refine ⟨?_, ?_⟩
    · show (Str.ofString (toString i)).length ≤ 42
      rw [ofString_length]; omega
    · show decide (i.natAbs.log2 < 1920) = true
      refine decide_eq_true ?_
      by_cases z : i.natAbs = 0
      · rw [z]; decide
      · exact (Nat.log2_lt z).mpr (Nat.lt_of_lt_of_le h (by decide))
  | .str x, h => ⟨StrLaws.reprText_len x fun c m => Nat.lt_of_lt_of_le (h c m) (by decide), rfl⟩
  | .list xs, h => by
    obtain ⟨a, b⟩ := shown_les xs h
    refine ⟨?_, b⟩
    show (textFrom 0 "[" (PyData.shownAll xs) ++ "]").length ≤ tszs xs + 2
    rw [len_app]
    have := from_len (PyData.shownAll xs) 0 "["
    have e1 : ("[" : Str).length = 1 := by decide
    have e2 : ("]" : Str).length = 1 := by decide
    rw [e1] at this
    rw [e2]
    omega
  | .tuple xs, h => by
    obtain ⟨a, b⟩ := shown_les xs h
    refine ⟨?_, b⟩
    show (("(" : Str) ++ Str.join ", " (PyData.shownAll xs) ++ (if (PyData.shownAll xs).length == 1 then ",)" else ")" : String)).length ≤ tszs xs + 3
    rw [len_app, len_app]
    have := join_len (PyData.shownAll xs)
    have e1 : ("(" : Str).length = 1 := by decide
    have e2 : ((if (PyData.shownAll xs).length == 1 then ",)" else ")" : String) : Str).length ≤ 2 := by split <;> decide
    rw [e1]
    omega
  | .dict kvs, h => by
    obtain ⟨a, b⟩ := shown_lek kvs h
    refine ⟨?_, b⟩
    show (("{" : Str) ++ Str.join ", " (PyData.shownKv kvs) ++ "}").length ≤ tszk kvs + 2
    rw [len_app, len_app]
    have := join_len (PyData.shownKv kvs)
    have e1 : ("{" : Str).length = 1 := by decide
    have e2 : ("}" : Str).length = 1 := by decide
    rw [e1, e2]
    omega
theorem shown_les : ∀ ds : List PyData, nices ds → sumL (PyData.shownAll ds) ≤ tszs ds ∧ PyData.showableAll ds = true
  | [], _ => ⟨Nat.le_refl _, rfl⟩
  | d :: r, h => by
    obtain ⟨a, b⟩ := shown_le d h.1
    obtain ⟨c, e⟩ := shown_les r h.2
    refine ⟨?_, ?_⟩
    · show d.shown.length + 2 + sumL (PyData.shownAll r) ≤ tsz d + 2 + tszs r
      omega
    · show (d.showable && PyData.showableAll r) = true
      rw [b, e]; rfl
theorem shown_lek : ∀ ds : List (PyData × PyData), nicek ds → sumL (PyData.shownKv ds) ≤ tszk ds ∧ PyData.showableKv ds = true
  | [], _ => ⟨Nat.le_refl _, rfl⟩
  | (k, v) :: r, h => by
    obtain ⟨a, b⟩ := shown_le k h.1
    obtain ⟨a2, b2⟩ := shown_le v h.2.1
    obtain ⟨c, e⟩ := shown_lek r h.2.2
    refine ⟨?_, ?_⟩
    · show (k.shown ++ ": " ++ v.shown).length + 2 + sumL (PyData.shownKv r) ≤ tsz k + tsz v + 4 + tszk r
      rw [len_app, len_app]
      have e1 : (": " : Str).length = 2 := by decide
      omega
    · show (k.showable && v.showable && PyData.showableKv r) = true
      rw [b, b2, e]; rfl
end

/-! ### values that are data -/
mutual
/-- no reference, no object: data -/
def tre : Val → Bool
  | .non => true
  | .bl _ => true
  | .int _ => true
  | .str _ => true
  | .tup vs => tres vs
  | .fl vs => tres vs
  | .fd kvs => trek kvs
  | _ => false
def tres : List Val → Bool
  | [] => true
  | v :: vs => tre v && tres vs
def trek : List (Val × Val) → Bool
  | [] => true
  | (k, v) :: r => tre k && tre v && trek r
end
mutual
def dat : Val → PyData
  | .bl b => .bool b
  | .int i => .int i
  | .str s => .str (toS s)
  | .tup vs => .tuple (dats vs)
  | .fl vs => .list (dats vs)
  | .fd kvs => .dict (datk kvs)
  | _ => .none
def dats : List Val → List PyData
  | [] => []
  | v :: vs => dat v :: dats vs
def datk : List (Val × Val) → List (PyData × PyData)
  | [] => []
  | (k, v) :: r => (dat k, dat v) :: datk r
end
mutual
theorem dp_of {h : Hv} : ∀ {v : Val}, tre v = true → Dp h v (dat v)
  | .non, _ => .non
  | .bl b, _ => .bl b
  | .int i, _ => .int i
  | .str s, _ => .str s
  | .tup vs, t => .tup (dps_of (vs := vs) t)
  | .fl vs, t => .fl (dps_of (vs := vs) t)
  | .fd kvs, t => .fd (dpk_of (kvs := kvs) t)
  | .cl _, t => nomatch t
  | .fi _ _, t => nomatch t
  | .fx _ _, t => nomatch t
  | .ref _, t => nomatch t
theorem dps_of {h : Hv} : ∀ {vs : List Val}, tres vs = true → Dps h vs (dats vs)
  | [], _ => .nil
  | v :: vs, t => by
    have t : (tre v && tres vs) = true := t
    obtain ⟨t1, t2⟩ := and_t t
    exact .cons (dp_of t1) (dps_of t2)
theorem dpk_of {h : Hv} : ∀ {kvs : List (Val × Val)}, trek kvs = true → Dpk h kvs (datk kvs)
  | [], _ => .nil
  | (k, v) :: r, t => by
    have t : (tre k && tre v && trek r) = true := t
    obtain ⟨t, t3⟩ := and_t t
    obtain ⟨t1, t2⟩ := and_t t
    exact .cons (dp_of t1) (dp_of t2) (dpk_of t3)
end
mutual
theorem low_tre {k : Nat} : ∀ {v : Val}, tre v = true → lowR k v = true
  | .non, _ => rfl
  | .bl b, _ => rfl
  | .int i, _ => rfl
  | .str s, _ => rfl
  | .tup vs, t => lows_tre (vs := vs) t
  | .fl vs, t => lows_tre (vs := vs) t
  | .fd kvs, t => lowk_tre (kvs := kvs) t
  | .cl _, t => nomatch t
  | .fi _ _, t => nomatch t
  | .fx _ _, t => nomatch t
  | .ref _, t => nomatch t
theorem lows_tre {k : Nat} : ∀ {vs : List Val}, tres vs = true → lowRs k vs = true
  | [], _ => rfl
  | v :: vs, t => by
    have t : (tre v && tres vs) = true := t
    obtain ⟨t1, t2⟩ := and_t t
    show (lowR k v && lowRs k vs) = true
    rw [low_tre t1, lows_tre t2]; rfl
theorem lowk_tre {k : Nat} : ∀ {kvs : List (Val × Val)}, trek kvs = true → lowRk k kvs = true
  | [], _ => rfl
  | (c, v) :: r, t => by
    have t : (tre c && tre v && trek r) = true := t
    obtain ⟨t, t3⟩ := and_t t
    obtain ⟨t1, t2⟩ := and_t t
    show (lowR k v && lowRk k r) = true
    rw [low_tre t2, lowk_tre t3]; rfl
end
theorem tres_all : ∀ {vs : List Val}, tres vs = true ↔ ∀ v ∈ vs, tre v = true
  | [] => ⟨fun _ _ m => (by cases m), fun _ => rfl⟩
  | v :: vs => by
    show (tre v && tres vs) = true ↔ _
    rw [Bool.and_eq_true, tres_all (vs := vs)]
    simp
theorem dats_map : ∀ vs : List Val, dats vs = vs.map dat
  | [] => rfl
  | v :: vs => by show dat v :: dats vs = _; rw [dats_map vs]; rfl
theorem datk_map : ∀ kvs : List (Val × Val), datk kvs = kvs.map fun p => (dat p.1, dat p.2)
  | [] => rfl
  | (k, v) :: vs => by show (dat k, dat v) :: datk vs = _; rw [datk_map vs]; rfl
theorem tres_append {vs ws : List Val} : tres (vs ++ ws) = (tres vs && tres ws) := by
  rw [Bool.eq_iff_iff, Bool.and_eq_true, tres_all, tres_all, tres_all]
  constructor
  · intro a; exact ⟨fun v m => a v (List.mem_append_left _ m), fun v m => a v (List.mem_append_right _ m)⟩
  · intro a v m; exact (List.mem_append.mp m).elim (a.1 v) (a.2 v)
theorem tres_map {α : Type} {f : α → Val} (l : List α) (a : ∀ x ∈ l, tre (f x) = true) : tres (l.map f) = true := tres_all.mpr fun v m => by
  obtain ⟨x, hx, rfl⟩ := List.mem_map.mp m
  exact a x hx

/-! ### no great data -/
mutual
/-- the depth of lists in lists -/
def dep : Val → Nat
  | .tup vs => deps vs + 1
  | .fl vs => deps vs + 1
  | .fd kvs => depk kvs + 1
  | _ => 0
def deps : List Val → Nat
  | [] => 0
  | v :: vs => max (dep v) (deps vs)
def depk : List (Val × Val) → Nat
  | [] => 0
  | (k, v) :: vs => max (max (dep k) (dep v)) (depk vs)
end
/-- data of depth p, of size n at most -/
structure Ok (p n : Nat) (v : Val) : Prop where
  t : tre v = true
  nc : nice (dat v)
  d : (dat v).depth ≤ p
  z : tsz (dat v) ≤ n
structure Oks (p n : Nat) (vs : List Val) : Prop where
  t : tres vs = true
  nc : nices (dats vs)
  d : PyData.depthAll (dats vs) ≤ p
  z : tszs (dats vs) ≤ n
structure Okk (p n : Nat) (vs : List (Val × Val)) : Prop where
  t : trek vs = true
  nc : nicek (datk vs)
  d : PyData.depthKv (datk vs) ≤ p
  z : tszk (datk vs) ≤ n
theorem Ok.mono {p q n m : Nat} {v : Val} (o : Ok p n v) (h1 : p ≤ q) (h2 : n ≤ m) : Ok q m v := ⟨o.t, o.nc, Nat.le_trans o.d h1, Nat.le_trans o.z h2⟩
theorem Oks.mono {p q n m : Nat} {v : List Val} (o : Oks p n v) (h1 : p ≤ q) (h2 : n ≤ m) : Oks q m v := ⟨o.t, o.nc, Nat.le_trans o.d h1, Nat.le_trans o.z h2⟩
theorem Ok.non : Ok 0 42 .non := ⟨rfl, trivial, Nat.le_refl _, by decide⟩
theorem Ok.bl {b : Bool} : Ok 0 42 (.bl b) := ⟨rfl, trivial, Nat.le_refl _, by show 5 ≤ 42; decide⟩
theorem Ok.int {i : Int} (h : i.natAbs < 10 ^ 40) : Ok 0 42 (.int i) := ⟨rfl, h, Nat.le_refl _, Nat.le_refl _⟩
theorem Ok.str {s : List Nat} {n : Nat} (h : okS s) (l : s.length ≤ n) : Ok 0 (10 * n + 2) (.str s) := ⟨rfl, by show okS (toS s).cps.toList; rw [toS_cps]; exact h, Nat.le_refl _, by show 10 * (toS s).length + 2 ≤ _; rw [toS_len]; omega⟩
theorem Ok.tup {p n : Nat} {vs : List Val} (o : Oks p n vs) : Ok (p + 1) (n + 3) (.tup vs) := ⟨o.t, o.nc, Nat.succ_le_succ o.d, Nat.add_le_add_right o.z _⟩
theorem Ok.fl {p n : Nat} {vs : List Val} (o : Oks p n vs) : Ok (p + 1) (n + 3) (.fl vs) := ⟨o.t, o.nc, Nat.succ_le_succ o.d, by have := o.z; show tszs (dats vs) + 2 ≤ _; omega⟩
theorem Ok.fd {p n : Nat} {vs : List (Val × Val)} (o : Okk p n vs) : Ok (p + 1) (n + 3) (.fd vs) := ⟨o.t, o.nc, Nat.succ_le_succ o.d, by have := o.z; show tszk (datk vs) + 2 ≤ _; omega⟩
theorem Oks.nil : Oks 0 0 [] := ⟨rfl, trivial, Nat.le_refl _, Nat.le_refl _⟩
theorem Oks.cons {p q n m : Nat} {v : Val} {vs : List Val} (o : Ok p n v) (os : Oks q m vs) : Oks (max p q) (n + 2 + m) (v :: vs) :=
  ⟨by show (tre v && tres vs) = true; rw [o.t, os.t]; rfl, ⟨o.nc, os.nc⟩, by show max (dat v).depth (PyData.depthAll (dats vs)) ≤ _; have := o.d; have := os.d; omega, by show tsz (dat v) + 2 + tszs (dats vs) ≤ _; have := o.z; have := os.z; omega⟩
theorem Okk.nil : Okk 0 0 [] := ⟨rfl, trivial, Nat.le_refl _, Nat.le_refl _⟩
theorem Okk.cons {p q r n m l : Nat} {k v : Val} {vs : List (Val × Val)} (ok : Ok r l k) (o : Ok p n v) (os : Okk q m vs) : Okk (max (max r p) q) (l + n + 4 + m) ((k, v) :: vs) :=
  ⟨by show (tre k && tre v && trek vs) = true; rw [ok.t, o.t, os.t]; rfl, ⟨ok.nc, o.nc, os.nc⟩, by show max (max (dat k).depth (dat v).depth) (PyData.depthKv (datk vs)) ≤ _; have := ok.d; have := o.d; have := os.d; omega, by show tsz (dat k) + tsz (dat v) + 4 + tszk (datk vs) ≤ _; have := ok.z; have := o.z; have := os.z; omega⟩
theorem Oks.of {p n k : Nat} : ∀ {vs : List Val}, (∀ v ∈ vs, Ok p n v) → vs.length ≤ k → Oks p (k * (n + 2)) vs := by
  intro vs
  induction vs generalizing k with
  | nil => intro _ _; exact Oks.nil.mono (Nat.zero_le _) (Nat.zero_le _)
  | cons v vs ih =>
    intro a l
    rw [List.length_cons] at l
    obtain ⟨k, rfl⟩ : ∃ j, k = j + 1 := ⟨k - 1, by omega⟩
    refine (Oks.cons (a v List.mem_cons_self) (ih (k := k) (fun w m => a w (List.mem_cons_of_mem _ m)) (by omega))).mono (by omega) ?_
    rw [Nat.add_mul]; omega
theorem Okk.of {p n k q m : Nat} : ∀ {vs : List (Val × Val)}, (∀ v ∈ vs, Ok p n v.1 ∧ Ok q m v.2) → vs.length ≤ k → Okk (max p q) (k * (n + m + 4)) vs := by
  intro vs
  induction vs generalizing k with
  | nil => intro _ _; exact ⟨rfl, trivial, Nat.zero_le _, Nat.zero_le _⟩
  | cons v vs ih =>
    intro a l
    rw [List.length_cons] at l
    obtain ⟨k, rfl⟩ : ∃ j, k = j + 1 := ⟨k - 1, by omega⟩
    obtain ⟨o1, o2⟩ := a v List.mem_cons_self
    obtain ⟨c, w⟩ := v
    have z := Okk.cons o1 o2 (ih (k := k) (fun w m => a w (List.mem_cons_of_mem _ m)) (by omega))
    refine ⟨z.t, z.nc, Nat.le_trans z.d (by omega), Nat.le_trans z.z ?_⟩
    rw [Nat.add_mul]; omega
theorem Oks.map {α : Type} {p n k : Nat} {f : α → Val} {l : List α} (a : ∀ x ∈ l, Ok p n (f x)) (h : l.length ≤ k) : Oks p (k * (n + 2)) (l.map f) := Oks.of (fun v m => by
  obtain ⟨x, hx, rfl⟩ := List.mem_map.mp m
  exact a x hx) (by rw [List.length_map]; exact h)
theorem Oks.app {p q n m : Nat} : ∀ {vs ws : List Val}, Oks p n vs → Oks q m ws → Oks (max p q) (n + m) (vs ++ ws)
  | [], ws, _, b => b.mono (by omega) (by omega)
  | v :: vs, ws, a, b => by
    have at_ := and_t (show (tre v && tres vs) = true from a.t)
    have ad : max (dat v).depth (PyData.depthAll (dats vs)) ≤ p := a.d
    have az : tsz (dat v) + 2 + tszs (dats vs) ≤ n := a.z
    have ih := Oks.app (vs := vs) (p := p) (n := tszs (dats vs)) ⟨at_.2, a.nc.2, by omega, Nat.le_refl _⟩ b
    refine (Oks.cons (v := v) (p := p) (n := tsz (dat v)) ⟨at_.1, a.nc.1, by omega, Nat.le_refl _⟩ ih).mono (by omega) (by omega)
theorem Oks.mem {p n : Nat} {v : Val} : ∀ {vs : List Val}, Oks p n vs → v ∈ vs → Ok p n v
  | u :: vs, o, m => by
    have at_ := and_t (show (tre u && tres vs) = true from o.t)
    have ad : max (dat u).depth (PyData.depthAll (dats vs)) ≤ p := o.d
    have az : tsz (dat u) + 2 + tszs (dats vs) ≤ n := o.z
    rcases List.mem_cons.mp m with rfl | m
    · exact ⟨at_.1, o.nc.1, by omega, by omega⟩
    · exact Oks.mem (vs := vs) ⟨at_.2, o.nc.2, by omega, by omega⟩ m
theorem Oks.len {p n : Nat} : ∀ {vs : List Val}, Oks p n vs → 2 * vs.length ≤ n
  | [], _ => Nat.zero_le _
  | u :: vs, o => by
    have at_ := and_t (show (tre u && tres vs) = true from o.t)
    have ad : max (dat u).depth (PyData.depthAll (dats vs)) ≤ p := o.d
    have az : tsz (dat u) + 2 + tszs (dats vs) ≤ n := o.z
    have := Oks.len (vs := vs) (p := p) (n := tszs (dats vs)) ⟨at_.2, o.nc.2, by omega, Nat.le_refl _⟩
    rw [List.length_cons]; omega

/-! ### what is shown, what is equal -/
def reprV (v : Val) : List Nat := (dat v).shown.cps.toList
theorem repr_w {h : Hv} {v : Val} {Q : K1} {p n : Nat} (o : Ok p n v) (hp : p ≤ 60) (hn : n ≤ 16000000) (q : Q (.str (reprV v)) h) : biW .repr [v] h Q := by
  obtain ⟨a, b⟩ := shown_le _ o.nc
  refine ⟨v, dat v, rfl, dp_of o.t, b, Nat.le_trans o.d hp, small ?_, q⟩
  have := o.z
  omega
mutual
/-- no dict within -/
def nod : Val → Bool
  | .tup vs => nods vs
  | .fl vs => nods vs
  | .fd _ => false
  | _ => true
def nods : List Val → Bool
  | [] => true
  | v :: vs => nod v && nods vs
end
mutual
theorem nod_dat : ∀ v : Val, (dat v).hasDict = !nod v
  | .non => rfl
  | .bl _ => rfl
  | .int _ => rfl
  | .str _ => rfl
  | .tup vs => by show (PyData.tuple (dats vs)).hasDict = !nods vs; rw [← nods_dat vs]; simp [PyData.hasDict]
  | .fl vs => by show (PyData.list (dats vs)).hasDict = !nods vs; rw [← nods_dat vs]; simp [PyData.hasDict]
  | .fd _ => rfl
  | .cl _ => rfl
  | .fi _ _ => rfl
  | .fx _ _ => rfl
  | .ref _ => rfl
theorem nods_dat : ∀ vs : List Val, PyData.hasDictAll (dats vs) = !nods vs
  | [] => rfl
  | v :: vs => by
    show ((dat v).hasDict || PyData.hasDictAll (dats vs)) = !(nod v && nods vs)
    rw [nod_dat v, nods_dat vs]
    cases nod v <;> cases nods vs <;> rfl
end
theorem nods_all : ∀ {vs : List Val}, nods vs = true ↔ ∀ v ∈ vs, nod v = true
  | [] => ⟨fun _ _ m => (by cases m), fun _ => rfl⟩
  | v :: vs => by
    show (nod v && nods vs) = true ↔ _
    rw [Bool.and_eq_true, nods_all (vs := vs)]
    simp
theorem nods_map {α : Type} {f : α → Val} (l : List α) (a : ∀ x ∈ l, nod (f x) = true) : nods (l.map f) = true := nods_all.mpr fun v m => by
  obtain ⟨x, hx, rfl⟩ := List.mem_map.mp m
  exact a x hx
theorem Ok.shp {p n : Nat} {v : Val} (o : Ok p n v) (hp : p ≤ 60) (d : nod v = true) : Lw.shp (dat v) := ⟨Nat.le_trans o.d hp, by rw [nod_dat, d]; rfl⟩
def veq (x y : Val) : Bool := PyData.eqv (dat x) (dat y)
theorem eq_w {h : Hv} {x y : Val} {R : Bool → Prop} {p n q m : Nat} (ox : Ok p n x) (oy : Ok q m y) (hp : p ≤ 60) (hq : q ≤ 60) (dx : nod x = true) (dy : nod y = true) (r : R (veq x y)) : cEq x y h R :=
  .inl ⟨dat x, dat y, dp_of ox.t, dp_of oy.t, ox.shp hp dx, oy.shp hq dy, r⟩
mutual
theorem lay_nice : ∀ d : PyData, nice d → d.hasDict = false → d.canLay0 = true
  | .none, _, _ => rfl
  | .bool _, _, _ => rfl
  | .int _, _, _ => rfl
  | .str x, h, _ => canLay_of (.str x) h rfl
  | .list xs, h, n => lays_nice xs h (by simpa [PyData.hasDict] using n)
  | .tuple xs, h, n => lays_nice xs h (by simpa [PyData.hasDict] using n)
  | .dict _, _, n => by cases n
theorem lays_nice : ∀ ds : List PyData, nices ds → PyData.hasDictAll ds = false → PyData.canLayAll0 ds = true
  | [], _, _ => rfl
  | d :: ds, h, n => by
    have n' : d.hasDict = false ∧ PyData.hasDictAll ds = false := by simpa [PyData.hasDictAll] using n
    simp [PyData.canLayAll0, lay_nice d h.1 n'.1, lays_nice ds h.2 n'.2]
end
theorem veq_refl {v : Val} {p n : Nat} (o : Ok p n v) (d : nod v = true) : veq v v = true := PySem.SeqAt.eqv_refl (dat v) (lay_nice _ o.nc (by rw [nod_dat, d]; rfl))
/-! ### in -/
theorem in_w {h : Hv} {x : Val} {vs : List Val} {R : Bool → Prop} {p n q m : Nat} (ox : Ok p n x) (oy : Oks q m vs) (hp : p ≤ 60) (hq : q < 60) (dx : nod x = true) (dy : nods vs = true) (r : R (vs.any fun z => veq z x)) : cIn x (.fl vs) h R := by
  have s2 : Lw.shp (.list (dats vs)) := (Ok.fl oy).shp (by omega) dy
  refine ⟨dat x, dats vs, dp_of ox.t, dps_of oy.t, ox.shp hp dx, s2, ?_⟩
  rw [dats_map, List.any_map]
  exact r
theorem int_beq (i j : Int) : PyData.eqv (.int i) (.int j) = decide (i = j) := Bool.beq_eq_decide_eq ..
theorem veq_int (i j : Int) : veq (.int i) (.int j) = decide (i = j) := int_beq i j
theorem veq_str (s t : List Nat) : veq (.str s) (.str t) = decide (s = t) := by
  show (toS s == toS t) = decide (s = t)
  by_cases z : s = t
  · subst z; simp
  · rw [decide_eq_false z]; exact beq_false_of_ne fun y => z (toS_inj y)
theorem any_str (s : List Nat) (l : List (List Nat)) : ((l.map Val.str).any fun z => veq z (.str s)) = decide (s ∈ l) := by
  induction l with
  | nil => rfl
  | cons t r ih =>
    rw [List.map_cons, List.any_cons, ih, veq_str]
    rw [Bool.eq_iff_iff, Bool.or_eq_true, decide_eq_true_eq, decide_eq_true_eq, decide_eq_true_eq, List.mem_cons]
    exact ⟨fun z => z.imp Eq.symm id, fun z => z.imp Eq.symm id⟩
theorem any_int (s : Int) (l : List Int) : ((l.map Val.int).any fun z => veq z (.int s)) = decide (s ∈ l) := by
  induction l with
  | nil => rfl
  | cons t r ih =>
    rw [List.map_cons, List.any_cons, ih, veq_int]
    rw [Bool.eq_iff_iff, Bool.or_eq_true, decide_eq_true_eq, decide_eq_true_eq, decide_eq_true_eq, List.mem_cons]
    exact ⟨fun z => z.imp Eq.symm id, fun z => z.imp Eq.symm id⟩
theorem tres_strs (l : List (List Nat)) : tres (l.map Val.str) = true := tres_map l fun _ _ => rfl
theorem tres_ints (l : List Int) : tres (l.map Val.int) = true := tres_map l fun _ _ => rfl
theorem dats_flat {vs : List Val} (a : ∀ v ∈ vs, dep v = 0 ∧ nod v = true) : PyData.depthAll (dats vs) = 0 ∧ PyData.hasDictAll (dats vs) = false := by
  induction vs with
  | nil => exact ⟨rfl, rfl⟩
  | cons v vs ih =>
    obtain ⟨i1, i2⟩ := ih fun w m => a w (List.mem_cons_of_mem _ m)
    obtain ⟨a1, a2⟩ := a v List.mem_cons_self
    refine ⟨?_, ?_⟩
    · show max (dat v).depth (PyData.depthAll (dats vs)) = 0
      rw [i1]
      cases v <;> first | rfl | (unfold dep at a1; omega)
    · show ((dat v).hasDict || PyData.hasDictAll (dats vs)) = false
      rw [i2, nod_dat, a2]; rfl
theorem shp_flat {vs : List Val} (a : ∀ v ∈ vs, dep v = 0 ∧ nod v = true) : Lw.shp (.list (dats vs)) ∧ Lw.shp (.tuple (dats vs)) := by
  obtain ⟨a1, a2⟩ := dats_flat a
  refine ⟨⟨?_, by simpa [PyData.hasDict] using a2⟩, ⟨?_, by simpa [PyData.hasDict] using a2⟩⟩
  · show PyData.depthAll (dats vs) + 1 ≤ 60; rw [a1]; decide
  · show PyData.depthAll (dats vs) + 1 ≤ 60; rw [a1]; decide
theorem flat_str (l : List (List Nat)) : ∀ v ∈ l.map Val.str, dep v = 0 ∧ nod v = true := fun v m => by
  obtain ⟨x, _, rfl⟩ := List.mem_map.mp m
  exact ⟨rfl, rfl⟩
theorem flat_int (l : List Int) : ∀ v ∈ l.map Val.int, dep v = 0 ∧ nod v = true := fun v m => by
  obtain ⟨x, _, rfl⟩ := List.mem_map.mp m
  exact ⟨rfl, rfl⟩
section
variable {h : Hv} {R : Bool → Prop}
theorem in_strs {s : List Nat} {l : List (List Nat)} (r : R (decide (s ∈ l))) : cIn (.str s) (.fl (l.map Val.str)) h R :=
  ⟨.str (toS s), dats (l.map Val.str), .str s, dps_of (tres_strs l), shp_str _, (shp_flat (flat_str l)).1, by rw [dats_map, List.any_map]; have := any_str s l; rw [← this] at r; exact r⟩
theorem in_ints {s : Int} {l : List Int} (r : R (decide (s ∈ l))) : cIn (.int s) (.fl (l.map Val.int)) h R :=
  ⟨.int s, dats (l.map Val.int), .int s, dps_of (tres_ints l), shp_int _, (shp_flat (flat_int l)).1, by rw [dats_map, List.any_map]; have := any_int s l; rw [← this] at r; exact r⟩
theorem in_intsT {s : Int} {l : List Int} (r : R (decide (s ∈ l))) : cIn (.int s) (.tup (l.map Val.int)) h R :=
  ⟨.int s, dats (l.map Val.int), .int s, dps_of (tres_ints l), shp_int _, (shp_flat (flat_int l)).2, by rw [dats_map, List.any_map]; have := any_int s l; rw [← this] at r; exact r⟩
theorem in_intsC {s : Int} {l : List Int} (r : R (decide (s ∈ l))) : cIn (.int s) (.cl (l.map Val.int)) h R :=
  ⟨.int s, dats (l.map Val.int), .int s, dps_of (tres_ints l), shp_int _, (shp_flat (flat_int l)).1, (shp_flat (flat_int l)).2, by rw [dats_map, List.any_map]; have := any_int s l; rw [← this] at r; exact r⟩
theorem in_strsR {s : List Nat} {l : List (List Nat)} {n : Nat} (e : h.g n = some (.lst (l.map Val.str))) (r : R (decide (s ∈ l))) : cIn (.str s) (.ref n) h R :=
  .inl ⟨l.map Val.str, .str (toS s), dats (l.map Val.str), e, .str s, dps_of (tres_strs l), shp_str _, (shp_flat (flat_str l)).1, by rw [dats_map, List.any_map]; have := any_str s l; rw [← this] at r; exact r⟩
end
/-- what a value is -/
def tgV : Val → Tg
  | .non => .non | .bl _ => .bool | .int _ => .int | .str _ => .str | .tup _ => .tuple | .fl _ => .list | .fd _ => .dict | .fi C _ => .ins C | _ => .non
theorem tag_tre {h : Hv} {v : Val} (t : tre v = true) : tag h v = some (tgV v) ∧ tgB (tgV v) = true := by
  cases v <;> first | exact ⟨rfl, rfl⟩ | cases t
end Lw
set_option Elab.async false
set_option linter.all false
set_option maxRecDepth 100000
set_option maxHeartbeats 1000000
/-! Lw19: promises of the defs that many laws share. -/
namespace Lw
open PySem

/-- data of no great size -/
abbrev Good (v : Val) : Prop := Ok 50 16000000 v
theorem Ok.good {p n : Nat} {v : Val} (o : Ok p n v) (hp : p ≤ 50 := by decide) (hn : n ≤ 16000000 := by decide) : Good v := o.mono hp hn
theorem Ok.items {p n : Nat} {vs : List Val} {x : Val} (o : Ok p n (.tup vs)) (m : x ∈ vs) : Ok p n x := by
  have z : tszs (dats vs) + 3 ≤ n := o.z
  have d : PyData.depthAll (dats vs) + 1 ≤ p := o.d
  exact (Oks.mem (p := p) (n := n) ⟨o.t, o.nc, by omega, by omega⟩ m)
theorem Ok.itemsL {p n : Nat} {vs : List Val} {x : Val} (o : Ok p n (.fl vs)) (m : x ∈ vs) : Ok p n x := by
  have z : tszs (dats vs) + 2 ≤ n := o.z
  have d : PyData.depthAll (dats vs) + 1 ≤ p := o.d
  exact (Oks.mem (p := p) (n := n) ⟨o.t, o.nc, by omega, by omega⟩ m)
theorem Ok.str_len {p n : Nat} {s : List Nat} (o : Ok p n (.str s)) : 10 * s.length + 2 ≤ n := by
  have z : 10 * (toS s).length + 2 ≤ n := o.z
  rw [toS_len] at z; exact z
theorem Ok.str_ok {p n : Nat} {s : List Nat} (o : Ok p n (.str s)) : okS s := by
  have z : okS (toS s).cps.toList := o.nc
  rw [toS_cps] at z; exact z
theorem Ok.len_tup {p n : Nat} {vs : List Val} (o : Ok p n (.tup vs)) : 2 * vs.length ≤ n := by
  have z : tszs (dats vs) + 3 ≤ n := o.z
  have d : PyData.depthAll (dats vs) + 1 ≤ p := o.d
  exact Oks.len (p := p) (n := n) ⟨o.t, o.nc, by omega, by omega⟩
theorem Ok.len_fl {p n : Nat} {vs : List Val} (o : Ok p n (.fl vs)) : 2 * vs.length ≤ n := by
  have z : tszs (dats vs) + 2 ≤ n := o.z
  have d : PyData.depthAll (dats vs) + 1 ≤ p := o.d
  exact Oks.len (p := p) (n := n) ⟨o.t, o.nc, by omega, by omega⟩

/-! ### the box -/
/-- what is left of the digits, the seed, how often the seed was used -/
structure Bx where
  x : Int
  m : Int
  c : Int
def boxO (t : Bx) : Ob := .lst [.int t.x, .int t.m, .int t.c]
structure okB (c : Nat) (t : Bx) : Prop where
  m0 : 0 ≤ t.m
  m1 : t.m < 2147483648
  c0 : 0 ≤ t.c
  c1 : t.c ≤ c
theorem okB.mono {c d : Nat} {t : Bx} (o : okB c t) (l : c ≤ d) : okB d t := ⟨o.m0, o.m1, o.c0, by have := o.c1; omega⟩
/-- the heap with the box -/
abbrev Hv.bx (h : Hv) (b : Nat) (t : Bx) : Hv := h.put b (boxO t)
theorem bx_g {h : Hv} {b : Nat} {t : Bx} (hb : b < h.nx) : (h.bx b t).g b = some (boxO t) := put_get hb
theorem bx_al {h : Hv} {b : Nat} {t : Bx} {o : Ob} (hb : b < h.nx) : (h.bx b t).al o = (h.al o).bx b t := (al_put_ne hb).symm
theorem bx_ne {h : Hv} {b n : Nat} {t : Bx} (hn : n ≠ b) : (h.bx b t).g n = h.g n := Hv.put_ne hn
theorem put_comm {h : Hv} {n m : Nat} {o o2 : Ob} (hn : n ≠ m) : (h.put n o).put m o2 = (h.put m o2).put n o := by
  refine Hv.ext (fun k => ?_) rfl
  by_cases q : k = n
  · subst q
    rw [Hv.put_ne hn]
    show (if k = k ∧ k < h.nx then some o else h.g k) = if k = k ∧ k < h.nx then some o else (h.put m o2).g k
    rw [Hv.put_ne hn]
  · rw [Hv.put_ne (h := h.put m o2) q]
    by_cases q2 : k = m
    · subst q2
      show (if k = k ∧ k < h.nx then some o2 else (h.put n o).g k) = if k = k ∧ k < h.nx then some o2 else h.g k
      rw [Hv.put_ne q]
    · rw [Hv.put_ne q2, Hv.put_ne q, Hv.put_ne q2]
/-- an accumulator is written beside the box -/
theorem acc_put {h : Hv} {b n : Nat} {t : Bx} {o o2 : Ob} (hb : b < h.nx) (hn : n = h.nx) : ((h.al o).bx b t).put n o2 = (h.al o2).bx b t := by
  subst hn
  rw [put_comm (by omega), al_put rfl]
theorem gc_bx {h h1 : Hv} {b : Nat} {t t' : Bx} {v : Val} {Q : K1} (hb : b < h.nx) (l : lowR h.nx v = true) (hn : h.nx ≤ h1.nx) (e : ∀ m, m < h.nx → h1.g m = h.g m) (q : Q v (h.bx b t')) : gcQ (h.bx b t) Q v (h1.bx b t') := by
  refine gc_put (n := b) (o := boxO t') l rfl hb hn (fun m hm => ?_) ?_
  · by_cases z : m = b
    · subst z
      rw [bx_g (by omega : m < h1.nx)]
      exact (put_get (h := h.bx m t) hb).symm
    · rw [bx_ne z, Hv.put_ne (h := h.bx b t) z, bx_ne z]; exact e m hm
  · rw [put_put]; exact q
theorem gc_bx0 {h : Hv} {b : Nat} {t t' : Bx} {v : Val} {Q : K1} (hb : b < h.nx) (l : lowR h.nx v = true) (q : Q v (h.bx b t')) : gcQ (h.bx b t) Q v (h.bx b t') := gc_bx hb l (Nat.le_refl _) (fun _ _ => rfl) q

/-! ### what is asked of values -/
def low26 : List Nat := [97, 98, 99, 100, 101, 102, 103, 104, 105, 106, 107, 108, 109, 110, 111, 112, 113, 114, 115, 116, 117, 118, 119, 120, 121, 122]
theorem low26_mem (c : Nat) : c ∈ low26 ↔ 97 ≤ c ∧ c ≤ 122 := by
  unfold low26
  simp only [List.mem_cons, List.not_mem_nil, or_false]
  omega
def nameB (s : List Nat) : Bool := decide (1 ≤ s.length) && decide (s.length ≤ 8) && s.all fun c => decide (c ∈ low26)
theorem nameB_all {s : List Nat} (h1 : 1 ≤ s.length) (h8 : s.length ≤ 8) : nameB s = s.all fun c => decide (c ∈ low26) := by
  unfold nameB
  rw [decide_eq_true h1, decide_eq_true h8]; rfl
theorem nameB_no {s : List Nat} (h : ¬ (1 ≤ s.length ∧ s.length ≤ 8)) : nameB s = false := by
  unfold nameB
  by_cases a : 1 ≤ s.length
  · rw [decide_eq_false (show ¬ s.length ≤ 8 by omega)]; simp
  · rw [decide_eq_false a]; rfl
theorem nameB_is {s : List Nat} (n : nameB s = true) : 1 ≤ s.length ∧ s.length ≤ 8 ∧ ∀ c ∈ s, c ∈ low26 := by
  unfold nameB at n
  rw [Bool.and_eq_true, Bool.and_eq_true, decide_eq_true_eq, decide_eq_true_eq, List.all_eq_true] at n
  exact ⟨n.1.1, n.1.2, fun c m => of_decide_eq_true (n.2 c m)⟩
theorem name_okS {s : List Nat} (n : nameB s = true) : okS s := fun c m => by
  have := (low26_mem c).mp ((nameB_is n).2.2 c m)
  omega
theorem Ok.name {s : List Nat} (n : nameB s = true) : Ok 0 82 (.str s) := Ok.str (n := 8) (name_okS n) (nameB_is n).2.1
def nameV : Val → Bool
  | .str s => nameB s
  | _ => false
def intB (lo hi i : Int) : Bool := decide (lo ≤ i) && decide (i ≤ hi)
def intV (lo hi : Int) : Val → Bool
  | .int i => intB lo hi i
  | _ => false
def listV (m : Int) : Val → Bool
  | .fl xs => decide ((xs.length : Int) ≤ m)
  | .tup xs => decide ((xs.length : Int) ≤ m)
  | _ => false
def tupV (m : Int) : Val → Bool
  | .tup xs => decide ((xs.length : Int) = m)
  | _ => false
def itemsV : Val → List Val
  | .fl xs => xs
  | .tup xs => xs
  | _ => []
theorem intV_is {lo hi : Int} {v : Val} (t : intV lo hi v = true) : ∃ i, v = .int i ∧ lo ≤ i ∧ i ≤ hi := by
  unfold intV at t
  split at t
  · rename_i i
    unfold intB at t
    rw [Bool.and_eq_true, decide_eq_true_eq, decide_eq_true_eq] at t
    exact ⟨i, rfl, t.1, t.2⟩
  · cases t
theorem nameV_is {v : Val} (t : nameV v = true) : ∃ s, v = .str s ∧ nameB s = true := by
  unfold nameV at t
  split at t
  · exact ⟨_, rfl, t⟩
  · cases t
theorem intB_t {lo hi i : Int} (a : lo ≤ i) (b : i ≤ hi) : intB lo hi i = true := by unfold intB; rw [decide_eq_true a, decide_eq_true b]; rfl
/-- the parts of a tuple -/
theorem tupV3 {v : Val} (t : tupV 3 v = true) : ∃ x y z, v = .tup [x, y, z] := by
  unfold tupV at t
  split at t
  · rename_i xs
    have z := of_decide_eq_true t
    match xs, z with
    | [a, b, c], _ => exact ⟨a, b, c, rfl⟩
    | [], z => exact absurd z (by decide)
    | [_], z => exact absurd z (by simp)
    | [_, _], z => exact absurd z (by simp)
    | _ :: _ :: _ :: _ :: _, z => exact absurd z (by simp; omega)
  · cases t
theorem tupV2 {v : Val} (t : tupV 2 v = true) : ∃ x y, v = .tup [x, y] := by
  unfold tupV at t
  split at t
  · rename_i xs
    have z := of_decide_eq_true t
    match xs, z with
    | [a, b], _ => exact ⟨a, b, rfl⟩
    | [], z => exact absurd z (by decide)
    | [_], z => exact absurd z (by simp)
    | _ :: _ :: _ :: _, z => exact absurd z (by simp; omega)
  · cases t

/-! ### promises -/
def sp_law_take : Spec := fun vs h Q _ => ∃ (h0 : Hv) (b : Nat) (t : Bx) (n : Int) (c : Nat), vs = [.ref b, .int n] ∧ h = h0.bx b t ∧ b < h0.nx ∧ okB c t ∧ 0 < n ∧ n < 1073741824 ∧ c < 1000000 ∧ ∀ d t', 0 ≤ d → d < n → okB (c + 1) t' → Q (.int d) (h0.bx b t')
theorem take_of {h0 : Hv} {b c : Nat} {t : Bx} {n : Int} {Q : K1} {Ex : EK} (hb : b < h0.nx) (o : okB c t) (l : c < 1000000) (n0 : 0 < n) (n1 : n < 1073741824) (k : ∀ d t', 0 ≤ d → d < n → okB (c + 1) t' → Q (.int d) (h0.bx b t')) : sp_law_take [.ref b, .int n] (h0.bx b t) Q Ex :=
  ⟨h0, b, t, _, _, rfl, rfl, hb, o, n0, n1, l, k⟩
def sp_law_box : Spec := fun vs h Q _ => ∃ i, vs = [.int i] ∧ ∀ (h0 : Hv) (b : Nat) (t : Bx), b < h0.nx → okB 0 t → Q (.ref b) (h0.bx b t)
theorem box_w {i : Int} {h : Hv} {Q : K1} {Ex : EK} : sp_law_box [.int i] h Q Ex = ∀ (h0 : Hv) (b : Nat) (t : Bx), b < h0.nx → okB 0 t → Q (.ref b) (h0.bx b t) := propext ⟨fun ⟨_, e, q⟩ => by cases e; exact q, fun q => ⟨_, rfl, q⟩⟩
def sp_law_cell : Spec := fun vs h Q _ => ∃ (ns : List Int) (i : Int), vs = [.cl (ns.map .int), .int i] ∧ 0 ≤ i ∧ i < 1000000 ∧ ∀ j : Int, Q (.int j) h
theorem cell_w {ns : List Int} {i : Int} {h : Hv} {Q : K1} {Ex : EK} (h0 : 0 ≤ i) (h1 : i < 1000000) (q : ∀ j : Int, Q (.int j) h) : sp_law_cell [.cl (ns.map .int), .int i] h Q Ex := ⟨ns, i, rfl, h0, h1, q⟩
/-- a value, or a list that may change yet -/
def Sh (h : Hv) (x w : Val) : Prop := x = w ∨ (∃ n vs, x = .ref n ∧ h.g n = some (.lst vs) ∧ w = .fl vs) ∨ Dp h x (dat w)
theorem Sh.dp {h : Hv} {x w : Val} (s : Sh h x w) (t : tre w = true) : Dp h x (dat w) := by
  rcases s with rfl | ⟨n, vs, rfl, e, rfl⟩ | s
  · exact dp_of t
  · exact .lst e (dps_of (vs := vs) t)
  · exact s
theorem repr_sh {h : Hv} {x v : Val} {Q : K1} (s : Sh h x v) (o : Good v) (q : Q (.str (reprV v)) h) : biW .repr [x] h Q := by
  obtain ⟨a, b⟩ := shown_le _ o.nc
  refine ⟨x, dat v, rfl, s.dp o.t, b, Nat.le_trans o.d (by decide), small ?_, q⟩
  have := o.z
  omega
theorem eq_sh {h : Hv} {x y v w : Val} {R : Bool → Prop} (s1 : Sh h x v) (s2 : Sh h y w) (ox : Good v) (oy : Good w) (dx : nod v = true) (dy : nod w = true) (r : R (veq v w)) : cEq x y h R :=
  .inl ⟨dat v, dat w, s1.dp ox.t, s2.dp oy.t, ox.shp (by decide) dx, oy.shp (by decide) dy, r⟩
/-- the same value on both sides -/
def sp_law_even : Spec := fun vs h Q _ => ∃ x y w, vs = [x, y] ∧ Sh h x w ∧ Sh h y w ∧ Good w ∧ nod w = true ∧ Q (.bl true) h
theorem even_w {x y : Val} {h : Hv} {Q : K1} {Ex : EK} (e : x = y) (g : Good x) (n : nod x = true) (q : Q (.bl true) h) : sp_law_even [x, y] h Q Ex := ⟨x, y, x, rfl, .inl rfl, .inl e.symm, g, n, q⟩
theorem even_r {n : Nat} {vs : List Val} {y : Val} {h : Hv} {Q : K1} {Ex : EK} (eg : h.g n = some (.lst vs)) (e : y = .fl vs) (g : Good (.fl vs)) (nd : nods vs = true) (q : Q (.bl true) h) : sp_law_even [.ref n, y] h Q Ex := ⟨_, y, .fl vs, rfl, .inr (.inl ⟨n, vs, rfl, eg, rfl⟩), .inl e, g, nd, q⟩
theorem even_d {x w : Val} {h : Hv} {Q : K1} {Ex : EK} (s : Dp h x (dat w)) (g : Good w) (n : nod w = true) (q : Q (.bl true) h) : sp_law_even [x, w] h Q Ex := ⟨x, w, w, rfl, .inr (.inr s), .inl rfl, g, n, q⟩
def sp_is_integer : Spec := fun vs h Q _ => ∃ v lo hi, vs = [v, .int lo, .int hi] ∧ tre v = true ∧ Q (.bl (intV lo hi v)) h
theorem is_integer_w {v : Val} {lo hi : Int} {h : Hv} {Q : K1} {Ex : EK} : sp_is_integer [v, .int lo, .int hi] h Q Ex = (tre v = true ∧ Q (.bl (intV lo hi v)) h) := propext ⟨fun ⟨_, _, _, e, q⟩ => by cases e; exact q, fun q => ⟨_, _, _, rfl, q⟩⟩
def sp_law_is_int : Spec := sp_is_integer
theorem law_is_int_w {v : Val} {lo hi : Int} {h : Hv} {Q : K1} {Ex : EK} : sp_law_is_int [v, .int lo, .int hi] h Q Ex = (tre v = true ∧ Q (.bl (intV lo hi v)) h) := is_integer_w
def sp_is_name : Spec := fun vs h Q _ => ∃ v, vs = [v] ∧ Good v ∧ Q (.bl (nameV v)) h
theorem is_name_w {v : Val} {h : Hv} {Q : K1} {Ex : EK} : sp_is_name [v] h Q Ex = (Good v ∧ Q (.bl (nameV v)) h) := propext ⟨fun ⟨_, e, q⟩ => by cases e; exact q, fun q => ⟨_, rfl, q⟩⟩
def sp_law_is_name : Spec := sp_is_name
theorem law_is_name_w {v : Val} {h : Hv} {Q : K1} {Ex : EK} : sp_law_is_name [v] h Q Ex = (Good v ∧ Q (.bl (nameV v)) h) := is_name_w
def sp_is_list : Spec := fun vs h Q _ => ∃ v m, vs = [v, .int m] ∧ tre v = true ∧ Q (.bl (listV m v)) h
theorem is_list_w {v : Val} {m : Int} {h : Hv} {Q : K1} {Ex : EK} : sp_is_list [v, .int m] h Q Ex = (tre v = true ∧ Q (.bl (listV m v)) h) := propext ⟨fun ⟨_, _, e, q⟩ => by cases e; exact q, fun q => ⟨_, _, rfl, q⟩⟩
def sp_is_tuple : Spec := fun vs h Q _ => ∃ v m, vs = [v, .int m] ∧ tre v = true ∧ Q (.bl (tupV m v)) h
theorem is_tuple_w {v : Val} {m : Int} {h : Hv} {Q : K1} {Ex : EK} : sp_is_tuple [v, .int m] h Q Ex = (tre v = true ∧ Q (.bl (tupV m v)) h) := propext ⟨fun ⟨_, _, e, q⟩ => by cases e; exact q, fun q => ⟨_, _, rfl, q⟩⟩
/-- some value of no great size -/
def sp_law_odd : Spec := fun vs h Q _ => ∃ (h0 : Hv) (b : Nat) (t : Bx) (c : Nat), vs = [.ref b] ∧ h = h0.bx b t ∧ b < h0.nx ∧ okB c t ∧ c < 1000000 ∧ ∀ v t', okB (c + 1) t' → Ok 9 1000 v → Q v (h0.bx b t')
theorem odd_of {h0 : Hv} {b c : Nat} {t : Bx} {Q : K1} {Ex : EK} (hb : b < h0.nx) (o : okB c t) (l : c < 1000000) (k : ∀ v t', okB (c + 1) t' → Ok 9 1000 v → Q v (h0.bx b t')) : sp_law_odd [.ref b] (h0.bx b t) Q Ex := ⟨h0, b, t, _, rfl, rfl, hb, o, l, k⟩
/-- different names -/
def sp_law_names : Spec := fun vs h Q _ => ∃ (h0 : Hv) (b : Nat) (t : Bx) (m : Int) (c : Nat), vs = [.ref b, .int m] ∧ h = h0.bx b t ∧ b < h0.nx ∧ okB c t ∧ c < 900000 ∧ 0 ≤ m ∧ m ≤ 26 ∧ ∀ (ss : List (List Nat)) t', okB (c + 20) t' → (ss.length : Int) = m → (∀ s ∈ ss, nameB s = true) → ss.Nodup → Q (.fl (ss.map .str)) (h0.bx b t')
theorem names_of {h0 : Hv} {b c : Nat} {t : Bx} {m : Int} {Q : K1} {Ex : EK} (hb : b < h0.nx) (o : okB c t) (l : c < 900000) (m0 : 0 ≤ m) (m1 : m ≤ 26) (k : ∀ (ss : List (List Nat)) t', okB (c + 20) t' → (ss.length : Int) = m → (∀ s ∈ ss, nameB s = true) → ss.Nodup → Q (.fl (ss.map .str)) (h0.bx b t')) :
    sp_law_names [.ref b, .int m] (h0.bx b t) Q Ex := ⟨h0, b, t, _, _, rfl, rfl, hb, o, l, m0, m1, k⟩
/-- a list against the empty list -/
theorem eq_nilF {h : Hv} {vs : List Val} {R : Bool → Prop} (q : R vs.isEmpty) : co .eq (.fl vs) (.fl []) h R := by
  cases vs with
  | nil => exact .inl ⟨.list [], .list [], .fl .nil, .fl .nil, ⟨by decide, by decide⟩, ⟨by decide, by decide⟩, q⟩
  | cons v r => exact .inr ⟨v :: r, [], .inl rfl, .inl rfl, by simp, q⟩
theorem fm_some {α β : Type} (f : α → β) : ∀ l : List α, l.filterMap (fun x => some (f x)) = l.map f
  | [] => rfl
  | x :: r => by rw [List.filterMap_cons, List.map_cons, fm_some f r]
theorem low26_get {i : Nat} (h : i < 26) : low26[i]? = some (97 + i) := (by decide : ∀ i : Nat, i < 26 → low26[i]? = some (97 + i)) i h
theorem nodup_range {β : Type} {f : Nat → β} {n : Nat} (h : ∀ i j, i < j → j < n → f i ≠ f j) : ((List.range n).map f).Nodup := by
  rw [List.Nodup, List.pairwise_map]
  refine List.Pairwise.imp_of_mem ?_ (List.pairwise_lt_range (n := n))
  intro a b ha hb hab
  exact h a b hab (List.mem_range.mp hb)
theorem map_of {α : Type} {f : α → Val} {P : α → Prop} : ∀ {vs : List Val}, (∀ w ∈ vs, ∃ a, w = f a ∧ P a) → ∃ as : List α, vs = as.map f ∧ ∀ a ∈ as, P a
  | [], _ => ⟨[], rfl, fun _ m => by cases m⟩
  | v :: vs, h => by
    obtain ⟨a, e, p⟩ := h v List.mem_cons_self
    obtain ⟨as, e2, q⟩ := map_of (vs := vs) fun w m => h w (List.mem_cons_of_mem _ m)
    exact ⟨a :: as, by rw [e, e2]; rfl, fun x m => (List.mem_cons.mp m).elim (fun z => by rw [z]; exact p) (q x)⟩
/-- a comprehension over things, that changes nothing -/
theorem compW_filter {α : Type} {l : List α} {v : α → Val} (p : α → Bool) (f : α → Val) {w : Wk} {ft : Val → Hv → (Ev → Hv → Prop) → Prop} {fi : Ev → Hv → (Bool → Hv → Prop) → Prop} {fe : Ev → Hv → K1 → Prop} {h : Hv} {Q : List Val → Hv → Prop} {items : List Val} (e : items = l.map v) (hG : w.G h) (hl : l.length ≤ sizeLine)
    (step : ∀ x ∈ l, ∀ (K : K1) (N : Hv → Prop), (p x = true → K (f x) h) → (p x = false → N h) → ft (v x) h fun env2 h2 => fi env2 h2 fun b h3 => if b = true then fe env2 h3 K else N h3) (q : Q ((l.filter p).map f) h) : compW w ft fi fe items h [] Q := by
  subst e
  have go : ∀ (r : List α) (acc : List Val), (∀ x ∈ r, x ∈ l) → acc.length + r.length ≤ sizeLine → Q (acc ++ (r.filter p).map f) h → compW w ft fi fe (r.map v) h acc Q := by
    intro r
    induction r with
    | nil => intro acc _ _ q; exact ⟨hG, by simpa using q⟩
    | cons x r ih =>
      intro acc hm hl q
      rw [List.length_cons] at hl
      refine ⟨hG, ?_⟩
      refine step x (hm x List.mem_cons_self) (fun u h' => acc.length < sizeLine ∧ compW w ft fi fe (r.map v) h' (acc ++ [u]) Q) (fun h' => compW w ft fi fe (r.map v) h' acc Q) (fun hp => ⟨by omega, ih (acc ++ [f x]) (fun y m => hm y (List.mem_cons_of_mem _ m)) (by rw [List.length_append]; simp; omega) ?_⟩) fun hp => ih acc (fun y m => hm y (List.mem_cons_of_mem _ m)) (by omega) ?_
      · rw [List.filter_cons_of_pos hp] at q
        rw [List.append_assoc]; exact q
      · rw [List.filter_cons_of_neg (by rw [hp]; decide)] at q
        exact q
  exact go l [] (fun _ m => m) (by simpa using hl) q
theorem compW_map {α : Type} {l : List α} {v : α → Val} (f : α → Val) {w : Wk} {ft : Val → Hv → (Ev → Hv → Prop) → Prop} {fi : Ev → Hv → (Bool → Hv → Prop) → Prop} {fe : Ev → Hv → K1 → Prop} {h : Hv} {Q : List Val → Hv → Prop} {items : List Val} (e : items = l.map v) (hG : w.G h) (hl : l.length ≤ sizeLine)
    (step : ∀ x ∈ l, ∀ (K : K1) (N : Hv → Prop), K (f x) h → ft (v x) h fun env2 h2 => fi env2 h2 fun b h3 => if b = true then fe env2 h3 K else N h3) (q : Q (l.map f) h) : compW w ft fi fe items h [] Q :=
  compW_filter (fun _ => true) f e hG hl (fun x m K N k _ => step x m K N (k rfl)) (by rw [List.filter_eq_self.mpr (fun _ _ => rfl)]; exact q)
/-- a comprehension that draws -/
theorem compW_bx {α : Type} {l : List α} {v : α → Val} (R : Val → Prop) (k : Nat) {w : Wk} {ft : Val → Hv → (Ev → Hv → Prop) → Prop} {fi : Ev → Hv → (Bool → Hv → Prop) → Prop} {fe : Ev → Hv → K1 → Prop} {h0 : Hv} {b c : Nat} {t : Bx} {Q : List Val → Hv → Prop} {items : List Val} (e : items = l.map v) (hG : ∀ h, w.G h) (hl : l.length ≤ sizeLine) (ok : okB c t)
    (step : ∀ (x : α) (t1 : Bx) (i : Nat), i < l.length → l[i]? = some x → okB (c + k * i) t1 → ∀ (K : K1) (N : Hv → Prop), (∀ u t2, okB (c + k * i + k) t2 → R u → K u (h0.bx b t2)) → ft (v x) (h0.bx b t1) fun env2 h2 => fi env2 h2 fun b h3 => if b = true then fe env2 h3 K else N h3)
    (q : ∀ vs t', okB (c + k * l.length) t' → vs.length = l.length → (∀ u ∈ vs, R u) → Q vs (h0.bx b t')) : compW w ft fi fe items (h0.bx b t) [] Q := by
  subst e
  have go : ∀ (n i : Nat) (acc : List Val) (t1 : Bx), i + n = l.length → okB (c + k * i) t1 → acc.length = i → (∀ u ∈ acc, R u) → compW w ft fi fe ((l.drop i).map v) (h0.bx b t1) acc Q := by
    intro n
    induction n with
    | zero =>
      intro i acc t1 hi ok1 ha hr
      have : i = l.length := by omega
      subst this
      rw [List.drop_length]
      exact ⟨hG _, q acc t1 ok1 ha hr⟩
    | succ n ih =>
      intro i acc t1 hi ok1 ha hr
      have hlt : i < l.length := by omega
      rw [List.drop_eq_getElem_cons hlt]
      refine ⟨hG _, ?_⟩
      refine step l[i] t1 i hlt (List.getElem?_eq_getElem hlt) ok1 (fun u h' => acc.length < sizeLine ∧ compW w ft fi fe ((l.drop (i + 1)).map v) h' (acc ++ [u]) Q) (fun h' => compW w ft fi fe ((l.drop (i + 1)).map v) h' acc Q) fun u t2 ok2 hu => ⟨by omega, ih (i + 1) _ t2 (by omega) (ok2.mono (by rw [Nat.mul_add]; omega)) (by rw [List.length_append, ha]; rfl) fun z m => ?_⟩
      rcases List.mem_append.mp m with m | m
      · exact hr z m
      · rw [List.mem_singleton.mp m]; exact hu
  exact go l.length 0 [] t (by omega) (by simpa using ok) rfl (fun _ m => by cases m)
/-- a loop that draws -/
theorem forW_bx {α : Type} {l : List α} {v : α → Val} (P : Nat → Ev → Prop) (k : Nat) {w : Wk} {ft : Val → Ev → Hv → (Ev → Hv → Prop) → Prop} {fb : En → Ev → Hv → Prop} {D : En} {h0 : Hv} {b c : Nat} {t : Bx} {env : Ev} {items : List Val} (e : items = l.map v) (hG : ∀ h, w.G h) (ok : okB c t) (p0 : P 0 env)
    (step : ∀ (x : α) (t1 : Bx) (i : Nat) (env1 : Ev), i < l.length → l[i]? = some x → okB (c + k * i) t1 → P i env1 → ∀ (N : Ev → Hv → Prop), (∀ env2 t2, okB (c + k * i + k) t2 → P (i + 1) env2 → N env2 (h0.bx b t2)) → ft (v x) env1 (h0.bx b t1) fun env2 h2 => fb { D with nx := N, ct := N, bk := D.nx } env2 h2)
    (q : ∀ env' t', okB (c + k * l.length) t' → P l.length env' → D.nx env' (h0.bx b t')) : forW w ft fb D items env (h0.bx b t) := by
  subst e
  have go : ∀ (n i : Nat) (env1 : Ev) (t1 : Bx), i + n = l.length → okB (c + k * i) t1 → P i env1 → forW w ft fb D ((l.drop i).map v) env1 (h0.bx b t1) := by
    intro n
    induction n with
    | zero =>
      intro i env1 t1 hi ok1 p
      have : i = l.length := by omega
      subst this
      rw [List.drop_length]
      exact ⟨hG _, q env1 t1 ok1 p⟩
    | succ n ih =>
      intro i env1 t1 hi ok1 p
      have hlt : i < l.length := by omega
      rw [List.drop_eq_getElem_cons hlt]
      exact ⟨hG _, step l[i] t1 i env1 hlt (List.getElem?_eq_getElem hlt) ok1 p _ fun env2 t2 ok2 p2 => ih (i + 1) env2 t2 (by omega) (ok2.mono (by rw [Nat.mul_add]; omega)) p2⟩
  exact go l.length 0 env t (by omega) (by simpa using ok) p0
/-- a loop that changes nothing but its names -/
theorem forW_pure {α : Type} {l : List α} {v : α → Val} (P : Nat → Ev → Prop) {w : Wk} {ft : Val → Ev → Hv → (Ev → Hv → Prop) → Prop} {fb : En → Ev → Hv → Prop} {D : En} {h : Hv} {env : Ev} {items : List Val} (e : items = l.map v) (hG : w.G h) (p0 : P 0 env)
    (step : ∀ (x : α) (i : Nat) (env1 : Ev), i < l.length → l[i]? = some x → P i env1 → ∀ (N : Ev → Hv → Prop), (∀ env2, P (i + 1) env2 → N env2 h) → ft (v x) env1 h fun env2 h2 => fb { D with nx := N, ct := N, bk := D.nx } env2 h2)
    (q : ∀ env', P l.length env' → D.nx env' h) : forW w ft fb D items env h := by
  subst e
  have go : ∀ (n i : Nat) (env1 : Ev), i + n = l.length → P i env1 → forW w ft fb D ((l.drop i).map v) env1 h := by
    intro n
    induction n with
    | zero =>
      intro i env1 hi p
      have : i = l.length := by omega
      subst this
      rw [List.drop_length]
      exact ⟨hG, q env1 p⟩
    | succ n ih =>
      intro i env1 hi p
      have hlt : i < l.length := by omega
      rw [List.drop_eq_getElem_cons hlt]
      exact ⟨hG, step l[i] i env1 hlt (List.getElem?_eq_getElem hlt) p _ fun env2 p2 => ih (i + 1) env2 (by omega) p2⟩
  exact go l.length 0 env (by omega) p0
/-- a loop, by what stands at each turn -/
theorem forW_at {α : Type} {l : List α} {v : α → Val} (P : Nat → Ev → Hv → Prop) {w : Wk} {ft : Val → Ev → Hv → (Ev → Hv → Prop) → Prop} {fb : En → Ev → Hv → Prop} {D : En} {h : Hv} {env : Ev} {items : List Val} (e : items = l.map v) (hG : ∀ i env h, P i env h → w.G h) (p0 : P 0 env h)
    (step : ∀ (x : α) (i : Nat) (env1 : Ev) (h1 : Hv), i < l.length → l[i]? = some x → P i env1 h1 → ∀ (N : Ev → Hv → Prop), (∀ env2 h2, P (i + 1) env2 h2 → N env2 h2) → ft (v x) env1 h1 fun env2 h2 => fb { D with nx := N, ct := N, bk := D.nx } env2 h2)
    (q : ∀ env' h', P l.length env' h' → D.nx env' h') : forW w ft fb D items env h := by
  subst e
  have go : ∀ (n i : Nat) (env1 : Ev) (h1 : Hv), i + n = l.length → P i env1 h1 → forW w ft fb D ((l.drop i).map v) env1 h1 := by
    intro n
    induction n with
    | zero =>
      intro i env1 h1 hi p
      have : i = l.length := by omega
      subst this
      rw [List.drop_length]
      exact ⟨hG _ _ _ p, q env1 h1 p⟩
    | succ n ih =>
      intro i env1 h1 hi p
      have hlt : i < l.length := by omega
      rw [List.drop_eq_getElem_cons hlt]
      exact ⟨hG _ _ _ p, step l[i] i env1 h1 hlt (List.getElem?_eq_getElem hlt) p _ fun env2 h2 p2 => ih (i + 1) env2 h2 (by omega) p2⟩
  exact go l.length 0 env h (by omega) p0
theorem in_i {x y : Val} {h : Hv} {R : Bool → Prop} (q : cIn x y h R) : co .isin x y h R := q
theorem in_n {x y : Val} {h : Hv} {R : Bool → Prop} (q : cIn x y h fun b => R (!b)) : co .notin x y h R := q
theorem natAbs_10 : Int.natAbs 10 = 10 := rfl
theorem enumW_map {α : Type} (f : α → Val) : ∀ (l : List α) (k : Nat), enumW k (l.map f) = (l.zipIdx k).map fun p => .tup [.int p.2, f p.1]
  | [], _ => rfl
  | x :: r, k => by
    show Val.tup [.int k, f x] :: enumW (k + 1) (r.map f) = _
    rw [enumW_map f r (k + 1)]
    rfl
theorem acc_get {h : Hv} {b : Nat} {t : Bx} {o : Ob} (hb : b < h.nx) : ((h.al o).bx b t).g h.nx = some o := by
  rw [bx_ne (by omega)]; exact Hv.al_new _ _
theorem bx_al_nx {h : Hv} {b : Nat} {t : Bx} : (h.bx b t).nx = h.nx := rfl
theorem fz_acc {h : Hv} {b : Nat} {t : Bx} {vs : List Val} (hb : b < h.nx) : Fz ((h.al (.lst vs)).bx b t) (.ref h.nx) (.fl vs) (((h.al (.lst vs)).bx b t).del h.nx) := .lst (acc_get hb) .same
theorem gc_acc {h : Hv} {b : Nat} {t t' : Bx} {o : Ob} {v : Val} {Q : K1} (hb : b < h.nx) (l : lowR h.nx v = true) (q : Q v (h.bx b t')) : gcQ (h.bx b t) Q v (((h.al o).bx b t').del h.nx) := by
  have e : ((h.al o).bx b t').del h.nx = (((h.al o).del h.nx)).bx b t' := by
    refine Hv.ext (fun m => ?_) rfl
    by_cases z : m = h.nx
    · subst z
      rw [bx_ne (by omega)]
      show (if h.nx = h.nx then none else _) = (if h.nx = h.nx then none else _)
      rw [if_pos rfl, if_pos rfl]
    · show (if m = h.nx then none else ((h.al o).bx b t').g m) = _
      rw [if_neg z]
      by_cases y : m = b
      · subst y
        rw [bx_g (Nat.lt_succ_of_lt hb)]
        exact (bx_g (h := (h.al o).del h.nx) (Nat.lt_succ_of_lt hb)).symm
      · rw [bx_ne y, bx_ne y]
        show _ = (if m = h.nx then none else (h.al o).g m)
        rw [if_neg z]
  rw [e]
  refine gc_bx hb l (Nat.le_succ _) (fun m hm => ?_) q
  show (if m = h.nx then none else (h.al o).g m) = h.g m
  rw [if_neg (by omega), Hv.al_old (by omega)]
theorem ne_nilF {h : Hv} {vs : List Val} {R : Bool → Prop} (q : R (!vs.isEmpty)) : co .ne (.fl vs) (.fl []) h R := eq_nilF (R := fun b => R (!b)) q
theorem bx_del {h : Hv} {b n : Nat} {t : Bx} (hn : n ≠ b) : (h.bx b t).del n = (h.del n).bx b t := by
  refine Hv.ext (fun m => ?_) rfl
  by_cases z : m = n
  · subst z
    rw [bx_ne hn]
    show (if m = m then none else _) = (if m = m then none else _)
    rw [if_pos rfl, if_pos rfl]
  · show (if m = n then none else (h.bx b t).g m) = _
    rw [if_neg z]
    by_cases y : m = b
    · subst y
      show (if m = m ∧ m < h.nx then _ else h.g m) = (if m = m ∧ m < h.nx then _ else (if m = n then none else h.g m))
      rw [if_neg z]
    · rw [bx_ne y, bx_ne y]
      show _ = (if m = n then none else h.g m)
      rw [if_neg z]
theorem del_get {h : Hv} {n m : Nat} (hn : m ≠ n) : (h.del n).g m = h.g m := if_neg hn
/-! two accumulators -/
theorem acc2_get0 {h : Hv} {b : Nat} {t : Bx} {o o2 : Ob} (hb : b < h.nx) : (((h.al o).al o2).bx b t).g h.nx = some o := by
  rw [bx_ne (by omega), Hv.al_old (by show h.nx ≠ h.nx + 1; omega)]; exact Hv.al_new _ _
theorem acc2_get1 {h : Hv} {b : Nat} {t : Bx} {o o2 : Ob} (hb : b < h.nx) : (((h.al o).al o2).bx b t).g (h.nx + 1) = some o2 := by
  rw [bx_ne (by omega)]; exact Hv.al_new _ _
theorem acc2_put0 {h : Hv} {b : Nat} {t : Bx} {o o2 o3 : Ob} (hb : b < h.nx) : (((h.al o).al o2).bx b t).put h.nx o3 = ((h.al o3).al o2).bx b t := by
  rw [put_comm (by omega), al_put_ne (Nat.lt_succ_self _), al_put rfl]
theorem acc2_put1 {h : Hv} {b : Nat} {t : Bx} {o o2 o3 : Ob} (hb : b < h.nx) : (((h.al o).al o2).bx b t).put (h.nx + 1) o3 = ((h.al o).al o3).bx b t := by
  rw [put_comm (by omega), al_put (h := h.al o) (n := h.nx + 1) rfl]
mutual
theorem nice_sOk : ∀ d : PyData, nice d → sOk d
  | .none, _ => trivial
  | .bool _, _ => trivial
  | .int _, _ => trivial
  | .str _, h => h
  | .list xs, h => nices_sOk xs h
  | .tuple xs, h => nices_sOk xs h
  | .dict kvs, h => nicek_sOk kvs h
theorem nices_sOk : ∀ ds : List PyData, nices ds → sOks ds
  | [], _ => trivial
  | d :: r, h => ⟨nice_sOk d h.1, nices_sOk r h.2⟩
theorem nicek_sOk : ∀ ds : List (PyData × PyData), nicek ds → sOkv ds
  | [], _ => trivial
  | (k, v) :: r, h => ⟨nice_sOk k h.1, nice_sOk v h.2.1, nicek_sOk r h.2.2⟩
end
theorem Ok.repr {p n : Nat} {v : Val} (o : Ok p n v) : Ok 0 (10 * n + 2) (.str (reprV v)) := by
  obtain ⟨a, b⟩ := shown_le _ o.nc
  refine Ok.str (okT_shown _ (nice_sOk _ o.nc)) (Nat.le_trans ?_ o.z)
  have e : (reprV v).length = (dat v).shown.length := by unfold reprV; simp [Str.length]
  rw [e]; exact a
theorem ne_same {h : Hv} {x : Val} {R : Bool → Prop} (g : Good x) (d : nod x = true) (q : R false) : co .ne x x h R := eq_w (R := fun b => R (!b)) g g (by decide) (by decide) d d (by rw [veq_refl g d]; exact q)
theorem eq_same' {h : Hv} {x : Val} {R : Bool → Prop} (g : Good x) (d : nod x = true) (q : R true) : co .eq x x h R := eq_w g g (by decide) (by decide) d d (by rw [veq_refl g d]; exact q)
theorem repL_mem {α : Type} {x : α} {l : List α} : ∀ {k : Nat}, x ∈ repL k l → x ∈ l
  | 0, m => by cases m
  | k + 1, m => by
    unfold repL at m
    rw [List.replicate_succ, List.flatten_cons] at m
    rcases List.mem_append.mp m with m | m
    · exact m
    · exact repL_mem (k := k) m
theorem repL_map {α β : Type} (f : α → β) (l : List α) : ∀ k : Nat, repL k (l.map f) = (repL k l).map f
  | 0 => rfl
  | k + 1 => by
    unfold repL
    rw [List.replicate_succ, List.replicate_succ, List.flatten_cons, List.flatten_cons, List.map_append]
    have := repL_map f l k
    unfold repL at this
    rw [this]
end Lw
set_option Elab.async false
set_option linter.all false
set_option maxRecDepth 100000
set_option maxHeartbeats 1000000
/-! Lw20: nets. -/
namespace Lw
open PySem
structure Leg where
  a : List Nat
  b : List Nat
  r : Int
def legV (l : Leg) : Val := .tup [.str l.a, .str l.b, .int l.r]
/-- joins these two -/
def Leg.on (l : Leg) (a b : List Nat) : Bool := (decide (l.a = a) && decide (l.b = b)) || (decide (l.b = a) && decide (l.a = b))
def Leg.far (l : Leg) (p : List Nat) : List Nat := if l.a = p then l.b else l.a
structure LegOk (ps : List (List Nat)) (l : Leg) : Prop where
  ma : l.a ∈ ps
  mb : l.b ∈ ps
  ne : l.a ≠ l.b
  r0 : 0 ≤ l.r
  r1 : l.r ≤ 10000
structure NetOk (ps : List (List Nat)) (ls : List Leg) : Prop where
  n : ∀ p ∈ ps, nameB p = true
  nd : ps.Nodup
  lp : ps.length ≤ 24
  ll : ls.length ≤ 60
  ok : ∀ l ∈ ls, LegOk ps l
  one : ls.Pairwise fun l k => l.on k.a k.b = false
def kvL (l : Leg) : List (Val × Val) := [(.tup [.str l.a, .str l.b], .int l.r), (.tup [.str l.b, .str l.a], .int l.r)]
def risesV (ls : List Leg) : List (Val × Val) := ls.flatMap kvL
def riseO (ls : List Leg) (a b : List Nat) : Option Int := (ls.find? fun l => l.on a b).map (·.r)
def optV : Option Int → Val
  | some i => .int i
  | none => .non
def besides (ls : List Leg) (p : List Nat) : List (List Nat) := (ls.filter fun l => decide (l.a = p) || decide (l.b = p)).map fun l => l.far p
def netV (ps : List (List Nat)) (ls : List Leg) : Val := .fi 0 [.fl (ps.map .str), .fl (ls.map legV), .fd (risesV ls)]
inductive NetIn (h : Hv) : Val → List (List Nat) → List Leg → Prop
  | fz {ps : List (List Nat)} {ls : List Leg} : NetIn h (netV ps ls) ps ls
  | rf {n a b c : Nat} {ps : List (List Nat)} {ls : List Leg} : h.g n = some (.ins 0 [some (.ref a), some (.ref b), some (.ref c)]) → h.g a = some (.lst (ps.map .str)) → h.g b = some (.lst (ls.map legV)) → h.g c = some (.dic (risesV ls) false) → NetIn h (.ref n) ps ls
/-- a list or a tuple as it stands -/
def IsSq (h : Hv) (v : Val) (xs : List Val) : Prop := v = .fl xs ∨ v = .tup xs ∨ ∃ n, v = .ref n ∧ h.g n = some (.lst xs)
section
variable {h : Hv} {x : Val} {ps : List (List Nat)} {ls : List Leg}
theorem NetIn.ins (N : NetIn h x ps ls) : isIns 0 x h := by
  cases N with
  | fz => rfl
  | rf e _ _ _ => exact ⟨_, e⟩
theorem NetIn.f0 {Q : K1} (N : NetIn h x ps ls) (q : ∀ y, IsL h y (ps.map .str) → Q y h) : oFld 0 0 x h Q := by
  cases N with
  | fz => exact ⟨rfl, _, rfl, q _ (.inl rfl)⟩
  | rf e e1 _ _ => exact ⟨_, _, e, rfl, q _ (.inr ⟨_, rfl, e1⟩)⟩
theorem NetIn.f1 {Q : K1} (N : NetIn h x ps ls) (q : ∀ y, IsL h y (ls.map legV) → Q y h) : oFld 0 1 x h Q := by
  cases N with
  | fz => exact ⟨rfl, _, rfl, q _ (.inl rfl)⟩
  | rf e _ e1 _ => exact ⟨_, _, e, rfl, q _ (.inr ⟨_, rfl, e1⟩)⟩
theorem NetIn.f2 {Q : K1} (N : NetIn h x ps ls) (q : ∀ y, IsD h y (risesV ls) false → Q y h) : oFld 0 2 x h Q := by
  cases N with
  | fz => exact ⟨rfl, _, rfl, q _ (.inl ⟨rfl, rfl⟩)⟩
  | rf e _ _ e1 => exact ⟨_, _, e, rfl, q _ (.inr ⟨_, rfl, e1⟩)⟩
theorem IsL.as {y : Val} {vs : List Val} {K : List Val → Prop} (l : IsL h y vs) (q : K vs) : asL y h K := by
  rcases l with rfl | ⟨n, rfl, e⟩
  · exact q
  · exact ⟨vs, e, q⟩
theorem IsD.as {y : Val} {vs : List (Val × Val)} {lk : Bool} {K : List (Val × Val) → Bool → Prop} (l : IsD h y vs lk) (q : K vs lk) : asD y h K := by
  rcases l with ⟨rfl, rfl⟩ | ⟨n, rfl, e⟩
  · exact q
  · exact ⟨vs, lk, e, q⟩
theorem IsL.in_str {y : Val} {l : List (List Nat)} {s : List Nat} {R : Bool → Prop} (i : IsL h y (l.map .str)) (q : R (decide (s ∈ l))) : cIn (.str s) y h R := by
  rcases i with rfl | ⟨n, rfl, e⟩
  · exact in_strs q
  · exact in_strsR e q
theorem IsL.lst {y : Val} {vs : List Val} {z : Bool} {Q : K1} (l : IsL h y vs) (q : newL z vs h Q) : listW z y h Q := by
  rcases l with rfl | ⟨n, rfl, e⟩
  · exact q
  · exact .inl ⟨vs, e, q⟩
theorem IsL.len {y : Val} {vs : List Val} {Q : K1} (l : IsL h y vs) (q : Q (.int vs.length) h) : biW .len [y] h Q := by
  rcases l with rfl | ⟨n, rfl, e⟩
  · rw [len_f]; exact q
  · exact len_l e q
theorem IsL.it {y : Val} {vs : List Val} {P : WkK} (l : IsL h y vs) (q : ∀ G : Hv → Prop, G h → P ⟨vs, G⟩ h) : itAny y h P := by
  rcases l with rfl | ⟨n, rfl, e⟩
  · exact q _ trivial
  · exact ⟨vs, e, q _ e⟩
end
/-! ### the dict of the rises -/
theorem kv_any (k : Val) : ∀ kvs : List (Val × Val), (kvs.any fun p => keq p.1 k) = (kvGet k kvs).isSome
  | [] => rfl
  | (c, v) :: r => by
    rw [List.any_cons]
    unfold kvGet
    show (keq c k || _) = _
    cases keq c k with
    | true => rfl
    | false => exact kv_any k r
theorem put_new {k v : Val} {kvs : List (Val × Val)} (e : kvGet k kvs = none) : kvPut k v kvs = kvs ++ [(k, v)] := by
  unfold kvPut
  rw [kv_any, e, if_neg (by decide)]
theorem keq_2 (a b c d : List Nat) : keq (.tup [.str a, .str b]) (.tup [.str c, .str d]) = (decide (a = c) && decide (b = d)) := by
  show (decide (a = c) && (decide (b = d) && true)) = _
  rw [Bool.and_true]
theorem rises_get (a b : List Nat) : ∀ ls : List Leg, kvGet (.tup [.str a, .str b]) (risesV ls) = (riseO ls a b).map .int
  | [] => rfl
  | l :: r => by
    have ih := rises_get a b r
    show kvGet (.tup [.str a, .str b]) ((.tup [.str l.a, .str l.b], .int l.r) :: (.tup [.str l.b, .str l.a], .int l.r) :: risesV r) = _
    unfold riseO at ih ⊢
    unfold kvGet
    rw [keq_2]
    unfold kvGet
    rw [keq_2, ih, List.find?_cons]
    unfold Leg.on
    cases (decide (l.a = a) && decide (l.b = b)) with
    | true => rfl
    | false =>
      cases (decide (l.b = a) && decide (l.a = b)) with
      | true => rfl
      | false => rfl
theorem rises_ok (a b : List Nat) (ls : List Leg) : okKey (.tup [.str a, .str b]) (risesV ls) false := by
  refine ⟨rfl, ?_, fun z => by cases z⟩
  rw [List.all_eq_true]
  intro p m
  obtain ⟨l, _, m⟩ := List.mem_flatMap.mp m
  unfold kvL at m
  rcases List.mem_cons.mp m with rfl | m
  · rfl
  · rw [List.mem_singleton.mp m]; rfl
theorem riseO_none {ls : List Leg} {a b : List Nat} (h : ∀ l ∈ ls, l.on a b = false) : riseO ls a b = none := by
  unfold riseO
  rw [List.find?_eq_none.mpr fun l m => by rw [h l m]; decide]
  rfl
theorem on_symm (l : Leg) (a b : List Nat) : l.on a b = l.on b a := by
  unfold Leg.on
  cases decide (l.a = a) <;> cases decide (l.b = b) <;> cases decide (l.b = a) <;> cases decide (l.a = b) <;> rfl
theorem rises_put1 {ls : List Leg} {l : Leg} (n : ∀ k ∈ ls, k.on l.a l.b = false) : kvPut (.tup [.str l.a, .str l.b]) (.int l.r) (risesV ls) = risesV ls ++ [(.tup [.str l.a, .str l.b], .int l.r)] :=
  put_new (by rw [rises_get, riseO_none n]; rfl)
theorem kvGet_app {k : Val} : ∀ {xs ys : List (Val × Val)}, kvGet k xs = none → kvGet k (xs ++ ys) = kvGet k ys
  | [], _, _ => rfl
  | (c, v) :: r, ys, e => by
    unfold kvGet at e
    show (if keq c k = true then some v else kvGet k (r ++ ys)) = _
    split at e
    · cases e
    · rename_i q
      rw [if_neg q]; exact kvGet_app e
theorem rises_put2 {ls : List Leg} {l : Leg} (n : ∀ k ∈ ls, k.on l.a l.b = false) (ne : l.a ≠ l.b) : kvPut (.tup [.str l.b, .str l.a]) (.int l.r) (risesV ls ++ [(.tup [.str l.a, .str l.b], .int l.r)]) = risesV (ls ++ [l]) := by
  have e1 : kvGet (.tup [.str l.b, .str l.a]) (risesV ls) = none := by rw [rises_get, riseO_none fun k m => by rw [on_symm]; exact n k m]; rfl
  rw [put_new]
  · unfold risesV
    rw [List.flatMap_append, List.append_assoc]; rfl
  · rw [kvGet_app e1]
    unfold kvGet
    rw [keq_2, decide_eq_false ne]; rfl
theorem rises_len (ls : List Leg) : (risesV ls).length = 2 * ls.length := by
  induction ls with
  | nil => rfl
  | cons l r ih => unfold risesV at ih ⊢; rw [List.flatMap_cons, List.length_append, ih]; show 2 + _ = 2 * (r.length + 1); omega
/-! ### promises -/
def hasV (ps : List (List Nat)) : Val → Bool
  | .str s => decide (s ∈ ps)
  | _ => false
def neV : Val → Val → Bool
  | .str s, .str t => !decide (s = t)
  | _, _ => true
def legB : Val → Bool
  | .tup [x, y, z] => nameV x && nameV y && neV x y && intV 0 10000 z
  | _ => false
def sp_is_list_s : Spec := fun vs h Q _ => ∃ v m xs, vs = [v, .int m] ∧ IsSq h v xs ∧ Q (.bl (decide ((xs.length : Int) ≤ m))) h
def sp_Net_places : Spec := fun vs h Q _ => ∃ x ps ls, vs = [x] ∧ NetIn h x ps ls ∧ Q (.fl (ps.map .str)) h
def sp_Net_places_r : Spec := fun vs h Q _ => ∃ x ps ls, vs = [x] ∧ NetIn h x ps ls ∧ Q (.ref h.nx) (h.al (.lst (ps.map .str)))
def sp_Net_legs : Spec := fun vs h Q _ => ∃ x ps ls, vs = [x] ∧ NetIn h x ps ls ∧ Q (.fl (ls.map legV)) h
def sp_Net_legs_r : Spec := fun vs h Q _ => ∃ x ps ls, vs = [x] ∧ NetIn h x ps ls ∧ Q (.ref h.nx) (h.al (.lst (ls.map legV)))
def sp_Net_len : Spec := fun vs h Q _ => ∃ x ps ls, vs = [x] ∧ NetIn h x ps ls ∧ Q (.int ps.length) h
def sp_Net_has : Spec := fun vs h Q _ => ∃ x v ps ls, vs = [x, v] ∧ NetIn h x ps ls ∧ tre v = true ∧ Q (.bl (hasV ps v)) h
def sp_need_place : Spec := fun vs h Q _ => ∃ x s ps ls, vs = [x, .str s] ∧ NetIn h x ps ls ∧ s ∈ ps ∧ Q .non h
def sp_Net_rise : Spec := fun vs h Q _ => ∃ x a b ps ls, vs = [x, .str a, .str b] ∧ NetIn h x ps ls ∧ a ∈ ps ∧ b ∈ ps ∧ Q (optV (riseO ls a b)) h
def sp_far_end : Spec := fun vs h Q _ => ∃ l p, vs = [legV l, .str p] ∧ Q (.str (l.far p)) h
def sp_Net_beside : Spec := fun vs h Q _ => ∃ x p ps ls, vs = [x, .str p] ∧ NetIn h x ps ls ∧ p ∈ ps ∧ ls.length ≤ 60 ∧ Q (.fl ((besides ls p).map .str)) h
def sp_Net_beside_r : Spec := fun vs h Q _ => ∃ x p ps ls, vs = [x, .str p] ∧ NetIn h x ps ls ∧ p ∈ ps ∧ ls.length ≤ 60 ∧ Q (.ref h.nx) (h.al (.lst ((besides ls p).map .str)))
def sp_is_leg : Spec := fun vs h Q _ => ∃ v, vs = [v] ∧ Good v ∧ Q (.bl (legB v)) h
def sp_need_leg : Spec := fun vs h Q _ => ∃ x l ps ls, vs = [x, legV l] ∧ NetIn h x ps ls ∧ LegOk ps l ∧ (∀ p ∈ ps, nameB p = true) ∧ (∀ k ∈ ls, k.on l.a l.b = false) ∧ Q .non h
def sp_Net : Spec := fun vs h Q _ => ∃ p q ps ls, vs = [p, q] ∧ IsSq h p (ps.map .str) ∧ IsSq h q (ls.map legV) ∧ NetOk ps ls ∧ Q (netV ps ls) h
section
variable {h : Hv} {x : Val} {ps : List (List Nat)} {ls : List Leg} {Q : K1} {Ex : EK}
theorem is_list_sw {v : Val} {m : Int} {xs : List Val} (s : IsSq h v xs) (q : Q (.bl (decide ((xs.length : Int) ≤ m))) h) : sp_is_list_s [v, .int m] h Q Ex := ⟨v, m, xs, rfl, s, q⟩
theorem places_w (N : NetIn h x ps ls) (q : Q (.fl (ps.map .str)) h) : sp_Net_places [x] h Q Ex := ⟨x, ps, ls, rfl, N, q⟩
theorem legs_w (N : NetIn h x ps ls) (q : Q (.fl (ls.map legV)) h) : sp_Net_legs [x] h Q Ex := ⟨x, ps, ls, rfl, N, q⟩
theorem netlen_w (N : NetIn h x ps ls) (q : Q (.int ps.length) h) : sp_Net_len [x] h Q Ex := ⟨x, ps, ls, rfl, N, q⟩
theorem has_w {v : Val} (N : NetIn h x ps ls) (t : tre v = true) (q : Q (.bl (hasV ps v)) h) : sp_Net_has [x, v] h Q Ex := ⟨x, v, ps, ls, rfl, N, t, q⟩
theorem need_place_w {s : List Nat} (N : NetIn h x ps ls) (m : s ∈ ps) (q : Q .non h) : sp_need_place [x, .str s] h Q Ex := ⟨x, s, ps, ls, rfl, N, m, q⟩
theorem rise_w {a b : List Nat} (N : NetIn h x ps ls) (ma : a ∈ ps) (mb : b ∈ ps) (q : Q (optV (riseO ls a b)) h) : sp_Net_rise [x, .str a, .str b] h Q Ex := ⟨x, a, b, ps, ls, rfl, N, ma, mb, q⟩
theorem far_w {l : Leg} {p : List Nat} (q : Q (.str (l.far p)) h) : sp_far_end [legV l, .str p] h Q Ex := ⟨l, p, rfl, q⟩
theorem beside_w {p : List Nat} (N : NetIn h x ps ls) (m : p ∈ ps) (l : ls.length ≤ 60) (q : Q (.fl ((besides ls p).map .str)) h) : sp_Net_beside [x, .str p] h Q Ex := ⟨x, p, ps, ls, rfl, N, m, l, q⟩
theorem is_leg_w {v : Val} : sp_is_leg [v] h Q Ex = (Good v ∧ Q (.bl (legB v)) h) := propext ⟨fun ⟨_, e, q⟩ => by cases e; exact q, fun q => ⟨_, rfl, q⟩⟩
theorem need_leg_w {l : Leg} (N : NetIn h x ps ls) (o : LegOk ps l) (n : ∀ p ∈ ps, nameB p = true) (m : ∀ k ∈ ls, k.on l.a l.b = false) (q : Q .non h) : sp_need_leg [x, legV l] h Q Ex := ⟨x, l, ps, ls, rfl, N, o, n, m, q⟩
theorem net_w {p q : Val} (a : IsSq h p (ps.map .str)) (b : IsSq h q (ls.map legV)) (o : NetOk ps ls) (r : Q (netV ps ls) h) : sp_Net [p, q] h Q Ex := ⟨p, q, ps, ls, rfl, a, b, o, r⟩
end
theorem leg_ok {l : Leg} (na : nameB l.a = true) (nb : nameB l.b = true) (r0 : 0 ≤ l.r) (r1 : l.r ≤ 10000) : Ok 1 400 (legV l) := by
  have := Ok.tup (.cons (Ok.name na) (.cons (Ok.name nb) (.cons (Ok.int (i := l.r) (by omega)) .nil)))
  exact this.mono (by decide) (by decide)
theorem leg_is {l : Leg} (na : nameB l.a = true) (nb : nameB l.b = true) (ne : l.a ≠ l.b) (r0 : 0 ≤ l.r) (r1 : l.r ≤ 10000) : legB (legV l) = true := by
  show (nameB l.a && nameB l.b && !decide (l.a = l.b) && intB 0 10000 l.r) = true
  rw [na, nb, decide_eq_false ne, intB_t r0 r1]; rfl
/-! ### the heap while a net is made -/
def nHg (h : Hv) (a b c d : Ob) : Hv := (((h.al a).al b).al c).al d
section
variable {h : Hv} {a b c d a' b' c' d' : Ob}
theorem nHg_0 : (nHg h a b c d).g h.nx = some a := by
  unfold nHg
  rw [Hv.al_old (by show h.nx ≠ h.nx + 1 + 1 + 1; omega), Hv.al_old (by show h.nx ≠ h.nx + 1 + 1; omega), Hv.al_old (by show h.nx ≠ h.nx + 1; omega), Hv.al_new]
theorem nHg_1 : (nHg h a b c d).g (h.nx + 1) = some b := by
  unfold nHg
  rw [Hv.al_old (by show h.nx + 1 ≠ h.nx + 1 + 1 + 1; omega), Hv.al_old (by show h.nx + 1 ≠ h.nx + 1 + 1; omega)]
  exact Hv.al_new _ _
theorem nHg_2 : (nHg h a b c d).g (h.nx + 2) = some c := by
  unfold nHg
  rw [Hv.al_old (by show h.nx + 2 ≠ h.nx + 1 + 1 + 1; omega)]
  exact Hv.al_new _ _
theorem nHg_3 : (nHg h a b c d).g (h.nx + 3) = some d := Hv.al_new _ _
theorem nHg_lo {m : Nat} (hm : m < h.nx) : (nHg h a b c d).g m = h.g m := by
  unfold nHg
  rw [Hv.al_old (by show m ≠ h.nx + 1 + 1 + 1; omega), Hv.al_old (by show m ≠ h.nx + 1 + 1; omega), Hv.al_old (by show m ≠ h.nx + 1; omega), Hv.al_old (by omega)]
theorem nHg_p2 : (nHg h a b c d).put (h.nx + 2) (c') = nHg h a b c' d := by
  unfold nHg
  rw [al_put_ne (by show h.nx + 2 < h.nx + 1 + 1 + 1; omega), al_put (h := (h.al a).al b) (n := h.nx + 2) rfl]
theorem nHg_p3 : (nHg h a b c d).put (h.nx + 3) (d') = nHg h a b c d' := by
  unfold nHg
  rw [al_put (h := ((h.al a).al b).al c) (n := h.nx + 3) rfl]
end
theorem rises_ok2 (a b c d : List Nat) (v : Val) (ls : List Leg) : okKey (.tup [.str a, .str b]) (risesV ls ++ [(.tup [.str c, .str d], v)]) false := by
  obtain ⟨h1, h2, h3⟩ := rises_ok a b ls
  refine ⟨h1, ?_, fun z => by cases z⟩
  rw [List.all_append, h2]; rfl
theorem one_new {ls : List Leg} {i : Nat} {l : Leg} (one : ls.Pairwise fun l k => l.on k.a k.b = false) (hl : ls[i]? = some l) : ∀ k ∈ ls.take i, k.on l.a l.b = false := by
  intro k m
  have hi := (List.getElem?_eq_some_iff.mp hl).1
  obtain ⟨j, hj, e⟩ := List.getElem_of_mem m
  rw [List.length_take] at hj
  rw [List.getElem_take] at e
  have e2 := (List.getElem?_eq_some_iff.mp hl).2
  have := List.pairwise_iff_getElem.mp one j i (by omega) hi (by omega)
  rw [e, e2] at this
  exact this
/-- a comprehension, by what stands at each turn -/
theorem compW_at {α : Type} {l : List α} {v : α → Val} (P : Nat → List Val → Hv → Prop) {w : Wk} {ft : Val → Hv → (Ev → Hv → Prop) → Prop} {fi : Ev → Hv → (Bool → Hv → Prop) → Prop} {fe : Ev → Hv → K1 → Prop} {h : Hv} {Q : List Val → Hv → Prop} {items : List Val} (e : items = l.map v) (hG : ∀ i acc h, P i acc h → w.G h) (hl : l.length ≤ sizeLine) (p0 : P 0 [] h)
    (step : ∀ (x : α) (i : Nat) (acc : List Val) (h1 : Hv), i < l.length → l[i]? = some x → P i acc h1 → ∀ (K : K1) (N : Hv → Prop), (∀ u h2, P (i + 1) (acc ++ [u]) h2 → K u h2) → (∀ h2, P (i + 1) acc h2 → N h2) → ft (v x) h1 fun env2 h2 => fi env2 h2 fun b h3 => if b = true then fe env2 h3 K else N h3)
    (q : ∀ acc h', P l.length acc h' → Q acc h') : compW w ft fi fe items h [] Q := by
  subst e
  have go : ∀ (n i : Nat) (acc : List Val) (h1 : Hv), i + n = l.length → acc.length ≤ i → P i acc h1 → compW w ft fi fe ((l.drop i).map v) h1 acc Q := by
    intro n
    induction n with
    | zero =>
      intro i acc h1 hi ha p
      have : i = l.length := by omega
      subst this
      rw [List.drop_length]
      exact ⟨hG _ _ _ p, q acc h1 p⟩
    | succ n ih =>
      intro i acc h1 hi ha p
      have hlt : i < l.length := by omega
      rw [List.drop_eq_getElem_cons hlt]
      refine ⟨hG _ _ _ p, ?_⟩
      exact step l[i] i acc h1 hlt (List.getElem?_eq_getElem hlt) p (fun u h' => acc.length < sizeLine ∧ compW w ft fi fe ((l.drop (i + 1)).map v) h' (acc ++ [u]) Q) (fun h' => compW w ft fi fe ((l.drop (i + 1)).map v) h' acc Q)
        (fun u h2 p2 => ⟨by omega, ih (i + 1) _ h2 (by omega) (by rw [List.length_append]; simp; omega) p2⟩) fun h2 p2 => ih (i + 1) acc h2 (by omega) (by omega) p2
  exact go l.length 0 [] h (by omega) (Nat.le_refl _) p0
/-! ### what laws draw -/
def sp_law_mixed : Spec := fun vs h Q _ => ∃ (h0 : Hv) (b : Nat) (t : Bx) (c : Nat) (α : Type) (l : List α) (f : α → Val), vs = [.ref b, .fl (l.map f)] ∧ h = h0.bx b t ∧ b < h0.nx ∧ okB c t ∧ c < 900000 ∧ l.length ≤ 1000 ∧ (∀ x, tre (f x) = true) ∧ ∀ (l' : List α) (t' : Bx), okB (c + l.length) t' → l'.Perm l → Q (.fl (l'.map f)) (h0.bx b t')
theorem mixed_of {h0 : Hv} {b c : Nat} {t : Bx} {α : Type} {l : List α} {f : α → Val} {Q : K1} {Ex : EK} (hb : b < h0.nx) (o : okB c t) (lc : c < 900000) (ll : l.length ≤ 1000) (tf : ∀ x, tre (f x) = true) (k : ∀ (l' : List α) (t' : Bx), okB (c + l.length) t' → l'.Perm l → Q (.fl (l'.map f)) (h0.bx b t')) : sp_law_mixed [.ref b, .fl (l.map f)] (h0.bx b t) Q Ex :=
  ⟨h0, b, t, c, α, l, f, rfl, rfl, hb, o, lc, ll, tf, k⟩
def sp_law_rise : Spec := fun vs h Q _ => ∃ (h0 : Hv) (b : Nat) (t : Bx) (c : Nat) (top : Int), vs = [.ref b, .int top] ∧ h = h0.bx b t ∧ b < h0.nx ∧ okB c t ∧ c < 900000 ∧ 1 ≤ top ∧ top ≤ 1000000 ∧ ∀ r t', okB (c + 4) t' → 0 ≤ r → r < top → Q (.int r) (h0.bx b t')
theorem lrise_of {h0 : Hv} {b c : Nat} {t : Bx} {top : Int} {Q : K1} {Ex : EK} (hb : b < h0.nx) (o : okB c t) (lc : c < 900000) (t0 : 1 ≤ top) (t1 : top ≤ 1000000) (k : ∀ r t', okB (c + 4) t' → 0 ≤ r → r < top → Q (.int r) (h0.bx b t')) : sp_law_rise [.ref b, .int top] (h0.bx b t) Q Ex :=
  ⟨h0, b, t, c, top, rfl, rfl, hb, o, lc, t0, t1, k⟩
def sp_law_legs : Spec := fun vs h Q _ => ∃ (h0 : Hv) (b : Nat) (t : Bx) (c : Nat) (ps : List (List Nat)) (more : Int), vs = [.ref b, .fl (ps.map .str), .int more] ∧ h = h0.bx b t ∧ b < h0.nx ∧ okB c t ∧ c < 800000 ∧ 0 ≤ more ∧ (ps.length : Int) + more ≤ 61 ∧ ps.Nodup ∧
  ∀ (ls : List Leg) (t' : Bx), okB (c + 900) t' → ls.length ≤ 60 → (∀ l ∈ ls, LegOk ps l) → (ls.Pairwise fun l k => l.on k.a k.b = false) → Q (.fl (ls.map legV)) (h0.bx b t')
theorem llegs_of {h0 : Hv} {b c : Nat} {t : Bx} {ps : List (List Nat)} {more : Int} {Q : K1} {Ex : EK} (hb : b < h0.nx) (o : okB c t) (lc : c < 800000) (m0 : 0 ≤ more) (m1 : (ps.length : Int) + more ≤ 61) (nd : ps.Nodup)
    (k : ∀ (ls : List Leg) (t' : Bx), okB (c + 900) t' → ls.length ≤ 60 → (∀ l ∈ ls, LegOk ps l) → (ls.Pairwise fun l k => l.on k.a k.b = false) → Q (.fl (ls.map legV)) (h0.bx b t')) : sp_law_legs [.ref b, .fl (ps.map .str), .int more] (h0.bx b t) Q Ex :=
  ⟨h0, b, t, c, ps, more, rfl, rfl, hb, o, lc, m0, m1, nd, k⟩
def sp_law_net : Spec := fun vs h Q _ => ∃ (h0 : Hv) (b : Nat) (t : Bx) (c : Nat) (most : Int), vs = [.ref b, .int most] ∧ h = h0.bx b t ∧ b < h0.nx ∧ okB c t ∧ c < 700000 ∧ 3 ≤ most ∧ most ≤ 12 ∧
  ∀ (ps : List (List Nat)) (ls : List Leg) (t' : Bx), okB (c + 1000) t' → NetOk ps ls → (ps.length : Int) ≤ most → Q (.tup [.fl (ps.map .str), .fl (ls.map legV)]) (h0.bx b t')
theorem lnet_of {h0 : Hv} {b c : Nat} {t : Bx} {most : Int} {Q : K1} {Ex : EK} (hb : b < h0.nx) (o : okB c t) (lc : c < 700000) (m0 : 3 ≤ most) (m1 : most ≤ 12)
    (k : ∀ (ps : List (List Nat)) (ls : List Leg) (t' : Bx), okB (c + 1000) t' → NetOk ps ls → (ps.length : Int) ≤ most → Q (.tup [.fl (ps.map .str), .fl (ls.map legV)]) (h0.bx b t')) : sp_law_net [.ref b, .int most] (h0.bx b t) Q Ex :=
  ⟨h0, b, t, c, most, rfl, rfl, hb, o, lc, m0, m1, k⟩
theorem LegOk.of_mem {ps qs : List (List Nat)} {l : Leg} (o : LegOk ps l) (m : ∀ p ∈ ps, p ∈ qs) : LegOk qs l := ⟨m _ o.ma, m _ o.mb, o.ne, o.r0, o.r1⟩
theorem veq_tup2 (a b i j : Int) : veq (.tup [.int a, .int b]) (.tup [.int i, .int j]) = (decide (a = i) && decide (b = j)) := by
  show PyData.eqv (.tuple [.int a, .int b]) (.tuple [.int i, .int j]) = _
  simp only [PyData.eqv, PyData.eqvAll, Bool.and_true, Bool.beq_eq_decide_eq]
/-- pairs of places by number -/
def prV (p : Nat × Nat) : Val := .tup [.int p.1, .int p.2]
def clashP (p q : Nat × Nat) : Prop := (p.1 = q.1 ∧ p.2 = q.2) ∨ (p.1 = q.2 ∧ p.2 = q.1)
theorem any_prs (i j : Nat) : ∀ l : List (Nat × Nat), ((dats (l.map prV)).any fun z => PyData.eqv z (dat (.tup [.int i, .int j]))) = decide ((i, j) ∈ l)
  | [] => rfl
  | p :: r => by
    rw [List.map_cons, show dats (prV p :: r.map prV) = dat (prV p) :: dats (r.map prV) from rfl, List.any_cons, any_prs i j r]
    have h1 : PyData.eqv (dat (prV p)) (dat (.tup [.int i, .int j])) = (decide ((p.1 : Int) = i) && decide ((p.2 : Int) = j)) := veq_tup2 _ _ _ _
    rw [h1]
    obtain ⟨a, c⟩ := p
    by_cases h2 : a = i <;> by_cases h3 : c = j
    · subst h2 h3; simp
    · have : ¬ ((c : Int) = j) := by omega
      simp [h2, this, Ne.symm h3]
    · have : ¬ ((a : Int) = i) := by omega
      simp [h3, this, Ne.symm h2]
    · have : ¬ ((a : Int) = i) := by omega
      simp [this, Ne.symm h2]
theorem in_prs {h : Hv} {n : Nat} {l : List (Nat × Nat)} {i j : Nat} {R : Bool → Prop} (ll : l.length ≤ 1000) (i9 : i < 1000) (j9 : j < 1000) (b : ∀ p ∈ l, p.1 < 1000 ∧ p.2 < 1000) (e : h.g n = some (.lst (l.map prV))) (q : R (decide ((i, j) ∈ l))) : cIn (.tup [.int i, .int j]) (.ref n) h R := by
  have okp : ∀ {a c : Nat}, a < 1000 → c < 1000 → Ok 1 100 (.tup [.int a, .int c]) := fun h1 h2 => (Ok.tup (.cons (.int (by omega)) (.cons (.int (by omega)) .nil))).mono (by decide) (by decide)
  have os : Oks 1 (1000 * (100 + 2)) (l.map prV) := Oks.map (fun p m => okp (b p m).1 (b p m).2) ll
  have ox := okp i9 j9
  refine .inl ⟨_, _, _, e, dp_of ox.t, dps_of os.t, ox.shp (by decide) rfl, (Ok.fl os).shp (by decide) (nods_map l fun _ _ => rfl), ?_⟩
  rw [any_prs]; exact q
theorem erase_map {α β : Type} (f : α → β) : ∀ (l : List α) (i : Nat), (l.map f).eraseIdx i = (l.eraseIdx i).map f
  | [], _ => rfl
  | _ :: _, 0 => rfl
  | x :: r, i + 1 => congrArg (f x :: ·) (erase_map f r i)
/-- pairs of different places, none twice -/
structure PrOk (n : Nat) (l : List (Nat × Nat)) : Prop where
  b : ∀ p ∈ l, p.1 < n ∧ p.2 < n ∧ p.1 ≠ p.2
  u : l.Pairwise fun p q => ¬ clashP p q
theorem PrOk.nil {n : Nat} : PrOk n [] := ⟨fun _ m => (nomatch m), List.Pairwise.nil⟩
theorem PrOk.snoc {n : Nat} {l : List (Nat × Nat)} {p : Nat × Nat} (o : PrOk n l) (h1 : p.1 < n) (h2 : p.2 < n) (h3 : p.1 ≠ p.2) (h : ∀ q ∈ l, ¬ clashP q p) : PrOk n (l ++ [p]) := by
  refine ⟨fun q m => ?_, ?_⟩
  · rcases List.mem_append.mp m with m | m
    · exact o.b q m
    · rw [List.mem_singleton.mp m]; exact ⟨h1, h2, h3⟩
  · rw [List.pairwise_append]
    refine ⟨o.u, List.pairwise_singleton _ _, fun q m r m2 => ?_⟩
    rw [List.mem_singleton.mp m2]; exact h q m
theorem clash_symm {p q : Nat × Nat} (h : clashP p q) : clashP q p := by
  unfold clashP at *; omega
theorem PrOk.perm {n : Nat} {l l' : List (Nat × Nat)} (o : PrOk n l) (p : l'.Perm l) : PrOk n l' :=
  ⟨fun q m => o.b q (p.mem_iff.mp m), (p.pairwise_iff (fun {a b} h z => h (clash_symm z))).mpr o.u⟩
/-- the leg joins the pair's places -/
def ofP (ps : List (List Nat)) (p : Nat × Nat) (l : Leg) : Prop := (ps[p.1]? = some l.a ∧ ps[p.2]? = some l.b) ∨ (ps[p.2]? = some l.a ∧ ps[p.1]? = some l.b)
theorem ofP.ok {ps : List (List Nat)} {p : Nat × Nat} {l : Leg} (nd : ps.Nodup) (o : ofP ps p l) (b : p.1 ≠ p.2) (r0 : 0 ≤ l.r) (r1 : l.r ≤ 10000) : LegOk ps l := by
  have ne : ∀ {i j : Nat} {x y : List Nat}, ps[i]? = some x → ps[j]? = some y → i ≠ j → x ≠ y := fun {i j x y} h1 h2 h3 e => by
    subst e
    have hi := (List.getElem?_eq_some_iff.mp h1).1
    exact h3 ((List.getElem?_inj hi nd).mp (h1.trans h2.symm))
  rcases o with ⟨h1, h2⟩ | ⟨h1, h2⟩
  · exact ⟨List.mem_of_getElem? h1, List.mem_of_getElem? h2, ne h1 h2 b, r0, r1⟩
  · exact ⟨List.mem_of_getElem? h1, List.mem_of_getElem? h2, ne h1 h2 b.symm, r0, r1⟩
theorem ofP.apart {ps : List (List Nat)} {p q : Nat × Nat} {l k : Leg} (nd : ps.Nodup) (o : ofP ps p l) (o2 : ofP ps q k) (c : ¬ clashP p q) : l.on k.a k.b = false := by
  have eq : ∀ {i j : Nat} {x : List Nat}, ps[i]? = some x → ps[j]? = some x → i = j := fun {i j x} h1 h2 =>
    (List.getElem?_inj (List.getElem?_eq_some_iff.mp h1).1 nd).mp (h1.trans h2.symm)
  cases e : l.on k.a k.b with
  | false => rfl
  | true =>
    refine absurd ?_ c
    unfold Leg.on at e
    rw [Bool.or_eq_true, Bool.and_eq_true, Bool.and_eq_true, decide_eq_true_eq, decide_eq_true_eq, decide_eq_true_eq, decide_eq_true_eq] at e
    unfold clashP
    have eq' : ∀ {i j : Nat} {x y : List Nat}, ps[i]? = some x → ps[j]? = some y → x = y → i = j := fun h1 h2 e => eq h1 (by rw [e]; exact h2)
    rcases e with ⟨e1, e2⟩ | ⟨e1, e2⟩
    · rcases o with ⟨h1, h2⟩ | ⟨h1, h2⟩ <;> rcases o2 with ⟨h3, h4⟩ | ⟨h3, h4⟩ <;> (have x1 := eq' h1 h3 e1; have x2 := eq' h2 h4 e2; omega)
    · rcases o with ⟨h1, h2⟩ | ⟨h1, h2⟩ <;> rcases o2 with ⟨h3, h4⟩ | ⟨h3, h4⟩ <;> (have x1 := eq' h2 h3 e1; have x2 := eq' h1 h4 e2; omega)
theorem erase_perm {α : Type} : ∀ {l : List α} {i : Nat} (h : i < l.length), (l[i] :: l.eraseIdx i).Perm l
  | x :: r, 0, _ => .refl _
  | x :: r, i + 1, h => (List.Perm.swap _ _ _).trans (.cons _ (erase_perm (l := r) (i := i) (Nat.lt_of_succ_lt_succ h)))
/-! ### a stranger -/
theorem sub_len {α : Type} [BEq α] [LawfulBEq α] : ∀ {l m : List α}, l.Nodup → (∀ x ∈ l, x ∈ m) → l.length ≤ m.length
  | [], _, _, _ => Nat.zero_le _
  | x :: l, m, nd, s => by
    obtain ⟨h1, h2⟩ := List.nodup_cons.mp nd
    have hx := s x List.mem_cons_self
    have ih := sub_len (l := l) (m := m.erase x) h2 fun y hy => (List.mem_erase_of_ne (fun e => h1 (by rw [← e]; exact hy))).mpr (s y (List.mem_cons_of_mem _ hy))
    rw [List.length_erase_of_mem hx] at ih
    have := List.length_pos_of_mem hx
    rw [List.length_cons]; omega
def strF (s : List Nat) : List Nat := s.take 7 ++ [97]
def cands (ps : List (List Nat)) : List (List Nat) := [[122, 122, 122, 122, 122, 122, 122, 122], [113], [122, 121]] ++ ((ps.filter fun p => decide (1 < p.length)).map fun p => p.drop 1) ++ ps.map strF
theorem cand_new {ps : List (List Nat)} (lp : ps.length ≤ 24) : ∃ s ∈ cands ps, s ∉ ps := by
  apply Classical.byContradiction
  intro no
  have all : ∀ s ∈ cands ps, s ∈ ps := fun s m => Classical.byContradiction fun n => no ⟨s, m, n⟩
  have f : ∀ s ∈ ps, strF s ∈ ps := fun s m => all _ (List.mem_append_right _ (List.mem_map.mpr ⟨s, m, rfl⟩))
  have d : ∀ s ∈ ps, 1 < s.length → s.drop 1 ∈ ps := fun s m l => all _ (List.mem_append_left _ (List.mem_append_right _ (List.mem_map.mpr ⟨s, List.mem_filter.mpr ⟨m, decide_eq_true l⟩, rfl⟩)))
  have q0 : [113] ∈ ps := all _ (List.mem_append_left _ (List.mem_append_left _ (by simp)))
  have z0 : [122, 121] ∈ ps := all _ (List.mem_append_left _ (List.mem_append_left _ (by simp)))
  have ch : ∀ {s : List Nat}, s ∈ ps → ∀ t ∈ [s, strF s, strF (strF s), strF (strF (strF s)), strF (strF (strF (strF s))), strF (strF (strF (strF (strF s)))), strF (strF (strF (strF (strF (strF s)))))], t ∈ ps := fun {s} m t mt => by
    have m1 := f _ m
    have m2 := f _ m1
    have m3 := f _ m2
    have m4 := f _ m3
    have m5 := f _ m4
    have m6 := f _ m5
    simp only [List.mem_cons, List.not_mem_nil, or_false] at mt
    rcases mt with rfl | rfl | rfl | rfl | rfl | rfl | rfl <;> assumption
  have a0 : [97] ∈ ps := d _ (f _ q0) (by decide)
  have y0 : [121] ∈ ps := d _ z0 (by decide)
  have c1 := ch q0
  have c2 := ch a0
  have c3 := ch y0
  have c4 := ch z0
  have := sub_len (l := [[113], strF [113], strF (strF [113]), strF (strF (strF [113])), strF (strF (strF (strF [113]))), strF (strF (strF (strF (strF [113])))), strF (strF (strF (strF (strF (strF [113])))))] ++
    ([[97], strF [97], strF (strF [97]), strF (strF (strF [97])), strF (strF (strF (strF [97]))), strF (strF (strF (strF (strF [97])))), strF (strF (strF (strF (strF (strF [97])))))] ++
    ([[121], strF [121], strF (strF [121]), strF (strF (strF [121])), strF (strF (strF (strF [121]))), strF (strF (strF (strF (strF [121])))), strF (strF (strF (strF (strF (strF [121])))))] ++
    [[122, 121], strF [122, 121], strF (strF [122, 121]), strF (strF (strF [122, 121])), strF (strF (strF (strF [122, 121]))), strF (strF (strF (strF (strF [122, 121])))), strF (strF (strF (strF (strF (strF [122, 121])))))]))) (m := ps) (by decide +kernel) fun x m => by
      rcases List.mem_append.mp m with m | m
      · exact c1 x m
      rcases List.mem_append.mp m with m | m
      · exact c2 x m
      rcases List.mem_append.mp m with m | m
      · exact c3 x m
      · exact c4 x m
  have e : (28 : Nat) ≤ ps.length := this
  omega
theorem cand_name {ps : List (List Nat)} (n : ∀ p ∈ ps, nameB p = true) : ∀ s ∈ cands ps, nameB s = true := by
  intro s m
  rcases List.mem_append.mp m with m | m
  · rcases List.mem_append.mp m with m | m
    · simp only [List.mem_cons, List.not_mem_nil, or_false] at m
      rcases m with rfl | rfl | rfl <;> decide
    · obtain ⟨p, mp, rfl⟩ := List.mem_map.mp m
      obtain ⟨mp, l⟩ := List.mem_filter.mp mp
      have l := of_decide_eq_true l
      obtain ⟨h1, h2, h3⟩ := nameB_is (n p mp)
      rw [nameB_all (by rw [List.length_drop]; omega) (by rw [List.length_drop]; omega), List.all_eq_true]
      exact fun c mc => decide_eq_true (h3 c (List.mem_of_mem_drop mc))
  · obtain ⟨p, mp, rfl⟩ := List.mem_map.mp m
    obtain ⟨h1, h2, h3⟩ := nameB_is (n p mp)
    unfold strF
    rw [nameB_all (by rw [List.length_append]; simp) (by rw [List.length_append, List.length_take]; simp; omega), List.all_eq_true]
    intro c mc
    rcases List.mem_append.mp mc with mc | mc
    · exact decide_eq_true (h3 c (List.mem_of_mem_take mc))
    · rw [List.mem_singleton.mp mc]; decide
def sp_law_stranger : Spec := fun vs h Q _ => ∃ (h0 : Hv) (b : Nat) (t : Bx) (c : Nat) (ps : List (List Nat)), vs = [.ref b, .fl (ps.map .str)] ∧ h = h0.bx b t ∧ b < h0.nx ∧ okB c t ∧ c < 900000 ∧ ps.length ≤ 24 ∧ (∀ p ∈ ps, nameB p = true) ∧
  ∀ (s : List Nat) (t' : Bx), okB (c + 1) t' → nameB s = true → s ∉ ps → Q (.str s) (h0.bx b t')
theorem stranger_of {h0 : Hv} {b c : Nat} {t : Bx} {ps : List (List Nat)} {Q : K1} {Ex : EK} (hb : b < h0.nx) (o : okB c t) (lc : c < 900000) (lp : ps.length ≤ 24) (n : ∀ p ∈ ps, nameB p = true)
    (k : ∀ (s : List Nat) (t' : Bx), okB (c + 1) t' → nameB s = true → s ∉ ps → Q (.str s) (h0.bx b t')) : sp_law_stranger [.ref b, .fl (ps.map .str)] (h0.bx b t) Q Ex := ⟨h0, b, t, c, ps, rfl, rfl, hb, o, lc, lp, n, k⟩
def sp_law_is_leg : Spec := sp_is_leg
theorem law_is_leg_w {v : Val} {h : Hv} {Q : K1} {Ex : EK} : sp_law_is_leg [v] h Q Ex = (Good v ∧ Q (.bl (legB v)) h) := is_leg_w
def sp_leg_text : Spec := fun vs h Q _ => ∃ l, vs = [legV l] ∧ nameB l.a = true ∧ nameB l.b = true ∧ 0 ≤ l.r ∧ l.r ≤ 10000 ∧ ∀ s : List Nat, s.length ≤ 70 → Q (.str s) h
def sp_Net_str : Spec := fun vs h Q _ => ∃ x ps ls, vs = [x] ∧ NetIn h x ps ls ∧ NetOk ps ls ∧ ∀ s : List Nat, Q (.str s) h
theorem netstr_w {h : Hv} {x : Val} {ps : List (List Nat)} {ls : List Leg} {Q : K1} {Ex : EK} (N : NetIn h x ps ls) (o : NetOk ps ls) (q : ∀ s : List Nat, Q (.str s) h) : sp_Net_str [x] h Q Ex := ⟨x, ps, ls, rfl, N, o, q⟩
theorem leg_text_w {h : Hv} {l : Leg} {Q : K1} {Ex : EK} (na : nameB l.a = true) (nb : nameB l.b = true) (r0 : 0 ≤ l.r) (r1 : l.r ≤ 10000) (q : ∀ s : List Nat, s.length ≤ 70 → Q (.str s) h) : sp_leg_text [legV l] h Q Ex := ⟨l, rfl, na, nb, r0, r1, q⟩
def plV (ps : List (List Nat)) : Val := .fl (ps.map .str)
def llV (ls : List Leg) : Val := .fl (ls.map legV)
def sp_Net_eq : Spec := fun vs h Q _ => ∃ x y ps ls, vs = [x, y] ∧ NetIn h x ps ls ∧ NetOk ps ls ∧ ((∃ qs ks, NetIn h y qs ks ∧ NetOk qs ks ∧ Q (.bl (veq (plV ps) (plV qs) && veq (llV ls) (llV ks))) h) ∨ (isCV 0 y h (fun b => b = false) ∧ Q (.bl false) h))
theorem neteq_w {h : Hv} {x y : Val} {ps qs : List (List Nat)} {ls ks : List Leg} {Q : K1} {Ex : EK} (N : NetIn h x ps ls) (o : NetOk ps ls) (N2 : NetIn h y qs ks) (o2 : NetOk qs ks) (q : Q (.bl (veq (plV ps) (plV qs) && veq (llV ls) (llV ks))) h) : sp_Net_eq [x, y] h Q Ex := ⟨x, y, ps, ls, rfl, N, o, .inl ⟨qs, ks, N2, o2, q⟩⟩
theorem neteq_no {h : Hv} {x y : Val} {ps : List (List Nat)} {ls : List Leg} {Q : K1} {Ex : EK} (N : NetIn h x ps ls) (o : NetOk ps ls) (i : isCV 0 y h (fun b => b = false)) (q : Q (.bl false) h) : sp_Net_eq [x, y] h Q Ex := ⟨x, y, ps, ls, rfl, N, o, .inr ⟨i, q⟩⟩
theorem NetOk.okP {ps : List (List Nat)} {ls : List Leg} (o : NetOk ps ls) : Ok 1 2100 (plV ps) := (Ok.fl (Oks.map (fun p m => Ok.name (o.n p m)) o.lp)).mono (by decide) (by decide)
theorem NetOk.legOk {ps : List (List Nat)} {ls : List Leg} (o : NetOk ps ls) {l : Leg} (m : l ∈ ls) : Ok 1 400 (legV l) := leg_ok (o.n _ (o.ok l m).ma) (o.n _ (o.ok l m).mb) (o.ok l m).r0 (o.ok l m).r1
theorem NetOk.okL {ps : List (List Nat)} {ls : List Leg} (o : NetOk ps ls) : Ok 2 25000 (llV ls) := (Ok.fl (Oks.map (fun l m => o.legOk m) o.ll)).mono (by decide) (by decide)
theorem nodP (ps : List (List Nat)) : nod (plV ps) = true := nods_map ps fun _ _ => rfl
theorem nodL (ls : List Leg) : nod (llV ls) = true := nods_map ls fun _ _ => rfl
theorem joinW_len (sep : List Nat) (m : Nat) : ∀ l : List (List Nat), (∀ s ∈ l, s.length ≤ m) → (joinW sep l).length ≤ l.length * (m + sep.length)
  | [], _ => Nat.zero_le _
  | [x], h => by
    have := h x List.mem_cons_self
    show x.length ≤ 1 * _
    omega
  | x :: y :: r, h => by
    have ih := joinW_len sep m (y :: r) fun s hs => h s (List.mem_cons_of_mem _ hs)
    have := h x List.mem_cons_self
    show (x ++ sep ++ joinW sep (y :: r)).length ≤ ((y :: r).length + 1) * _
    rw [List.length_append, List.length_append, Nat.add_mul]
    omega
theorem allStr_strs : ∀ l : List (List Nat), allStr (l.map Val.str) = some l
  | [] => rfl
  | s :: r => by
    show (allStr (r.map Val.str)).map _ = _
    rw [allStr_strs r]; rfl
theorem idx_fi {h : Hv} {xs : List Val} {d : Int} {Q : K1} (d0 : 0 ≤ d) (d1 : d < (xs.length : Int)) (k : ∀ v, v ∈ xs → Q v h) : oIdx (.fl xs) (.int d) h Q := by
  obtain ⟨v, hv, _, ix⟩ := atI_int (xs := xs) d0 d1
  exact idx_f ix (k v hv)
mutual
theorem Dp.mono {h h' : Hv} (e : ∀ n o, h.g n = some o → h'.g n = some o) : ∀ {v : Val} {d : PyData}, Dp h v d → Dp h' v d
  | _, _, .non => .non
  | _, _, .bl b => .bl b
  | _, _, .int i => .int i
  | _, _, .str s => .str s
  | _, _, .tup r => .tup (Dps.mono e r)
  | _, _, .fl r => .fl (Dps.mono e r)
  | _, _, .fd r => .fd (Dpk.mono e r)
  | _, _, .lst g r => .lst (e _ _ g) (Dps.mono e r)
  | _, _, .dic g r => .dic (e _ _ g) (Dpk.mono e r)
theorem Dps.mono {h h' : Hv} (e : ∀ n o, h.g n = some o → h'.g n = some o) : ∀ {v : List Val} {d : List PyData}, Dps h v d → Dps h' v d
  | _, _, .nil => .nil
  | _, _, .cons r t => .cons (Dp.mono e r) (Dps.mono e t)
theorem Dpk.mono {h h' : Hv} (e : ∀ n o, h.g n = some o → h'.g n = some o) : ∀ {v : List (Val × Val)} {d : List (PyData × PyData)}, Dpk h v d → Dpk h' v d
  | _, _, .nil => .nil
  | _, _, .cons k r t => .cons (Dp.mono e k) (Dp.mono e r) (Dpk.mono e t)
end
theorem Dps.snoc {h : Hv} : ∀ {vs : List Val} {ds : List PyData} {v : Val} {d : PyData}, Dps h vs ds → Dp h v d → Dps h (vs ++ [v]) (ds ++ [d])
  | _, _, _, _, .nil, p => .cons p .nil
  | _, _, _, _, .cons r t, p => .cons r (Dps.snoc t p)
theorem al_up {h : Hv} {o : Ob} : ∀ n x, h.g n = some x → (h.al o).g n = some x := fun n x e => Hv.al_keep e
/-! ### a class: what isinstance and == need -/
def tgAll : List Tg := [.non, .bool, .int, .str, .tuple, .list, .dict]
def isiX (x : Str) : Xf := fun K => decide (PySem.W.kitOne K (.ref (He.ga K x)) (.ref (He.ga K x)) = some true) && (decide (PySem.W.findIn K (.ref (He.ga K x)) "__class__" = some (some (.builtin "object.__class__"))) &&
  (decide (PySem.W.specialIn K (.builtin "object.__class__") "__get__" = some (some (.builtin "getset_descriptor.__get__"))) && (decide (PySem.W.takesIn K (.builtin "object.__class__") = some true) && (decide (PySem.W.mroIn K (He.ga K x) (.type "object") = some true) &&
  tgAll.all fun g => decide (PySem.W.kitOne K (.type (tgN g)) (.ref (He.ga K x)) = some false) && PySem.W.notFirst K (He.ga K x) (.type (tgN g))))))
theorem isiX_ok {K : PySem.W.Frag} {x : Str} (c : isiX x K = true) : isiOk K (He.ga K x) := by
  unfold isiX at c
  obtain ⟨c1, c⟩ := and_t c
  obtain ⟨c2, c⟩ := and_t c
  obtain ⟨c3, c⟩ := and_t c
  obtain ⟨c4, c⟩ := and_t c
  obtain ⟨c5, c⟩ := and_t c
  refine ⟨of_decide_eq_true c1, of_decide_eq_true c2, of_decide_eq_true c3, of_decide_eq_true c4, of_decide_eq_true c5, fun g hg => ?_⟩
  have m : g ∈ tgAll := by
    cases g <;> first | (unfold tgAll; simp; done) | cases hg
  obtain ⟨d1, d2⟩ := and_t (List.all_eq_true.mp c g m)
  exact ⟨of_decide_eq_true d1, d2⟩
theorem cname_law (C : Nat) : ("law" : Str) ≠ cname C := by
  unfold cname
  split <;> decide +kernel
end Lw
set_option Elab.async false
set_option linter.all false
set_option maxRecDepth 100000
set_option maxHeartbeats 0
/-! ### the head of law_k30_fixed_places_and_the_next -/
namespace Hd
open PySem PySem.Spec PyProof.Rows L2 Lw
def top (i : Nat) : Stmt := PySem.Challenge.pw_leadsman_k30_fixed_places_and_the_next.main.body.getD i (.Pass ⟨0, 0, 0, 0⟩)
def d_law_box : He.DefD := ⟨("_law_box", none), "_law_box", "_law_box", defArgs (top 53), defBody (top 53), defScope (top 53), [], []⟩
def d_law_cell : He.DefD := ⟨("_law_cell", none), "_law_cell", "_law_cell", defArgs (top 52), defBody (top 52), defScope (top 52), [], []⟩
def d_law_take : He.DefD := ⟨("_law_take", none), "_law_take", "_law_take", defArgs (top 54), defBody (top 54), defScope (top 54), [], []⟩
def d_law_names : He.DefD := ⟨("_law_names", none), "_law_names", "_law_names", defArgs (top 57), defBody (top 57), defScope (top 57), [], []⟩
def d_law_mixed : He.DefD := ⟨("_law_mixed", none), "_law_mixed", "_law_mixed", defArgs (top 56), defBody (top 56), defScope (top 56), [], []⟩
def d_law_rise : He.DefD := ⟨("_law_rise", none), "_law_rise", "_law_rise", defArgs (top 58), defBody (top 58), defScope (top 58), [], []⟩
def d_law_legs : He.DefD := ⟨("_law_legs", none), "_law_legs", "_law_legs", defArgs (top 59), defBody (top 59), defScope (top 59), [], []⟩
def d_law_net : He.DefD := ⟨("_law_net", none), "_law_net", "_law_net", defArgs (top 60), defBody (top 60), defScope (top 60), [], []⟩
def d_law_far : He.DefD := ⟨("_law_far", none), "_law_far", "_law_far", defArgs (top 61), defBody (top 61), defScope (top 61), [], []⟩
def d_law_bed : He.DefD := ⟨("_law_bed", none), "_law_bed", "_law_bed", defArgs (top 62), defBody (top 62), defScope (top 62), [], []⟩
def d_law_kept : He.DefD := ⟨("_law_kept", none), "_law_kept", "_law_kept", defArgs (top 63), defBody (top 63), defScope (top 63), [], []⟩
def d_law_log : He.DefD := ⟨("_law_log", none), "_law_log", "_law_log", defArgs (top 64), defBody (top 64), defScope (top 64), [], []⟩
def d_law_near_edge : He.DefD := ⟨("_law_near_edge", none), "_law_near_edge", "_law_near_edge", defArgs (top 65), defBody (top 65), defScope (top 65), [], []⟩
def d_law_stand : He.DefD := ⟨("_law_stand", none), "_law_stand", "_law_stand", defArgs (top 66), defBody (top 66), defScope (top 66), [], []⟩
def d_is_list : He.DefD := ⟨("is_list", none), "is_list", "is_list", defArgs (top 19), defBody (top 19), defScope (top 19), [], []⟩
def d_is_name : He.DefD := ⟨("is_name", none), "is_name", "is_name", defArgs (top 18), defBody (top 18), defScope (top 18), [], []⟩
def d_is_tuple : He.DefD := ⟨("is_tuple", none), "is_tuple", "is_tuple", defArgs (top 20), defBody (top 20), defScope (top 20), [], []⟩
def d_is_integer : He.DefD := ⟨("is_integer", none), "is_integer", "is_integer", defArgs (top 17), defBody (top 17), defScope (top 17), [], []⟩
def d_is_leg : He.DefD := ⟨("is_leg", none), "is_leg", "is_leg", defArgs (top 28), defBody (top 28), defScope (top 28), [], []⟩
def d_Net_has : He.DefD := ⟨("Net", some "has"), "has", "Net.has", defArgs (L2.inClass (top 31) 6), defBody (L2.inClass (top 31) 6), defScope (L2.inClass (top 31) 6), [], []⟩
def d_need_place : He.DefD := ⟨("need_place", none), "need_place", "need_place", defArgs (top 30), defBody (top 30), defScope (top 30), [], []⟩
def d_Net_rise : He.DefD := ⟨("Net", some "rise"), "rise", "Net.rise", defArgs (L2.inClass (top 31) 7), defBody (L2.inClass (top 31) 7), defScope (L2.inClass (top 31) 7), [], []⟩
def d_need_leg : He.DefD := ⟨("need_leg", none), "need_leg", "need_leg", defArgs (top 29), defBody (top 29), defScope (top 29), [], []⟩
def d_Net_init : He.DefD := ⟨("Net", some "__init__"), "__init__", "Net.__init__", defArgs (L2.inClass (top 31) 0), defBody (L2.inClass (top 31) 0), defScope (L2.inClass (top 31) 0), [], []⟩
def d_law_ranges : He.DefD := ⟨("_law_ranges", none), "_law_ranges", "_law_ranges", defArgs (top 67), defBody (top 67), defScope (top 67), [], []⟩
def d_need_net : He.DefD := ⟨("need_net", none), "need_net", "need_net", defArgs (top 33), defBody (top 33), defScope (top 33), [], []⟩
def d_is_depth : He.DefD := ⟨("is_depth", none), "is_depth", "is_depth", defArgs (top 21), defBody (top 21), defScope (top 21), [], []⟩
def d_is_sounding : He.DefD := ⟨("is_sounding", none), "is_sounding", "is_sounding", defArgs (top 39), defBody (top 39), defScope (top 39), [], []⟩
def d_is_log : He.DefD := ⟨("is_log", none), "is_log", "is_log", defArgs (top 40), defBody (top 40), defScope (top 40), [], []⟩
def d_need_log : He.DefD := ⟨("need_log", none), "need_log", "need_log", defArgs (top 41), defBody (top 41), defScope (top 41), [], []⟩
def d_Net_legs : He.DefD := ⟨("Net", some "legs"), "legs", "Net.legs", defArgs (L2.inClass (top 31) 5), defBody (L2.inClass (top 31) 5), defScope (L2.inClass (top 31) 5), [], []⟩
def d_reached : He.DefD := ⟨("reached", none), "reached", "reached", defArgs (top 35), defBody (top 35), defScope (top 35), [], []⟩
def d_reach_from : He.DefD := ⟨("reach_from", none), "reach_from", "reach_from", defArgs (top 36), defBody (top 36), defScope (top 36), [], []⟩
def d_reaches : He.DefD := ⟨("reaches", none), "reaches", "reaches", defArgs (top 43), defBody (top 43), defScope (top 43), [], []⟩
def d_is_too_deep : He.DefD := ⟨("is_too_deep", none), "is_too_deep", "is_too_deep", defArgs (top 42), defBody (top 42), defScope (top 42), [], []⟩
def d_climbs : He.DefD := ⟨("climbs", none), "climbs", "climbs", defArgs (top 44), defBody (top 44), defScope (top 44), [], []⟩
def d_all_clashes : He.DefD := ⟨("all_clashes", none), "all_clashes", "all_clashes", defArgs (top 45), defBody (top 45), defScope (top 45), [], []⟩
def d_need_fit : He.DefD := ⟨("need_fit", none), "need_fit", "need_fit", defArgs (top 48), defBody (top 48), defScope (top 48), [], []⟩
def d_Net_places : He.DefD := ⟨("Net", some "places"), "places", "Net.places", defArgs (L2.inClass (top 31) 4), defBody (L2.inClass (top 31) 4), defScope (L2.inClass (top 31) 4), [], []⟩
def d_stretches : He.DefD := ⟨("stretches", none), "stretches", "stretches", defArgs (top 47), defBody (top 47), defScope (top 47), [], []⟩
def d_fixed_places : He.DefD := ⟨("fixed_places", none), "fixed_places", "fixed_places", defArgs (top 49), defBody (top 49), defScope (top 49), [], []⟩
def d_law_even : He.DefD := ⟨("_law_even", none), "_law_even", "_law_even", defArgs (top 55), defBody (top 55), defScope (top 55), [], []⟩
def d_next_place : He.DefD := ⟨("next_place", none), "next_place", "next_place", defArgs (top 50), defBody (top 50), defScope (top 50), [], []⟩
def d_law_right : He.DefD := ⟨("_law_right", none), "_law_right", "_law_right", defArgs (top 68), defBody (top 68), defScope (top 68), [], []⟩
def d_law : He.DefD := ⟨("law", none), "law", "law", defArgs (top 69), defBody (top 69), defScope (top 69), [], []⟩
def fn : List He.DefD := [d_law_box, d_law_cell, d_law_take, d_law_names, d_law_mixed, d_law_rise, d_law_legs, d_law_net, d_law_far, d_law_bed, d_law_kept, d_law_log, d_law_near_edge, d_law_stand, d_is_list, d_is_name, d_is_tuple, d_is_integer, d_is_leg, d_Net_has, d_need_place, d_Net_rise, d_need_leg, d_Net_init, d_law_ranges, d_need_net, d_is_depth, d_is_sounding, d_is_log, d_need_log, d_Net_legs, d_reached, d_reach_from, d_reaches, d_is_too_deep, d_climbs, d_all_clashes, d_need_fit, d_Net_places, d_stretches, d_fixed_places, d_law_even, d_next_place, d_law_right, d_law]
def fa : List He.Fa := [.glo "_law_box", .glo "_law_cell", .glo "_law_take", .glo "_law_names", .glo "_law_mixed", .glo "_law_rise", .glo "_law_legs", .glo "_law_net", .glo "_law_far", .glo "_law_bed", .glo "_law_kept", .glo "_law_log", .glo "_law_near_edge", .glo "_law_stand", .glo "is_list", .glo "is_name", .glo "is_tuple", .glo "is_integer", .glo "is_leg", .glo "need_place", .glo "need_leg", .glo "_law_ranges", .glo "need_net", .glo "is_depth", .glo "is_sounding", .glo "is_log", .glo "need_log", .glo "reached", .glo "reach_from", .glo "reaches", .glo "is_too_deep", .glo "climbs", .glo "all_clashes", .glo "need_fit", .glo "stretches", .glo "fixed_places", .glo "_law_even", .glo "next_place", .glo "_law_right", .glo "law", .glo "Net", .cls "Net", .mkr "Net", .noat "Net" "place_row", .noat "Net" "leg_row", .noat "Net" "leg_rises", .meth "Net" "has", .meth "Net" "rise", .meth "Net" "__init__", .meth "Net" "legs", .meth "Net" "places", .str "LETTERS" "abcdefghijklmnopqrstuvwxyz", .int "MOST_LEGS" (60), .int "MOST_SOUNDINGS" (30), .int "STEEPEST" (10000), .int "MOST_PLACES" (24), .int "DEEPEST" (1000000), .int "LONGEST_NAME" (8), .free "len", .free "abs", .free "max", .free "min", .free "sum", .free "all", .free "any", .free "int", .free "str", .free "repr", .free "list", .free "tuple", .free "dict", .free "sorted", .free "divmod", .free "range", .free "isinstance", .free "bool", .free "enumerate", .free "zip", .free "set"]
def xs : List Lw.Xf := [isiX "Net"]
abbrev hk : PySem.W.Hook := Lw.hookS 4 fa fn xs
def ob (s : PySem.W.SharedT) : He.AlD × Bool := Lw.obsS 4 fa fn xs (HandSHeadRun.getT s)
theorem ob_eq (s : PySem.W.SharedT) : ob s = hk.obs s.abs := Lw.obsS_eq (HandSHeadRun.getT_eq s)
open PySem PySem.W PySem.Calls PyProof.Rows in
section
open HandSHeadRun PySem.W PySem.Calls
theorem run3 (w : World) (os : OsState) : (endF (stepQ (denQ tabQ) R.prog w) 7000 R.prog w os).map (fun s => ob s) = some (hk.val w) := by kernel_rfl
end
theorem run (w : World) : HandSHeadRun.RunEq R (PySem.W.view R.prog [0, 2, 3, 4, 5, 6, 7, 8, 9, 10, 11, 12, 14, 15, 16, 17, 18, 19, 20, 21, 23, 24, 25, 26, 27, 28, 29, 30, 31, 32, 33, 35, 36, 38, 39, 40, 41, 42, 43, 44, 45, 47, 48, 49, 50, 52, 53, 54, 55, 56, 57, 58, 59, 60, 61, 62, 63, 64, 65, 66, 67, 68, 69]) hk ob 7000 loose w := fun os => map3 (run1 w os) (run2 w os) (run3 w os)
end Hd
set_option Elab.async false
set_option linter.all false
set_option maxRecDepth 100000
set_option maxHeartbeats 1000000
/-! Lw21: ways on a net, the shortest of them. Plain: no program in sight. -/
namespace Lw
abbrev Pl := List Nat
/-- a way whose inner places are in S, and its length -/
inductive WayS (ls : List Leg) (S : Pl → Prop) : Pl → Pl → Int → Prop
  | nil (a : Pl) : WayS ls S a a 0
  | edge {a b : Pl} {r : Int} : riseO ls a b = some r → WayS ls S a b r
  | snoc {a b c : Pl} {d r : Int} : WayS ls S a b d → S b → riseO ls b c = some r → WayS ls S a c (d + r)
abbrev Way (ls : List Leg) : Pl → Pl → Int → Prop := WayS ls fun _ => True
theorem riseO_symm (ls : List Leg) (a b : Pl) : riseO ls a b = riseO ls b a := by
  unfold riseO
  congr 2
  funext l; exact on_symm l a b
section
variable {ls : List Leg} {S T : Pl → Prop} {a b c k : Pl} {d e r : Int}
theorem WayS.mono (h : ∀ x, S x → T x) (w : WayS ls S a b d) : WayS ls T a b d := by
  induction w with
  | nil => exact .nil _
  | edge e => exact .edge e
  | snoc _ s e ih => exact .snoc ih (h _ s) e
theorem riseO_mem {l : List Leg} (h : riseO l a b = some r) : ∃ x ∈ l, x.on a b = true ∧ x.r = r := by
  obtain ⟨x, m, e⟩ := Option.map_eq_some_iff.mp h
  exact ⟨x, List.mem_of_find?_eq_some m, by have := List.find?_some (p := fun l : Leg => l.on a b) m; exact this, e⟩
/-- every rise is 0 or more, and at most 10000 -/
def Rs (ls : List Leg) : Prop := ∀ l ∈ ls, 0 ≤ l.r ∧ l.r ≤ 10000
theorem Rs.at_ (o : Rs ls) (h : riseO ls a b = some r) : 0 ≤ r ∧ r ≤ 10000 := by
  obtain ⟨x, m, _, e⟩ := riseO_mem h
  rw [← e]; exact o x m
theorem WayS.nn (o : Rs ls) (w : WayS ls S a b d) : 0 ≤ d := by
  induction w with
  | nil => omega
  | edge e => exact (o.at_ e).1
  | snoc _ _ e ih => have := (o.at_ e).1; omega
/-- one after the other -/
theorem WayS.app (hk : S k) (w : WayS ls S a k d) (v : WayS ls S k b e) : WayS ls S a b (d + e) := by
  induction v with
  | nil => rw [Int.add_zero]; exact w
  | edge h => exact .snoc w hk h
  | snoc _ s h ih =>
    rw [← Int.add_assoc]
    exact .snoc ih s h
theorem WayS.cons (h : riseO ls a k = some r) (hk : S k) (v : WayS ls S k b e) : WayS ls S a b (r + e) := (WayS.edge h).app hk v
/-- backwards -/
theorem WayS.rev (w : WayS ls S a b d) : WayS ls S b a d := by
  induction w with
  | nil => exact .nil _
  | edge h => exact .edge (by rw [riseO_symm]; exact h)
  | snoc _ s h ih =>
    rw [Int.add_comm]
    exact .cons (by rw [riseO_symm]; exact h) s ih
/-- by one place more -/
def orK (S : Pl → Prop) (k : Pl) : Pl → Prop := fun x => S x ∨ x = k
theorem WayS.split (o : Rs ls) (w : WayS ls (orK S k) a b d) : (∃ d', d' ≤ d ∧ WayS ls S a b d') ∨ ∃ d1 d2, d1 + d2 ≤ d ∧ WayS ls S a k d1 ∧ WayS ls S k b d2 := by
  induction w with
  | nil => exact .inl ⟨0, Int.le_refl _, .nil _⟩
  | edge h => exact .inl ⟨_, Int.le_refl _, .edge h⟩
  | snoc _ s h ih =>
    rcases s with s | s
    · rcases ih with ⟨d', l, w'⟩ | ⟨d1, d2, l, w1, w2⟩
      · exact .inl ⟨_, by omega, w'.snoc s h⟩
      · exact .inr ⟨d1, _, by omega, w1, w2.snoc s h⟩
    · subst s
      rcases ih with ⟨d', l, w'⟩ | ⟨d1, d2, l, w1, w2⟩
      · exact .inr ⟨d', _, by omega, w', .edge h⟩
      · have := w2.nn o
        exact .inr ⟨d1, _, by omega, w1, .edge h⟩
theorem WayS.join (w1 : WayS ls S a k d) (w2 : WayS ls S k b e) : WayS ls (orK S k) a b (d + e) :=
  (w1.mono fun _ h => .inl h).app (.inr rfl) (w2.mono fun _ h => .inl h)
/-- the shortest of these ways, or none -/
def Best (ls : List Leg) (S : Pl → Prop) (a b : Pl) : Option Int → Prop
  | some d => WayS ls S a b d ∧ ∀ e, WayS ls S a b e → d ≤ e
  | none => ∀ e, ¬ WayS ls S a b e
theorem Best.uniq {x y : Option Int} (h : Best ls S a b x) (h2 : Best ls S a b y) : x = y := by
  cases x with
  | none => cases y with
    | none => rfl
    | some e => exact absurd h2.1 (h e)
  | some d => cases y with
    | none => exact absurd h.1 (h2 d)
    | some e =>
      have := h.2 e h2.1
      have := h2.2 d h.1
      rw [show d = e by omega]
theorem Best.symm {x : Option Int} (h : Best ls S a b x) : Best ls S b a x := by
  cases x with
  | none => exact fun e w => h e w.rev
  | some d => exact ⟨h.1.rev, fun e w => h.2 e w.rev⟩
theorem Best.self (o : Rs ls) : Best ls S a a (some 0) := ⟨.nil a, fun e w => w.nn o⟩
/-- the better of two, none is the worst -/
def minO : Option Int → Option Int → Option Int
  | some d, some e => some (if e < d then e else d)
  | some d, none => some d
  | none, y => y
def addO : Option Int → Option Int → Option Int
  | some d, some e => some (d + e)
  | _, _ => none
/-- Floyd's step -/
theorem Best.step (o : Rs ls) {x y z : Option Int} (h : Best ls S a b x) (h1 : Best ls S a k y) (h2 : Best ls S k b z) : Best ls (orK S k) a b (minO x (addO y z)) := by
  have up : ∀ {d}, WayS ls S a b d → WayS ls (orK S k) a b d := fun w => w.mono fun _ h => .inl h
  cases x with
  | none =>
    cases y with
    | none =>
      intro e w
      rcases w.split o with ⟨d', _, w'⟩ | ⟨d1, d2, _, w1, _⟩
      · exact h _ w'
      · exact h1 _ w1
    | some d =>
      cases z with
      | none =>
        intro e w
        rcases w.split o with ⟨d', _, w'⟩ | ⟨d1, d2, _, _, w2⟩
        · exact h _ w'
        · exact h2 _ w2
      | some e =>
        refine ⟨h1.1.join h2.1, fun f w => ?_⟩
        rcases w.split o with ⟨d', _, w'⟩ | ⟨d1, d2, l, w1, w2⟩
        · exact absurd w' (h _)
        · have := h1.2 _ w1
          have := h2.2 _ w2
          omega
  | some x =>
    have low : ∀ {f}, WayS ls (orK S k) a b f → x ≤ f ∨ ∃ d1 d2, d1 + d2 ≤ f ∧ WayS ls S a k d1 ∧ WayS ls S k b d2 := fun {f} w => by
      rcases w.split o with ⟨d', l, w'⟩ | w'
      · have := h.2 _ w'; exact .inl (by omega)
      · exact .inr w'
    cases y with
    | none =>
      refine ⟨up h.1, fun f w => ?_⟩
      rcases low w with l | ⟨d1, d2, _, w1, _⟩
      · exact l
      · exact absurd w1 (h1 _)
    | some d =>
      cases z with
      | none =>
        refine ⟨up h.1, fun f w => ?_⟩
        rcases low w with l | ⟨d1, d2, _, _, w2⟩
        · exact l
        · exact absurd w2 (h2 _)
      | some e =>
        show Best ls (orK S k) a b (some (if d + e < x then d + e else x))
        by_cases q : d + e < x
        · rw [if_pos q]
          refine ⟨h1.1.join h2.1, fun f w => ?_⟩
          rcases low w with l | ⟨d1, d2, l, w1, w2⟩
          · omega
          · have := h1.2 _ w1
            have := h2.2 _ w2
            omega
        · rw [if_neg q]
          refine ⟨up h.1, fun f w => ?_⟩
          rcases low w with l | ⟨d1, d2, l, w1, w2⟩
          · exact l
          · have := h1.2 _ w1
            have := h2.2 _ w2
            omega
/-- no inner place at all -/
theorem Best.base (o : Rs ls) (ne : ∀ x, riseO ls x x = none) : Best ls (fun _ => False) a b (if a = b then some 0 else riseO ls a b) := by
  by_cases q : a = b
  · subst q; rw [if_pos rfl]; exact Best.self o
  · rw [if_neg q]
    cases h : riseO ls a b with
    | none =>
      intro e w
      cases w with
      | nil => exact q rfl
      | edge h2 => rw [h] at h2; cases h2
      | snoc _ s _ => exact s
    | some r =>
      refine ⟨.edge h, fun e w => ?_⟩
      cases w with
      | nil => exact absurd rfl q
      | edge h2 => rw [h] at h2; cases h2; exact Int.le_refl _
      | snoc _ s _ => exact s.elim
theorem Best.congr {x : Option Int} (h : Best ls S a b x) (up : ∀ d, WayS ls S a b d → WayS ls T a b d) (dn : ∀ d, WayS ls T a b d → WayS ls S a b d) : Best ls T a b x := by
  cases x with
  | none => exact fun e w => h e (dn e w)
  | some d => exact ⟨up d h.1, fun e w => h.2 e (dn e w)⟩
/-- the legs' ends are places -/
theorem WayS.inner {ps : List Pl} (ok : ∀ l ∈ ls, l.a ∈ ps ∧ l.b ∈ ps) (w : WayS ls S a b d) : WayS ls (fun x => x ∈ ps) a b d := by
  induction w with
  | nil => exact .nil _
  | edge h => exact .edge h
  | @snoc b' c' d' r' _ _ h ih =>
    obtain ⟨x, m, on, _⟩ := riseO_mem h
    obtain ⟨h1, h2⟩ := ok x m
    refine .snoc ih ?_ h
    unfold Leg.on at on
    rw [Bool.or_eq_true, Bool.and_eq_true, Bool.and_eq_true, decide_eq_true_eq, decide_eq_true_eq, decide_eq_true_eq, decide_eq_true_eq] at on
    rcases on with ⟨e1, _⟩ | ⟨e1, _⟩
    · rw [← e1]; exact h1
    · rw [← e1]; exact h2
/-- Bellman's way: what is found is a way's length, and no leg makes it less -/
theorem Best.relax {f : Pl → Option Int} {s : Pl} (o : Rs ls) (f0 : ∃ d, f s = some d ∧ d ≤ 0) (sound : ∀ x d, f x = some d → Way ls s x d)
    (stable : ∀ x y d r, f x = some d → riseO ls x y = some r → ∃ e, f y = some e ∧ e ≤ d + r) : ∀ x, Best ls (fun _ => True) s x (f x) := by
  have reach : ∀ {x d}, Way ls s x d → ∃ e, f x = some e ∧ e ≤ d := fun {x d} w => by
    induction w with
    | nil => exact f0
    | edge h =>
      obtain ⟨d, e, l⟩ := f0
      obtain ⟨e2, h2, l2⟩ := stable _ _ _ _ e h
      exact ⟨e2, h2, by omega⟩
    | snoc _ _ h ih =>
      obtain ⟨e, h1, l⟩ := ih
      obtain ⟨e2, h2, l2⟩ := stable _ _ _ _ h1 h
      exact ⟨e2, h2, by omega⟩
  intro x
  cases h : f x with
  | none =>
    intro e w
    obtain ⟨e2, h2, _⟩ := reach w
    rw [h] at h2; cases h2
  | some d =>
    refine ⟨sound x d h, fun e w => ?_⟩
    obtain ⟨e2, h2, l⟩ := reach w
    rw [h] at h2; cases h2; exact l
/-! the shortest is not long -/
theorem WayS.head (w : WayS ls S a b d) : (a = b) ∨ (∃ r, riseO ls a b = some r) ∨ ∃ c r e, S c ∧ riseO ls a c = some r ∧ WayS ls (fun x => S x ∧ x ≠ c) c b e := by
  induction w with
  | nil => exact .inl rfl
  | edge h => exact .inr (.inl ⟨_, h⟩)
  | @snoc b' c' d' r' _ s h ih =>
    rcases ih with e | ⟨r, e⟩ | ⟨c, r, e, sc, hc, w'⟩
    · subst e; exact .inr (.inl ⟨_, h⟩)
    · exact .inr (.inr ⟨_, _, _, s, e, .edge h⟩)
    · by_cases q : b' = c
      · subst q; exact .inr (.inr ⟨_, _, _, s, hc, .edge h⟩)
      · exact .inr (.inr ⟨_, _, _, sc, hc, w'.snoc ⟨s, q⟩ h⟩)
theorem WayS.short (o : Rs ls) : ∀ (n : Nat) {S : Pl → Prop} {ps : List Pl} {a b : Pl} {d : Int}, ps.length ≤ n → (∀ x, S x → x ∈ ps) → WayS ls S a b d → ∃ e : Int, e ≤ 10000 * ((n : Int) + 1) ∧ WayS ls S a b e := by
  intro n
  induction n with
  | zero =>
    intro S ps a b d hl hs w
    have no : ∀ x, ¬ S x := fun x s => by
      have := hs x s
      rw [List.length_eq_zero_iff.mp (Nat.le_zero.mp hl)] at this
      cases this
    rcases w.head with e | ⟨r, e⟩ | ⟨c, r, e, sc, _⟩
    · subst e; exact ⟨0, by omega, .nil _⟩
    · exact ⟨r, by have := (o.at_ e).2; omega, .edge e⟩
    · exact absurd sc (no c)
  | succ n ih =>
    intro S ps a b d hl hs w
    rcases w.head with e | ⟨r, e⟩ | ⟨c, r, e, sc, hc, w'⟩
    · subst e; exact ⟨0, by omega, .nil _⟩
    · exact ⟨r, by have := (o.at_ e).2; omega, .edge e⟩
    · obtain ⟨f, lf, wf⟩ := ih (ps := ps.erase c) (by rw [List.length_erase_of_mem (hs c sc)]; omega) (fun x hx => (List.mem_erase_of_ne hx.2).mpr (hs x hx.1)) w'
      refine ⟨r + f, by have := (o.at_ hc).2; omega, .cons hc sc (wf.mono fun x hx => hx.1)⟩
end
end Lw
set_option Elab.async false
set_option linter.all false
set_option maxRecDepth 100000
set_option maxHeartbeats 1000000
/-! Lw22: a dict over all pairs of places. -/
namespace Lw
open PySem
def pk (a b : Pl) : Val := .tup [.str a, .str b]
def rowF (F : Pl → Pl → Option Int) (a : Pl) (qs : List Pl) : List (Val × Val) := qs.map fun b => (pk a b, optV (F a b))
/-- the dict of F over qs and ps -/
def farK (ps qs : List Pl) (F : Pl → Pl → Option Int) : List (Val × Val) := qs.flatMap fun a => rowF F a ps
def updF (F : Pl → Pl → Option Int) (a b : Pl) (v : Option Int) : Pl → Pl → Option Int := fun x y => if x = a ∧ y = b then v else F x y
theorem kvGet_append (k : Val) : ∀ xs ys : List (Val × Val), kvGet k (xs ++ ys) = match kvGet k xs with
    | some v => some v
    | none => kvGet k ys
  | [], _ => rfl
  | (c, v) :: r, ys => by
    show (if keq c k = true then some v else kvGet k (r ++ ys)) = match (if keq c k = true then some v else kvGet k r) with
      | some v => some v
      | none => kvGet k ys
    by_cases h : keq c k = true
    · rw [if_pos h, if_pos h]
    · rw [if_neg h, if_neg h, kvGet_append k r ys]
theorem row_get (F : Pl → Pl → Option Int) (a x y : Pl) : ∀ qs : List Pl, kvGet (pk x y) (rowF F a qs) = if a = x ∧ y ∈ qs then some (optV (F x y)) else none
  | [] => by
    show none = _
    rw [if_neg (fun h => by cases h.2)]
  | b :: r => by
    have ih := row_get F a x y r
    show (if keq (pk a b) (pk x y) = true then some (optV (F a b)) else kvGet (pk x y) (rowF F a r)) = _
    unfold pk at ih ⊢
    rw [keq_2, ih]
    by_cases h1 : a = x
    · subst h1
      by_cases h2 : b = y
      · subst h2; simp
      · simp [h2, Ne.symm h2]
    · simp [h1]
theorem far_get (F : Pl → Pl → Option Int) (ps : List Pl) (x y : Pl) : ∀ qs : List Pl, kvGet (pk x y) (farK ps qs F) = if x ∈ qs ∧ y ∈ ps then some (optV (F x y)) else none
  | [] => by
    show none = _
    rw [if_neg (fun h => by cases h.1)]
  | a :: r => by
    have ih := far_get F ps x y r
    show kvGet (pk x y) (rowF F a ps ++ farK ps r F) = _
    rw [kvGet_append, row_get, ih]
    by_cases h1 : a = x
    · subst h1
      by_cases h2 : y ∈ ps
      · simp [h2]
      · simp [h2]
    · by_cases h2 : x ∈ r
      · simp [h1, h2]
      · simp [h1, h2, Ne.symm h1]
theorem far_keys (F : Pl → Pl → Option Int) (ps qs : List Pl) (x y : Pl) : okKey (pk x y) (farK ps qs F) false := by
  refine ⟨rfl, ?_, fun z => by cases z⟩
  rw [List.all_eq_true]
  intro p m
  obtain ⟨a, _, m⟩ := List.mem_flatMap.mp m
  obtain ⟨b, _, rfl⟩ := List.mem_map.mp m
  rfl
theorem far_len (F : Pl → Pl → Option Int) (ps : List Pl) : ∀ qs : List Pl, (farK ps qs F).length = qs.length * ps.length
  | [] => (Nat.zero_mul _).symm
  | a :: r => by
    show (rowF F a ps ++ farK ps r F).length = (r.length + 1) * ps.length
    rw [List.length_append, far_len F ps r, Nat.add_mul]
    unfold rowF
    rw [List.length_map]; omega
theorem far_put (F : Pl → Pl → Option Int) {ps qs : List Pl} {a b : Pl} (ma : a ∈ qs) (mb : b ∈ ps) (v : Option Int) : kvPut (pk a b) (optV v) (farK ps qs F) = farK ps qs (updF F a b v) := by
  unfold kvPut
  have e0 : (kvGet (pk a b) (farK ps qs F)).isSome = true := by rw [far_get, if_pos ⟨ma, mb⟩]; rfl
  rw [kv_any, if_pos e0]
  unfold farK rowF
  rw [List.map_flatMap]
  congr 1
  funext x
  rw [List.map_map]
  refine List.map_congr_left fun y _ => ?_
  show (if keq (pk x y) (pk a b) = true then (pk x y, optV v) else (pk x y, optV (F x y))) = (pk x y, optV (updF F a b v x y))
  unfold updF
  have e : keq (pk x y) (pk a b) = (decide (x = a) && decide (y = b)) := keq_2 x y a b
  rw [e]
  by_cases h1 : x = a <;> by_cases h2 : y = b <;> simp [h1, h2]
def F0 : Pl → Pl → Option Int := fun a b => if a = b then some 0 else none
def F1 (ls : List Leg) : Pl → Pl → Option Int := fun a b => if a = b then some 0 else riseO ls a b
theorem riseO_snoc {ls : List Leg} {l : Leg} (nw : ∀ k ∈ ls, k.on l.a l.b = false) (a b : Pl) : riseO (ls ++ [l]) a b = if l.on a b = true then some l.r else riseO ls a b := by
  unfold riseO
  rw [List.find?_append]
  cases h : l.on a b with
  | true =>
    have no : ls.find? (fun k => k.on a b) = none := by
      rw [List.find?_eq_none]
      intro k m on
      have e : k.on l.a l.b = true := by
        unfold Leg.on at h on ⊢
        rw [Bool.or_eq_true, Bool.and_eq_true, Bool.and_eq_true, decide_eq_true_eq, decide_eq_true_eq, decide_eq_true_eq, decide_eq_true_eq] at h on ⊢
        rcases h with ⟨e1, e2⟩ | ⟨e1, e2⟩
        · rw [e1, e2]; exact on
        · rw [e1, e2]; exact on.symm.imp (fun z => ⟨z.2, z.1⟩) fun z => ⟨z.2, z.1⟩
      rw [nw k m] at e; cases e
    rw [no, List.find?_singleton, h]; rfl
  | false =>
    rw [List.find?_singleton, h]
    cases ls.find? (fun k => k.on a b) <;> rfl
theorem F1_snoc {ls : List Leg} {l : Leg} (nw : ∀ k ∈ ls, k.on l.a l.b = false) (ne : l.a ≠ l.b) : updF (updF (F1 ls) l.a l.b (some l.r)) l.b l.a (some l.r) = F1 (ls ++ [l]) := by
  funext x y
  unfold updF F1
  rw [riseO_snoc nw]
  by_cases h1 : x = l.b ∧ y = l.a
  · obtain ⟨rfl, rfl⟩ := h1
    have on : l.on l.b l.a = true := by unfold Leg.on; simp
    rw [if_pos ⟨rfl, rfl⟩, if_neg (fun e => ne e.symm), if_pos on]
  · rw [if_neg h1]
    by_cases h2 : x = l.a ∧ y = l.b
    · obtain ⟨rfl, rfl⟩ := h2
      have on : l.on l.a l.b = true := by unfold Leg.on; simp
      rw [if_pos ⟨rfl, rfl⟩, if_neg ne, if_pos on]
    · rw [if_neg h2]
      have off : ¬ l.on x y = true := fun on => by
        unfold Leg.on at on
        rw [Bool.or_eq_true, Bool.and_eq_true, Bool.and_eq_true, decide_eq_true_eq, decide_eq_true_eq, decide_eq_true_eq, decide_eq_true_eq] at on
        rcases on with ⟨e1, e2⟩ | ⟨e1, e2⟩
        · exact h2 ⟨e1.symm, e2.symm⟩
        · exact h1 ⟨e1.symm, e2.symm⟩
      rw [if_neg off]
/-- Floyd's step for all pairs -/
def stepF (F : Pl → Pl → Option Int) (k : Pl) : Pl → Pl → Option Int := fun a b => minO (F a b) (addO (F a k) (F k b))
theorem stepF_k1 {F : Pl → Pl → Option Int} {k : Pl} (hk : F k k = some 0) (a : Pl) : stepF F k a k = F a k := by
  unfold stepF
  rw [hk]
  cases F a k with
  | none => rfl
  | some d => show some (if d + 0 < d then d + 0 else d) = some d; rw [if_neg (by omega)]
theorem stepF_k2 {F : Pl → Pl → Option Int} {k : Pl} (hk : F k k = some 0) (b : Pl) : stepF F k k b = F k b := by
  unfold stepF
  rw [hk]
  cases F k b with
  | none => rfl
  | some d => show some (if 0 + d < d then 0 + d else d) = some d; rw [if_neg (by omega)]
theorem stepF_no {F : Pl → Pl → Option Int} {k a b : Pl} (h : F a k = none ∨ F k b = none) : stepF F k a b = F a b := by
  unfold stepF
  have e : addO (F a k) (F k b) = none := by
    rcases h with h | h
    · rw [h]; rfl
    · rw [h]; cases F a k <;> rfl
  rw [e]
  cases F a b <;> rfl
def sp_law_far : Spec := fun vs h Q _ => ∃ ps ls, vs = [plV ps, llV ls] ∧ NetOk ps ls ∧ ∀ F : Pl → Pl → Option Int, (∀ a ∈ ps, ∀ b ∈ ps, Best ls (fun _ => True) a b (F a b)) → Q (.fd (farK ps ps F)) h
end Lw
set_option Elab.async false
set_option linter.all false
set_option maxRecDepth 100000
set_option maxHeartbeats 1000000
/-! Lw23: dicts with names as keys. -/
namespace Lw
open PySem
def skv (l : List (Pl × Val)) : List (Val × Val) := l.map fun p => (.str p.1, p.2)
def lGet (x : Pl) : List (Pl × Val) → Option Val
  | [] => none
  | (y, v) :: r => if y = x then some v else lGet x r
def lPut (x : Pl) (v : Val) (l : List (Pl × Val)) : List (Pl × Val) := if (lGet x l).isSome = true then l.map (fun p => if p.1 = x then (p.1, v) else p) else l ++ [(x, v)]
theorem skv_get (x : Pl) : ∀ l : List (Pl × Val), kvGet (.str x) (skv l) = lGet x l
  | [] => rfl
  | (y, v) :: r => by
    show (if decide (y = x) = true then some v else kvGet (.str x) (skv r)) = if y = x then some v else lGet x r
    rw [skv_get x r]
    by_cases h : y = x
    · rw [decide_eq_true h, if_pos rfl, if_pos h]
    · rw [decide_eq_false h, if_neg (by decide), if_neg h]
theorem skv_put (x : Pl) (v : Val) (l : List (Pl × Val)) : kvPut (.str x) v (skv l) = skv (lPut x v l) := by
  unfold kvPut lPut
  rw [kv_any, skv_get]
  by_cases h : (lGet x l).isSome = true
  · rw [if_pos h, if_pos h]
    unfold skv
    rw [List.map_map, List.map_map]
    refine List.map_congr_left fun p _ => ?_
    show (if decide (p.1 = x) = true then (Val.str p.1, v) else (Val.str p.1, p.2)) = (fun p : Pl × Val => (Val.str p.1, p.2)) (if p.1 = x then (p.1, v) else p)
    by_cases q : p.1 = x
    · rw [decide_eq_true q, if_pos rfl, if_pos q]
    · rw [decide_eq_false q, if_neg (by decide), if_neg q]
  · rw [if_neg h, if_neg h]
    unfold skv
    rw [List.map_append]; rfl
theorem skv_ok (x : Pl) (l : List (Pl × Val)) : okKey (.str x) (skv l) false := by
  refine ⟨rfl, ?_, fun z => by cases z⟩
  rw [List.all_eq_true]
  intro p m
  obtain ⟨q, _, rfl⟩ := List.mem_map.mp m
  rfl
theorem lGet_app (x : Pl) : ∀ l m : List (Pl × Val), lGet x (l ++ m) = match lGet x l with
    | some v => some v
    | none => lGet x m
  | [], _ => rfl
  | (y, v) :: r, m => by
    show (if y = x then some v else lGet x (r ++ m)) = match (if y = x then some v else lGet x r) with
      | some v => some v
      | none => lGet x m
    by_cases h : y = x
    · rw [if_pos h, if_pos h]
    · rw [if_neg h, if_neg h, lGet_app x r m]
theorem lGet_map (x y : Pl) (v : Val) : ∀ l : List (Pl × Val), lGet y (l.map fun p => if p.1 = x then (p.1, v) else p) = if x = y then (lGet y l).map (fun _ => v) else lGet y l
  | [] => by show none = _; split <;> rfl
  | (z, w) :: r => by
    have ih := lGet_map x y v r
    by_cases h1 : z = x
    · subst h1
      show lGet y ((if z = z then (z, v) else (z, w)) :: r.map _) = _
      rw [if_pos rfl]
      show (if z = y then some v else lGet y (r.map _)) = if z = y then (if z = y then some w else lGet y r).map (fun _ => v) else (if z = y then some w else lGet y r)
      by_cases h2 : z = y
      · rw [if_pos h2, if_pos h2, if_pos h2]; rfl
      · rw [if_neg h2, if_neg h2, if_neg h2, ih, if_neg h2]
    · show lGet y ((if z = x then (z, v) else (z, w)) :: r.map _) = _
      rw [if_neg h1]
      show (if z = y then some w else lGet y (r.map _)) = if x = y then (if z = y then some w else lGet y r).map (fun _ => v) else (if z = y then some w else lGet y r)
      by_cases h2 : z = y
      · have h3 : ¬ x = y := fun e => h1 (by rw [h2, e])
        rw [if_pos h2, if_neg h3, if_pos h2]
      · rw [if_neg h2, if_neg h2, ih]
theorem lGet_put (x y : Pl) (v : Val) (l : List (Pl × Val)) : lGet y (lPut x v l) = if x = y then some v else lGet y l := by
  unfold lPut
  by_cases h : (lGet x l).isSome = true
  · rw [if_pos h, lGet_map]
    by_cases q : x = y
    · subst q
      rw [if_pos rfl, if_pos rfl]
      obtain ⟨w, e⟩ := Option.isSome_iff_exists.mp h
      rw [e]; rfl
    · rw [if_neg q, if_neg q]
  · rw [if_neg h, lGet_app]
    have e : lGet x l = none := by
      cases e : lGet x l with
      | none => rfl
      | some w => rw [e] at h; exact absurd rfl h
    by_cases q : x = y
    · subst q
      rw [e, if_pos rfl]
      show (if x = x then some v else none) = _
      rw [if_pos rfl]
    · rw [if_neg q]
      cases lGet y l with
      | some w => rfl
      | none => show (if x = y then some v else none) = none; rw [if_neg q]
/-! ### what a search has found -/
def updP (f : Pl → Option Int) (y : Pl) (d : Int) : Pl → Option Int := fun x => if y = x then some d else f x
def wtP (f : Pl → Option Int) (p : Pl) : Nat := match f p with
  | some d => d.toNat
  | none => 240001
/-- it gets less with all that is found, or found better -/
def mea (f : Pl → Option Int) (ps : List Pl) : Nat := (ps.map (wtP f)).sum
theorem wtP_less {f : Pl → Option Int} {y : Pl} {d : Int} (d0 : 0 ≤ d) (h : (f y = none ∧ d ≤ 240000) ∨ ∃ e, f y = some e ∧ d < e) : wtP (updP f y d) y < wtP f y := by
  unfold wtP updP
  rw [if_pos rfl]
  rcases h with ⟨h, l⟩ | ⟨e, h, l⟩
  · rw [h]
    show d.toNat < 240001
    omega
  · rw [h]
    show d.toNat < e.toNat
    omega
theorem wtP_ne {f : Pl → Option Int} {y x : Pl} {d : Int} (h : y ≠ x) : wtP (updP f y d) x = wtP f x := by
  unfold wtP updP
  rw [if_neg h]
theorem mea_le {f : Pl → Option Int} {y : Pl} {d : Int} (hw : wtP (updP f y d) y < wtP f y) : ∀ ps : List Pl, mea (updP f y d) ps ≤ mea f ps
  | [] => Nat.le_refl _
  | p :: r => by
    have ih := mea_le hw r
    show wtP (updP f y d) p + mea (updP f y d) r ≤ wtP f p + mea f r
    by_cases h : y = p
    · rw [h] at hw ih ⊢; omega
    · rw [wtP_ne h]; omega
theorem mea_less {f : Pl → Option Int} {y : Pl} {d : Int} (hw : wtP (updP f y d) y < wtP f y) : ∀ ps : List Pl, y ∈ ps → mea (updP f y d) ps < mea f ps
  | [], m => by cases m
  | p :: r, m => by
    show wtP (updP f y d) p + mea (updP f y d) r < wtP f p + mea f r
    by_cases h : y = p
    · have := mea_le hw r
      rw [h] at hw this ⊢; omega
    · have ih := mea_less hw r ((List.mem_cons.mp m).resolve_left h)
      rw [wtP_ne h]; omega
def cnt (f : Pl → Option Int) (ps : List Pl) : Nat := (ps.filter fun p => (f p).isSome).length
theorem cnt_no {f : Pl → Option Int} {y : Pl} {d : Int} : ∀ {ps : List Pl}, y ∉ ps → cnt (updP f y d) ps = cnt f ps
  | [], _ => rfl
  | p :: r, m => by
    have h : y ≠ p := fun e => m (by rw [e]; exact List.mem_cons_self)
    have ih := cnt_no (f := f) (d := d) (ps := r) fun z => m (List.mem_cons_of_mem _ z)
    unfold cnt at ih ⊢
    have e : updP f y d p = f p := if_neg h
    rw [List.filter_cons, List.filter_cons, e]
    cases (f p).isSome with
    | true => rw [if_pos rfl, if_pos rfl, List.length_cons, List.length_cons, ih]
    | false => rw [if_neg (by decide), if_neg (by decide), ih]
theorem cnt_new {f : Pl → Option Int} {y : Pl} {d : Int} (h : f y = none) : ∀ {ps : List Pl}, ps.Nodup → y ∈ ps → cnt (updP f y d) ps = cnt f ps + 1
  | [], _, m => by cases m
  | p :: r, nd, m => by
    obtain ⟨n1, n2⟩ := List.nodup_cons.mp nd
    by_cases q : y = p
    · subst q
      have ih := cnt_no (f := f) (d := d) n1
      unfold cnt at ih ⊢
      have e : updP f y d y = some d := if_pos rfl
      rw [List.filter_cons, List.filter_cons, e, h, if_pos (show (some d).isSome = true from rfl), if_neg (by decide), List.length_cons, ih]
    · have ih := cnt_new h (d := d) n2 ((List.mem_cons.mp m).resolve_left q)
      unfold cnt at ih ⊢
      have e : updP f y d p = f p := if_neg q
      rw [List.filter_cons, List.filter_cons, e]
      cases (f p).isSome with
      | true => rw [if_pos rfl, if_pos rfl, List.length_cons, List.length_cons, ih]
      | false => rw [if_neg (by decide), if_neg (by decide), ih]
theorem cnt_le {f : Pl → Option Int} (ps : List Pl) : cnt f ps ≤ ps.length := List.length_filter_le _ _
theorem cnt_old {f : Pl → Option Int} {y : Pl} {d e : Int} (h : f y = some e) (ps : List Pl) : cnt (updP f y d) ps = cnt f ps := by
  unfold cnt
  congr 1
  refine List.filter_congr fun p _ => ?_
  unfold updP
  by_cases q : y = p
  · subst q; rw [if_pos rfl, h]; rfl
  · rw [if_neg q]
/-- what a search keeps -/
structure Srch (ps : List Pl) (ls : List Leg) (s : Pl) (f : Pl → Option Int) : Prop where
  st : f s = some 0
  inp : ∀ x d, f x = some d → x ∈ ps
  way : ∀ x d, f x = some d → Way ls s x d
  low : ∀ x d, f x = some d → 0 ≤ d ∧ d + 10000 ≤ 10000 * (cnt f ps : Int)
theorem Srch.start {ps : List Pl} {ls : List Leg} {s : Pl} (m : s ∈ ps) (nd : ps.Nodup) : Srch ps ls s (updP (fun _ => none) s 0) := by
  have one : ∀ x d, updP (fun _ => none) s 0 x = some d → x = s ∧ d = 0 := fun x d e => by
    unfold updP at e
    by_cases q : s = x
    · rw [if_pos q] at e; cases e; exact ⟨q.symm, rfl⟩
    · rw [if_neg q] at e; cases e
  refine ⟨if_pos rfl, fun x d e => ?_, fun x d e => ?_, fun x d e => ?_⟩
  · rw [(one x d e).1]; exact m
  · obtain ⟨rfl, rfl⟩ := one x d e; exact .nil _
  · have c := cnt_new (f := fun _ => none) (d := 0) (y := s) rfl nd m
    obtain ⟨_, rfl⟩ := one x d e
    omega
theorem Srch.step {ps : List Pl} {ls : List Leg} {s a b : Pl} {f : Pl → Option Int} {d r : Int} (S : Srch ps ls s f) (o : Rs ls) (nd : ps.Nodup) (lp : ps.length ≤ 24) (ha : f a = some d) (hr : riseO ls a b = some r) (mb : b ∈ ps)
    (h : f b = none ∨ ∃ e, f b = some e ∧ d + r < e) : Srch ps ls s (updP f b (d + r)) ∧ mea (updP f b (d + r)) ps < mea f ps := by
  obtain ⟨d0, dl⟩ := S.low a d ha
  obtain ⟨r0, r1⟩ := o.at_ hr
  have cl := cnt_le (f := f) ps
  have cge : (cnt f ps : Int) ≤ cnt (updP f b (d + r)) ps ∧ d + r + 10000 ≤ 10000 * (cnt (updP f b (d + r)) ps : Int) := by
    rcases h with h | ⟨e, h, l⟩
    · rw [cnt_new h nd mb]; omega
    · have := (S.low b e h).2
      rw [cnt_old h ps]; omega
  refine ⟨⟨?_, fun x e hx => ?_, fun x e hx => ?_, fun x e hx => ?_⟩, mea_less (wtP_less (by omega) ?_) ps mb⟩
  · show (if b = s then some (d + r) else f s) = some 0
    by_cases q : b = s
    · exfalso
      rw [q] at h
      rcases h with h | ⟨e, h, l⟩
      · rw [S.st] at h; cases h
      · rw [S.st] at h; cases h; omega
    · rw [if_neg q]; exact S.st
  · unfold updP at hx
    by_cases q : b = x
    · rw [← q]; exact mb
    · rw [if_neg q] at hx; exact S.inp x e hx
  · unfold updP at hx
    by_cases q : b = x
    · rw [if_pos q] at hx
      cases hx
      rw [← q]
      exact .snoc (S.way a d ha) trivial hr
    · rw [if_neg q] at hx; exact S.way x e hx
  · unfold updP at hx
    by_cases q : b = x
    · rw [if_pos q] at hx
      cases hx
      exact ⟨by omega, cge.2⟩
    · rw [if_neg q] at hx
      have := S.low x e hx
      omega
  · rcases h with h | h
    · exact .inl ⟨h, by omega⟩
    · exact .inr h
/-- no leg makes it less -/
def Rlx (f : Pl → Option Int) (l : Leg) : Prop := (∀ d, f l.a = some d → ∃ e, f l.b = some e ∧ e ≤ d + l.r) ∧ ∀ d, f l.b = some d → ∃ e, f l.a = some e ∧ e ≤ d + l.r
def sp_reached : Spec := fun vs h Q _ => ∃ ps ls s, vs = [netV ps ls, .str s] ∧ NetOk ps ls ∧ s ∈ ps ∧ ∀ (f : Pl → Option Int) (l m : List (Pl × Val)), (∀ x, lGet x l = (f x).map .int) → (∀ x, Best ls (fun _ => True) s x (f x)) → (∀ p ∈ l, tre p.2 = true) → Q (.tup [.fd (skv l), .fd (skv m)]) h
/-- a net's leg gives the rise between its ends -/
theorem riseO_leg {ls : List Leg} (one : ls.Pairwise fun l k => l.on k.a k.b = false) {k : Leg} (m : k ∈ ls) : riseO ls k.a k.b = some k.r := by
  unfold riseO
  induction ls with
  | nil => cases m
  | cons l r ih =>
    obtain ⟨h1, h2⟩ := List.pairwise_cons.mp one
    rw [List.find?_cons]
    rcases List.mem_cons.mp m with e | m
    · subst e
      have on : k.on k.a k.b = true := by unfold Leg.on; simp
      rw [on]; rfl
    · rw [h1 k m]
      exact ih h2 m
end Lw
set_option Elab.async false
set_option linter.all false
set_option maxRecDepth 100000
set_option maxHeartbeats 1000000
/-! Lw24: bounds of what is shortest; nets by numbers. -/
namespace Lw
open PySem
theorem NetOk.rs {ps : List Pl} {ls : List Leg} (o : NetOk ps ls) : Rs ls := fun l m => ⟨(o.ok l m).r0, (o.ok l m).r1⟩
theorem NetOk.ends {ps : List Pl} {ls : List Leg} (o : NetOk ps ls) : ∀ l ∈ ls, l.a ∈ ps ∧ l.b ∈ ps := fun l m => ⟨(o.ok l m).ma, (o.ok l m).mb⟩
theorem Best.bound {ps : List Pl} {ls : List Leg} {a b : Pl} {d : Int} (o : NetOk ps ls) (h : Best ls (fun _ => True) a b (some d)) : 0 ≤ d ∧ d ≤ 250000 := by
  refine ⟨h.1.nn o.rs, ?_⟩
  obtain ⟨e, le, w⟩ := (h.1.inner o.ends).short o.rs ps.length (Nat.le_refl _) (fun _ z => z)
  have := h.2 e (w.mono fun _ _ => trivial)
  have := o.lp
  omega
theorem Best.ok {ps : List Pl} {ls : List Leg} {a b : Pl} {x : Option Int} (o : NetOk ps ls) (h : Best ls (fun _ => True) a b x) : Ok 0 42 (optV x) := by
  cases x with
  | none => exact .non
  | some d =>
    have := Best.bound o h
    exact .int (by omega)
theorem optV_nod (x : Option Int) : nod (optV x) = true := by cases x <;> rfl
theorem NetOk.permL {ps : List Pl} {ls ks : List Leg} (o : NetOk ps ls) (p : ks.Perm ls) : NetOk ps ks :=
  ⟨o.n, o.nd, o.lp, by rw [p.length_eq]; exact o.ll, fun l m => o.ok l (p.mem_iff.mp m), (p.pairwise_iff (fun {a b} h => by
    cases e : b.on a.a a.b with
    | false => rfl
    | true =>
      unfold Leg.on at e h
      rw [Bool.or_eq_true, Bool.and_eq_true, Bool.and_eq_true, decide_eq_true_eq, decide_eq_true_eq, decide_eq_true_eq, decide_eq_true_eq] at e
      rcases e with ⟨e1, e2⟩ | ⟨e1, e2⟩
      · rw [e1, e2] at h; simp at h
      · rw [e1, e2] at h; simp at h)).mpr o.one⟩
/-! ### names by number -/
def nmk (c k : Nat) : Pl := [c, 97 + k]
def nml (c n : Nat) : List Pl := (List.range n).map (nmk c)
theorem nmk_inj {c i j : Nat} (h : nmk c i = nmk c j) : i = j := by
  unfold nmk at h
  simp only [List.cons.injEq, true_and, and_true] at h
  omega
theorem nml_len {c n : Nat} : (nml c n).length = n := by unfold nml; rw [List.length_map, List.length_range]
theorem nml_get {c n k : Nat} (h : k < n) : (nml c n)[k]? = some (nmk c k) := by
  unfold nml
  rw [List.getElem?_map, List.getElem?_range h]; rfl
theorem nml_mem {c n k : Nat} (h : k < n) : nmk c k ∈ nml c n := List.mem_of_getElem? (nml_get h)
theorem nml_is {c n : Nat} {x : Pl} (h : x ∈ nml c n) : ∃ k, k < n ∧ x = nmk c k := by
  obtain ⟨k, m, e⟩ := List.mem_map.mp h
  exact ⟨k, List.mem_range.mp m, e.symm⟩
theorem nml_name {c n : Nat} (hc : 97 ≤ c ∧ c ≤ 122) (hn : n ≤ 26) : ∀ p ∈ nml c n, nameB p = true := fun p m => by
  obtain ⟨k, hk, rfl⟩ := nml_is m
  rw [nameB_all (s := nmk c k) (by show 1 ≤ 2; decide) (by show 2 ≤ 8; decide), List.all_eq_true]
  intro d md
  unfold nmk at md
  rcases List.mem_cons.mp md with rfl | md
  · exact decide_eq_true ((low26_mem _).mpr hc)
  · rw [List.mem_singleton.mp md]
    exact decide_eq_true ((low26_mem _).mpr (by omega))
theorem nml_nodup {c n : Nat} : (nml c n).Nodup := nodup_range fun i j h _ e => by have := nmk_inj e; omega
/-- legs by the numbers of their ends -/
theorem net_pairs {ps : List Pl} {prs : List (Nat × Nat)} {ls : List Leg} (n : ∀ p ∈ ps, nameB p = true) (nd : ps.Nodup) (lp : ps.length ≤ 24) (ll : ls.length ≤ 60) (o : PrOk ps.length prs)
    (h : ∀ (i : Nat) (l : Leg), ls[i]? = some l → ∃ p, prs[i]? = some p ∧ ofP ps p l ∧ 0 ≤ l.r ∧ l.r ≤ 10000) : NetOk ps ls := by
  refine ⟨n, nd, lp, ll, fun l m => ?_, ?_⟩
  · obtain ⟨i, hi, e⟩ := List.getElem_of_mem m
    obtain ⟨p, hp, q, r0, r1⟩ := h i l (by rw [List.getElem?_eq_getElem hi, e])
    exact q.ok nd (o.b p (List.mem_of_getElem? hp)).2.2 r0 r1
  · rw [List.pairwise_iff_getElem]
    intro i j hi hj hij
    obtain ⟨p, hp, q, _⟩ := h i _ (List.getElem?_eq_getElem hi)
    obtain ⟨p2, hp2, q2, _⟩ := h j _ (List.getElem?_eq_getElem hj)
    obtain ⟨h1, e1⟩ := List.getElem?_eq_some_iff.mp hp
    obtain ⟨h2, e2⟩ := List.getElem?_eq_some_iff.mp hp2
    have := List.pairwise_iff_getElem.mp o.u i j h1 h2 hij
    rw [e1, e2] at this
    exact q.apart nd q2 this
/-- the shortest by a distance of numbers -/
theorem best_nm {c n i : Nat} {s : Int} {ls : List Leg} (D : Nat → Nat) (hi : i < n) (o : Rs ls) (s0 : 0 ≤ s)
    (hin : ∀ l ∈ ls, ∃ j k, j < n ∧ k < n ∧ l.a = nmk c j ∧ l.b = nmk c k ∧ l.r = s ∧ D k ≤ D j + 1 ∧ D j ≤ D k + 1) (h0 : D i = 0)
    (hp : ∀ j, j < n → j ≠ i → ∃ k, k < n ∧ D j = D k + 1 ∧ riseO ls (nmk c k) (nmk c j) = some s) : ∀ j, j < n → Best ls (fun _ => True) (nmk c i) (nmk c j) (some (s * (D j : Int))) := by
  have way : ∀ m j, j < n → D j ≤ m → Way ls (nmk c i) (nmk c j) (s * (D j : Int)) := by
    intro m
    induction m with
    | zero =>
      intro j hj hm
      by_cases e : j = i
      · rw [e, h0]
        have : s * ((0 : Nat) : Int) = 0 := by simp
        rw [this]; exact .nil _
      · obtain ⟨k, _, hd, _⟩ := hp j hj e
        omega
    | succ m ih =>
      intro j hj hm
      by_cases e : j = i
      · rw [e, h0]
        have : s * ((0 : Nat) : Int) = 0 := by simp
        rw [this]; exact .nil _
      · obtain ⟨k, hk, hd, hr⟩ := hp j hj e
        have := WayS.snoc (ih k hk (by omega)) trivial hr
        have e2 : s * (D k : Int) + s = s * (D j : Int) := by rw [hd, Int.natCast_add, Int.mul_add]; simp
        rw [e2] at this; exact this
  let f : Pl → Option Int := fun x => match (List.range n).find? (fun k => decide (nmk c k = x)) with
    | some k => some (s * (D k : Int))
    | none => none
  have fk : ∀ k, k < n → f (nmk c k) = some (s * (D k : Int)) := fun k hk => by
    have e : (List.range n).find? (fun j => decide (nmk c j = nmk c k)) = some k := by
      cases q : (List.range n).find? (fun j => decide (nmk c j = nmk c k)) with
      | none => exact absurd (decide_eq_true (rfl : nmk c k = nmk c k)) (List.find?_eq_none.mp q k (List.mem_range.mpr hk))
      | some j =>
        have := List.find?_some (p := fun j => decide (nmk c j = nmk c k)) q
        rw [nmk_inj (of_decide_eq_true this)]
    show (match (List.range n).find? (fun j => decide (nmk c j = nmk c k)) with | some k => some (s * (D k : Int)) | none => none) = _
    rw [e]
  have fx : ∀ x d, f x = some d → ∃ k, k < n ∧ x = nmk c k ∧ d = s * (D k : Int) := fun x d h => by
    have h : (match (List.range n).find? (fun k => decide (nmk c k = x)) with | some k => some (s * (D k : Int)) | none => none) = some d := h
    cases q : (List.range n).find? (fun k => decide (nmk c k = x)) with
    | none => rw [q] at h; cases h
    | some j =>
      rw [q] at h
      have := List.find?_some (p := fun k => decide (nmk c k = x)) q
      exact ⟨j, List.mem_range.mp (List.mem_of_find?_eq_some q), (of_decide_eq_true this).symm, (Option.some.inj h).symm⟩
  have B := Best.relax (f := f) (s := nmk c i) o ⟨_, fk i hi, by rw [h0]; simp⟩ (fun x d h => by
    obtain ⟨k, hk, rfl, rfl⟩ := fx x d h
    exact way _ k hk (Nat.le_refl _)) (fun x y d r h1 h2 => by
    obtain ⟨j, hj, rfl, rfl⟩ := fx x d h1
    obtain ⟨l, ml, on, er⟩ := riseO_mem h2
    obtain ⟨j', k', hj', hk', ea, eb, es, d1, d2⟩ := hin l ml
    have step : ∀ {u v : Nat}, D v ≤ D u + 1 → s * (D v : Int) ≤ s * (D u : Int) + s := fun {u v} l => by
      have e2 : s * (D u : Int) + s = s * ((D u : Int) + 1) := by rw [Int.mul_add]; simp
      rw [e2]
      exact Int.mul_le_mul_of_nonneg_left (by omega) s0
    unfold Leg.on at on
    rw [Bool.or_eq_true, Bool.and_eq_true, Bool.and_eq_true, decide_eq_true_eq, decide_eq_true_eq, decide_eq_true_eq, decide_eq_true_eq] at on
    rcases on with ⟨h3, h4⟩ | ⟨h3, h4⟩
    · have e1 : j' = j := nmk_inj (ea.symm.trans h3)
      subst e1
      refine ⟨_, by rw [← h4, eb]; exact fk k' hk', ?_⟩
      rw [← er, es]; exact step d1
    · have e1 : k' = j := nmk_inj (eb.symm.trans h3)
      subst e1
      refine ⟨_, by rw [← h4, ea]; exact fk j' hj', ?_⟩
      rw [← er, es]; exact step d2)
  intro j hj
  have := B (nmk c j)
  rw [fk j hj] at this
  exact this
end Lw
set_option Elab.async false
set_option linter.all false
set_option maxRecDepth 100000
set_option maxHeartbeats 1000000
/-! Lw25: beds and soundings. -/
namespace Lw
open PySem
/-! ### dicts with names as keys -/
/-- the dict's keys are texts or numbers -/
def noTup : Val → Bool
  | .fd kvs => kvs.all fun p => keyS p.1
  | _ => true
theorem okKey_str {s : List Nat} {kvs : List (Val × Val)} (h : (kvs.all fun p => keyS p.1) = true) : okKey (.str s) kvs false := by
  refine ⟨rfl, ?_, fun z => by cases z⟩
  rw [List.all_eq_true] at h ⊢
  intro p m
  have := h p m
  cases e : p.1 <;> rw [e] at this <;> first | rfl | cases this
/-- what stands at a place -/
def bget (v : Val) (p : Pl) : Int := match v with
  | .fd kvs => (match kvGet (.str p) kvs with
    | some (.int d) => d
    | _ => 0)
  | _ => 0
def levV : Val → Bool := intV (-2000000) 2000000
def depV : Val → Bool := intV (-1000000) 1000000
/-- a bed of these places -/
def bedB (ps : List Pl) : Val → Bool
  | .fd kvs => decide (kvs.length = ps.length) && ps.all fun p => (match kvGet (.str p) kvs with
    | some d => levV d
    | none => false)
  | _ => false
theorem bedB_fd {ps : List Pl} {kvs : List (Val × Val)} : bedB ps (.fd kvs) = (decide (kvs.length = ps.length) && ps.all fun p => (match kvGet (.str p) kvs with
    | some d => levV d
    | none => false)) := rfl
theorem bedB_is {ps : List Pl} {v : Val} (h : bedB ps v = true) : ∃ kvs, v = .fd kvs ∧ kvs.length = ps.length ∧ ∀ p ∈ ps, kvGet (.str p) kvs = some (.int (bget v p)) ∧ -2000000 ≤ bget v p ∧ bget v p ≤ 2000000 := by
  unfold bedB at h
  split at h
  · rename_i kvs
    rw [Bool.and_eq_true, decide_eq_true_eq, List.all_eq_true] at h
    refine ⟨kvs, rfl, h.1, fun p m => ?_⟩
    have := h.2 p m
    cases e : kvGet (.str p) kvs with
    | none => rw [e] at this; cases this
    | some d =>
      rw [e] at this
      obtain ⟨i, rfl, i0, i1⟩ := intV_is this
      have b : bget (.fd kvs) p = i := by unfold bget; simp only [e]
      rw [b]; exact ⟨rfl, i0, i1⟩
  · cases h
/-- the dict of these depths -/
def bedK (ps : List Pl) (B : Pl → Int) : List (Val × Val) := ps.map fun p => (.str p, .int (B p))
def bedV (ps : List Pl) (B : Pl → Int) : Val := .fd (bedK ps B)
theorem bedK_get (B : Pl → Int) (p : Pl) : ∀ ps : List Pl, kvGet (.str p) (bedK ps B) = if p ∈ ps then some (.int (B p)) else none
  | [] => by rw [if_neg (by simp)]; rfl
  | q :: r => by
    show (if keq (.str q) (.str p) = true then some (Val.int (B q)) else kvGet (.str p) (bedK r B)) = _
    have e : keq (.str q) (.str p) = decide (q = p) := rfl
    rw [e, bedK_get B p r]
    by_cases h : q = p
    · subst h; simp
    · have h2 : ¬ p = q := fun z => h z.symm
      simp [h, h2]
theorem bedK_keys (ps : List Pl) (B : Pl → Int) : (bedK ps B).all (fun p => keyS p.1) = true := by
  rw [List.all_eq_true]
  intro p m
  obtain ⟨q, _, rfl⟩ := List.mem_map.mp m
  rfl
theorem bedK_put {ps : List Pl} {B : Pl → Int} {p : Pl} {d : Int} (m : p ∈ ps) : kvPut (.str p) (.int d) (bedK ps B) = bedK ps (fun q => if q = p then d else B q) := by
  unfold kvPut
  rw [kv_any, bedK_get, if_pos m, if_pos (show (some (Val.int (B p))).isSome = true from rfl)]
  unfold bedK
  rw [List.map_map]
  refine List.map_congr_left fun q _ => ?_
  have e : keq (.str q) (.str p) = decide (q = p) := rfl
  show (if keq (.str q) (.str p) = true then (Val.str q, Val.int d) else (Val.str q, Val.int (B q))) = (Val.str q, Val.int (if q = p then d else B q))
  rw [e]
  by_cases h : q = p <;> simp [h]
theorem bedK_new {ps : List Pl} {B : Pl → Int} {p : Pl} {d : Int} (m : p ∉ ps) : kvPut (.str p) (.int d) (bedK ps B) = bedK (ps ++ [p]) (fun q => if q = p then d else B q) := by
  rw [put_new (by rw [bedK_get, if_neg m])]
  unfold bedK
  rw [List.map_append]
  congr 1
  · refine List.map_congr_left fun q mq => ?_
    have ne : ¬ q = p := fun e => m (by rw [← e]; exact mq)
    simp [ne]
  · simp
theorem bget_bed {ps : List Pl} {B : Pl → Int} {p : Pl} (m : p ∈ ps) : bget (bedV ps B) p = B p := by
  unfold bget bedV
  simp only [bedK_get, if_pos m]
theorem bed_is {ps : List Pl} {B : Pl → Int} (h : ∀ p ∈ ps, -2000000 ≤ B p ∧ B p ≤ 2000000) : bedB ps (bedV ps B) = true := by
  unfold bedB bedV
  simp only [Bool.and_eq_true, decide_eq_true_eq, List.all_eq_true]
  refine ⟨by unfold bedK; rw [List.length_map], fun p m => ?_⟩
  rw [bedK_get, if_pos m]
  exact intB_t (h p m).1 (h p m).2
theorem bed_ok {ps : List Pl} {B : Pl → Int} (n : ∀ p ∈ ps, nameB p = true) (lp : ps.length ≤ 24) (h : ∀ p ∈ ps, -2000000 ≤ B p ∧ B p ≤ 2000000) : Ok 1 4000 (bedV ps B) := by
  refine (Ok.fd (Okk.of (p := 0) (n := 82) (q := 0) (m := 42) (k := 24) (fun v m => ?_) (by unfold bedK; rw [List.length_map]; exact lp))).mono (by decide) (by decide)
  obtain ⟨q, mq, rfl⟩ := List.mem_map.mp m
  exact ⟨Ok.name (n q mq), .int (by have := h q mq; show (B q).natAbs < _; omega)⟩
/-! ### soundings -/
structure Snd where
  p : Pl
  lo : Int
  hi : Int
def sndV (s : Snd) : Val := .tup [.str s.p, .int s.lo, .int s.hi]
structure SndOk (s : Snd) : Prop where
  n : nameB s.p = true
  l0 : -1000000 ≤ s.lo
  h1 : s.hi ≤ 1000000
  lh : s.lo ≤ s.hi
def leV : Val → Val → Bool
  | .int i, .int j => decide (i ≤ j)
  | _, _ => false
def sndB : Val → Bool
  | .tup [x, y, z] => nameV x && (depV y && (depV z && leV y z))
  | _ => false
theorem snd_is {s : Snd} (o : SndOk s) : sndB (sndV s) = true := by
  have a := o.l0
  have b := o.h1
  have c := o.lh
  show (nameB s.p && (intB (-1000000) 1000000 s.lo && (intB (-1000000) 1000000 s.hi && decide (s.lo ≤ s.hi)))) = true
  rw [o.n, intB_t a (by omega), intB_t (by omega) b, decide_eq_true c]; rfl
theorem sndB_is {v : Val} (h : sndB v = true) : ∃ s, v = sndV s ∧ SndOk s := by
  unfold sndB at h
  split at h
  · rename_i x y z
    rw [Bool.and_eq_true, Bool.and_eq_true, Bool.and_eq_true] at h
    obtain ⟨h1, h2, h3, h4⟩ := h
    obtain ⟨s, rfl, n⟩ := nameV_is h1
    obtain ⟨i, rfl, i0, i1⟩ := intV_is h2
    obtain ⟨j, rfl, j0, j1⟩ := intV_is h3
    exact ⟨⟨s, i, j⟩, rfl, n, i0, j1, of_decide_eq_true h4⟩
  · cases h
theorem snd_ok {s : Snd} (o : SndOk s) : Ok 1 400 (sndV s) := by
  have a := o.l0
  have b := o.h1
  have c := o.lh
  exact (Ok.tup (.cons (Ok.name o.n) (.cons (.int (i := s.lo) (by omega)) (.cons (.int (i := s.hi) (by omega)) .nil)))).mono (by decide) (by decide)
def Snd.has (s : Snd) (d : Int) : Bool := decide (s.lo ≤ d) && decide (d ≤ s.hi)
def lgV (ss : List Snd) : Val := .fl (ss.map sndV)
/-- a log of places of ps -/
structure LogOk (ps : List Pl) (ss : List Snd) : Prop where
  ll : ss.length ≤ 30
  ok : ∀ s ∈ ss, SndOk s
  mp : ∀ s ∈ ss, s.p ∈ ps
/-- as a list, as a tuple -/
def IsLog (v : Val) (ss : List Snd) : Prop := v = .fl (ss.map sndV) ∨ v = .tup (ss.map sndV)
theorem lg_ok {ss : List Snd} (l : ss.length ≤ 30) (o : ∀ s ∈ ss, SndOk s) {v : Val} (i : IsLog v ss) : Ok 2 13000 v := by
  have os := Oks.map (f := sndV) (fun s m => snd_ok (o s m)) l
  rcases i with rfl | rfl
  · exact (Ok.fl os).mono (by decide) (by decide)
  · exact (Ok.tup os).mono (by decide) (by decide)
theorem nod_lg {ss : List Snd} {v : Val} (i : IsLog v ss) : nod v = true := by
  rcases i with rfl | rfl <;> exact nods_map ss fun _ _ => rfl
def logB (v : Val) : Bool := listV 30 v && (itemsV v).all sndB
theorem log_is {ss : List Snd} (l : ss.length ≤ 30) (o : ∀ s ∈ ss, SndOk s) {v : Val} (i : IsLog v ss) : logB v = true := by
  have a : (ss.map sndV).all sndB = true := by
    rw [List.all_eq_true]
    intro x m
    obtain ⟨s, ms, rfl⟩ := List.mem_map.mp m
    exact snd_is (o s ms)
  have b : decide (((ss.map sndV).length : Int) ≤ 30) = true := decide_eq_true (by rw [List.length_map]; omega)
  rcases i with rfl | rfl <;> (show (decide (((ss.map sndV).length : Int) ≤ 30) && (ss.map sndV).all sndB) = true; rw [a, b]; rfl)
/-- the numbers of the soundings that fit -/
def agrN (v : Val) (ss : List Snd) : List (Snd × Nat) := ss.zipIdx.filter fun p => p.1.has (bget v p.1.p)
def agrI (v : Val) (ss : List Snd) : List Val := (agrN v ss).map fun p => .int p.2
/-! ### promises -/
section
variable {h : Hv} {x v : Val} {ps : List Pl} {ls : List Leg} {Q : K1} {Ex : EK}
def sp_is_level : Spec := fun vs h Q _ => ∃ v, vs = [v] ∧ tre v = true ∧ Q (.bl (levV v)) h
theorem is_level_w : sp_is_level [v] h Q Ex = (tre v = true ∧ Q (.bl (levV v)) h) := propext ⟨fun ⟨_, e, q⟩ => by cases e; exact q, fun q => ⟨_, rfl, q⟩⟩
def sp_is_depth : Spec := fun vs h Q _ => ∃ v, vs = [v] ∧ tre v = true ∧ Q (.bl (depV v)) h
theorem is_depth_w : sp_is_depth [v] h Q Ex = (tre v = true ∧ Q (.bl (depV v)) h) := propext ⟨fun ⟨_, e, q⟩ => by cases e; exact q, fun q => ⟨_, rfl, q⟩⟩
def sp_is_bed : Spec := fun vs h Q _ => ∃ x v ps ls, vs = [x, v] ∧ NetIn h x ps ls ∧ ps.length ≤ 24 ∧ tre v = true ∧ noTup v = true ∧ Q (.bl (bedB ps v)) h
theorem is_bed_w (N : NetIn h x ps ls) (lp : ps.length ≤ 24) (t : tre v = true) (n : noTup v = true) (q : Q (.bl (bedB ps v)) h) : sp_is_bed [x, v] h Q Ex := ⟨x, v, ps, ls, rfl, N, lp, t, n, q⟩
def sp_need_bed : Spec := fun vs h Q _ => ∃ x v ps ls, vs = [x, v] ∧ NetIn h x ps ls ∧ ps.length ≤ 24 ∧ tre v = true ∧ noTup v = true ∧ bedB ps v = true ∧ Q .non h
theorem need_bed_w (N : NetIn h x ps ls) (lp : ps.length ≤ 24) (t : tre v = true) (n : noTup v = true) (b : bedB ps v = true) (q : Q .non h) : sp_need_bed [x, v] h Q Ex := ⟨x, v, ps, ls, rfl, N, lp, t, n, b, q⟩
def sp_is_sounding : Spec := fun vs h Q _ => ∃ v, vs = [v] ∧ Good v ∧ Q (.bl (sndB v)) h
theorem is_sounding_w : sp_is_sounding [v] h Q Ex = (Good v ∧ Q (.bl (sndB v)) h) := propext ⟨fun ⟨_, e, q⟩ => by cases e; exact q, fun q => ⟨_, rfl, q⟩⟩
def sp_is_log : Spec := fun vs h Q _ => ∃ v, vs = [v] ∧ Good v ∧ Q (.bl (logB v)) h
theorem is_log_w : sp_is_log [v] h Q Ex = (Good v ∧ Q (.bl (logB v)) h) := propext ⟨fun ⟨_, e, q⟩ => by cases e; exact q, fun q => ⟨_, rfl, q⟩⟩
def sp_need_sounding : Spec := fun vs h Q _ => ∃ x s ps ls, vs = [x, sndV s] ∧ NetIn h x ps ls ∧ SndOk s ∧ s.p ∈ ps ∧ Q .non h
theorem need_sounding_w {s : Snd} (N : NetIn h x ps ls) (o : SndOk s) (m : s.p ∈ ps) (q : Q .non h) : sp_need_sounding [x, sndV s] h Q Ex := ⟨x, s, ps, ls, rfl, N, o, m, q⟩
def sp_need_log : Spec := fun vs h Q _ => ∃ x v ps ls ss, vs = [x, v] ∧ NetIn h x ps ls ∧ LogOk ps ss ∧ IsLog v ss ∧ Q .non h
theorem need_log_w {ss : List Snd} (N : NetIn h x ps ls) (o : LogOk ps ss) (i : IsLog v ss) (q : Q .non h) : sp_need_log [x, v] h Q Ex := ⟨x, v, ps, ls, ss, rfl, N, o, i, q⟩
def sp_is_within : Spec := fun vs h Q _ => ∃ d s, vs = [.int d, sndV s] ∧ Q (.bl (s.has d)) h
theorem is_within_w {d : Int} {s : Snd} (q : Q (.bl (s.has d)) h) : sp_is_within [.int d, sndV s] h Q Ex := ⟨d, s, rfl, q⟩
def sp_agrees : Spec := fun vs h Q _ => ∃ x v s ps ls, vs = [x, v, sndV s] ∧ NetIn h x ps ls ∧ ps.length ≤ 24 ∧ tre v = true ∧ noTup v = true ∧ bedB ps v = true ∧ SndOk s ∧ s.p ∈ ps ∧ Q (.bl (s.has (bget v s.p))) h
def sp_agreed : Spec := fun vs h Q _ => ∃ v w ss ps, vs = [v, w] ∧ noTup v = true ∧ bedB ps v = true ∧ LogOk ps ss ∧ IsLog w ss ∧ Q (.fl (agrI v ss)) h
def sp_agreed_r : Spec := fun vs h Q _ => ∃ v w ss ps, vs = [v, w] ∧ noTup v = true ∧ bedB ps v = true ∧ LogOk ps ss ∧ IsLog w ss ∧ Q (.ref h.nx) (h.al (.lst (agrI v ss)))
def sp_agreeing : Spec := fun vs h Q _ => ∃ x v w ss ps ls, vs = [x, v, w] ∧ NetIn h x ps ls ∧ ps.length ≤ 24 ∧ tre v = true ∧ noTup v = true ∧ bedB ps v = true ∧ LogOk ps ss ∧ IsLog w ss ∧ Q (.ref h.nx) (h.al (.lst (agrI v ss)))
theorem agreed_w {w : Val} {ss : List Snd} (n : noTup v = true) (b : bedB ps v = true) (o : LogOk ps ss) (i : IsLog w ss) (q : Q (.fl (agrI v ss)) h) : sp_agreed [v, w] h Q Ex := ⟨v, w, ss, ps, rfl, n, b, o, i, q⟩
theorem agrees_w {s : Snd} (N : NetIn h x ps ls) (lp : ps.length ≤ 24) (t : tre v = true) (n : noTup v = true) (b : bedB ps v = true) (o : SndOk s) (m : s.p ∈ ps) (q : Q (.bl (s.has (bget v s.p))) h) : sp_agrees [x, v, sndV s] h Q Ex := ⟨x, v, s, ps, ls, rfl, N, lp, t, n, b, o, m, q⟩
theorem agreeing_w {w : Val} {ss : List Snd} (N : NetIn h x ps ls) (lp : ps.length ≤ 24) (t : tre v = true) (n : noTup v = true) (b : bedB ps v = true) (o : LogOk ps ss) (i : IsLog w ss) (q : Q (.ref h.nx) (h.al (.lst (agrI v ss)))) : sp_agreeing [x, v, w] h Q Ex := ⟨x, v, w, ss, ps, ls, rfl, N, lp, t, n, b, o, i, q⟩
end
end Lw
set_option Elab.async false
set_option linter.all false
set_option maxRecDepth 100000
set_option maxHeartbeats 1000000
/-! Lw26: what laws draw: beds, soundings. -/
namespace Lw
open PySem
/-- an allowed bed, far from the bounds -/
structure BedOk (ps : List Pl) (ls : List Leg) (B : Pl → Int) : Prop where
  lev : ∀ p ∈ ps, -1000000 ≤ B p ∧ B p ≤ 1130000
  al : ∀ l ∈ ls, B l.a ≤ B l.b + l.r ∧ B l.b ≤ B l.a + l.r
  top : ∀ p ∈ ps, B p ≤ 870039 + 10000 * ((ps.length : Int) + 1)
/-! ### the least of some cones -/
abbrev Cone := Pl × Int
def cnV (c : Cone) : Val := .tup [.str c.1, .int c.2]
def nearL (F : Pl → Pl → Option Int) (cs : List Cone) (p : Pl) : List Int := (cs.filter fun c => (F c.1 p).isSome).map fun c => c.2 + (F c.1 p).getD 0
def minL (base : Int) : List Int → Int
  | [] => base
  | x :: r => minI x r
def coneB (F : Pl → Pl → Option Int) (cs : List Cone) (base : Int) (p : Pl) : Int := minL base (nearL F cs p)
theorem minI_le : ∀ (r : List Int) (m : Int), minI m r ≤ m ∧ ∀ x ∈ r, minI m r ≤ x
  | [], m => ⟨Int.le_refl _, fun _ z => nomatch z⟩
  | y :: r, m => by
    obtain ⟨h1, h2⟩ := minI_le r (if y < m then y else m)
    refine ⟨?_, fun x mx => ?_⟩
    · show minI (if y < m then y else m) r ≤ m
      split at h1 <;> split <;> omega
    · show minI (if y < m then y else m) r ≤ x
      rcases List.mem_cons.mp mx with rfl | mx
      · split at h1 <;> split <;> omega
      · exact h2 x mx
theorem minI_mem : ∀ (r : List Int) (m : Int), minI m r = m ∨ minI m r ∈ r
  | [], m => .inl rfl
  | y :: r, m => by
    show minI (if y < m then y else m) r = m ∨ minI (if y < m then y else m) r ∈ y :: r
    rcases minI_mem r (if y < m then y else m) with h | h
    · rw [h]
      split
      · exact .inr List.mem_cons_self
      · exact .inl rfl
    · exact .inr (List.mem_cons_of_mem _ h)
theorem minL_mem {base : Int} {l : List Int} (h : l ≠ []) : minL base l ∈ l := by
  cases l with
  | nil => exact absurd rfl h
  | cons x r =>
    rcases minI_mem r x with e | m
    · show minI x r ∈ x :: r
      rw [e]; exact List.mem_cons_self
    · exact List.mem_cons_of_mem _ m
theorem minL_le {base : Int} {l : List Int} {x : Int} (h : x ∈ l) : minL base l ≤ x := by
  cases l with
  | nil => cases h
  | cons y r =>
    rcases List.mem_cons.mp h with rfl | h
    · exact (minI_le r _).1
    · exact (minI_le r y).2 x h
theorem Way.leg {ls : List Leg} {a b : Pl} {d : Int} {l : Leg} (one : ls.Pairwise fun l k => l.on k.a k.b = false) (m : l ∈ ls) (w : Way ls a l.a d) : Way ls a l.b (d + l.r) := .snoc w trivial (riseO_leg one m)
/-- a leg's rise holds between what is shortest to both its ends -/
theorem Best.leg {ps : List Pl} {ls : List Leg} {a : Pl} {l : Leg} {x y : Option Int} (o : NetOk ps ls) (m : l ∈ ls) (hx : Best ls (fun _ => True) a l.a x) (hy : Best ls (fun _ => True) a l.b y) : x.isSome = y.isSome ∧ ∀ d e, x = some d → y = some e → d ≤ e + l.r ∧ e ≤ d + l.r := by
  have hr := riseO_leg o.one m
  have hr2 : riseO ls l.b l.a = some l.r := by rw [riseO_symm]; exact hr
  cases x with
  | none => cases y with
    | none => exact ⟨rfl, fun _ _ z => nomatch z⟩
    | some e => exact absurd (WayS.snoc hy.1 trivial hr2) (hx _)
  | some d => cases y with
    | none => exact absurd (WayS.snoc hx.1 trivial hr) (hy _)
    | some e =>
      refine ⟨rfl, fun d' e' h1 h2 => ?_⟩
      cases h1; cases h2
      exact ⟨hx.2 _ (WayS.snoc hy.1 trivial hr2), hy.2 _ (WayS.snoc hx.1 trivial hr)⟩
/-- F tells what is shortest on the net -/
def FarOk (ps : List Pl) (ls : List Leg) (F : Pl → Pl → Option Int) : Prop := ∀ a ∈ ps, ∀ b ∈ ps, Best ls (fun _ => True) a b (F a b)
theorem Best.bound2 {ps : List Pl} {ls : List Leg} {a b : Pl} {d : Int} (o : NetOk ps ls) (h : Best ls (fun _ => True) a b (some d)) : d ≤ 10000 * ((ps.length : Int) + 1) := by
  obtain ⟨e, le, w⟩ := (h.1.inner o.ends).short o.rs ps.length (Nat.le_refl _) (fun _ z => z)
  have := h.2 e (w.mono fun _ _ => trivial)
  omega
theorem cone_ok {ps : List Pl} {ls : List Leg} {F : Pl → Pl → Option Int} {cs : List Cone} {base : Int} (o : NetOk ps ls) (hF : FarOk ps ls F) (b0 : -1000000 ≤ base ∧ base ≤ 870000) (hc : ∀ c ∈ cs, c.1 ∈ ps ∧ base ≤ c.2 ∧ c.2 ≤ base + 39) : BedOk ps ls (coneB F cs base) := by
  have near : ∀ {p x}, p ∈ ps → x ∈ nearL F cs p → ∃ c d, c ∈ cs ∧ F c.1 p = some d ∧ x = c.2 + d ∧ 0 ≤ d ∧ d ≤ 250000 ∧ d ≤ 10000 * ((ps.length : Int) + 1) := fun {p x} mp mx => by
    obtain ⟨c, mc, rfl⟩ := List.mem_map.mp mx
    obtain ⟨mc, s⟩ := List.mem_filter.mp mc
    obtain ⟨d, e⟩ := Option.isSome_iff_exists.mp s
    have bd := Best.bound o (e ▸ hF c.1 (hc c mc).1 p mp)
    exact ⟨c, d, mc, e, by rw [e]; rfl, bd.1, bd.2, Best.bound2 o (e ▸ hF c.1 (hc c mc).1 p mp)⟩
  have mem : ∀ {p c d}, c ∈ cs → F c.1 p = some d → c.2 + d ∈ nearL F cs p := fun {p c d} mc e => List.mem_map.mpr ⟨c, List.mem_filter.mpr ⟨mc, by rw [e]; rfl⟩, by rw [e]; rfl⟩
  refine ⟨fun p mp => ?_, fun l ml => ?_, fun p mp => ?_⟩
  · unfold coneB
    by_cases h : nearL F cs p = []
    · rw [h]; show -1000000 ≤ base ∧ base ≤ 1130000; omega
    · obtain ⟨c, d, mc, e, ex, d0, d1, _⟩ := near mp (minL_mem (base := base) h)
      have := hc c mc
      rw [ex]; omega
  · have lo := o.ok l ml
    have half : ∀ {p q : Pl} {r : Int}, p ∈ ps → q ∈ ps → (∀ a ∈ ps, (F a p).isSome = (F a q).isSome ∧ ∀ d e, F a p = some d → F a q = some e → d ≤ e + r ∧ e ≤ d + r) → 0 ≤ r → coneB F cs base p ≤ coneB F cs base q + r := fun {p q r} mp mq hh r0 => by
      unfold coneB
      by_cases h : nearL F cs q = []
      · have h2 : nearL F cs p = [] := by
          cases e2 : nearL F cs p with
          | nil => rfl
          | cons x t =>
            obtain ⟨c, d, mc, e, _⟩ := near (x := x) mp (by rw [e2]; exact List.mem_cons_self)
            have := (hh c.1 (hc c mc).1).1
            rw [e] at this
            obtain ⟨d2, e3⟩ := Option.isSome_iff_exists.mp this.symm
            have := mem mc e3
            rw [h] at this; cases this
        rw [h, h2]
        show base ≤ base + r
        omega
      · obtain ⟨c, d, mc, e, ex, _⟩ := near mq (minL_mem (base := base) h)
        have hh := hh c.1 (hc c mc).1
        have s := hh.1
        rw [e] at s
        obtain ⟨d2, e3⟩ := Option.isSome_iff_exists.mp s
        have := minL_le (base := base) (mem mc e3)
        have := hh.2 d2 d e3 e
        rw [ex]; omega
    have both : ∀ a ∈ ps, (F a l.a).isSome = (F a l.b).isSome ∧ ∀ d e, F a l.a = some d → F a l.b = some e → d ≤ e + l.r ∧ e ≤ d + l.r := fun a ma => Best.leg o ml (hF a ma _ lo.ma) (hF a ma _ lo.mb)
    exact ⟨half lo.ma lo.mb both lo.r0, half lo.mb lo.ma (fun a ma => ⟨(both a ma).1.symm, fun d e h1 h2 => ((both a ma).2 e d h2 h1).symm⟩) lo.r0⟩
  · unfold coneB
    by_cases h : nearL F cs p = []
    · rw [h]; show base ≤ _; omega
    · obtain ⟨c, d, mc, e, ex, d0, _, d2⟩ := near mp (minL_mem (base := base) h)
      have := hc c mc
      rw [ex]; omega
def keptI (d : Int) : Int := if d < -1000000 then -1000000 else if 1000000 < d then 1000000 else d
theorem keptI_b (d : Int) : -1000000 ≤ keptI d ∧ keptI d ≤ 1000000 := by unfold keptI; split <;> (try split) <;> omega
theorem keptI_mono {d e : Int} (h : d ≤ e) : keptI d ≤ keptI e := by unfold keptI; split <;> split <;> (try split) <;> omega
/-! ### promises -/
def farV (ps : List Pl) (F : Pl → Pl → Option Int) : Val := .fd (farK ps ps F)
def sp_law_bed : Spec := fun vs h Q _ => ∃ (h0 : Hv) (b : Nat) (t : Bx) (c : Nat) (ps : List Pl) (ls : List Leg) (F : Pl → Pl → Option Int), vs = [.ref b, plV ps, farV ps F] ∧ h = h0.bx b t ∧ b < h0.nx ∧ okB c t ∧ c < 800000 ∧ NetOk ps ls ∧ FarOk ps ls F ∧
  ∀ (B : Pl → Int) (t' : Bx), okB (c + 20) t' → BedOk ps ls B → Q (bedV ps B) (h0.bx b t')
theorem lbed_of {h0 : Hv} {b c : Nat} {t : Bx} {ps : List Pl} {ls : List Leg} {F : Pl → Pl → Option Int} {Q : K1} {Ex : EK} (hb : b < h0.nx) (ok : okB c t) (lc : c < 800000) (o : NetOk ps ls) (hF : FarOk ps ls F)
    (k : ∀ (B : Pl → Int) (t' : Bx), okB (c + 20) t' → BedOk ps ls B → Q (bedV ps B) (h0.bx b t')) : sp_law_bed [.ref b, plV ps, farV ps F] (h0.bx b t) Q Ex := ⟨h0, b, t, c, ps, ls, F, rfl, rfl, hb, ok, lc, o, hF, k⟩
def sp_law_bed_r : Spec := fun vs h Q _ => ∃ (h0 : Hv) (b : Nat) (t : Bx) (c : Nat) (ps : List Pl) (ls : List Leg) (F : Pl → Pl → Option Int), vs = [.ref b, plV ps, farV ps F] ∧ h = h0.bx b t ∧ b < h0.nx ∧ okB c t ∧ c < 800000 ∧ NetOk ps ls ∧ FarOk ps ls F ∧
  ∀ (h1 : Hv) (n : Nat) (B : Pl → Int) (t' : Bx), okB (c + 20) t' → BedOk ps ls B → b < h1.nx → n ≠ b → h1.g n = some (.dic (bedK ps B) false) → Q (.ref n) (h1.bx b t')
theorem lbedr_of {h0 : Hv} {b c : Nat} {t : Bx} {ps : List Pl} {ls : List Leg} {F : Pl → Pl → Option Int} {Q : K1} {Ex : EK} (hb : b < h0.nx) (ok : okB c t) (lc : c < 800000) (o : NetOk ps ls) (hF : FarOk ps ls F)
    (k : ∀ (h1 : Hv) (n : Nat) (B : Pl → Int) (t' : Bx), okB (c + 20) t' → BedOk ps ls B → b < h1.nx → n ≠ b → h1.g n = some (.dic (bedK ps B) false) → Q (.ref n) (h1.bx b t')) : sp_law_bed_r [.ref b, plV ps, farV ps F] (h0.bx b t) Q Ex := ⟨h0, b, t, c, ps, ls, F, rfl, rfl, hb, ok, lc, o, hF, k⟩
theorem far_of {h : Hv} {ps : List Pl} {ls : List Leg} {Q : K1} {Ex : EK} (o : NetOk ps ls) (k : ∀ F, FarOk ps ls F → Q (farV ps F) h) : sp_law_far [plV ps, llV ls] h Q Ex := ⟨ps, ls, rfl, o, k⟩
def sp_law_kept : Spec := fun vs h Q _ => ∃ d, vs = [.int d] ∧ Q (.int (keptI d)) h
theorem kept_w {d : Int} {h : Hv} {Q : K1} {Ex : EK} : sp_law_kept [.int d] h Q Ex = Q (.int (keptI d)) h := propext ⟨fun ⟨_, e, q⟩ => by cases e; exact q, fun q => ⟨_, rfl, q⟩⟩
/-- a log of at most `many` soundings of a bed -/
def sp_law_log : Spec := fun vs h Q _ => ∃ (h0 : Hv) (b : Nat) (t : Bx) (c : Nat) (ps : List Pl) (B : Pl → Int) (many worst : Int), vs = [.ref b, plV ps, bedV ps B, .int many, .int worst] ∧ h = h0.bx b t ∧ b < h0.nx ∧ okB c t ∧ c < 800000 ∧ (∀ p ∈ ps, nameB p = true) ∧ ps.length ≤ 24 ∧ 0 ≤ many ∧ many ≤ 30 ∧ 0 ≤ worst ∧ worst ≤ 100000 ∧
  ∀ (ss : List Snd) (t' : Bx), okB (c + 300) t' → ((ss.length : Int) ≤ many ∧ (0 < ps.length → (ss.length : Int) = many)) → LogOk ps ss → (worst = 0 → ∀ s ∈ ss, s.lo ≤ keptI (B s.p) ∧ keptI (B s.p) ≤ s.hi) → Q (lgV ss) (h0.bx b t')
theorem llog_of {h0 : Hv} {b c : Nat} {t : Bx} {ps : List Pl} {B : Pl → Int} {many worst : Int} {Q : K1} {Ex : EK} (hb : b < h0.nx) (ok : okB c t) (lc : c < 800000) (n : ∀ p ∈ ps, nameB p = true) (lp : ps.length ≤ 24) (m0 : 0 ≤ many) (m1 : many ≤ 30) (w0 : 0 ≤ worst) (w1 : worst ≤ 100000)
    (k : ∀ (ss : List Snd) (t' : Bx), okB (c + 300) t' → ((ss.length : Int) ≤ many ∧ (0 < ps.length → (ss.length : Int) = many)) → LogOk ps ss → (worst = 0 → ∀ s ∈ ss, s.lo ≤ keptI (B s.p) ∧ keptI (B s.p) ≤ s.hi) → Q (lgV ss) (h0.bx b t')) : sp_law_log [.ref b, plV ps, bedV ps B, .int many, .int worst] (h0.bx b t) Q Ex :=
  ⟨h0, b, t, c, ps, B, many, worst, rfl, rfl, hb, ok, lc, n, lp, m0, m1, w0, w1, k⟩
def sp_law_log_r : Spec := fun vs h Q _ => ∃ (h0 : Hv) (b : Nat) (t : Bx) (c : Nat) (ps : List Pl) (B : Pl → Int) (many worst : Int), vs = [.ref b, plV ps, bedV ps B, .int many, .int worst] ∧ h = h0.bx b t ∧ b < h0.nx ∧ okB c t ∧ c < 800000 ∧ (∀ p ∈ ps, nameB p = true) ∧ ps.length ≤ 24 ∧ 0 ≤ many ∧ many ≤ 30 ∧ 0 ≤ worst ∧ worst ≤ 100000 ∧
  ∀ (ss : List Snd) (t' : Bx), okB (c + 300) t' → ((ss.length : Int) ≤ many ∧ (0 < ps.length → (ss.length : Int) = many)) → LogOk ps ss → (worst = 0 → ∀ s ∈ ss, s.lo ≤ keptI (B s.p) ∧ keptI (B s.p) ≤ s.hi) → Q (.ref h0.nx) ((h0.al (.lst (ss.map sndV))).bx b t')
theorem llogr_of {h0 : Hv} {b c : Nat} {t : Bx} {ps : List Pl} {B : Pl → Int} {many worst : Int} {Q : K1} {Ex : EK} (hb : b < h0.nx) (ok : okB c t) (lc : c < 800000) (n : ∀ p ∈ ps, nameB p = true) (lp : ps.length ≤ 24) (m0 : 0 ≤ many) (m1 : many ≤ 30) (w0 : 0 ≤ worst) (w1 : worst ≤ 100000)
    (k : ∀ (ss : List Snd) (t' : Bx), okB (c + 300) t' → ((ss.length : Int) ≤ many ∧ (0 < ps.length → (ss.length : Int) = many)) → LogOk ps ss → (worst = 0 → ∀ s ∈ ss, s.lo ≤ keptI (B s.p) ∧ keptI (B s.p) ≤ s.hi) → Q (.ref h0.nx) ((h0.al (.lst (ss.map sndV))).bx b t')) : sp_law_log_r [.ref b, plV ps, bedV ps B, .int many, .int worst] (h0.bx b t) Q Ex :=
  ⟨h0, b, t, c, ps, B, many, worst, rfl, rfl, hb, ok, lc, n, lp, m0, m1, w0, w1, k⟩
end Lw
set_option Elab.async false
set_option linter.all false
set_option maxRecDepth 100000
/-! Lw27: promises of what asks for a net, and for two of its places. -/
namespace Lw
open PySem
def sp_need_net : Spec := fun vs h Q _ => ∃ x ps ls, vs = [x] ∧ NetIn h x ps ls ∧ Q .non h
theorem need_net_w {h : Hv} {x : Val} {ps : List (List Nat)} {ls : List Leg} {Q : K1} {Ex : EK} (N : NetIn h x ps ls) (q : Q .non h) : sp_need_net [x] h Q Ex := ⟨x, ps, ls, rfl, N, q⟩
def sp_need_two : Spec := fun vs h Q _ => ∃ x a b ps ls, vs = [x, .str a, .str b] ∧ NetIn h x ps ls ∧ a ∈ ps ∧ b ∈ ps ∧ Q .non h
theorem need_two_w {h : Hv} {x : Val} {a b : Pl} {ps : List (List Nat)} {ls : List Leg} {Q : K1} {Ex : EK} (N : NetIn h x ps ls) (ma : a ∈ ps) (mb : b ∈ ps) (q : Q .non h) : sp_need_two [x, .str a, .str b] h Q Ex := ⟨x, a, b, ps, ls, rfl, N, ma, mb, q⟩
theorem bedK_tre (ps : List Pl) (B : Pl → Int) : trek (bedK ps B) = true := by
  induction ps with
  | nil => rfl
  | cons p r ih =>
    show (tre (.str p) && tre (.int (B p)) && trek (bedK r B)) = true
    rw [ih]; rfl
end Lw
set_option Elab.async false
set_option linter.all false
set_option maxRecDepth 100000
set_option maxHeartbeats 1000000
/-! Lw28: two soundings. -/
namespace Lw
open PySem
/-- t lies too deep for s, this far away -/
def deepB (x : Option Int) (s t : Snd) : Bool := match x with
  | some d => decide (t.lo > s.hi + d)
  | none => false
def bI (b : Bool) : Int := if b = true then 1 else 0
/-- the bed's steps are no steeper than the legs -/
def alB (ps : List Pl) (ls : List Leg) (v : Val) : Bool := bedB ps v && ls.all fun l => decide (bget v l.a ≤ bget v l.b + l.r) && decide (bget v l.b ≤ bget v l.a + l.r)
def sp_reach_from : Spec := fun vs h Q _ => ∃ ps ls s, vs = [netV ps ls, .str s] ∧ NetOk ps ls ∧ s ∈ ps ∧ ∀ (f : Pl → Option Int) (l : List (Pl × Val)), (∀ x, lGet x l = (f x).map .int) → (∀ x, Best ls (fun _ => True) s x (f x)) → (∀ p ∈ l, tre p.2 = true) → Q (.fd (skv l)) h
def sp_reach : Spec := fun vs h Q _ => ∃ ps ls a b, vs = [netV ps ls, .str a, .str b] ∧ NetOk ps ls ∧ a ∈ ps ∧ b ∈ ps ∧ ∀ x, Best ls (fun _ => True) a b x → Q (optV x) h
theorem reach_w {h : Hv} {a b : Pl} {ps : List (List Nat)} {ls : List Leg} {Q : K1} {Ex : EK} (o : NetOk ps ls) (ma : a ∈ ps) (mb : b ∈ ps) (q : ∀ x, Best ls (fun _ => True) a b x → Q (optV x) h) : sp_reach [netV ps ls, .str a, .str b] h Q Ex := ⟨ps, ls, a, b, rfl, o, ma, mb, q⟩
theorem trek_get' {p : Pl} {d : Val} : ∀ {kvs : List (Val × Val)}, trek kvs = true → kvGet (.str p) kvs = some d → tre d = true
  | (c, v) :: r, t, e => by
    have t : (tre c && tre v && trek r) = true := t
    rw [Bool.and_eq_true, Bool.and_eq_true] at t
    have e : (if keq c (.str p) = true then some v else kvGet (.str p) r) = some d := e
    by_cases h : keq c (.str p) = true
    · rw [if_pos h] at e; cases e; exact t.1.2
    · rw [if_neg h] at e; exact trek_get' t.2 e
theorem fil_none {α β : Type} (p : α → Bool) (f : α → β) : ∀ l : List α, ((l.filter p).map f).isEmpty = l.all fun x => !p x
  | [] => rfl
  | x :: r => by
    rw [List.all_cons, ← fil_none p f r]
    cases h : p x with
    | true => rw [List.filter_cons_of_pos h]; rfl
    | false => rw [List.filter_cons_of_neg (by rw [h]; decide)]; rfl
section
variable {h : Hv} {x v : Val} {ps : List Pl} {ls : List Leg} {Q : K1} {Ex : EK} {F : Pl → Pl → Option Int} {s t : Snd}
def sp_is_too_deep : Spec := fun vs h Q _ => ∃ s t x, vs = [sndV s, sndV t, optV x] ∧ SndOk s ∧ SndOk t ∧ (∀ d, x = some d → 0 ≤ d ∧ d ≤ 250000) ∧ Q (.bl (deepB x s t)) h
theorem deep_w {x : Option Int} (os : SndOk s) (ot : SndOk t) (b : ∀ d, x = some d → 0 ≤ d ∧ d ≤ 250000) (q : Q (.bl (deepB x s t)) h) : sp_is_too_deep [sndV s, sndV t, optV x] h Q Ex := ⟨s, t, x, rfl, os, ot, b, q⟩
def sp_law_up : Spec := fun vs h Q _ => ∃ ps ls F s t, vs = [farV ps F, sndV s, sndV t] ∧ NetOk ps ls ∧ FarOk ps ls F ∧ SndOk s ∧ SndOk t ∧ s.p ∈ ps ∧ t.p ∈ ps ∧ Q (.bl (deepB (F s.p t.p) s t)) h
theorem up_w (o : NetOk ps ls) (hF : FarOk ps ls F) (os : SndOk s) (ot : SndOk t) (ms : s.p ∈ ps) (mt : t.p ∈ ps) (q : Q (.bl (deepB (F s.p t.p) s t)) h) : sp_law_up [farV ps F, sndV s, sndV t] h Q Ex := ⟨ps, ls, F, s, t, rfl, o, hF, os, ot, ms, mt, q⟩
def sp_clash : Spec := fun vs h Q _ => ∃ ps ls s t, vs = [netV ps ls, sndV s, sndV t] ∧ NetOk ps ls ∧ SndOk s ∧ SndOk t ∧ s.p ∈ ps ∧ t.p ∈ ps ∧ ∀ x, Best ls (fun _ => True) s.p t.p x → Q (.int (bI (deepB x s t) - bI (deepB x t s))) h
theorem clash_w (o : NetOk ps ls) (os : SndOk s) (ot : SndOk t) (ms : s.p ∈ ps) (mt : t.p ∈ ps) (q : ∀ x, Best ls (fun _ => True) s.p t.p x → Q (.int (bI (deepB x s t) - bI (deepB x t s))) h) : sp_clash [netV ps ls, sndV s, sndV t] h Q Ex := ⟨ps, ls, s, t, rfl, o, os, ot, ms, mt, q⟩
def sp_law_is_bed : Spec := fun vs h Q _ => ∃ ps v, vs = [plV ps, v] ∧ ps.length ≤ 24 ∧ tre v = true ∧ noTup v = true ∧ Q (.bl (bedB ps v)) h
theorem lis_bed_w (lp : ps.length ≤ 24) (t : tre v = true) (n : noTup v = true) (q : Q (.bl (bedB ps v)) h) : sp_law_is_bed [plV ps, v] h Q Ex := ⟨ps, v, rfl, lp, t, n, q⟩
def sp_law_is_allowed : Spec := fun vs h Q _ => ∃ ps ls v, vs = [plV ps, llV ls, v] ∧ NetOk ps ls ∧ tre v = true ∧ noTup v = true ∧ Q (.bl (alB ps ls v)) h
theorem lallow_w (o : NetOk ps ls) (t : tre v = true) (n : noTup v = true) (q : Q (.bl (alB ps ls v)) h) : sp_law_is_allowed [plV ps, llV ls, v] h Q Ex := ⟨ps, ls, v, rfl, o, t, n, q⟩
def sp_law_near_edge : Spec := fun vs h Q _ => ∃ (h0 : Hv) (b : Nat) (t : Bx) (c : Nat) (ps : List Pl) (ls : List Leg) (F : Pl → Pl → Option Int) (ss : List Snd), vs = [.ref b, plV ps, farV ps F, lgV ss] ∧ h = h0.bx b t ∧ b < h0.nx ∧ okB c t ∧ c < 800000 ∧ NetOk ps ls ∧ FarOk ps ls F ∧ ss.length ≤ 29 ∧ LogOk ps ss ∧
  ∀ (us : List Snd) (t' : Bx), okB (c + 10) t' → LogOk ps us → ss.length ≤ us.length → us.length ≤ ss.length + 1 → (ss = [] → us = []) → Q (lgV us) (h0.bx b t')
theorem edge_w {h0 : Hv} {b c : Nat} {t : Bx} {ss : List Snd} (hb : b < h0.nx) (ok : okB c t) (lc : c < 800000) (o : NetOk ps ls) (hF : FarOk ps ls F) (l : ss.length ≤ 29) (lo : LogOk ps ss)
    (k : ∀ (us : List Snd) (t' : Bx), okB (c + 10) t' → LogOk ps us → ss.length ≤ us.length → us.length ≤ ss.length + 1 → (ss = [] → us = []) → Q (lgV us) (h0.bx b t')) : sp_law_near_edge [.ref b, plV ps, farV ps F, lgV ss] (h0.bx b t) Q Ex :=
  ⟨h0, b, t, c, ps, ls, F, ss, rfl, rfl, hb, ok, lc, o, hF, l, lo, k⟩
def sp_law_stand : Spec := fun vs h Q _ => ∃ (h0 : Hv) (b : Nat) (t : Bx) (c : Nat) (most many worst : Int), vs = [.ref b, .int most, .int many, .int worst] ∧ h = h0.bx b t ∧ b < h0.nx ∧ okB c t ∧ c < 700000 ∧ 3 ≤ most ∧ most ≤ 12 ∧ 0 ≤ many ∧ many ≤ 30 ∧ 0 ≤ worst ∧ worst ≤ 100000 ∧
  ∀ (ps : List Pl) (ls : List Leg) (F : Pl → Pl → Option Int) (ss : List Snd) (t' : Bx), okB (c + 2000) t' → NetOk ps ls → 0 < ps.length → FarOk ps ls F → LogOk ps ss → (ss.length : Int) ≤ many → (ps.length : Int) ≤ most → Q (.fl [plV ps, llV ls, farV ps F, lgV ss]) (h0.bx b t')
theorem stand_of {h0 : Hv} {b c : Nat} {t : Bx} {most many worst : Int} (hb : b < h0.nx) (ok : okB c t) (lc : c < 700000) (a0 : 3 ≤ most) (a1 : most ≤ 12) (m0 : 0 ≤ many) (m1 : many ≤ 30) (w0 : 0 ≤ worst) (w1 : worst ≤ 100000)
    (k : ∀ (ps : List Pl) (ls : List Leg) (F : Pl → Pl → Option Int) (ss : List Snd) (t' : Bx), okB (c + 2000) t' → NetOk ps ls → 0 < ps.length → FarOk ps ls F → LogOk ps ss → (ss.length : Int) ≤ many → (ps.length : Int) ≤ most → Q (.fl [plV ps, llV ls, farV ps F, lgV ss]) (h0.bx b t')) : sp_law_stand [.ref b, .int most, .int many, .int worst] (h0.bx b t) Q Ex :=
  ⟨h0, b, t, c, most, many, worst, rfl, rfl, hb, ok, lc, a0, a1, m0, m1, w0, w1, k⟩
end
/-- the box, and all that stood keeps standing -/
def sp_law_box_k : Spec := fun vs h Q _ => ∃ i, vs = [.int i] ∧ ∀ (h0 : Hv) (t : Bx), h.nx < h0.nx → okB 0 t → (∀ n, n < h.nx → h0.g n = h.g n) → Q (.ref h.nx) (h0.bx h.nx t)
theorem boxk_w {i : Int} {h : Hv} {Q : K1} {Ex : EK} (q : ∀ (h0 : Hv) (t : Bx), h.nx < h0.nx → okB 0 t → (∀ n, n < h.nx → h0.g n = h.g n) → Q (.ref h.nx) (h0.bx h.nx t)) : sp_law_box_k [.int i] h Q Ex := ⟨_, rfl, q⟩
end Lw
set_option Elab.async false
set_option linter.all false
set_option maxRecDepth 100000
set_option maxHeartbeats 1000000
/-! Lw29: the least bed over some soundings. -/
namespace Lw
open PySem
theorem cut_but1 {α : Type} (s : List α) : cut s none (some (-1)) = s.take (s.length - 1) := by
  unfold cut
  have e : HT.sIx s.length s.length (some (-1)) = s.length - 1 := by
    show (if (-1 : Int) < 0 then ((-1 : Int) + (s.length : Int)).toNat else min (-1 : Int).toNat s.length) = _
    rw [if_pos (by decide)]; omega
  rw [HT.sIx_none, e, List.drop_zero]; rfl
theorem trek_all : ∀ {l : List (Val × Val)}, (∀ p ∈ l, tre p.1 = true ∧ tre p.2 = true) → trek l = true
  | [], _ => rfl
  | p :: r, hp => by
    obtain ⟨h1, h2⟩ := hp p List.mem_cons_self
    show (tre p.1 && tre p.2 && trek r) = true
    rw [h1, h2, trek_all fun x m => hp x (List.mem_cons_of_mem _ m)]; rfl
theorem farV_tre (ps : List Pl) (F : Pl → Pl → Option Int) : tre (farV ps F) = true := by
  show trek (farK ps ps F) = true
  refine trek_all fun p m => ?_
  obtain ⟨a, _, m⟩ := List.mem_flatMap.mp m
  obtain ⟨b, _, rfl⟩ := List.mem_map.mp m
  exact ⟨rfl, by show tre (optV (F a b)) = true; cases F a b <;> rfl⟩
theorem bedV_tre (ps : List Pl) (B : Pl → Int) : tre (bedV ps B) = true := bedK_tre ps B
theorem llV_tre (ls : List Leg) : tre (llV ls) = true := tres_map _ fun _ _ => rfl
theorem plV_tre (ps : List Pl) : tre (plV ps) = true := tres_map _ fun _ _ => rfl
theorem lgV_tre (ss : List Snd) : tre (lgV ss) = true := tres_map _ fun _ _ => rfl
theorem maxI_le : ∀ (r : List Int) (m : Int), m ≤ maxI m r ∧ ∀ x ∈ r, x ≤ maxI m r
  | [], m => ⟨Int.le_refl _, fun _ z => nomatch z⟩
  | y :: r, m => by
    obtain ⟨h1, h2⟩ := maxI_le r (if y > m then y else m)
    refine ⟨?_, fun x mx => ?_⟩
    · show m ≤ maxI (if y > m then y else m) r
      split at h1 <;> split <;> omega
    · show x ≤ maxI (if y > m then y else m) r
      rcases List.mem_cons.mp mx with rfl | mx
      · split at h1 <;> split <;> omega
      · exact h2 x mx
theorem maxI_mem : ∀ (r : List Int) (m : Int), maxI m r = m ∨ maxI m r ∈ r
  | [], m => .inl rfl
  | y :: r, m => by
    show maxI (if y > m then y else m) r = m ∨ maxI (if y > m then y else m) r ∈ y :: r
    rcases maxI_mem r (if y > m then y else m) with h | h
    · rw [h]
      split
      · exact .inr List.mem_cons_self
      · exact .inl rfl
    · exact .inr (List.mem_cons_of_mem _ h)
def maxL : List Int → Int
  | [] => 0
  | x :: r => maxI x r
theorem maxL_mem {l : List Int} (h : l ≠ []) : maxL l ∈ l := by
  cases l with
  | nil => exact absurd rfl h
  | cons x r =>
    rcases maxI_mem r x with e | m
    · show maxI x r ∈ x :: r
      rw [e]; exact List.mem_cons_self
    · exact List.mem_cons_of_mem _ m
theorem maxL_le {l : List Int} {x : Int} (h : x ∈ l) : x ≤ maxL l := by
  cases l with
  | nil => cases h
  | cons y r =>
    rcases List.mem_cons.mp h with rfl | h
    · exact (maxI_le r _).1
    · exact (maxI_le r y).2 x h
def nearS (F : Pl → Pl → Option Int) (ss : List Snd) (p : Pl) : List Int := (ss.filter fun s => (F s.p p).isSome).map fun s => s.lo - (F s.p p).getD 0
def leastB (F : Pl → Pl → Option Int) (ss : List Snd) (p : Pl) : Int := maxL (nearS F ss p)
section
variable {ps : List Pl} {ls : List Leg} {F : Pl → Pl → Option Int} {ss : List Snd} {p : Pl} {s : Snd} {d : Int}
theorem nearS_is {x : Int} (m : x ∈ nearS F ss p) : ∃ s d, s ∈ ss ∧ F s.p p = some d ∧ x = s.lo - d := by
  obtain ⟨c, mc, rfl⟩ := List.mem_map.mp m
  obtain ⟨mc, s⟩ := List.mem_filter.mp mc
  obtain ⟨d, e⟩ := Option.isSome_iff_exists.mp s
  exact ⟨c, d, mc, e, by rw [e]; rfl⟩
theorem nearS_mem (m : s ∈ ss) (e : F s.p p = some d) : s.lo - d ∈ nearS F ss p := List.mem_map.mpr ⟨s, List.mem_filter.mpr ⟨m, by rw [e]; rfl⟩, by rw [e]; rfl⟩
theorem least_ge (m : s ∈ ss) (e : F s.p p = some d) : s.lo - d ≤ leastB F ss p := maxL_le (nearS_mem m e)
theorem least_is (F : Pl → Pl → Option Int) (ss : List Snd) (p : Pl) : (leastB F ss p = 0 ∧ nearS F ss p = []) ∨ ∃ s d, s ∈ ss ∧ F s.p p = some d ∧ leastB F ss p = s.lo - d := by
  by_cases h : nearS F ss p = []
  · exact .inl ⟨by unfold leastB; rw [h]; rfl, h⟩
  · exact .inr (nearS_is (maxL_mem h))
theorem FarOk.sym (hF : FarOk ps ls F) {a b : Pl} (ma : a ∈ ps) (mb : b ∈ ps) : F a b = F b a := (hF a ma b mb).uniq (hF b mb a ma).symm
theorem FarOk.bd (o : NetOk ps ls) (hF : FarOk ps ls F) {a b : Pl} (ma : a ∈ ps) (mb : b ∈ ps) (e : F a b = some d) : 0 ≤ d ∧ d ≤ 250000 := Best.bound o (e ▸ hF a ma b mb)
theorem least_lev (o : NetOk ps ls) (hF : FarOk ps ls F) (os : ∀ s ∈ ss, SndOk s) (mp : ∀ s ∈ ss, s.p ∈ ps) (m : p ∈ ps) : -1250000 ≤ leastB F ss p ∧ leastB F ss p ≤ 1000000 := by
  rcases least_is F ss p with ⟨e, _⟩ | ⟨s, d, ms, e, es⟩
  · rw [e]; omega
  · have bd := hF.bd o (mp s ms) m e
    have a := (os s ms).l0
    have b := (os s ms).h1
    have c := (os s ms).lh
    rw [es]; omega
theorem least_al (o : NetOk ps ls) (hF : FarOk ps ls F) (mp : ∀ s ∈ ss, s.p ∈ ps) : ∀ l ∈ ls, leastB F ss l.a ≤ leastB F ss l.b + l.r ∧ leastB F ss l.b ≤ leastB F ss l.a + l.r := by
  intro l ml
  have lo := o.ok l ml
  have half : ∀ {p q : Pl} {r : Int}, p ∈ ps → q ∈ ps → (∀ a ∈ ps, (F a p).isSome = (F a q).isSome ∧ ∀ d e, F a p = some d → F a q = some e → d ≤ e + r ∧ e ≤ d + r) → 0 ≤ r → leastB F ss p ≤ leastB F ss q + r := fun {p q r} mpp mq hh r0 => by
    rcases least_is F ss p with ⟨e, en⟩ | ⟨s, d, ms, e, es⟩
    · rcases least_is F ss q with ⟨e2, _⟩ | ⟨s, d, ms, e2, es⟩
      · rw [e, e2]; omega
      · have z := (hh s.p (mp s ms)).1
        rw [e2] at z
        obtain ⟨d2, e3⟩ := Option.isSome_iff_exists.mp z
        have := nearS_mem ms e3
        rw [en] at this; cases this
    · have hh := hh s.p (mp s ms)
      have z := hh.1
      rw [e] at z
      obtain ⟨d2, e3⟩ := Option.isSome_iff_exists.mp z.symm
      have := least_ge ms e3
      have := hh.2 d d2 e e3
      rw [es]; omega
  have both : ∀ a ∈ ps, (F a l.a).isSome = (F a l.b).isSome ∧ ∀ d e, F a l.a = some d → F a l.b = some e → d ≤ e + l.r ∧ e ≤ d + l.r := fun a ma => Best.leg o ml (hF a ma _ lo.ma) (hF a ma _ lo.mb)
  exact ⟨half lo.ma lo.mb both lo.r0, half lo.mb lo.ma (fun a ma => ⟨(both a ma).1.symm, fun d e h1 h2 => ((both a ma).2 e d h2 h1).symm⟩) lo.r0⟩
theorem alB_bed {B : Pl → Int} (o : NetOk ps ls) (lev : ∀ p ∈ ps, -2000000 ≤ B p ∧ B p ≤ 2000000) (al : ∀ l ∈ ls, B l.a ≤ B l.b + l.r ∧ B l.b ≤ B l.a + l.r) : alB ps ls (bedV ps B) = true := by
  unfold alB
  rw [bed_is lev, Bool.true_and, List.all_eq_true]
  intro l ml
  have lo := o.ok l ml
  rw [bget_bed lo.ma, bget_bed lo.mb, decide_eq_true (al l ml).1, decide_eq_true (al l ml).2]; rfl
theorem far_self (o : NetOk ps ls) (hF : FarOk ps ls F) (m : p ∈ ps) : F p p = some 0 := (hF p m p m).uniq (Best.self o.rs)
/-- the least bed fits a sounding that no other lies too deep for -/
theorem least_fit (o : NetOk ps ls) (hF : FarOk ps ls F) (mp : ∀ s ∈ ss, s.p ∈ ps) (lh : s.lo ≤ s.hi) (ms : s ∈ ss) (nd : ∀ t ∈ ss, deepB (F s.p t.p) s t = false) : s.has (leastB F ss s.p) = true := by
  have h1 := least_ge (F := F) ms (far_self o hF (mp s ms))
  have h2 : leastB F ss s.p ≤ s.hi := by
    rcases least_is F ss s.p with ⟨_, en⟩ | ⟨t, d, mt, e, es⟩
    · have := nearS_mem ms (far_self o hF (mp s ms))
      rw [en] at this; cases this
    · have := nd t mt
      rw [hF.sym (mp s ms) (mp t mt), e] at this
      have := of_decide_eq_false this
      rw [es]; omega
  unfold Snd.has
  rw [decide_eq_true (by omega), decide_eq_true h2]; rfl
end
def sp_law_least_bed : Spec := fun vs h Q _ => ∃ ps ls F ss, vs = [plV ps, farV ps F, lgV ss] ∧ NetOk ps ls ∧ FarOk ps ls F ∧ LogOk ps ss ∧ Q (bedV ps (leastB F ss)) h
theorem lleast_w {h : Hv} {ps : List Pl} {ls : List Leg} {F : Pl → Pl → Option Int} {ss : List Snd} {Q : K1} {Ex : EK} (o : NetOk ps ls) (hF : FarOk ps ls F) (lo : LogOk ps ss) (q : Q (bedV ps (leastB F ss)) h) : sp_law_least_bed [plV ps, farV ps F, lgV ss] h Q Ex := ⟨ps, ls, F, ss, rfl, o, hF, lo, q⟩
end Lw
set_option Elab.async false
set_option linter.all false
set_option maxRecDepth 100000
set_option maxHeartbeats 1000000
/-! Lw30: which soundings lie too deep for which. -/
namespace Lw
open PySem
/-- a comprehension over things, that changes nothing, onto what is there -/
theorem compW_onto {α : Type} {l : List α} {v : α → Val} (p : α → Bool) (f : α → Val) {w : Wk} {ft : Val → Hv → (Ev → Hv → Prop) → Prop} {fi : Ev → Hv → (Bool → Hv → Prop) → Prop} {fe : Ev → Hv → K1 → Prop} {h : Hv} {Q : List Val → Hv → Prop} (acc : List Val) (hG : w.G h) (hl : acc.length + l.length ≤ sizeLine)
    (step : ∀ x ∈ l, ∀ (K : K1) (N : Hv → Prop), (p x = true → K (f x) h) → (p x = false → N h) → ft (v x) h fun env2 h2 => fi env2 h2 fun b h3 => if b = true then fe env2 h3 K else N h3) (q : Q (acc ++ (l.filter p).map f) h) : compW w ft fi fe (l.map v) h acc Q := by
  induction l generalizing acc with
  | nil => exact ⟨hG, by simpa using q⟩
  | cons x r ih =>
    rw [List.length_cons] at hl
    refine ⟨hG, step x List.mem_cons_self _ _ (fun hp => ⟨by omega, ih (acc ++ [f x]) (by rw [List.length_append]; simp; omega) (fun y m => step y (List.mem_cons_of_mem _ m)) ?_⟩) fun hp => ih acc (by omega) (fun y m => step y (List.mem_cons_of_mem _ m)) ?_⟩
    · rw [List.filter_cons_of_pos hp] at q
      rw [List.append_assoc]; exact q
    · rw [List.filter_cons_of_neg (by rw [hp]; decide)] at q
      exact q
/-- two clauses, changing nothing -/
theorem comp2W_pure {α : Type} {l : List α} {v : α → Val} (f : α → List Val) {w : Wk} {ft : Val → Hv → (Ev → Hv → Prop) → Prop} {fi : Ev → Hv → (Bool → Hv → Prop) → Prop} {fn : Ev → Hv → List Val → (List Val → Hv → Prop) → Prop} {h : Hv} {Q : List Val → Hv → Prop} {items : List Val} (e : items = l.map v) (hG : w.G h) (hl : (l.flatMap f).length ≤ sizeLine)
    (step : ∀ x ∈ l, ∀ (acc : List Val) (K : List Val → Hv → Prop) (N : Hv → Prop), acc.length + (f x).length ≤ sizeLine → K (acc ++ f x) h → ft (v x) h fun env2 h2 => fi env2 h2 fun b h3 => if b = true then fn env2 h3 acc fun acc2 h4 => K acc2 h4 else N h3) (q : Q (l.flatMap f) h) : comp2W w ft fi fn items h [] Q := by
  subst e
  have go : ∀ (r : List α) (acc : List Val), (∀ x ∈ r, x ∈ l) → acc.length + (r.flatMap f).length ≤ sizeLine → Q (acc ++ r.flatMap f) h → comp2W w ft fi fn (r.map v) h acc Q := by
    intro r
    induction r with
    | nil => intro acc _ _ q; exact ⟨hG, by simpa using q⟩
    | cons x r ih =>
      intro acc hm hl q
      rw [List.flatMap_cons, List.length_append] at hl
      rw [List.flatMap_cons, ← List.append_assoc] at q
      exact ⟨hG, step x (hm x List.mem_cons_self) acc (fun acc2 h4 => comp2W w ft fi fn (r.map v) h4 acc2 Q) (fun h3 => comp2W w ft fi fn (r.map v) h3 acc Q) (by omega) (ih (acc ++ f x) (fun y m => hm y (List.mem_cons_of_mem _ m)) (by rw [List.length_append]; omega) q)⟩
  exact go l [] (fun _ m => m) (by simpa using hl) q
/-- what is reached from a place, as a dict -/
def RowOk (ls : List Leg) (s : Pl) (v : Val) : Prop := ∃ (f : Pl → Option Int) (l : List (Pl × Val)), v = .fd (skv l) ∧ (∀ x, lGet x l = (f x).map .int) ∧ (∀ x, Best ls (fun _ => True) s x (f x)) ∧ ∀ p ∈ l, tre p.2 = true
/-- the numbers of the soundings too deep for s -/
def rowN (F : Pl → Pl → Option Int) (ss : List Snd) (s : Snd) : List (Snd × Nat) := ss.zipIdx.filter fun p => deepB (F s.p p.1.p) s p.1
def rowI (F : Pl → Pl → Option Int) (ss : List Snd) (s : Snd) : List Val := (rowN F ss s).map fun p => .int p.2
def clP (F : Pl → Pl → Option Int) (ss : List Snd) : List (Nat × Nat) := ss.zipIdx.flatMap fun p => (rowN F ss p.1).map fun q => (p.2, q.2)

theorem rowN_len {F : Pl → Pl → Option Int} {ss : List Snd} {s : Snd} : (rowN F ss s).length ≤ ss.length := Nat.le_trans (List.length_filter_le _ _) (by rw [List.length_zipIdx]; exact Nat.le_refl _)
theorem rowN_lt {F : Pl → Pl → Option Int} {ss : List Snd} {s : Snd} {p : Snd × Nat} (m : p ∈ rowN F ss s) : p.2 < ss.length ∧ ss[p.2]? = some p.1 ∧ deepB (F s.p p.1.p) s p.1 = true := by
  obtain ⟨m, d⟩ := List.mem_filter.mp m
  have e := List.mem_zipIdx_iff_getElem?.mp m
  exact ⟨(List.getElem?_eq_some_iff.mp e).1, e, d⟩
theorem clP_mem {F : Pl → Pl → Option Int} {ss : List Snd} {i j : Nat} : (i, j) ∈ clP F ss ↔ ∃ s t, ss[i]? = some s ∧ ss[j]? = some t ∧ deepB (F s.p t.p) s t = true := by
  constructor
  · intro m
    obtain ⟨p, mp, m⟩ := List.mem_flatMap.mp m
    obtain ⟨q, mq, e⟩ := List.mem_map.mp m
    cases e
    obtain ⟨_, e2, d⟩ := rowN_lt mq
    exact ⟨p.1, q.1, List.mem_zipIdx_iff_getElem?.mp mp, e2, d⟩
  · rintro ⟨s, t, es, et, d⟩
    exact List.mem_flatMap.mpr ⟨(s, i), List.mem_zipIdx_iff_getElem?.mpr es, List.mem_map.mpr ⟨(t, j), List.mem_filter.mpr ⟨List.mem_zipIdx_iff_getElem?.mpr et, d⟩, rfl⟩⟩
theorem flatMap_len {α β : Type} {f : α → List β} {k : Nat} : ∀ {l : List α}, (∀ x ∈ l, (f x).length ≤ k) → (l.flatMap f).length ≤ l.length * k
  | [], _ => Nat.zero_le _
  | x :: r, h => by
    rw [List.flatMap_cons, List.length_append, List.length_cons, Nat.succ_mul]
    have := h x List.mem_cons_self
    have := flatMap_len (f := f) (k := k) fun y m => h y (List.mem_cons_of_mem _ m)
    omega
theorem clP_len {F : Pl → Pl → Option Int} {ss : List Snd} (l : ss.length ≤ 30) : (clP F ss).length ≤ 900 := by
  have := flatMap_len (f := fun p : Snd × Nat => (rowN F ss p.1).map fun q => (p.2, q.2)) (k := 30) (l := ss.zipIdx) fun p _ => by
    rw [List.length_map]
    exact Nat.le_trans rowN_len l
  rw [List.length_zipIdx] at this
  have h : ss.length * 30 ≤ 30 * 30 := Nat.mul_le_mul_right _ l
  unfold clP
  omega
theorem clP_lt {F : Pl → Pl → Option Int} {ss : List Snd} {p : Nat × Nat} (m : p ∈ clP F ss) : p.1 < ss.length ∧ p.2 < ss.length := by
  obtain ⟨s, t, es, et, _⟩ := clP_mem.mp (show (p.1, p.2) ∈ clP F ss from m)
  exact ⟨(List.getElem?_eq_some_iff.mp es).1, (List.getElem?_eq_some_iff.mp et).1⟩
theorem cps_oks {l : List (Nat × Nat)} (ll : l.length ≤ 900) (b : ∀ p ∈ l, p.1 < 1000 ∧ p.2 < 1000) : Ok 2 120000 (.fl (l.map prV)) := by
  refine (Ok.fl (Oks.map (p := 1) (n := 130) (k := 900) (f := prV) (fun p m => ?_) ll)).mono (by decide) (by decide)
  have := b p m
  exact (Ok.tup (.cons (.int (i := (p.1 : Int)) (by omega)) (.cons (.int (i := (p.2 : Int)) (by omega)) .nil))).mono (by decide) (by decide)
theorem clV_ok {F : Pl → Pl → Option Int} {ss : List Snd} (l : ss.length ≤ 30) : Ok 2 120000 (.fl ((clP F ss).map prV)) := cps_oks (clP_len l) fun p m => by have := clP_lt m; omega
theorem skv_tre {l : List (Pl × Val)} (h : ∀ p ∈ l, tre p.2 = true) : trek (skv l) = true := trek_all fun p m => by
  obtain ⟨q, mq, rfl⟩ := List.mem_map.mp m
  exact ⟨rfl, h q mq⟩
theorem lPut_new {x : Pl} {v : Val} {l : List (Pl × Val)} (h : (lGet x l).isSome = false) : lPut x v l = l ++ [(x, v)] := by
  unfold lPut
  rw [if_neg (by rw [h]; decide)]
theorem it_log {ss : List Snd} {w : Val} {h : Hv} {P : WkK} (i : IsLog w ss) (p : P ⟨ss.map sndV, fun _ => True⟩ h) : itAny w h P := by
  rcases i with rfl | rfl
  · rw [it_f]; exact p
  · rw [it_t]; exact p
theorem en_log {ss : List Snd} {w : Val} {h : Hv} {P : WkK} (i : IsLog w ss) (p : ∀ G : Hv → Prop, G h → P ⟨(ss.zipIdx).map (fun p : Snd × Nat => .tup [.int p.2, sndV p.1]), G⟩ h) : enW w h P := by
  rcases i with rfl | rfl
  · rw [en_f, enumW_map]; exact p _ (.inl rfl)
  · rw [en_t, enumW_map]; exact p _ trivial
section
variable {h : Hv} {w : Val} {ps : List Pl} {ls : List Leg} {F : Pl → Pl → Option Int} {ss : List Snd} {Q : K1} {Ex : EK}
def sp_reaches : Spec := fun vs h Q _ => ∃ ps ls ss w, vs = [netV ps ls, w] ∧ NetOk ps ls ∧ IsLog w ss ∧ LogOk ps ss ∧ ∀ l : List (Pl × Val), (∀ p ∈ l, tre p.2 = true) → (∀ s ∈ ss, ∃ v, lGet s.p l = some v ∧ RowOk ls s.p v) → Q (.fd (skv l)) h
theorem reaches_w (o : NetOk ps ls) (i : IsLog w ss) (lo : LogOk ps ss) (q : ∀ l : List (Pl × Val), (∀ p ∈ l, tre p.2 = true) → (∀ s ∈ ss, ∃ v, lGet s.p l = some v ∧ RowOk ls s.p v) → Q (.fd (skv l)) h) : sp_reaches [netV ps ls, w] h Q Ex := ⟨ps, ls, ss, w, rfl, o, i, lo, q⟩
def sp_climbs : Spec := fun vs h Q _ => ∃ ps ls F ss w, vs = [netV ps ls, w] ∧ NetOk ps ls ∧ FarOk ps ls F ∧ IsLog w ss ∧ LogOk ps ss ∧ Q (.fl (ss.map fun s => .fl (rowI F ss s))) h
theorem climbs_w (o : NetOk ps ls) (hF : FarOk ps ls F) (i : IsLog w ss) (lo : LogOk ps ss) (q : Q (.fl (ss.map fun s => .fl (rowI F ss s))) h) : sp_climbs [netV ps ls, w] h Q Ex := ⟨ps, ls, F, ss, w, rfl, o, hF, i, lo, q⟩
def sp_all_clashes : Spec := fun vs h Q _ => ∃ ps ls F ss w, vs = [netV ps ls, w] ∧ NetOk ps ls ∧ FarOk ps ls F ∧ IsLog w ss ∧ LogOk ps ss ∧ Q (.fl ((clP F ss).map prV)) h
theorem allcl_w (o : NetOk ps ls) (hF : FarOk ps ls F) (i : IsLog w ss) (lo : LogOk ps ss) (q : Q (.fl ((clP F ss).map prV)) h) : sp_all_clashes [netV ps ls, w] h Q Ex := ⟨ps, ls, F, ss, w, rfl, o, hF, i, lo, q⟩
def sp_all_clashes_r : Spec := fun vs h Q _ => ∃ ps ls F ss w, vs = [netV ps ls, w] ∧ NetOk ps ls ∧ FarOk ps ls F ∧ IsLog w ss ∧ LogOk ps ss ∧ Q (.ref h.nx) (h.al (.lst ((clP F ss).map prV)))
theorem allclr_w (o : NetOk ps ls) (hF : FarOk ps ls F) (i : IsLog w ss) (lo : LogOk ps ss) (q : Q (.ref h.nx) (h.al (.lst ((clP F ss).map prV)))) : sp_all_clashes_r [netV ps ls, w] h Q Ex := ⟨ps, ls, F, ss, w, rfl, o, hF, i, lo, q⟩
def sp_clashes_r : Spec := sp_all_clashes_r
theorem clashes_w (o : NetOk ps ls) (hF : FarOk ps ls F) (i : IsLog w ss) (lo : LogOk ps ss) (q : Q (.ref h.nx) (h.al (.lst ((clP F ss).map prV)))) : sp_clashes_r [netV ps ls, w] h Q Ex := ⟨ps, ls, F, ss, w, rfl, o, hF, i, lo, q⟩
def sp_law_pairs : Spec := fun vs h Q _ => ∃ ps ls F ss, vs = [farV ps F, lgV ss] ∧ NetOk ps ls ∧ FarOk ps ls F ∧ LogOk ps ss ∧ Q (.fl ((clP F ss).map prV)) h
theorem pairs_w (o : NetOk ps ls) (hF : FarOk ps ls F) (lo : LogOk ps ss) (q : Q (.fl ((clP F ss).map prV)) h) : sp_law_pairs [farV ps F, lgV ss] h Q Ex := ⟨ps, ls, F, ss, rfl, o, hF, lo, q⟩
end
theorem riseO_some {ls : List Leg} {a b : Pl} {l : Leg} (one : ls.Pairwise fun l k => l.on k.a k.b = false) (m : l ∈ ls) (h : l.on a b = true) : riseO ls a b = some l.r := by
  have e := riseO_leg one m
  unfold Leg.on at h
  rcases (Bool.or_eq_true _ _).mp h with h | h <;> (rw [Bool.and_eq_true] at h; obtain ⟨h1, h2⟩ := h; have h1 := of_decide_eq_true h1; have h2 := of_decide_eq_true h2; subst h1; subst h2)
  · exact e
  · rw [riseO_symm]; exact e
theorem riseO_perm {ls ks : List Leg} (one : ls.Pairwise fun l k => l.on k.a k.b = false) (one2 : ks.Pairwise fun l k => l.on k.a k.b = false) (p : ks.Perm ls) (a b : Pl) : riseO ks a b = riseO ls a b := by
  by_cases h : ∃ l ∈ ls, l.on a b = true
  · obtain ⟨l, m, h⟩ := h
    rw [riseO_some one m h, riseO_some one2 (p.mem_iff.mpr m) h]
  · have n : ∀ l ∈ ls, l.on a b = false := fun l m => by
      cases e : l.on a b with
      | false => rfl
      | true => exact absurd ⟨l, m, e⟩ h
    rw [riseO_none n, riseO_none fun l m => n l (p.mem_iff.mp m)]
theorem WayS.same {ls ks : List Leg} {S : Pl → Prop} (e : ∀ a b, riseO ls a b = riseO ks a b) {a b : Pl} {d : Int} (w : WayS ls S a b d) : WayS ks S a b d := by
  induction w with
  | nil => exact .nil _
  | edge h => exact .edge (by rw [← e]; exact h)
  | snoc _ s h ih => exact .snoc ih s (by rw [← e]; exact h)
theorem Best.same {ls ks : List Leg} {S : Pl → Prop} (e : ∀ a b, riseO ls a b = riseO ks a b) {a b : Pl} {x : Option Int} (h : Best ls S a b x) : Best ks S a b x := by
  cases x with
  | none => exact fun d w => h d (w.same fun a b => (e a b).symm)
  | some d => exact ⟨h.1.same e, fun d w => h.2 d (w.same fun a b => (e a b).symm)⟩
theorem FarOk.perm {ps qs : List Pl} {ls ks : List Leg} {F : Pl → Pl → Option Int} (o : NetOk ps ls) (hF : FarOk ps ls F) (p : qs.Perm ps) (q : ks.Perm ls) (one2 : ks.Pairwise fun l k => l.on k.a k.b = false) : FarOk qs ks F := fun a ma b mb =>
  (hF a (p.mem_iff.mp ma) b (p.mem_iff.mp mb)).same fun a b => (riseO_perm o.one one2 q a b).symm
theorem far_tri {ps : List Pl} {ls : List Leg} {F : Pl → Pl → Option Int} (hF : FarOk ps ls F) {a b c : Pl} {d e : Int} (ma : a ∈ ps) (mb : b ∈ ps) (mc : c ∈ ps) (h1 : F a b = some d) (h2 : F b c = some e) : ∃ f, F a c = some f ∧ f ≤ d + e := by
  have w := WayS.app (k := b) trivial (h1 ▸ hF a ma b mb : Best ls (fun _ => True) a b (some d)).1 (h2 ▸ hF b mb c mc : Best ls (fun _ => True) b c (some e)).1
  have h := hF a ma c mc
  cases e3 : F a c with
  | none => rw [e3] at h; exact absurd w (h _)
  | some f => rw [e3] at h; exact ⟨f, rfl, h.2 _ w⟩
theorem deep_asym {ps : List Pl} {ls : List Leg} {F : Pl → Pl → Option Int} (o : NetOk ps ls) (hF : FarOk ps ls F) {s t : Snd} (os : SndOk s) (ot : SndOk t) (ms : s.p ∈ ps) (mt : t.p ∈ ps) (h : deepB (F s.p t.p) s t = true) : deepB (F t.p s.p) t s = false := by
  rw [hF.sym mt ms]
  cases e : F s.p t.p with
  | none => rw [e] at h; cases h
  | some d =>
    rw [e] at h
    have bd := hF.bd o ms mt e
    have h := of_decide_eq_true h
    have := os.lh
    have := ot.lh
    exact decide_eq_false (by omega)
theorem deep_trans {ps : List Pl} {ls : List Leg} {F : Pl → Pl → Option Int} (hF : FarOk ps ls F) {s t u : Snd} (ot : SndOk t) (ms : s.p ∈ ps) (mt : t.p ∈ ps) (mu : u.p ∈ ps) (h1 : deepB (F s.p t.p) s t = true) (h2 : deepB (F t.p u.p) t u = true) : deepB (F s.p u.p) s u = true := by
  cases e : F s.p t.p with
  | none => rw [e] at h1; cases h1
  | some d => cases e2 : F t.p u.p with
    | none => rw [e2] at h2; cases h2
    | some k =>
      rw [e] at h1
      rw [e2] at h2
      obtain ⟨f, e3, lf⟩ := far_tri hF ms mt mu e e2
      rw [e3]
      have h1 := of_decide_eq_true h1
      have h2 := of_decide_eq_true h2
      have := ot.lh
      exact decide_eq_true (by omega)
theorem listW_log {ss : List Snd} {w : Val} {h : Hv} {Q : K1} (i : IsLog w ss) (q : Q (lgV ss) h) : listW true w h Q := by
  rcases i with rfl | rfl <;> exact q
end Lw
set_option Elab.async false
set_option linter.all false
set_option maxRecDepth 100000
set_option maxHeartbeats 1000000
/-! Lw31: the ranges that a log leaves. -/
namespace Lw
open PySem
def nearH (F : Pl → Pl → Option Int) (ss : List Snd) (p : Pl) : List Int := (ss.filter fun s => (F s.p p).isSome).map fun s => s.hi + (F s.p p).getD 0
/-- the greatest bed over some soundings -/
def mostB (F : Pl → Pl → Option Int) (ss : List Snd) (p : Pl) : Int := minL 0 (nearH F ss p)
def rngV (F : Pl → Pl → Option Int) (ss : List Snd) (p : Pl) : Val := if (ss.filter fun s => (F s.p p).isSome) = [] then .non else .tup [.int (leastB F ss p), .int (mostB F ss p)]
def rngL (F : Pl → Pl → Option Int) (ss : List Snd) (ps : List Pl) : List (Pl × Val) := ps.map fun p => (p, rngV F ss p)
theorem rngV_tre (F : Pl → Pl → Option Int) (ss : List Snd) (p : Pl) : tre (rngV F ss p) = true := by unfold rngV; split <;> rfl
theorem rngL_tre {F : Pl → Pl → Option Int} {ss : List Snd} {ps : List Pl} : ∀ p ∈ rngL F ss ps, tre p.2 = true := fun p m => by
  obtain ⟨q, _, rfl⟩ := List.mem_map.mp m
  exact rngV_tre F ss q
theorem rngL_get {F : Pl → Pl → Option Int} {ss : List Snd} {p : Pl} : ∀ {ps : List Pl}, p ∈ ps → lGet p (rngL F ss ps) = some (rngV F ss p)
  | q :: r, m => by
    show (if q = p then some (rngV F ss q) else lGet p (rngL F ss r)) = _
    by_cases e : q = p
    · rw [if_pos e, e]
    · rw [if_neg e]
      exact rngL_get ((List.mem_cons.mp m).resolve_left fun z => e z.symm)
theorem lGet_none {x : Pl} : ∀ {l : List (Pl × Val)}, (∀ p ∈ l, p.1 ≠ x) → lGet x l = none
  | [], _ => rfl
  | (y, v) :: r, h => by
    show (if y = x then some v else lGet x r) = none
    rw [if_neg (h _ List.mem_cons_self)]
    exact lGet_none fun p m => h p (List.mem_cons_of_mem _ m)
theorem lPut_last {x : Pl} {v w : Val} {l : List (Pl × Val)} (h : ∀ p ∈ l, p.1 ≠ x) : lPut x w (l ++ [(x, v)]) = l ++ [(x, w)] := by
  unfold lPut
  rw [lGet_app, lGet_none h]
  have e : lGet x [(x, v)] = some v := if_pos rfl
  show (if (lGet x [(x, v)]).isSome = true then _ else _) = _
  rw [e, if_pos (by rfl), List.map_append]
  congr 1
  · refine (List.map_congr_left fun p m => ?_).trans (List.map_id l)
    rw [if_neg (h p m)]; rfl
  · show [if x = x then (x, w) else (x, v)] = _
    rw [if_pos rfl]
theorem allInt_map : ∀ l : List Int, allInt (l.map Val.int) = some l
  | [] => rfl
  | x :: r => by
    show (allInt (r.map Val.int)).map (x :: ·) = _
    rw [allInt_map r]; rfl
theorem minL_cons (b x : Int) (r : List Int) : minL b (x :: r) = minI x r := rfl
/-- no clash: what is least is no more than what is most -/
theorem rng_le {ps : List Pl} {ls : List Leg} {F : Pl → Pl → Option Int} {ss : List Snd} {p : Pl} (hF : FarOk ps ls F) (mp : ∀ s ∈ ss, s.p ∈ ps) (m : p ∈ ps) (e : clP F ss = []) (ne : (ss.filter fun s => (F s.p p).isSome) ≠ []) : leastB F ss p ≤ mostB F ss p := by
  have ne1 : nearS F ss p ≠ [] := fun z => ne (List.map_eq_nil_iff.mp z)
  have ne2 : nearH F ss p ≠ [] := fun z => ne (List.map_eq_nil_iff.mp z)
  obtain ⟨s, d, ms, es, e1⟩ := nearS_is (maxL_mem ne1)
  obtain ⟨t, mt, e2⟩ := List.mem_map.mp (minL_mem (base := 0) ne2)
  obtain ⟨mt, ht⟩ := List.mem_filter.mp mt
  obtain ⟨k, et⟩ := Option.isSome_iff_exists.mp ht
  rw [et] at e2
  obtain ⟨f, ef, lf⟩ := far_tri hF (mp t mt) m (mp s ms) et (by rw [hF.sym m (mp s ms)]; exact es)
  have nd : deepB (F t.p s.p) t s = false := by
    cases z : deepB (F t.p s.p) t s with
    | false => rfl
    | true =>
      obtain ⟨i, hi, ei⟩ := List.getElem_of_mem mt
      obtain ⟨j, hj, ej⟩ := List.getElem_of_mem ms
      have : (i, j) ∈ clP F ss := clP_mem.mpr ⟨t, s, by rw [List.getElem?_eq_getElem hi, ei], by rw [List.getElem?_eq_getElem hj, ej], z⟩
      rw [e] at this; cases this
  rw [ef] at nd
  have nd := of_decide_eq_false nd
  have e2 : t.hi + k = minL 0 (nearH F ss p) := e2
  unfold leastB mostB
  rw [e1, ← e2]
  omega
theorem bed_way {ls : List Leg} {B : Pl → Int} {S : Pl → Prop} (al : ∀ l ∈ ls, B l.a ≤ B l.b + l.r ∧ B l.b ≤ B l.a + l.r) {a b : Pl} {d : Int} (w : WayS ls S a b d) : B b ≤ B a + d := by
  have one : ∀ {a b : Pl} {r : Int}, riseO ls a b = some r → B b ≤ B a + r := fun {a b r} h => by
    obtain ⟨l, m, h1, h2⟩ := riseO_mem h
    have := al l m
    unfold Leg.on at h1
    rcases (Bool.or_eq_true _ _).mp h1 with h | h <;> (rw [Bool.and_eq_true] at h; obtain ⟨h3, h4⟩ := h; have h3 := of_decide_eq_true h3; have h4 := of_decide_eq_true h4; subst h3; subst h4; omega)
  induction w with
  | nil => omega
  | edge h => exact one h
  | snoc _ _ h ih => have := one h; omega
/-- soundings that hold an allowed bed do not clash -/
theorem fits_of {ps : List Pl} {ls : List Leg} {F : Pl → Pl → Option Int} {ss : List Snd} {B : Pl → Int} (o : NetOk ps ls) (hF : FarOk ps ls F) (mp : ∀ s ∈ ss, s.p ∈ ps) (al : ∀ l ∈ ls, B l.a ≤ B l.b + l.r ∧ B l.b ≤ B l.a + l.r) (h : ∀ s ∈ ss, s.lo ≤ B s.p ∧ B s.p ≤ s.hi) : clP F ss = [] := by
  refine List.eq_nil_iff_forall_not_mem.mpr fun p m => ?_
  obtain ⟨s, t, es, et, d⟩ := clP_mem.mp (show (p.1, p.2) ∈ clP F ss from m)
  have ms := List.mem_of_getElem? es
  have mt := List.mem_of_getElem? et
  cases e : F s.p t.p with
  | none => rw [e] at d; cases d
  | some x =>
    rw [e] at d
    have d := of_decide_eq_true d
    have w := (e ▸ hF _ (mp s ms) _ (mp t mt) : Best ls (fun _ => True) s.p t.p (some x)).1
    have := bed_way al w
    have := (h s ms).2
    have := (h t mt).1
    omega
theorem keptI_al {ls : List Leg} {B : Pl → Int} (rs : ∀ l ∈ ls, 0 ≤ l.r) (al : ∀ l ∈ ls, B l.a ≤ B l.b + l.r ∧ B l.b ≤ B l.a + l.r) : ∀ l ∈ ls, keptI (B l.a) ≤ keptI (B l.b) + l.r ∧ keptI (B l.b) ≤ keptI (B l.a) + l.r := fun l m => by
  have a := al l m
  have b := rs l m
  unfold keptI
  constructor <;> (split <;> split <;> (try split) <;> (try split) <;> omega)
section
variable {h : Hv} {w : Val} {ps : List Pl} {ls : List Leg} {F : Pl → Pl → Option Int} {ss : List Snd} {Q : K1} {Ex : EK}
def sp_stretches : Spec := fun vs h Q _ => ∃ ps ls F ss w, vs = [netV ps ls, w] ∧ NetOk ps ls ∧ FarOk ps ls F ∧ IsLog w ss ∧ LogOk ps ss ∧ Q (.fd (skv (rngL F ss ps))) h
theorem stretches_w (o : NetOk ps ls) (hF : FarOk ps ls F) (i : IsLog w ss) (lo : LogOk ps ss) (q : Q (.fd (skv (rngL F ss ps))) h) : sp_stretches [netV ps ls, w] h Q Ex := ⟨ps, ls, F, ss, w, rfl, o, hF, i, lo, q⟩
def sp_need_fit : Spec := fun vs h Q _ => ∃ ps ls F ss w, vs = [netV ps ls, w] ∧ NetOk ps ls ∧ FarOk ps ls F ∧ IsLog w ss ∧ LogOk ps ss ∧ clP F ss = [] ∧ Q .non h
theorem need_fit_w (o : NetOk ps ls) (hF : FarOk ps ls F) (i : IsLog w ss) (lo : LogOk ps ss) (e : clP F ss = []) (q : Q .non h) : sp_need_fit [netV ps ls, w] h Q Ex := ⟨ps, ls, F, ss, w, rfl, o, hF, i, lo, e, q⟩
def sp_law_ranges : Spec := fun vs h Q _ => ∃ ps ls F ss, vs = [plV ps, farV ps F, lgV ss] ∧ NetOk ps ls ∧ FarOk ps ls F ∧ LogOk ps ss ∧ Q (.fd (skv (rngL F ss ps))) h
theorem ranges_w (o : NetOk ps ls) (hF : FarOk ps ls F) (lo : LogOk ps ss) (q : Q (.fd (skv (rngL F ss ps))) h) : sp_law_ranges [plV ps, farV ps F, lgV ss] h Q Ex := ⟨ps, ls, F, ss, rfl, o, hF, lo, q⟩
end
end Lw
set_option Elab.async false
set_option linter.all false
set_option maxRecDepth 100000
set_option maxHeartbeats 2000000
namespace Lw
open PySem
local macro_rules | `(tactic| fin2) => `(tactic| try simp only [wipeE, un_t, un_f, slc_s, slc_t, slc_f, slc_r, rev_f, rev_r, en_t, en_f, en_r, it_s, it_t, it_c, it_f, it_r, wpSs, wpS, wpE, wpEs, wpEo, wpAnd, wpOr, wpIfs, wpT, wpTs, wpI, wpF, startE, setAll, List.map_cons, List.map_nil, List.cons_append, List.nil_append, List.getElem?_cons_zero, List.getElem?_cons_succ, List.getElem?_nil, List.set_cons_zero, List.set_cons_succ, List.length_cons, List.length_nil, List.replicate, Nat.zero_add, Nat.reduceAdd, Nat.reduceSub, add_ii, add_ss, add_ff, add_rl, add_fr, add_tt, mul_ii, mul_si, mul_fi, sub_ii, mod_ii, fdiv_ii, pow_ii, lt_ii, gt_ii, le_ii, ge_ii, lt_ss, gt_ss, le_ss, ge_ss, eq_ii, ne_ii, eq_ss, ne_ss, is_vb, isnt_vb, is_vn, isnt_vn, tst_b, tag_i, tag_b, tag_s, tag_t, tag_n, tag_f, tag_d, tag_o, len_s, len_t, len_c, len_f, len_d, list_w, listW_f, listW_t, listW_c, listW_d, tuple_w, tupW_f, tupW_t, tupW_r, all_w, any_w, sum_w, max_w, min_w, dict_w, dictW_f, dictW_d, divmod_w, int_i, int_b, str_i, fmt_s, fmt_i, max_ii, min_ii, abs_i, newL_t, newL_f, newD_t, newD_f, asL_f, asL_r, asSeq_f, asSeq_t, asSeq_c, asSeq_r, asD_f, asD_r, bmT, join_w, split_w, get1_w, get2_w, append_w, pop1_w, clear_w, extend_w, tl_r, fld_o, isIns_o, is_integer_w, law_is_int_w, is_name_w, law_is_name_w, is_list_w, is_tuple_w, box_w, tgIs, tgB, Ts.len, Option.some.injEq, Val.int.injEq, Val.bl.injEq, Val.str.injEq, Val.ref.injEq, Val.tup.injEq, Val.fl.injEq, Ob.lst.injEq, List.cons.injEq, and_true, true_and, and_self, exists_eq_left', exists_eq_left, exists_eq', exists_and_left, exists_const, and_assoc, Bool.not_true, Bool.not_false, Bool.not_not, Bool.false_eq_true, ↓reduceIte, List.any_cons, List.any_nil, Bool.or_false, Bool.false_or, Bool.true_or, Bool.or_true, reduceCtorEq, sizeLine_eq, Int.reduceLT, Int.reduceLE, Int.reducePow, Int.reduceNeg, Int.reduceAdd, Int.reduceSub, Int.reduceMul, Int.reduceToNat, Int.toNat_zero, Int.toNat_one, natAbs_10, Nat.reducePow, Nat.reduceLT, Nat.reduceLeDiff, Nat.reduceMul, decide_true, decide_false, or_true, true_or, ne_eq, not_false_eq_true])
local macro_rules | `(tactic| fin_item) => `(tactic| (first | omega | (simp only [List.length_append, List.length_cons, List.length_nil, List.length_map, List.length_take, List.length_drop, List.length_replicate, List.length_range]; omega)))
def n_law_box : List Nm := ["cell"]
def b_law_box : Ss := .cons (.ret (.lst false (.cons (.bi .max2 (.cons (.con (.int (0))) (.cons (.bin .sub (.var 0) (.bin .pow (.con (.int (10))) (.con (.int (18))))) .nil))) (.cons (.bin .mod (.var 0) (.con (.int (2147483629)))) (.cons (.con (.int (0))) .nil)))))
  .nil

def n_law_cell : List Nm := ["script", "k"]
def b_law_cell : Ss := .cons (.ite (.cmp .lt (.var 1) (.bi .len (.cons (.var 0) .nil)))
  (.cons (.ret (.idx (.var 0) (.var 1)))
  .nil)
  .nil)
  (.cons (.ret (.bin (.add true) (.bin (.mul true) (.con (.int (67867967))) (.var 1)) (.con (.int (69)))))
  .nil)

def n_law_take : List Nm := ["box", "many", "digit", "one", "two"]
def b_law_take : Ss := .cons (.ite (.cmp .gt (.idx (.var 0) (.con (.int (0)))) (.con (.int (0))))
  (.cons (.asg (.name 2) (.bin .mod (.idx (.var 0) (.con (.int (0)))) (.var 1)))
  (.cons (.asg (.sub (.var 0) (.con (.int (0)))) (.bin .fdiv (.idx (.var 0) (.con (.int (0)))) (.var 1)))
  (.cons (.ret (.var 2))
  .nil)))
  .nil)
  (.cons (.asg (.sub (.var 0) (.con (.int (2)))) (.bin (.add true) (.idx (.var 0) (.con (.int (2)))) (.con (.int (1)))))
  (.cons (.asg (.name 3) (.bin .mod (.bin .pow (.bin (.add true) (.bin (.add true) (.idx (.var 0) (.con (.int (1)))) (.bin (.mul true) (.con (.int (7919))) (.idx (.var 0) (.con (.int (2)))))) (.con (.int (69)))) (.con (.int (5)))) (.con (.int (2147483647)))))
  (.cons (.asg (.name 4) (.bin .mod (.bin .pow (.bin (.add true) (.bin (.add true) (.bin .fdiv (.var 3) (.con (.int (8)))) (.bin (.mul true) (.bin (.mul true) (.con (.int (104729))) (.idx (.var 0) (.con (.int (2))))) (.idx (.var 0) (.con (.int (2)))))) (.con (.int (11)))) (.con (.int (3)))) (.con (.int (2147483587)))))
  (.cons (.ret (.bin .mod (.bin (.add true) (.bin .fdiv (.var 3) (.con (.int (4)))) (.bin (.mul true) (.con (.int (536870909))) (.bin .fdiv (.var 4) (.con (.int (4)))))) (.var 1)))
  .nil))))

def n_is_integer : List Nm := ["value", "low", "high"]
def b_is_integer : Ss := .cons (.ret (.and (.cons (.isi (.var 0) [.int]) (.cons (.not (.isi (.var 0) [.bool])) (.cons (.chain .le .le (.var 1) (.var 0) (.var 2)) .nil)))))
  .nil

def n_is_name : List Nm := ["value", "sign"]
def b_is_name : Ss := .cons (.ite (.or (.cons (.not (.isi (.var 0) [.str])) (.cons (.not (.chain .le .le (.con (.int (1))) (.bi .len (.cons (.var 0) .nil)) (.glb "LONGEST_NAME" (.int (8))))) .nil)))
  (.cons (.ret (.con (.bl false)))
  .nil)
  .nil)
  (.cons (.ret (.bi .all (.cons (.lc true (.cmp .isin (.var 1) (.glb "LETTERS" (.str [97, 98, 99, 100, 101, 102, 103, 104, 105, 106, 107, 108, 109, 110, 111, 112, 113, 114, 115, 116, 117, 118, 119, 120, 121, 122]))) (.name 1) (.any (.var 0)) .nil [1]) .nil)))
  .nil)

def n_is_list : List Nm := ["value", "most"]
def b_is_list : Ss := .cons (.ret (.and (.cons (.isi (.var 0) [.list, .tuple]) (.cons (.cmp .le (.bi .len (.cons (.var 0) .nil)) (.var 1)) .nil))))
  .nil

def n_is_tuple : List Nm := ["value", "many"]
def b_is_tuple : Ss := .cons (.ret (.and (.cons (.isi (.var 0) [.tuple]) (.cons (.cmp .eq (.bi .len (.cons (.var 0) .nil)) (.var 1)) .nil))))
  .nil

theorem pr_law_box : ∀ vs h Q Ex, sp_law_box vs h Q Ex → bodyW 1 1 b_law_box vs h Q Ex := by
  rintro vs h Q Ex ⟨i, rfl, q⟩
  refine ⟨rfl, ?_⟩
  simp only [b_law_box, wipeE, un_t, un_f, slc_s, slc_t, slc_f, slc_r, rev_f, rev_r, en_t, en_f, en_r, it_s, it_t, it_c, it_f, it_r, wpSs, wpS, wpE, wpEs, wpEo, wpAnd, wpOr, wpIfs, wpT, wpTs, wpI, wpF, startE, setAll, List.map_cons, List.map_nil, List.cons_append, List.nil_append, List.getElem?_cons_zero, List.getElem?_cons_succ, List.getElem?_nil, List.set_cons_zero, List.set_cons_succ, List.length_cons, List.length_nil, List.replicate, Nat.zero_add, Nat.reduceAdd, Nat.reduceSub, add_ii, add_ss, add_ff, add_rl, add_fr, add_tt, mul_ii, mul_si, mul_fi, sub_ii, mod_ii, fdiv_ii, pow_ii, lt_ii, gt_ii, le_ii, ge_ii, lt_ss, gt_ss, le_ss, ge_ss, eq_ii, ne_ii, eq_ss, ne_ss, is_vb, isnt_vb, is_vn, isnt_vn, tst_b, tag_i, tag_b, tag_s, tag_t, tag_n, tag_f, tag_d, tag_o, len_s, len_t, len_c, len_f, len_d, list_w, listW_f, listW_t, listW_c, listW_d, tuple_w, tupW_f, tupW_t, tupW_r, all_w, any_w, sum_w, max_w, min_w, dict_w, dictW_f, dictW_d, divmod_w, int_i, int_b, str_i, fmt_s, fmt_i, max_ii, min_ii, abs_i, newL_t, newL_f, newD_t, newD_f, asL_f, asL_r, asSeq_f, asSeq_t, asSeq_c, asSeq_r, asD_f, asD_r, bmT, join_w, split_w, get1_w, get2_w, append_w, pop1_w, clear_w, extend_w, tl_r, fld_o, isIns_o, is_integer_w, law_is_int_w, is_name_w, law_is_name_w, is_list_w, is_tuple_w, box_w, tgIs, tgB, Ts.len, Option.some.injEq, Val.int.injEq, Val.bl.injEq, Val.str.injEq, Val.ref.injEq, Val.tup.injEq, Val.fl.injEq, Ob.lst.injEq, List.cons.injEq, and_true, true_and, and_self, exists_eq_left', exists_eq_left, exists_eq', exists_and_left, exists_const, and_assoc, Bool.not_true, Bool.not_false, Bool.not_not, Bool.false_eq_true, ↓reduceIte, List.any_cons, List.any_nil, Bool.or_false, Bool.false_or, Bool.true_or, Bool.or_true, reduceCtorEq, sizeLine_eq, Int.reduceLT, Int.reduceLE, Int.reducePow, Int.reduceNeg, Int.reduceAdd, Int.reduceSub, Int.reduceMul, Int.reduceToNat, Int.toNat_zero, Int.toNat_one, natAbs_10, Nat.reducePow, Nat.reduceLT, Nat.reduceLeDiff, Nat.reduceMul, decide_true, decide_false, or_true, true_or, ne_eq, not_false_eq_true]
  have z := q (h.al (boxO ⟨if i - 1000000000000000000 > 0 then i - 1000000000000000000 else 0, i % 2147483629, 0⟩)) h.nx ⟨if i - 1000000000000000000 > 0 then i - 1000000000000000000 else 0, i % 2147483629, 0⟩ (Nat.lt_succ_self _) ⟨?_, ?_, ?_, ?_⟩
  · rw [Hv.bx, put_id (Hv.al_new _ _)] at z
    exact z
  · show 0 ≤ i % 2147483629; omega
  · show i % 2147483629 < _; omega
  · show (0 : Int) ≤ 0; decide
  · show (0 : Int) ≤ _; decide
theorem pr_law_cell : ∀ vs h Q Ex, sp_law_cell vs h Q Ex → bodyW 2 2 b_law_cell vs h (gcQ h Q) (gcX h Ex) := by
  rintro vs h Q Ex ⟨ns, i, rfl, h0, h1, q⟩
  refine ⟨rfl, ?_⟩
  simp only [b_law_cell, wipeE, un_t, un_f, slc_s, slc_t, slc_f, slc_r, rev_f, rev_r, en_t, en_f, en_r, it_s, it_t, it_c, it_f, it_r, wpSs, wpS, wpE, wpEs, wpEo, wpAnd, wpOr, wpIfs, wpT, wpTs, wpI, wpF, startE, setAll, List.map_cons, List.map_nil, List.cons_append, List.nil_append, List.getElem?_cons_zero, List.getElem?_cons_succ, List.getElem?_nil, List.set_cons_zero, List.set_cons_succ, List.length_cons, List.length_nil, List.replicate, Nat.zero_add, Nat.reduceAdd, Nat.reduceSub, add_ii, add_ss, add_ff, add_rl, add_fr, add_tt, mul_ii, mul_si, mul_fi, sub_ii, mod_ii, fdiv_ii, pow_ii, lt_ii, gt_ii, le_ii, ge_ii, lt_ss, gt_ss, le_ss, ge_ss, eq_ii, ne_ii, eq_ss, ne_ss, is_vb, isnt_vb, is_vn, isnt_vn, tst_b, tag_i, tag_b, tag_s, tag_t, tag_n, tag_f, tag_d, tag_o, len_s, len_t, len_c, len_f, len_d, list_w, listW_f, listW_t, listW_c, listW_d, tuple_w, tupW_f, tupW_t, tupW_r, all_w, any_w, sum_w, max_w, min_w, dict_w, dictW_f, dictW_d, divmod_w, int_i, int_b, str_i, fmt_s, fmt_i, max_ii, min_ii, abs_i, newL_t, newL_f, newD_t, newD_f, asL_f, asL_r, asSeq_f, asSeq_t, asSeq_c, asSeq_r, asD_f, asD_r, bmT, join_w, split_w, get1_w, get2_w, append_w, pop1_w, clear_w, extend_w, tl_r, fld_o, isIns_o, is_integer_w, law_is_int_w, is_name_w, law_is_name_w, is_list_w, is_tuple_w, box_w, tgIs, tgB, Ts.len, Option.some.injEq, Val.int.injEq, Val.bl.injEq, Val.str.injEq, Val.ref.injEq, Val.tup.injEq, Val.fl.injEq, Ob.lst.injEq, List.cons.injEq, and_true, true_and, and_self, exists_eq_left', exists_eq_left, exists_eq', exists_and_left, exists_const, and_assoc, Bool.not_true, Bool.not_false, Bool.not_not, Bool.false_eq_true, ↓reduceIte, List.any_cons, List.any_nil, Bool.or_false, Bool.false_or, Bool.true_or, Bool.or_true, reduceCtorEq, sizeLine_eq, Int.reduceLT, Int.reduceLE, Int.reducePow, Int.reduceNeg, Int.reduceAdd, Int.reduceSub, Int.reduceMul, Int.reduceToNat, Int.toNat_zero, Int.toNat_one, natAbs_10, Nat.reducePow, Nat.reduceLT, Nat.reduceLeDiff, Nat.reduceMul, decide_true, decide_false, or_true, true_or, ne_eq, not_false_eq_true]
  refine if_dec (fun hi => ?_) fun hi => ?_
  · obtain ⟨v, m, _, ix⟩ := atI_int (xs := ns.map Val.int) h0 hi
    obtain ⟨j, _, rfl⟩ := List.mem_map.mp m
    exact idx_c ix (gc_same rfl (q j))
  · exact gc_same rfl (q _)
theorem pr_law_take : ∀ vs h Q Ex, sp_law_take vs h Q Ex → bodyW 5 2 b_law_take vs h (gcQ h Q) (gcX h Ex) := by
  rintro vs h Q Ex ⟨h0, b, ⟨x, y, k⟩, n, c, rfl, rfl, hb, ⟨y0, y1, k0, k1⟩, n0, n1, c1, q⟩
  refine ⟨rfl, ?_⟩
  have y0 : 0 ≤ y := y0
  have y1 : y < 2147483648 := y1
  have k0 : 0 ≤ k := k0
  have k1 : k ≤ c := k1
  have e := bx_g (t := ⟨x, y, k⟩) hb
  have i0 : L2.atI [Val.int x, .int y, .int k] 0 = some (.int x) := rfl
  simp only [b_law_take, wipeE, un_t, un_f, slc_s, slc_t, slc_f, slc_r, rev_f, rev_r, en_t, en_f, en_r, it_s, it_t, it_c, it_f, it_r, wpSs, wpS, wpE, wpEs, wpEo, wpAnd, wpOr, wpIfs, wpT, wpTs, wpI, wpF, startE, setAll, List.map_cons, List.map_nil, List.cons_append, List.nil_append, List.getElem?_cons_zero, List.getElem?_cons_succ, List.getElem?_nil, List.set_cons_zero, List.set_cons_succ, List.length_cons, List.length_nil, List.replicate, Nat.zero_add, Nat.reduceAdd, Nat.reduceSub, add_ii, add_ss, add_ff, add_rl, add_fr, add_tt, mul_ii, mul_si, mul_fi, sub_ii, mod_ii, fdiv_ii, pow_ii, lt_ii, gt_ii, le_ii, ge_ii, lt_ss, gt_ss, le_ss, ge_ss, eq_ii, ne_ii, eq_ss, ne_ss, is_vb, isnt_vb, is_vn, isnt_vn, tst_b, tag_i, tag_b, tag_s, tag_t, tag_n, tag_f, tag_d, tag_o, len_s, len_t, len_c, len_f, len_d, list_w, listW_f, listW_t, listW_c, listW_d, tuple_w, tupW_f, tupW_t, tupW_r, all_w, any_w, sum_w, max_w, min_w, dict_w, dictW_f, dictW_d, divmod_w, int_i, int_b, str_i, fmt_s, fmt_i, max_ii, min_ii, abs_i, newL_t, newL_f, newD_t, newD_f, asL_f, asL_r, asSeq_f, asSeq_t, asSeq_c, asSeq_r, asD_f, asD_r, bmT, join_w, split_w, get1_w, get2_w, append_w, pop1_w, clear_w, extend_w, tl_r, fld_o, isIns_o, is_integer_w, law_is_int_w, is_name_w, law_is_name_w, is_list_w, is_tuple_w, box_w, tgIs, tgB, Ts.len, Option.some.injEq, Val.int.injEq, Val.bl.injEq, Val.str.injEq, Val.ref.injEq, Val.tup.injEq, Val.fl.injEq, Ob.lst.injEq, List.cons.injEq, and_true, true_and, and_self, exists_eq_left', exists_eq_left, exists_eq', exists_and_left, exists_const, and_assoc, Bool.not_true, Bool.not_false, Bool.not_not, Bool.false_eq_true, ↓reduceIte, List.any_cons, List.any_nil, Bool.or_false, Bool.false_or, Bool.true_or, Bool.or_true, reduceCtorEq, sizeLine_eq, Int.reduceLT, Int.reduceLE, Int.reducePow, Int.reduceNeg, Int.reduceAdd, Int.reduceSub, Int.reduceMul, Int.reduceToNat, Int.toNat_zero, Int.toNat_one, natAbs_10, Nat.reducePow, Nat.reduceLT, Nat.reduceLeDiff, Nat.reduceMul, decide_true, decide_false, or_true, true_or, ne_eq, not_false_eq_true]
  refine idx_l e i0 ?_
  fin2
  refine if_dec (fun hx => ?_) fun hx => ?_
  · refine idx_l e i0 ?_
    fin2
    refine ⟨n0, idx_l e i0 ?_⟩
    fin2
    refine ⟨n0, n1, set_l e (k := 0) rfl ?_⟩
    fin2
    rw [Hv.bx, put_put]
    exact gc_bx0 (t' := ⟨x / n, y, k⟩) hb rfl (q _ _ (Int.emod_nonneg _ (by omega)) (Int.emod_lt_of_pos _ n0) ⟨y0, y1, k0, by show k ≤ _; omega⟩)
  · have i1 : ∀ k', L2.atI [Val.int x, .int y, .int k'] 1 = some (.int y) := fun _ => rfl
    have i2 : ∀ k', L2.atI [Val.int x, .int y, .int k'] 2 = some (.int k') := fun _ => rfl
    refine idx_l e (i2 k) ?_
    fin2
    refine set_l e (k := 2) rfl ?_
    have hs : ([Val.int x, .int y, .int k].set 2 (.int (k + 1))) = [Val.int x, .int y, .int (k + 1)] := rfl
    rw [hs, Hv.bx, put_put]
    have e2 := bx_g (t := ⟨x, y, k + 1⟩) hb
    refine idx_l e2 (i1 _) ?_
    fin2
    refine idx_l e2 (i2 _) ?_
    fin2
    refine ⟨by omega, ?_⟩
    · refine idx_l e2 (i2 _) ?_
      fin2
      refine idx_l e2 (i2 _) ?_
      fin2
      refine ⟨.inr (by omega), ?_, n0, ?_⟩
      · have z1 : (k + 1) * (k + 1) ≤ 1000001 * 1000001 := Int.mul_le_mul (by omega) (by omega) (by omega) (by omega)
        have z2 : 0 ≤ (k + 1) * (k + 1) := Int.mul_nonneg (by omega) (by omega)
        have z3 : 104729 * (k + 1) * (k + 1) = 104729 * ((k + 1) * (k + 1)) := Int.mul_assoc _ _ _
        rw [z3]
        generalize (k + 1) * (k + 1) = z at z1 z2
        generalize (y + 7919 * (k + 1) + _) ^ 5 = w
        omega
      · exact gc_bx0 (t' := ⟨x, y, k + 1⟩) hb rfl (q _ _ (Int.emod_nonneg _ (by omega)) (Int.emod_lt_of_pos _ n0) ⟨y0, y1, by show 0 ≤ k + 1; omega, by show k + 1 ≤ _; omega⟩)
theorem pr_is_integer : ∀ vs h Q Ex, sp_is_integer vs h Q Ex → bodyW 3 3 b_is_integer vs h (gcQ h Q) (gcX h Ex) := by
  rintro vs h Q Ex ⟨v, lo, hi, rfl, t, q⟩
  refine ⟨rfl, ?_⟩
  cases v with
  | int i =>
    have q : Q (.bl (decide (lo ≤ i) && decide (i ≤ hi))) h := q
    simp only [b_is_integer, wipeE, un_t, un_f, slc_s, slc_t, slc_f, slc_r, rev_f, rev_r, en_t, en_f, en_r, it_s, it_t, it_c, it_f, it_r, wpSs, wpS, wpE, wpEs, wpEo, wpAnd, wpOr, wpIfs, wpT, wpTs, wpI, wpF, startE, setAll, List.map_cons, List.map_nil, List.cons_append, List.nil_append, List.getElem?_cons_zero, List.getElem?_cons_succ, List.getElem?_nil, List.set_cons_zero, List.set_cons_succ, List.length_cons, List.length_nil, List.replicate, Nat.zero_add, Nat.reduceAdd, Nat.reduceSub, add_ii, add_ss, add_ff, add_rl, add_fr, add_tt, mul_ii, mul_si, mul_fi, sub_ii, mod_ii, fdiv_ii, pow_ii, lt_ii, gt_ii, le_ii, ge_ii, lt_ss, gt_ss, le_ss, ge_ss, eq_ii, ne_ii, eq_ss, ne_ss, is_vb, isnt_vb, is_vn, isnt_vn, tst_b, tag_i, tag_b, tag_s, tag_t, tag_n, tag_f, tag_d, tag_o, len_s, len_t, len_c, len_f, len_d, list_w, listW_f, listW_t, listW_c, listW_d, tuple_w, tupW_f, tupW_t, tupW_r, all_w, any_w, sum_w, max_w, min_w, dict_w, dictW_f, dictW_d, divmod_w, int_i, int_b, str_i, fmt_s, fmt_i, max_ii, min_ii, abs_i, newL_t, newL_f, newD_t, newD_f, asL_f, asL_r, asSeq_f, asSeq_t, asSeq_c, asSeq_r, asD_f, asD_r, bmT, join_w, split_w, get1_w, get2_w, append_w, pop1_w, clear_w, extend_w, tl_r, fld_o, isIns_o, is_integer_w, law_is_int_w, is_name_w, law_is_name_w, is_list_w, is_tuple_w, box_w, tgIs, tgB, Ts.len, Option.some.injEq, Val.int.injEq, Val.bl.injEq, Val.str.injEq, Val.ref.injEq, Val.tup.injEq, Val.fl.injEq, Ob.lst.injEq, List.cons.injEq, and_true, true_and, and_self, exists_eq_left', exists_eq_left, exists_eq', exists_and_left, exists_const, and_assoc, Bool.not_true, Bool.not_false, Bool.not_not, Bool.false_eq_true, ↓reduceIte, List.any_cons, List.any_nil, Bool.or_false, Bool.false_or, Bool.true_or, Bool.or_true, reduceCtorEq, sizeLine_eq, Int.reduceLT, Int.reduceLE, Int.reducePow, Int.reduceNeg, Int.reduceAdd, Int.reduceSub, Int.reduceMul, Int.reduceToNat, Int.toNat_zero, Int.toNat_one, natAbs_10, Nat.reducePow, Nat.reduceLT, Nat.reduceLeDiff, Nat.reduceMul, decide_true, decide_false, or_true, true_or, ne_eq, not_false_eq_true]
    refine if_ndec (fun h1 => ?_) fun h1 => ?_
    · rw [decide_eq_true (show lo ≤ i by omega), Bool.true_and] at q
      refine gc_same rfl ?_
      by_cases z : hi < i
      · rw [decide_eq_false (show ¬ i ≤ hi by omega)] at q
        rw [decide_eq_true z]; exact q
      · rw [decide_eq_true (show i ≤ hi by omega)] at q
        rw [decide_eq_false z]; exact q
    · rw [decide_eq_false (show ¬ lo ≤ i by omega)] at q
      exact gc_same rfl q
  | _ => first | (cases t; done) | (simp only [b_is_integer, wipeE, un_t, un_f, slc_s, slc_t, slc_f, slc_r, rev_f, rev_r, en_t, en_f, en_r, it_s, it_t, it_c, it_f, it_r, wpSs, wpS, wpE, wpEs, wpEo, wpAnd, wpOr, wpIfs, wpT, wpTs, wpI, wpF, startE, setAll, List.map_cons, List.map_nil, List.cons_append, List.nil_append, List.getElem?_cons_zero, List.getElem?_cons_succ, List.getElem?_nil, List.set_cons_zero, List.set_cons_succ, List.length_cons, List.length_nil, List.replicate, Nat.zero_add, Nat.reduceAdd, Nat.reduceSub, add_ii, add_ss, add_ff, add_rl, add_fr, add_tt, mul_ii, mul_si, mul_fi, sub_ii, mod_ii, fdiv_ii, pow_ii, lt_ii, gt_ii, le_ii, ge_ii, lt_ss, gt_ss, le_ss, ge_ss, eq_ii, ne_ii, eq_ss, ne_ss, is_vb, isnt_vb, is_vn, isnt_vn, tst_b, tag_i, tag_b, tag_s, tag_t, tag_n, tag_f, tag_d, tag_o, len_s, len_t, len_c, len_f, len_d, list_w, listW_f, listW_t, listW_c, listW_d, tuple_w, tupW_f, tupW_t, tupW_r, all_w, any_w, sum_w, max_w, min_w, dict_w, dictW_f, dictW_d, divmod_w, int_i, int_b, str_i, fmt_s, fmt_i, max_ii, min_ii, abs_i, newL_t, newL_f, newD_t, newD_f, asL_f, asL_r, asSeq_f, asSeq_t, asSeq_c, asSeq_r, asD_f, asD_r, bmT, join_w, split_w, get1_w, get2_w, append_w, pop1_w, clear_w, extend_w, tl_r, fld_o, isIns_o, is_integer_w, law_is_int_w, is_name_w, law_is_name_w, is_list_w, is_tuple_w, box_w, tgIs, tgB, Ts.len, Option.some.injEq, Val.int.injEq, Val.bl.injEq, Val.str.injEq, Val.ref.injEq, Val.tup.injEq, Val.fl.injEq, Ob.lst.injEq, List.cons.injEq, and_true, true_and, and_self, exists_eq_left', exists_eq_left, exists_eq', exists_and_left, exists_const, and_assoc, Bool.not_true, Bool.not_false, Bool.not_not, Bool.false_eq_true, ↓reduceIte, List.any_cons, List.any_nil, Bool.or_false, Bool.false_or, Bool.true_or, Bool.or_true, reduceCtorEq, sizeLine_eq, Int.reduceLT, Int.reduceLE, Int.reducePow, Int.reduceNeg, Int.reduceAdd, Int.reduceSub, Int.reduceMul, Int.reduceToNat, Int.toNat_zero, Int.toNat_one, natAbs_10, Nat.reducePow, Nat.reduceLT, Nat.reduceLeDiff, Nat.reduceMul, decide_true, decide_false, or_true, true_or, ne_eq, not_false_eq_true]; exact gc_same rfl q)
theorem pr_is_name : ∀ vs h Q Ex, sp_is_name vs h Q Ex → bodyW 2 1 b_is_name vs h (gcQ h Q) (gcX h Ex) := by
  rintro vs h Q Ex ⟨v, rfl, g, q⟩
  refine ⟨rfl, ?_⟩
  cases v with
  | str s =>
    have hl := g.str_len
    have hz : s.length ≤ sizeLine := small (by omega)
    have q : Q (.bl (nameB s)) h := q
    simp only [b_is_name, wipeE, un_t, un_f, slc_s, slc_t, slc_f, slc_r, rev_f, rev_r, en_t, en_f, en_r, it_s, it_t, it_c, it_f, it_r, wpSs, wpS, wpE, wpEs, wpEo, wpAnd, wpOr, wpIfs, wpT, wpTs, wpI, wpF, startE, setAll, List.map_cons, List.map_nil, List.cons_append, List.nil_append, List.getElem?_cons_zero, List.getElem?_cons_succ, List.getElem?_nil, List.set_cons_zero, List.set_cons_succ, List.length_cons, List.length_nil, List.replicate, Nat.zero_add, Nat.reduceAdd, Nat.reduceSub, add_ii, add_ss, add_ff, add_rl, add_fr, add_tt, mul_ii, mul_si, mul_fi, sub_ii, mod_ii, fdiv_ii, pow_ii, lt_ii, gt_ii, le_ii, ge_ii, lt_ss, gt_ss, le_ss, ge_ss, eq_ii, ne_ii, eq_ss, ne_ss, is_vb, isnt_vb, is_vn, isnt_vn, tst_b, tag_i, tag_b, tag_s, tag_t, tag_n, tag_f, tag_d, tag_o, len_s, len_t, len_c, len_f, len_d, list_w, listW_f, listW_t, listW_c, listW_d, tuple_w, tupW_f, tupW_t, tupW_r, all_w, any_w, sum_w, max_w, min_w, dict_w, dictW_f, dictW_d, divmod_w, int_i, int_b, str_i, fmt_s, fmt_i, max_ii, min_ii, abs_i, newL_t, newL_f, newD_t, newD_f, asL_f, asL_r, asSeq_f, asSeq_t, asSeq_c, asSeq_r, asD_f, asD_r, bmT, join_w, split_w, get1_w, get2_w, append_w, pop1_w, clear_w, extend_w, tl_r, fld_o, isIns_o, is_integer_w, law_is_int_w, is_name_w, law_is_name_w, is_list_w, is_tuple_w, box_w, tgIs, tgB, Ts.len, Option.some.injEq, Val.int.injEq, Val.bl.injEq, Val.str.injEq, Val.ref.injEq, Val.tup.injEq, Val.fl.injEq, Ob.lst.injEq, List.cons.injEq, and_true, true_and, and_self, exists_eq_left', exists_eq_left, exists_eq', exists_and_left, exists_const, and_assoc, Bool.not_true, Bool.not_false, Bool.not_not, Bool.false_eq_true, ↓reduceIte, List.any_cons, List.any_nil, Bool.or_false, Bool.false_or, Bool.true_or, Bool.or_true, reduceCtorEq, sizeLine_eq, Int.reduceLT, Int.reduceLE, Int.reducePow, Int.reduceNeg, Int.reduceAdd, Int.reduceSub, Int.reduceMul, Int.reduceToNat, Int.toNat_zero, Int.toNat_one, natAbs_10, Nat.reducePow, Nat.reduceLT, Nat.reduceLeDiff, Nat.reduceMul, decide_true, decide_false, or_true, true_or, ne_eq, not_false_eq_true]
    refine ⟨hz, if_ndec (fun h1 => ?_) fun h1 => ?_⟩
    · refine if_dec (fun h2 => ?_) fun h2 => ?_
      · rw [nameB_no (by omega)] at q
        exact gc_same rfl q
      · refine ⟨hz, compW_by (onC fun c => some (.bl (decide (c ∈ low26)))) trivial (fun x hx K k => ?_) _ _ (fun _ m => m) (by rw [List.length_map]; exact small (by simp; omega)) ?_⟩
        · obtain ⟨c, _, rfl⟩ := mem_signs hx
          simp only [wipeE, un_t, un_f, slc_s, slc_t, slc_f, slc_r, rev_f, rev_r, en_t, en_f, en_r, it_s, it_t, it_c, it_f, it_r, wpSs, wpS, wpE, wpEs, wpEo, wpAnd, wpOr, wpIfs, wpT, wpTs, wpI, wpF, startE, setAll, List.map_cons, List.map_nil, List.cons_append, List.nil_append, List.getElem?_cons_zero, List.getElem?_cons_succ, List.getElem?_nil, List.set_cons_zero, List.set_cons_succ, List.length_cons, List.length_nil, List.replicate, Nat.zero_add, Nat.reduceAdd, Nat.reduceSub, add_ii, add_ss, add_ff, add_rl, add_fr, add_tt, mul_ii, mul_si, mul_fi, sub_ii, mod_ii, fdiv_ii, pow_ii, lt_ii, gt_ii, le_ii, ge_ii, lt_ss, gt_ss, le_ss, ge_ss, eq_ii, ne_ii, eq_ss, ne_ss, is_vb, isnt_vb, is_vn, isnt_vn, tst_b, tag_i, tag_b, tag_s, tag_t, tag_n, tag_f, tag_d, tag_o, len_s, len_t, len_c, len_f, len_d, list_w, listW_f, listW_t, listW_c, listW_d, tuple_w, tupW_f, tupW_t, tupW_r, all_w, any_w, sum_w, max_w, min_w, dict_w, dictW_f, dictW_d, divmod_w, int_i, int_b, str_i, fmt_s, fmt_i, max_ii, min_ii, abs_i, newL_t, newL_f, newD_t, newD_f, asL_f, asL_r, asSeq_f, asSeq_t, asSeq_c, asSeq_r, asD_f, asD_r, bmT, join_w, split_w, get1_w, get2_w, append_w, pop1_w, clear_w, extend_w, tl_r, fld_o, isIns_o, is_integer_w, law_is_int_w, is_name_w, law_is_name_w, is_list_w, is_tuple_w, box_w, tgIs, tgB, Ts.len, Option.some.injEq, Val.int.injEq, Val.bl.injEq, Val.str.injEq, Val.ref.injEq, Val.tup.injEq, Val.fl.injEq, Ob.lst.injEq, List.cons.injEq, and_true, true_and, and_self, exists_eq_left', exists_eq_left, exists_eq', exists_and_left, exists_const, and_assoc, Bool.not_true, Bool.not_false, Bool.not_not, Bool.false_eq_true, ↓reduceIte, List.any_cons, List.any_nil, Bool.or_false, Bool.false_or, Bool.true_or, Bool.or_true, reduceCtorEq, sizeLine_eq, Int.reduceLT, Int.reduceLE, Int.reducePow, Int.reduceNeg, Int.reduceAdd, Int.reduceSub, Int.reduceMul, Int.reduceToNat, Int.toNat_zero, Int.toNat_one, natAbs_10, Nat.reducePow, Nat.reduceLT, Nat.reduceLeDiff, Nat.reduceMul, decide_true, decide_false, or_true, true_or, ne_eq, not_false_eq_true]
          exact in_c k
        · rw [List.nil_append, onC_map]
          rw [fm_some]
          exact ⟨_, allBl_map' (fun c => Val.bl (decide (c ∈ low26))) (fun c => decide (c ∈ low26)) (fun _ => rfl) s, gc_same rfl (by rw [nameB_all (by omega) (by omega)] at q; rw [List.all_map]; exact q)⟩
    · rw [nameB_no (by omega)] at q
      exact gc_same rfl q
  | _ => first | (cases g.t; done) | (simp only [b_is_name, wipeE, un_t, un_f, slc_s, slc_t, slc_f, slc_r, rev_f, rev_r, en_t, en_f, en_r, it_s, it_t, it_c, it_f, it_r, wpSs, wpS, wpE, wpEs, wpEo, wpAnd, wpOr, wpIfs, wpT, wpTs, wpI, wpF, startE, setAll, List.map_cons, List.map_nil, List.cons_append, List.nil_append, List.getElem?_cons_zero, List.getElem?_cons_succ, List.getElem?_nil, List.set_cons_zero, List.set_cons_succ, List.length_cons, List.length_nil, List.replicate, Nat.zero_add, Nat.reduceAdd, Nat.reduceSub, add_ii, add_ss, add_ff, add_rl, add_fr, add_tt, mul_ii, mul_si, mul_fi, sub_ii, mod_ii, fdiv_ii, pow_ii, lt_ii, gt_ii, le_ii, ge_ii, lt_ss, gt_ss, le_ss, ge_ss, eq_ii, ne_ii, eq_ss, ne_ss, is_vb, isnt_vb, is_vn, isnt_vn, tst_b, tag_i, tag_b, tag_s, tag_t, tag_n, tag_f, tag_d, tag_o, len_s, len_t, len_c, len_f, len_d, list_w, listW_f, listW_t, listW_c, listW_d, tuple_w, tupW_f, tupW_t, tupW_r, all_w, any_w, sum_w, max_w, min_w, dict_w, dictW_f, dictW_d, divmod_w, int_i, int_b, str_i, fmt_s, fmt_i, max_ii, min_ii, abs_i, newL_t, newL_f, newD_t, newD_f, asL_f, asL_r, asSeq_f, asSeq_t, asSeq_c, asSeq_r, asD_f, asD_r, bmT, join_w, split_w, get1_w, get2_w, append_w, pop1_w, clear_w, extend_w, tl_r, fld_o, isIns_o, is_integer_w, law_is_int_w, is_name_w, law_is_name_w, is_list_w, is_tuple_w, box_w, tgIs, tgB, Ts.len, Option.some.injEq, Val.int.injEq, Val.bl.injEq, Val.str.injEq, Val.ref.injEq, Val.tup.injEq, Val.fl.injEq, Ob.lst.injEq, List.cons.injEq, and_true, true_and, and_self, exists_eq_left', exists_eq_left, exists_eq', exists_and_left, exists_const, and_assoc, Bool.not_true, Bool.not_false, Bool.not_not, Bool.false_eq_true, ↓reduceIte, List.any_cons, List.any_nil, Bool.or_false, Bool.false_or, Bool.true_or, Bool.or_true, reduceCtorEq, sizeLine_eq, Int.reduceLT, Int.reduceLE, Int.reducePow, Int.reduceNeg, Int.reduceAdd, Int.reduceSub, Int.reduceMul, Int.reduceToNat, Int.toNat_zero, Int.toNat_one, natAbs_10, Nat.reducePow, Nat.reduceLT, Nat.reduceLeDiff, Nat.reduceMul, decide_true, decide_false, or_true, true_or, ne_eq, not_false_eq_true]; exact gc_same rfl q)
theorem pr_is_list : ∀ vs h Q Ex, sp_is_list vs h Q Ex → bodyW 2 2 b_is_list vs h (gcQ h Q) (gcX h Ex) := by
  rintro vs h Q Ex ⟨v, m, rfl, t, q⟩
  refine ⟨rfl, ?_⟩
  have fin : ∀ {n : Nat}, Q (.bl (decide ((n : Int) ≤ m))) h → Q (.bl (!decide (m < (n : Int)))) h := fun {n} z => by
    by_cases y : m < (n : Int)
    · rw [decide_eq_false (show ¬ (n : Int) ≤ m by omega)] at z
      rw [decide_eq_true y]; exact z
    · rw [decide_eq_true (show (n : Int) ≤ m by omega)] at z
      rw [decide_eq_false y]; exact z
  cases v with
  | fl xs => simp only [b_is_list, wipeE, un_t, un_f, slc_s, slc_t, slc_f, slc_r, rev_f, rev_r, en_t, en_f, en_r, it_s, it_t, it_c, it_f, it_r, wpSs, wpS, wpE, wpEs, wpEo, wpAnd, wpOr, wpIfs, wpT, wpTs, wpI, wpF, startE, setAll, List.map_cons, List.map_nil, List.cons_append, List.nil_append, List.getElem?_cons_zero, List.getElem?_cons_succ, List.getElem?_nil, List.set_cons_zero, List.set_cons_succ, List.length_cons, List.length_nil, List.replicate, Nat.zero_add, Nat.reduceAdd, Nat.reduceSub, add_ii, add_ss, add_ff, add_rl, add_fr, add_tt, mul_ii, mul_si, mul_fi, sub_ii, mod_ii, fdiv_ii, pow_ii, lt_ii, gt_ii, le_ii, ge_ii, lt_ss, gt_ss, le_ss, ge_ss, eq_ii, ne_ii, eq_ss, ne_ss, is_vb, isnt_vb, is_vn, isnt_vn, tst_b, tag_i, tag_b, tag_s, tag_t, tag_n, tag_f, tag_d, tag_o, len_s, len_t, len_c, len_f, len_d, list_w, listW_f, listW_t, listW_c, listW_d, tuple_w, tupW_f, tupW_t, tupW_r, all_w, any_w, sum_w, max_w, min_w, dict_w, dictW_f, dictW_d, divmod_w, int_i, int_b, str_i, fmt_s, fmt_i, max_ii, min_ii, abs_i, newL_t, newL_f, newD_t, newD_f, asL_f, asL_r, asSeq_f, asSeq_t, asSeq_c, asSeq_r, asD_f, asD_r, bmT, join_w, split_w, get1_w, get2_w, append_w, pop1_w, clear_w, extend_w, tl_r, fld_o, isIns_o, is_integer_w, law_is_int_w, is_name_w, law_is_name_w, is_list_w, is_tuple_w, box_w, tgIs, tgB, Ts.len, Option.some.injEq, Val.int.injEq, Val.bl.injEq, Val.str.injEq, Val.ref.injEq, Val.tup.injEq, Val.fl.injEq, Ob.lst.injEq, List.cons.injEq, and_true, true_and, and_self, exists_eq_left', exists_eq_left, exists_eq', exists_and_left, exists_const, and_assoc, Bool.not_true, Bool.not_false, Bool.not_not, Bool.false_eq_true, ↓reduceIte, List.any_cons, List.any_nil, Bool.or_false, Bool.false_or, Bool.true_or, Bool.or_true, reduceCtorEq, sizeLine_eq, Int.reduceLT, Int.reduceLE, Int.reducePow, Int.reduceNeg, Int.reduceAdd, Int.reduceSub, Int.reduceMul, Int.reduceToNat, Int.toNat_zero, Int.toNat_one, natAbs_10, Nat.reducePow, Nat.reduceLT, Nat.reduceLeDiff, Nat.reduceMul, decide_true, decide_false, or_true, true_or, ne_eq, not_false_eq_true]; exact gc_same rfl (fin q)
  | tup xs => simp only [b_is_list, wipeE, un_t, un_f, slc_s, slc_t, slc_f, slc_r, rev_f, rev_r, en_t, en_f, en_r, it_s, it_t, it_c, it_f, it_r, wpSs, wpS, wpE, wpEs, wpEo, wpAnd, wpOr, wpIfs, wpT, wpTs, wpI, wpF, startE, setAll, List.map_cons, List.map_nil, List.cons_append, List.nil_append, List.getElem?_cons_zero, List.getElem?_cons_succ, List.getElem?_nil, List.set_cons_zero, List.set_cons_succ, List.length_cons, List.length_nil, List.replicate, Nat.zero_add, Nat.reduceAdd, Nat.reduceSub, add_ii, add_ss, add_ff, add_rl, add_fr, add_tt, mul_ii, mul_si, mul_fi, sub_ii, mod_ii, fdiv_ii, pow_ii, lt_ii, gt_ii, le_ii, ge_ii, lt_ss, gt_ss, le_ss, ge_ss, eq_ii, ne_ii, eq_ss, ne_ss, is_vb, isnt_vb, is_vn, isnt_vn, tst_b, tag_i, tag_b, tag_s, tag_t, tag_n, tag_f, tag_d, tag_o, len_s, len_t, len_c, len_f, len_d, list_w, listW_f, listW_t, listW_c, listW_d, tuple_w, tupW_f, tupW_t, tupW_r, all_w, any_w, sum_w, max_w, min_w, dict_w, dictW_f, dictW_d, divmod_w, int_i, int_b, str_i, fmt_s, fmt_i, max_ii, min_ii, abs_i, newL_t, newL_f, newD_t, newD_f, asL_f, asL_r, asSeq_f, asSeq_t, asSeq_c, asSeq_r, asD_f, asD_r, bmT, join_w, split_w, get1_w, get2_w, append_w, pop1_w, clear_w, extend_w, tl_r, fld_o, isIns_o, is_integer_w, law_is_int_w, is_name_w, law_is_name_w, is_list_w, is_tuple_w, box_w, tgIs, tgB, Ts.len, Option.some.injEq, Val.int.injEq, Val.bl.injEq, Val.str.injEq, Val.ref.injEq, Val.tup.injEq, Val.fl.injEq, Ob.lst.injEq, List.cons.injEq, and_true, true_and, and_self, exists_eq_left', exists_eq_left, exists_eq', exists_and_left, exists_const, and_assoc, Bool.not_true, Bool.not_false, Bool.not_not, Bool.false_eq_true, ↓reduceIte, List.any_cons, List.any_nil, Bool.or_false, Bool.false_or, Bool.true_or, Bool.or_true, reduceCtorEq, sizeLine_eq, Int.reduceLT, Int.reduceLE, Int.reducePow, Int.reduceNeg, Int.reduceAdd, Int.reduceSub, Int.reduceMul, Int.reduceToNat, Int.toNat_zero, Int.toNat_one, natAbs_10, Nat.reducePow, Nat.reduceLT, Nat.reduceLeDiff, Nat.reduceMul, decide_true, decide_false, or_true, true_or, ne_eq, not_false_eq_true]; exact gc_same rfl (fin q)
  | _ => first | (cases t; done) | (simp only [b_is_list, wipeE, un_t, un_f, slc_s, slc_t, slc_f, slc_r, rev_f, rev_r, en_t, en_f, en_r, it_s, it_t, it_c, it_f, it_r, wpSs, wpS, wpE, wpEs, wpEo, wpAnd, wpOr, wpIfs, wpT, wpTs, wpI, wpF, startE, setAll, List.map_cons, List.map_nil, List.cons_append, List.nil_append, List.getElem?_cons_zero, List.getElem?_cons_succ, List.getElem?_nil, List.set_cons_zero, List.set_cons_succ, List.length_cons, List.length_nil, List.replicate, Nat.zero_add, Nat.reduceAdd, Nat.reduceSub, add_ii, add_ss, add_ff, add_rl, add_fr, add_tt, mul_ii, mul_si, mul_fi, sub_ii, mod_ii, fdiv_ii, pow_ii, lt_ii, gt_ii, le_ii, ge_ii, lt_ss, gt_ss, le_ss, ge_ss, eq_ii, ne_ii, eq_ss, ne_ss, is_vb, isnt_vb, is_vn, isnt_vn, tst_b, tag_i, tag_b, tag_s, tag_t, tag_n, tag_f, tag_d, tag_o, len_s, len_t, len_c, len_f, len_d, list_w, listW_f, listW_t, listW_c, listW_d, tuple_w, tupW_f, tupW_t, tupW_r, all_w, any_w, sum_w, max_w, min_w, dict_w, dictW_f, dictW_d, divmod_w, int_i, int_b, str_i, fmt_s, fmt_i, max_ii, min_ii, abs_i, newL_t, newL_f, newD_t, newD_f, asL_f, asL_r, asSeq_f, asSeq_t, asSeq_c, asSeq_r, asD_f, asD_r, bmT, join_w, split_w, get1_w, get2_w, append_w, pop1_w, clear_w, extend_w, tl_r, fld_o, isIns_o, is_integer_w, law_is_int_w, is_name_w, law_is_name_w, is_list_w, is_tuple_w, box_w, tgIs, tgB, Ts.len, Option.some.injEq, Val.int.injEq, Val.bl.injEq, Val.str.injEq, Val.ref.injEq, Val.tup.injEq, Val.fl.injEq, Ob.lst.injEq, List.cons.injEq, and_true, true_and, and_self, exists_eq_left', exists_eq_left, exists_eq', exists_and_left, exists_const, and_assoc, Bool.not_true, Bool.not_false, Bool.not_not, Bool.false_eq_true, ↓reduceIte, List.any_cons, List.any_nil, Bool.or_false, Bool.false_or, Bool.true_or, Bool.or_true, reduceCtorEq, sizeLine_eq, Int.reduceLT, Int.reduceLE, Int.reducePow, Int.reduceNeg, Int.reduceAdd, Int.reduceSub, Int.reduceMul, Int.reduceToNat, Int.toNat_zero, Int.toNat_one, natAbs_10, Nat.reducePow, Nat.reduceLT, Nat.reduceLeDiff, Nat.reduceMul, decide_true, decide_false, or_true, true_or, ne_eq, not_false_eq_true]; exact gc_same rfl q)
theorem pr_is_tuple : ∀ vs h Q Ex, sp_is_tuple vs h Q Ex → bodyW 2 2 b_is_tuple vs h (gcQ h Q) (gcX h Ex) := by
  rintro vs h Q Ex ⟨v, m, rfl, t, q⟩
  refine ⟨rfl, ?_⟩
  cases v with
  | tup xs => simp only [b_is_tuple, wipeE, un_t, un_f, slc_s, slc_t, slc_f, slc_r, rev_f, rev_r, en_t, en_f, en_r, it_s, it_t, it_c, it_f, it_r, wpSs, wpS, wpE, wpEs, wpEo, wpAnd, wpOr, wpIfs, wpT, wpTs, wpI, wpF, startE, setAll, List.map_cons, List.map_nil, List.cons_append, List.nil_append, List.getElem?_cons_zero, List.getElem?_cons_succ, List.getElem?_nil, List.set_cons_zero, List.set_cons_succ, List.length_cons, List.length_nil, List.replicate, Nat.zero_add, Nat.reduceAdd, Nat.reduceSub, add_ii, add_ss, add_ff, add_rl, add_fr, add_tt, mul_ii, mul_si, mul_fi, sub_ii, mod_ii, fdiv_ii, pow_ii, lt_ii, gt_ii, le_ii, ge_ii, lt_ss, gt_ss, le_ss, ge_ss, eq_ii, ne_ii, eq_ss, ne_ss, is_vb, isnt_vb, is_vn, isnt_vn, tst_b, tag_i, tag_b, tag_s, tag_t, tag_n, tag_f, tag_d, tag_o, len_s, len_t, len_c, len_f, len_d, list_w, listW_f, listW_t, listW_c, listW_d, tuple_w, tupW_f, tupW_t, tupW_r, all_w, any_w, sum_w, max_w, min_w, dict_w, dictW_f, dictW_d, divmod_w, int_i, int_b, str_i, fmt_s, fmt_i, max_ii, min_ii, abs_i, newL_t, newL_f, newD_t, newD_f, asL_f, asL_r, asSeq_f, asSeq_t, asSeq_c, asSeq_r, asD_f, asD_r, bmT, join_w, split_w, get1_w, get2_w, append_w, pop1_w, clear_w, extend_w, tl_r, fld_o, isIns_o, is_integer_w, law_is_int_w, is_name_w, law_is_name_w, is_list_w, is_tuple_w, box_w, tgIs, tgB, Ts.len, Option.some.injEq, Val.int.injEq, Val.bl.injEq, Val.str.injEq, Val.ref.injEq, Val.tup.injEq, Val.fl.injEq, Ob.lst.injEq, List.cons.injEq, and_true, true_and, and_self, exists_eq_left', exists_eq_left, exists_eq', exists_and_left, exists_const, and_assoc, Bool.not_true, Bool.not_false, Bool.not_not, Bool.false_eq_true, ↓reduceIte, List.any_cons, List.any_nil, Bool.or_false, Bool.false_or, Bool.true_or, Bool.or_true, reduceCtorEq, sizeLine_eq, Int.reduceLT, Int.reduceLE, Int.reducePow, Int.reduceNeg, Int.reduceAdd, Int.reduceSub, Int.reduceMul, Int.reduceToNat, Int.toNat_zero, Int.toNat_one, natAbs_10, Nat.reducePow, Nat.reduceLT, Nat.reduceLeDiff, Nat.reduceMul, decide_true, decide_false, or_true, true_or, ne_eq, not_false_eq_true]; exact gc_same rfl q
  | _ => first | (cases t; done) | (simp only [b_is_tuple, wipeE, un_t, un_f, slc_s, slc_t, slc_f, slc_r, rev_f, rev_r, en_t, en_f, en_r, it_s, it_t, it_c, it_f, it_r, wpSs, wpS, wpE, wpEs, wpEo, wpAnd, wpOr, wpIfs, wpT, wpTs, wpI, wpF, startE, setAll, List.map_cons, List.map_nil, List.cons_append, List.nil_append, List.getElem?_cons_zero, List.getElem?_cons_succ, List.getElem?_nil, List.set_cons_zero, List.set_cons_succ, List.length_cons, List.length_nil, List.replicate, Nat.zero_add, Nat.reduceAdd, Nat.reduceSub, add_ii, add_ss, add_ff, add_rl, add_fr, add_tt, mul_ii, mul_si, mul_fi, sub_ii, mod_ii, fdiv_ii, pow_ii, lt_ii, gt_ii, le_ii, ge_ii, lt_ss, gt_ss, le_ss, ge_ss, eq_ii, ne_ii, eq_ss, ne_ss, is_vb, isnt_vb, is_vn, isnt_vn, tst_b, tag_i, tag_b, tag_s, tag_t, tag_n, tag_f, tag_d, tag_o, len_s, len_t, len_c, len_f, len_d, list_w, listW_f, listW_t, listW_c, listW_d, tuple_w, tupW_f, tupW_t, tupW_r, all_w, any_w, sum_w, max_w, min_w, dict_w, dictW_f, dictW_d, divmod_w, int_i, int_b, str_i, fmt_s, fmt_i, max_ii, min_ii, abs_i, newL_t, newL_f, newD_t, newD_f, asL_f, asL_r, asSeq_f, asSeq_t, asSeq_c, asSeq_r, asD_f, asD_r, bmT, join_w, split_w, get1_w, get2_w, append_w, pop1_w, clear_w, extend_w, tl_r, fld_o, isIns_o, is_integer_w, law_is_int_w, is_name_w, law_is_name_w, is_list_w, is_tuple_w, box_w, tgIs, tgB, Ts.len, Option.some.injEq, Val.int.injEq, Val.bl.injEq, Val.str.injEq, Val.ref.injEq, Val.tup.injEq, Val.fl.injEq, Ob.lst.injEq, List.cons.injEq, and_true, true_and, and_self, exists_eq_left', exists_eq_left, exists_eq', exists_and_left, exists_const, and_assoc, Bool.not_true, Bool.not_false, Bool.not_not, Bool.false_eq_true, ↓reduceIte, List.any_cons, List.any_nil, Bool.or_false, Bool.false_or, Bool.true_or, Bool.or_true, reduceCtorEq, sizeLine_eq, Int.reduceLT, Int.reduceLE, Int.reducePow, Int.reduceNeg, Int.reduceAdd, Int.reduceSub, Int.reduceMul, Int.reduceToNat, Int.toNat_zero, Int.toNat_one, natAbs_10, Nat.reducePow, Nat.reduceLT, Nat.reduceLeDiff, Nat.reduceMul, decide_true, decide_false, or_true, true_or, ne_eq, not_false_eq_true]; exact gc_same rfl q)
end Lw
set_option Elab.async false
set_option linter.all false
set_option maxRecDepth 100000
set_option maxHeartbeats 2000000
namespace Lw
open PySem
local macro_rules | `(tactic| fin2) => `(tactic| try simp only [wipeE, un_t, un_f, slc_s, slc_t, slc_f, slc_r, rev_f, rev_r, en_t, en_f, en_r, it_s, it_t, it_c, it_f, it_r, wpSs, wpS, wpE, wpEs, wpEo, wpAnd, wpOr, wpIfs, wpT, wpTs, wpI, wpF, startE, setAll, List.map_cons, List.map_nil, List.cons_append, List.nil_append, List.getElem?_cons_zero, List.getElem?_cons_succ, List.getElem?_nil, List.set_cons_zero, List.set_cons_succ, List.length_cons, List.length_nil, List.replicate, Nat.zero_add, Nat.reduceAdd, Nat.reduceSub, add_ii, add_ss, add_ff, add_rl, add_fr, add_tt, mul_ii, mul_si, mul_fi, sub_ii, mod_ii, fdiv_ii, pow_ii, lt_ii, gt_ii, le_ii, ge_ii, lt_ss, gt_ss, le_ss, ge_ss, eq_ii, ne_ii, eq_ss, ne_ss, is_vb, isnt_vb, is_vn, isnt_vn, tst_b, tag_i, tag_b, tag_s, tag_t, tag_n, tag_f, tag_d, tag_o, len_s, len_t, len_c, len_f, len_d, list_w, listW_f, listW_t, listW_c, listW_d, tuple_w, tupW_f, tupW_t, tupW_r, all_w, any_w, sum_w, max_w, min_w, dict_w, dictW_f, dictW_d, divmod_w, int_i, int_b, str_i, fmt_s, fmt_i, max_ii, min_ii, abs_i, newL_t, newL_f, newD_t, newD_f, asL_f, asL_r, asSeq_f, asSeq_t, asSeq_c, asSeq_r, asD_f, asD_r, bmT, join_w, split_w, get1_w, get2_w, append_w, pop1_w, clear_w, extend_w, tl_r, fld_o, isIns_o, is_integer_w, law_is_int_w, is_name_w, law_is_name_w, is_list_w, is_tuple_w, box_w, tgIs, tgB, Ts.len, Option.some.injEq, Val.int.injEq, Val.bl.injEq, Val.str.injEq, Val.ref.injEq, Val.tup.injEq, Val.fl.injEq, Ob.lst.injEq, List.cons.injEq, and_true, true_and, and_self, exists_eq_left', exists_eq_left, exists_eq', exists_and_left, exists_const, and_assoc, Bool.not_true, Bool.not_false, Bool.not_not, Bool.false_eq_true, ↓reduceIte, List.any_cons, List.any_nil, Bool.or_false, Bool.false_or, Bool.true_or, Bool.or_true, reduceCtorEq, sizeLine_eq, Int.reduceLT, Int.reduceLE, Int.reducePow, Int.reduceNeg, Int.reduceAdd, Int.reduceSub, Int.reduceMul, Int.reduceToNat, Int.toNat_zero, Int.toNat_one, natAbs_10, Nat.reducePow, Nat.reduceLT, Nat.reduceLeDiff, Nat.reduceMul, decide_true, decide_false, or_true, true_or, ne_eq, not_false_eq_true])
local macro_rules | `(tactic| fin_item) => `(tactic| (first | omega | (simp only [List.length_append, List.length_cons, List.length_nil, List.length_map, List.length_take, List.length_drop, List.length_replicate, List.length_range]; omega)))
def n_Net_places : List Nm := ["self"]
def b_Net_places : Ss := .cons (.ret (.bi (.list true) (.cons (.fld 0 0 (.var 0)) .nil)))
  .nil

def n_Net_legs : List Nm := ["self"]
def b_Net_legs : Ss := .cons (.ret (.bi (.list true) (.cons (.fld 0 1 (.var 0)) .nil)))
  .nil

def n_Net_len : List Nm := ["self"]
def b_Net_len : Ss := .cons (.ret (.bi .len (.cons (.fld 0 0 (.var 0)) .nil)))
  .nil

def n_Net_has : List Nm := ["self", "value"]
def b_Net_has : Ss := .cons (.ret (.and (.cons (.isi (.var 1) [.str]) (.cons (.cmp .isin (.var 1) (.fld 0 0 (.var 0))) .nil))))
  .nil

def n_need_place : List Nm := ["net", "place"]
def b_need_place : Ss := .cons (.ite (.not (.mth 0 "has" sp_Net_has (.var 0) (.cons (.var 1) .nil)))
  (.cons .dead
  .nil)
  .nil)
  .nil

def n_Net_rise : List Nm := ["self", "one", "other"]
def b_Net_rise : Ss := .cons (.expr (.call "need_place" sp_need_place (.cons (.var 0) (.cons (.var 1) .nil))))
  (.cons (.expr (.call "need_place" sp_need_place (.cons (.var 0) (.cons (.var 2) .nil))))
  (.cons (.ret (.bm .get1 (.fld 0 2 (.var 0)) (.cons (.tup (.cons (.var 1) (.cons (.var 2) .nil))) .nil)))
  .nil))

def n_is_leg : List Nm := ["value"]
def b_is_leg : Ss := .cons (.ite (.or (.cons (.not (.call "is_tuple" sp_is_tuple (.cons (.var 0) (.cons (.con (.int (3))) .nil)))) (.cons (.not (.call "is_name" sp_is_name (.cons (.idx (.var 0) (.con (.int (0)))) .nil))) (.cons (.not (.call "is_name" sp_is_name (.cons (.idx (.var 0) (.con (.int (1)))) .nil))) .nil))))
  (.cons (.ret (.con (.bl false)))
  .nil)
  .nil)
  (.cons (.ret (.and (.cons (.cmp .ne (.idx (.var 0) (.con (.int (0)))) (.idx (.var 0) (.con (.int (1))))) (.cons (.call "is_integer" sp_is_integer (.cons (.idx (.var 0) (.con (.int (2)))) (.cons (.con (.int (0))) (.cons (.glb "STEEPEST" (.int (10000))) .nil)))) .nil))))
  .nil)

def n_need_leg : List Nm := ["net", "leg", "one", "other", "rise"]
def b_need_leg : Ss := .cons (.ite (.not (.call "is_leg" sp_is_leg (.cons (.var 1) .nil)))
  (.cons .dead
  .nil)
  .nil)
  (.cons (.asg (.tup (.cons (.name 2) (.cons (.name 3) (.cons (.name 4) .nil)))) (.var 1))
  (.cons (.expr (.call "need_place" sp_need_place (.cons (.var 0) (.cons (.var 2) .nil))))
  (.cons (.expr (.call "need_place" sp_need_place (.cons (.var 0) (.cons (.var 3) .nil))))
  (.cons (.ite (.cmp .isnt (.mth 0 "rise" sp_Net_rise (.var 0) (.cons (.var 2) (.cons (.var 3) .nil))) (.con (.non)))
  (.cons .dead
  .nil)
  .nil)
  .nil))))

theorem pr_is_list_s : ∀ vs h Q Ex, sp_is_list_s vs h Q Ex → bodyW 2 2 b_is_list vs h (gcQ h Q) (gcX h Ex) := by
  rintro vs h Q Ex ⟨v, m, xs, rfl, s, q⟩
  refine ⟨rfl, ?_⟩
  rcases s with rfl | rfl | ⟨n, rfl, e⟩
  all_goals ((try simp only [b_is_list]); fin2; (try (simp only [b_is_list]; fin2)))
  · refine gc_same rfl ?_
    rw [show (!decide (m < (xs.length : Int))) = decide ((xs.length : Int) ≤ m) by by_cases h1 : m < (xs.length : Int) <;> simp [h1] <;> omega]
    exact q
  · refine gc_same rfl ?_
    rw [show (!decide (m < (xs.length : Int))) = decide ((xs.length : Int) ≤ m) by by_cases h1 : m < (xs.length : Int) <;> simp [h1] <;> omega]
    exact q
  · refine ⟨.list, by unfold tag; simp only [e], rfl, ?_⟩
    fin2
    refine len_l e ?_
    fin2
    refine gc_same rfl ?_
    rw [show (!decide (m < (xs.length : Int))) = decide ((xs.length : Int) ≤ m) by by_cases h1 : m < (xs.length : Int) <;> simp [h1] <;> omega]
    exact q
theorem pr_Net_places : ∀ vs h Q Ex, sp_Net_places vs h Q Ex → bodyW 1 1 b_Net_places vs h (gcQ h Q) (gcX h Ex) := by
  rintro vs h Q Ex ⟨x, ps, ls, rfl, N, q⟩
  refine ⟨rfl, ?_⟩
  ((try simp only [b_Net_places]); fin2; (try (simp only [b_Net_places]; fin2)))
  refine N.f0 fun y l => l.lst (z := true) ?_
  exact gc_same (lows_tre (tres_strs ps)) q
theorem pr_Net_legs : ∀ vs h Q Ex, sp_Net_legs vs h Q Ex → bodyW 1 1 b_Net_legs vs h (gcQ h Q) (gcX h Ex) := by
  rintro vs h Q Ex ⟨x, ps, ls, rfl, N, q⟩
  refine ⟨rfl, ?_⟩
  ((try simp only [b_Net_legs]); fin2; (try (simp only [b_Net_legs]; fin2)))
  refine N.f1 fun y l => l.lst (z := true) ?_
  exact gc_same (lows_tre (tres_map ls fun _ _ => rfl)) q
theorem pr_Net_len : ∀ vs h Q Ex, sp_Net_len vs h Q Ex → bodyW 1 1 b_Net_len vs h (gcQ h Q) (gcX h Ex) := by
  rintro vs h Q Ex ⟨x, ps, ls, rfl, N, q⟩
  refine ⟨rfl, ?_⟩
  ((try simp only [b_Net_len]); fin2; (try (simp only [b_Net_len]; fin2)))
  refine N.f0 fun y l => l.len ?_
  rw [List.length_map]
  exact gc_same rfl q
theorem pr_Net_has : ∀ vs h Q Ex, sp_Net_has vs h Q Ex → bodyW 2 2 b_Net_has vs h (gcQ h Q) (gcX h Ex) := by
  rintro vs h Q Ex ⟨x, v, ps, ls, rfl, N, t, q⟩
  refine ⟨rfl, ?_⟩
  ((try simp only [b_Net_has]); fin2; (try (simp only [b_Net_has]; fin2)))
  obtain ⟨t1, t2⟩ := tag_tre (h := h) t
  refine ⟨_, t1, t2, ?_⟩
  cases v with
  | str s =>
    ((try simp only [tgV]); fin2; (try (simp only [tgV]; fin2)))
    refine N.f0 fun y l => ?_
    fin2
    refine in_i (l.in_str ?_)
    exact gc_same rfl q
  | tup _ => ((try simp only [tgV]); fin2; (try (simp only [tgV]; fin2))); exact gc_same rfl q
  | fl _ => ((try simp only [tgV]); fin2; (try (simp only [tgV]; fin2))); exact gc_same rfl q
  | fd _ => ((try simp only [tgV]); fin2; (try (simp only [tgV]; fin2))); exact gc_same rfl q
  | int _ => ((try simp only [tgV]); fin2; (try (simp only [tgV]; fin2))); exact gc_same rfl q
  | bl _ => ((try simp only [tgV]); fin2; (try (simp only [tgV]; fin2))); exact gc_same rfl q
  | non => ((try simp only [tgV]); fin2; (try (simp only [tgV]; fin2))); exact gc_same rfl q
  | _ => cases t
theorem pr_need_place : ∀ vs h Q Ex, sp_need_place vs h Q Ex → bodyW 2 2 b_need_place vs h (gcQ h Q) (gcX h Ex) := by
  rintro vs h Q Ex ⟨x, s, ps, ls, rfl, N, m, q⟩
  refine ⟨rfl, ?_⟩
  ((try simp only [b_need_place]); fin2; (try (simp only [b_need_place]; fin2)))
  refine ⟨N.ins, has_w N rfl ?_⟩
  rw [show hasV ps (.str s) = true from decide_eq_true m]
  fin2
  exact gc_same rfl q
theorem pr_Net_rise : ∀ vs h Q Ex, sp_Net_rise vs h Q Ex → bodyW 3 3 b_Net_rise vs h (gcQ h Q) (gcX h Ex) := by
  rintro vs h Q Ex ⟨x, a, b, ps, ls, rfl, N, ma, mb, q⟩
  refine ⟨rfl, ?_⟩
  ((try simp only [b_Net_rise]); fin2; (try (simp only [b_Net_rise]; fin2)))
  refine need_place_w N ma ?_
  fin2
  refine need_place_w N mb ?_
  fin2
  refine N.f2 fun y l => ⟨l.as rfl, ?_⟩
  fin2
  refine l.as ⟨rises_ok a b ls, ?_⟩
  rw [rises_get]
  have e : ((riseO ls a b).map Val.int).getD .non = optV (riseO ls a b) := by cases riseO ls a b <;> rfl
  rw [e]
  exact gc_same (by cases riseO ls a b <;> rfl) q
theorem pr_is_leg : ∀ vs h Q Ex, sp_is_leg vs h Q Ex → bodyW 1 1 b_is_leg vs h (gcQ h Q) (gcX h Ex) := by
  rintro vs h Q Ex ⟨v, rfl, g, q⟩
  refine ⟨rfl, ?_⟩
  ((try simp only [b_is_leg, is_tuple_w]); fin2; (try (simp only [b_is_leg, is_tuple_w]; fin2)))
  refine ⟨g.t, ?_⟩
  cases t : tupV 3 v with
  | false =>
    have e : legB v = false := by
      unfold legB
      split
      · cases t
      · rfl
    rw [e] at q
    fin2
    exact gc_same rfl q
  | true =>
    obtain ⟨x, y, z, rfl⟩ := tupV3 t
    have gx := g.items (x := x) (by simp)
    have gy := g.items (x := y) (by simp)
    have gz := g.items (x := z) (by simp)
    have q : Q (.bl (nameV x && nameV y && neV x y && intV 0 10000 z)) h := q
    fin2
    refine idx_t (v := x) rfl ?_
    ((try simp only [is_name_w]); fin2; (try (simp only [is_name_w]; fin2)))
    refine ⟨gx, ?_⟩
    cases nx : nameV x with
    | false => rw [nx] at q; fin2; exact gc_same rfl q
    | true =>
      obtain ⟨s, rfl, ns⟩ := nameV_is nx
      fin2
      refine idx_t (v := y) rfl ?_
      ((try simp only [is_name_w]); fin2; (try (simp only [is_name_w]; fin2)))
      refine ⟨gy, ?_⟩
      cases ny : nameV y with
      | false => rw [nx, ny] at q; fin2; exact gc_same rfl q
      | true =>
        obtain ⟨u, rfl, nu⟩ := nameV_is ny
        rw [nx, ny] at q
        fin2
        refine idx_t (v := .str s) rfl ?_
        fin2
        refine idx_t (v := .str u) rfl ?_
        fin2
        cases e : decide (s = u) with
        | true =>
          rw [show neV (.str s) (.str u) = false by show (!decide (s = u)) = false; rw [e]; rfl] at q
          fin2
          exact gc_same rfl q
        | false =>
          rw [show neV (.str s) (.str u) = true by show (!decide (s = u)) = true; rw [e]; rfl] at q
          fin2
          refine idx_t (v := z) rfl ?_
          ((try simp only [is_integer_w]); fin2; (try (simp only [is_integer_w]; fin2)))
          exact ⟨gz.t, gc_same rfl q⟩
theorem pr_need_leg : ∀ vs h Q Ex, sp_need_leg vs h Q Ex → bodyW 5 2 b_need_leg vs h (gcQ h Q) (gcX h Ex) := by
  rintro vs h Q Ex ⟨x, l, ps, ls, rfl, N, o, n, m, q⟩
  refine ⟨rfl, ?_⟩
  have na := n _ o.ma
  have nb := n _ o.mb
  ((try simp only [b_need_leg, is_leg_w]); fin2; (try (simp only [b_need_leg, is_leg_w]; fin2)))
  refine ⟨(leg_ok na nb o.r0 o.r1).good, ?_⟩
  rw [leg_is na nb o.ne o.r0 o.r1]
  fin2
  refine ⟨rfl, _, _, rfl, _, _, rfl, _, _, rfl, rfl, ?_⟩
  fin2
  refine need_place_w N o.ma ?_
  fin2
  refine need_place_w N o.mb ?_
  fin2
  refine ⟨N.ins, rise_w N o.ma o.mb ?_⟩
  rw [riseO_none m]
  ((try simp only [optV]); fin2; (try (simp only [optV]; fin2)))
  exact gc_same rfl q
end Lw
set_option Elab.async false
set_option linter.all false
set_option maxRecDepth 100000
set_option maxHeartbeats 2000000
namespace Lw
open PySem
local macro_rules | `(tactic| fin2) => `(tactic| try simp only [wipeE, un_t, un_f, slc_s, slc_t, slc_f, slc_r, rev_f, rev_r, en_t, en_f, en_r, it_s, it_t, it_c, it_f, it_r, wpSs, wpS, wpE, wpEs, wpEo, wpAnd, wpOr, wpIfs, wpT, wpTs, wpI, wpF, startE, setAll, List.map_cons, List.map_nil, List.cons_append, List.nil_append, List.getElem?_cons_zero, List.getElem?_cons_succ, List.getElem?_nil, List.set_cons_zero, List.set_cons_succ, List.length_cons, List.length_nil, List.replicate, Nat.zero_add, Nat.reduceAdd, Nat.reduceSub, add_ii, add_ss, add_ff, add_rl, add_fr, add_tt, mul_ii, mul_si, mul_fi, sub_ii, mod_ii, fdiv_ii, pow_ii, lt_ii, gt_ii, le_ii, ge_ii, lt_ss, gt_ss, le_ss, ge_ss, eq_ii, ne_ii, eq_ss, ne_ss, is_vb, isnt_vb, is_vn, isnt_vn, tst_b, tag_i, tag_b, tag_s, tag_t, tag_n, tag_f, tag_d, tag_o, len_s, len_t, len_c, len_f, len_d, list_w, listW_f, listW_t, listW_c, listW_d, tuple_w, tupW_f, tupW_t, tupW_r, all_w, any_w, sum_w, max_w, min_w, dict_w, dictW_f, dictW_d, divmod_w, int_i, int_b, str_i, fmt_s, fmt_i, max_ii, min_ii, abs_i, newL_t, newL_f, newD_t, newD_f, asL_f, asL_r, asSeq_f, asSeq_t, asSeq_c, asSeq_r, asD_f, asD_r, bmT, join_w, split_w, get1_w, get2_w, append_w, pop1_w, clear_w, extend_w, tl_r, fld_o, isIns_o, is_integer_w, law_is_int_w, is_name_w, law_is_name_w, is_list_w, is_tuple_w, box_w, tgIs, tgB, Ts.len, Option.some.injEq, Val.int.injEq, Val.bl.injEq, Val.str.injEq, Val.ref.injEq, Val.tup.injEq, Val.fl.injEq, Ob.lst.injEq, List.cons.injEq, and_true, true_and, and_self, exists_eq_left', exists_eq_left, exists_eq', exists_and_left, exists_const, and_assoc, Bool.not_true, Bool.not_false, Bool.not_not, Bool.false_eq_true, ↓reduceIte, List.any_cons, List.any_nil, Bool.or_false, Bool.false_or, Bool.true_or, Bool.or_true, reduceCtorEq, sizeLine_eq, Int.reduceLT, Int.reduceLE, Int.reducePow, Int.reduceNeg, Int.reduceAdd, Int.reduceSub, Int.reduceMul, Int.reduceToNat, Int.toNat_zero, Int.toNat_one, natAbs_10, Nat.reducePow, Nat.reduceLT, Nat.reduceLeDiff, Nat.reduceMul, decide_true, decide_false, or_true, true_or, ne_eq, not_false_eq_true])
local macro_rules | `(tactic| fin_item) => `(tactic| (first | omega | (simp only [List.length_append, List.length_cons, List.length_nil, List.length_map, List.length_take, List.length_drop, List.length_replicate, List.length_range]; omega)))
def n_Net_init : List Nm := ["self", "places", "legs", "name", "leg"]
def b_Net_init : Ss := .cons (.ite (.not (.call "is_list" sp_is_list_s (.cons (.var 1) (.cons (.glb "MOST_PLACES" (.int (24))) .nil))))
  (.cons .dead
  .nil)
  .nil)
  (.cons (.asg (.fld 0 0 (.var 0)) (.lst false .nil))
  (.cons (.for_ (.name 3) (.any (.var 1))
  (.cons (.ite (.not (.call "is_name" sp_is_name (.cons (.var 3) .nil)))
  (.cons .dead
  .nil)
  .nil)
  (.cons (.ite (.cmp .isin (.var 3) (.fld 0 0 (.var 0)))
  (.cons .dead
  .nil)
  .nil)
  (.cons (.expr (.bm .append (.fld 0 0 (.var 0)) (.cons (.var 3) .nil)))
  .nil))))
  (.cons (.ite (.not (.call "is_list" sp_is_list_s (.cons (.var 2) (.cons (.glb "MOST_LEGS" (.int (60))) .nil))))
  (.cons .dead
  .nil)
  .nil)
  (.cons (.asg (.fld 0 1 (.var 0)) (.lst false .nil))
  (.cons (.asg (.fld 0 2 (.var 0)) (.dict false .nil))
  (.cons (.for_ (.name 4) (.any (.var 2))
  (.cons (.expr (.call "need_leg" sp_need_leg (.cons (.var 0) (.cons (.var 4) .nil))))
  (.cons (.expr (.bm .append (.fld 0 1 (.var 0)) (.cons (.var 4) .nil)))
  (.cons (.asg (.sub (.fld 0 2 (.var 0)) (.tup (.cons (.idx (.var 4) (.con (.int (0)))) (.cons (.idx (.var 4) (.con (.int (1)))) .nil)))) (.idx (.var 4) (.con (.int (2)))))
  (.cons (.asg (.sub (.fld 0 2 (.var 0)) (.tup (.cons (.idx (.var 4) (.con (.int (1)))) (.cons (.idx (.var 4) (.con (.int (0)))) .nil)))) (.idx (.var 4) (.con (.int (2)))))
  .nil)))))
  .nil))))))

theorem pr_Net : ∀ vs h Q Ex, sp_Net vs h Q Ex → mkSp 0 (bodyW 5 3 b_Net_init) vs h Q Ex := by
  rintro vs h Q Ex ⟨p, q, ps, ls, rfl, sp, sq, ok, r⟩
  have lp := ok.lp
  have ll := ok.ll
  refine ⟨rfl, ?_⟩
  ((try simp only [b_Net_init]); fin2; (try (simp only [b_Net_init]; fin2)))
  have up : ∀ {v : Val} {xs : List Val} {h' : Hv}, (∀ m, m < h.nx → h'.g m = h.g m) → IsSq h v xs → IsSq h' v xs := fun {v xs h'} lo s => by
    rcases s with s | s | ⟨n, s, e⟩
    · exact .inl s
    · exact .inr (.inl s)
    · exact .inr (.inr ⟨n, s, by rw [lo n (Hv.lt e)]; exact e⟩)
  have it : ∀ {v : Val} {xs : List Val} {h' : Hv} {P : WkK}, IsSq h' v xs → (∀ G : Hv → Prop, (∀ h2, IsSq h2 v xs → G h2) → P ⟨xs, G⟩ h') → itAny v h' P := fun {v xs h' P} s k => by
    rcases s with rfl | rfl | ⟨n, rfl, e⟩
    · exact k _ fun _ _ => trivial
    · exact k _ fun _ _ => trivial
    · refine ⟨xs, e, k _ fun h2 s2 => ?_⟩
      rcases s2 with s2 | s2 | ⟨n2, s2, e2⟩
      · cases s2
      · cases s2
      · cases s2; exact e2
  have lo0 : ∀ o m, m < h.nx → (h.al o).g m = h.g m := fun o m hm => Hv.al_old (by omega)
  refine is_list_sw (up (lo0 _) sp) ?_
  rw [decide_eq_true (by rw [List.length_map]; omega)]
  fin2
  refine ⟨[none, none, none], by rw [Hv.al_old (show h.nx ≠ h.nx + 1 by omega)]; exact Hv.al_new _ _, Nat.lt_of_sub_eq_succ rfl, ?_⟩
  rw [al_put_ne (show h.nx < h.nx + 1 by omega), al_put rfl]
  fin2
  have lo1 : ∀ o o2 m, m < h.nx → ((h.al o).al o2).g m = h.g m := fun o o2 m hm => by rw [Hv.al_old (show m ≠ h.nx + 1 by omega), Hv.al_old (by omega)]
  refine it (up (lo1 _ _) sp) fun G hG => ?_
  refine forW_at (l := ps) (v := Val.str) (fun i env h1 => ∃ e3, env = [some (.ref h.nx), some p, some q, e3, none] ∧ h1 = (h.al (.ins 0 [some (.ref (h.nx + 1)), none, none])).al (.lst ((ps.take i).map .str))) rfl (fun i env h1 ⟨e3, _, e⟩ => by rw [e]; exact hG _ (up (lo1 _ _) sp)) ⟨_, rfl, rfl⟩ ?_ ?_
  · rintro s i env h1 hi hs ⟨e3, rfl, rfl⟩ N hN
    have ms := List.mem_of_getElem? hs
    have g0 : ((h.al (.ins 0 [some (.ref (h.nx + 1)), none, none])).al (.lst ((ps.take i).map .str))).g h.nx = some (.ins 0 [some (.ref (h.nx + 1)), none, none]) := by
      rw [Hv.al_old (show h.nx ≠ h.nx + 1 by omega)]; exact Hv.al_new _ _
    have g1 : ((h.al (.ins 0 [some (.ref (h.nx + 1)), none, none])).al (.lst ((ps.take i).map .str))).g (h.nx + 1) = some (.lst ((ps.take i).map .str)) := Hv.al_new _ _
    ((try simp only [is_name_w]); fin2; (try (simp only [is_name_w]; fin2)))
    refine ⟨(Ok.name (ok.n s ms)).good, ?_⟩
    rw [show nameV (.str s) = true from ok.n s ms]
    fin2
    refine ⟨_, _, g0, rfl, in_i (in_strsR g1 ?_)⟩
    have nm : s ∉ ps.take i := fun m => by
      obtain ⟨j, hj, e⟩ := List.getElem_of_mem m
      rw [List.length_take] at hj
      rw [List.getElem_take] at e
      have e2 := (List.getElem?_eq_some_iff.mp hs).2
      have := (List.pairwise_iff_getElem.mp ok.nd) j i (by omega) hi (by omega)
      exact this (by rw [e, e2])
    rw [decide_eq_false nm]
    fin2
    refine ⟨_, _, g0, rfl, ⟨_, rfl, _, g1⟩, ?_⟩
    fin2
    refine ⟨_, g1, by rw [List.length_map, List.length_take]; omega, ?_⟩
    rw [al_put (h := h.al _) (n := h.nx + 1) rfl]
    refine hN _ _ ⟨_, rfl, ?_⟩
    rw [List.take_add_one, hs, List.map_append]; rfl
  · rintro env h1 ⟨e3, rfl, rfl⟩
    rw [List.take_length]
    fin2
    refine is_list_sw (up (lo1 _ _) sq) ?_
    rw [decide_eq_true (by rw [List.length_map]; omega)]
    fin2
    refine ⟨[some (.ref (h.nx + 1)), none, none], by rw [Hv.al_old (show h.nx ≠ h.nx + 1 + 1 by omega), Hv.al_old (show h.nx ≠ h.nx + 1 by omega)]; exact Hv.al_new _ _, Nat.lt_of_sub_eq_succ rfl, ?_⟩
    rw [al_put_ne (show h.nx < h.nx + 1 + 1 by omega), al_put_ne (show h.nx < h.nx + 1 by omega), al_put rfl]
    fin2
    refine ⟨[], rfl, ?_⟩
    fin2
    refine ⟨[some (.ref (h.nx + 1)), some (.ref (h.nx + 2)), none], by rw [Hv.al_old (show h.nx ≠ h.nx + 1 + 1 + 1 by omega), Hv.al_old (show h.nx ≠ h.nx + 1 + 1 by omega), Hv.al_old (show h.nx ≠ h.nx + 1 by omega)]; exact Hv.al_new _ _, Nat.lt_of_sub_eq_succ rfl, ?_⟩
    rw [al_put_ne (show h.nx < h.nx + 1 + 1 + 1 by omega), al_put_ne (show h.nx < h.nx + 1 + 1 by omega), al_put_ne (show h.nx < h.nx + 1 by omega), al_put rfl]
    fin2
    refine it (up (fun m hm => nHg_lo hm) sq) fun G hG => ?_
    refine forW_at (l := ls) (v := legV) (fun i env h1 => ∃ e3 e4, env = [some (.ref h.nx), some p, some q, e3, e4] ∧ h1 = nHg h (.ins 0 [some (.ref (h.nx + 1)), some (.ref (h.nx + 2)), some (.ref (h.nx + 3))]) (.lst (ps.map .str)) (.lst ((ls.take i).map legV)) (.dic (risesV (ls.take i)) false)) rfl (fun i env h1 ⟨e3, e4, _, e⟩ => by rw [e]; exact hG _ (up (fun m hm => nHg_lo hm) sq)) ⟨_, _, rfl, rfl⟩ ?_ ?_
    · rintro l i env h1 hi hl ⟨e3, e4, rfl, rfl⟩ N hN
      have ml := List.mem_of_getElem? hl
      have lo := ok.ok l ml
      have nw := one_new ok.one hl
      fin2
      refine need_leg_w (.rf nHg_0 nHg_1 nHg_2 nHg_3) lo ok.n nw ?_
      fin2
      refine ⟨_, _, nHg_0, rfl, ⟨_, rfl, _, nHg_2⟩, ?_⟩
      fin2
      refine ⟨_, nHg_2, by rw [List.length_map, List.length_take]; omega, ?_⟩
      rw [nHg_p2]
      ((try simp only [legV]); fin2; (try (simp only [legV]; fin2)))
      refine idx_t (v := .int l.r) rfl ?_
      fin2
      refine ⟨_, _, nHg_0, rfl, ?_⟩
      refine idx_t (v := .str l.a) rfl ?_
      refine idx_t (v := .str l.b) rfl ?_
      fin2
      refine .inr ⟨_, nHg_3, rises_ok _ _ _, by rw [rises_len, List.length_take, sizeLine_eq]; omega, ?_⟩
      rw [nHg_p3, rises_put1 nw]
      refine idx_t (v := .int l.r) rfl ?_
      fin2
      refine ⟨_, _, nHg_0, rfl, ?_⟩
      refine idx_t (v := .str l.b) rfl ?_
      refine idx_t (v := .str l.a) rfl ?_
      fin2
      refine .inr ⟨_, nHg_3, rises_ok2 _ _ _ _ _ _, by rw [List.length_append, rises_len, List.length_take, sizeLine_eq]; simp; omega, ?_⟩
      rw [nHg_p3, rises_put2 nw lo.ne]
      refine hN _ _ ⟨_, _, rfl, ?_⟩
      rw [List.take_add_one, hl, List.map_append]; rfl
    · rintro env h1 ⟨e3, e4, rfl, rfl⟩
      rw [List.take_length]
      fin2
      refine .inl ⟨netV ps ls, ((((nHg h _ _ _ _).del h.nx).del (h.nx + 1)).del (h.nx + 2)).del (h.nx + 3), .ins (vs := [.ref (h.nx + 1), .ref (h.nx + 2), .ref (h.nx + 3)]) nHg_0 (.cons (.lst ((del_get (by omega)).trans nHg_1) .same) (.cons (.lst ((del_get (by omega)).trans ((del_get (by omega)).trans nHg_2)) .same) (.cons (.dic ((del_get (by omega)).trans ((del_get (by omega)).trans ((del_get (by omega)).trans nHg_3))) .same) .same))), ?_⟩
      refine gc_ext ?_ ?_ (fun m hm => ?_) r
      · have h1 : trek (risesV ls) = true := by
          have : ∀ l : List Leg, trek (risesV l) = true := fun l => by
            induction l with
            | nil => rfl
            | cons k t ih => exact ih
          exact this ls
        show lowRs h.nx [.fl (ps.map .str), .fl (ls.map legV), .fd (risesV ls)] = true
        unfold lowRs lowRs lowRs lowRs
        rw [show lowR h.nx (.fl (ps.map .str)) = true from lows_tre (tres_strs ps), show lowR h.nx (.fl (ls.map legV)) = true from lows_tre (tres_map ls fun _ _ => rfl), show lowR h.nx (.fd (risesV ls)) = true from lowk_tre h1]
        rfl
      · show h.nx ≤ h.nx + 1 + 1 + 1 + 1
        omega
      · rw [del_get (by omega), del_get (by omega), del_get (by omega), del_get (by omega)]
        exact nHg_lo hm
end Lw
set_option Elab.async false
set_option linter.all false
set_option maxRecDepth 100000
set_option maxHeartbeats 2000000
namespace Lw
open PySem
local macro_rules | `(tactic| fin2) => `(tactic| try simp only [wipeE, un_t, un_f, slc_s, slc_t, slc_f, slc_r, rev_f, rev_r, en_t, en_f, en_r, it_s, it_t, it_c, it_f, it_r, wpSs, wpS, wpE, wpEs, wpEo, wpAnd, wpOr, wpIfs, wpT, wpTs, wpI, wpF, startE, setAll, List.map_cons, List.map_nil, List.cons_append, List.nil_append, List.getElem?_cons_zero, List.getElem?_cons_succ, List.getElem?_nil, List.set_cons_zero, List.set_cons_succ, List.length_cons, List.length_nil, List.replicate, Nat.zero_add, Nat.reduceAdd, Nat.reduceSub, add_ii, add_ss, add_ff, add_rl, add_fr, add_tt, mul_ii, mul_si, mul_fi, sub_ii, mod_ii, fdiv_ii, pow_ii, lt_ii, gt_ii, le_ii, ge_ii, lt_ss, gt_ss, le_ss, ge_ss, eq_ii, ne_ii, eq_ss, ne_ss, is_vb, isnt_vb, is_vn, isnt_vn, tst_b, tag_i, tag_b, tag_s, tag_t, tag_n, tag_f, tag_d, tag_o, len_s, len_t, len_c, len_f, len_d, list_w, listW_f, listW_t, listW_c, listW_d, tuple_w, tupW_f, tupW_t, tupW_r, all_w, any_w, sum_w, max_w, min_w, dict_w, dictW_f, dictW_d, divmod_w, int_i, int_b, str_i, fmt_s, fmt_i, max_ii, min_ii, abs_i, newL_t, newL_f, newD_t, newD_f, asL_f, asL_r, asSeq_f, asSeq_t, asSeq_c, asSeq_r, asD_f, asD_r, bmT, join_w, split_w, get1_w, get2_w, append_w, pop1_w, clear_w, extend_w, tl_r, fld_o, isIns_o, is_integer_w, law_is_int_w, is_name_w, law_is_name_w, is_list_w, is_tuple_w, box_w, tgIs, tgB, Ts.len, Option.some.injEq, Val.int.injEq, Val.bl.injEq, Val.str.injEq, Val.ref.injEq, Val.tup.injEq, Val.fl.injEq, Ob.lst.injEq, List.cons.injEq, and_true, true_and, and_self, exists_eq_left', exists_eq_left, exists_eq', exists_and_left, exists_const, and_assoc, Bool.not_true, Bool.not_false, Bool.not_not, Bool.false_eq_true, ↓reduceIte, List.any_cons, List.any_nil, Bool.or_false, Bool.false_or, Bool.true_or, Bool.or_true, reduceCtorEq, sizeLine_eq, Int.reduceLT, Int.reduceLE, Int.reducePow, Int.reduceNeg, Int.reduceAdd, Int.reduceSub, Int.reduceMul, Int.reduceToNat, Int.toNat_zero, Int.toNat_one, natAbs_10, Nat.reducePow, Nat.reduceLT, Nat.reduceLeDiff, Nat.reduceMul, decide_true, decide_false, or_true, true_or, ne_eq, not_false_eq_true])
local macro_rules | `(tactic| fin_item) => `(tactic| (first | omega | (simp only [List.length_append, List.length_cons, List.length_nil, List.length_map, List.length_take, List.length_drop, List.length_replicate, List.length_range]; omega)))
def n_law_mixed : List Nm := ["box", "some", "left", "k"]
def b_law_mixed : Ss := .cons (.asg (.name 2) (.bi (.list false) (.cons (.var 1) .nil)))
  (.cons (.ret (.lc true (.bm .pop1 (.var 2) (.cons (.call "_law_take" sp_law_take (.cons (.var 0) (.cons (.bi .len (.cons (.var 2) .nil)) .nil))) .nil)) (.name 3) (.rng1 (.bi .len (.cons (.var 1) .nil))) .nil [3]))
  .nil)

def n_law_rise : List Nm := ["box", "top"]
def b_law_rise : Ss := .cons (.ret (.idx (.lst true (.cons (.con (.int (0))) (.cons (.bin .sub (.var 1) (.con (.int (1)))) (.cons (.call "_law_take" sp_law_take (.cons (.var 0) (.cons (.var 1) .nil))) (.cons (.call "_law_take" sp_law_take (.cons (.var 0) (.cons (.var 1) .nil))) (.cons (.call "_law_take" sp_law_take (.cons (.var 0) (.cons (.var 1) .nil))) .nil)))))) (.call "_law_take" sp_law_take (.cons (.var 0) (.cons (.con (.int (5))) .nil)))))
  .nil

def n_law_legs : List Nm := ["box", "names", "more", "top", "split", "pairs", "legs", "at", "turn", "one", "other", "pair", "turned"]
def b_law_legs : Ss := .cons (.par [3, 4] (.cons (.idx (.lst true (.cons (.con (.int (3))) (.cons (.con (.int (8))) (.cons (.con (.int (10001))) .nil)))) (.call "_law_take" sp_law_take (.cons (.var 0) (.cons (.con (.int (3))) .nil)))) (.cons (.call "_law_take" sp_law_take (.cons (.var 0) (.cons (.con (.int (4))) .nil))) .nil)))
  (.cons (.par [5, 6] (.cons (.lst false .nil) (.cons (.lst false .nil) .nil)))
  (.cons (.for_ (.name 7) (.rng2 (.con (.int (1))) (.bi .len (.cons (.var 1) .nil)))
  (.cons (.ite (.or (.cons (.cmp .gt (.var 4) (.con (.int (0)))) (.cons (.cmp .gt (.call "_law_take" sp_law_take (.cons (.var 0) (.cons (.con (.int (3))) .nil))) (.con (.int (0)))) .nil)))
  (.cons (.expr (.bm .append (.var 5) (.cons (.tup (.cons (.var 7) (.cons (.call "_law_take" sp_law_take (.cons (.var 0) (.cons (.var 7) .nil))) .nil))) .nil)))
  .nil)
  .nil)
  .nil))
  (.cons (.for_ (.name 8) (.rng1 (.bin (.mul true) (.var 2) (.bi .int (.cons (.cmp .gt (.bi .len (.cons (.var 1) .nil)) (.con (.int (1)))) .nil))))
  (.cons (.par [9, 10] (.cons (.call "_law_take" sp_law_take (.cons (.var 0) (.cons (.bi .len (.cons (.var 1) .nil)) .nil))) (.cons (.call "_law_take" sp_law_take (.cons (.var 0) (.cons (.bi .len (.cons (.var 1) .nil)) .nil))) .nil)))
  (.cons (.ite (.and (.cons (.cmp .ne (.var 9) (.var 10)) (.cons (.cmp .notin (.tup (.cons (.var 9) (.cons (.var 10) .nil))) (.var 5)) (.cons (.cmp .notin (.tup (.cons (.var 10) (.cons (.var 9) .nil))) (.var 5)) .nil))))
  (.cons (.expr (.bm .append (.var 5) (.cons (.tup (.cons (.var 9) (.cons (.var 10) .nil))) .nil)))
  .nil)
  .nil)
  .nil)))
  (.cons (.gh 5)
  (.cons (.for_ (.name 11) (.any (.call "_law_mixed" sp_law_mixed (.cons (.var 0) (.cons (.var 5) .nil))))
  (.cons (.asg (.name 12) (.call "_law_take" sp_law_take (.cons (.var 0) (.cons (.con (.int (2))) .nil))))
  (.cons (.expr (.bm .append (.var 6) (.cons (.tup (.cons (.idx (.var 1) (.idx (.var 11) (.var 12))) (.cons (.idx (.var 1) (.idx (.var 11) (.bin .sub (.con (.int (1))) (.var 12)))) (.cons (.call "_law_rise" sp_law_rise (.cons (.var 0) (.cons (.var 3) .nil))) .nil)))) .nil)))
  .nil)))
  (.cons (.ret (.fz (.var 6)))
  .nil))))))

theorem pr_law_mixed : ∀ vs h Q Ex, sp_law_mixed vs h Q Ex → bodyW 4 2 b_law_mixed vs h (gcQ h Q) (gcX h Ex) := by
  rintro vs h Q Ex ⟨h0, b, t, c, α, l, f, rfl, rfl, hb, ok, lc, ll, tf, q⟩
  refine ⟨rfl, ?_⟩
  ((try simp only [b_law_mixed]); fin2; (try (simp only [b_law_mixed]; fin2)))
  rw [bx_al hb]
  have hb' : ∀ {o : Ob}, b < (h0.al o).nx := Nat.lt_succ_of_lt hb
  rw [List.length_map, bx_al_nx]
  refine ⟨by omega, by omega, ?_⟩
  rw [show ((l.length : Int)).toNat = l.length from rfl]
  refine compW_at (l := List.range l.length) (v := fun (k : Nat) => .int k) (fun i acc h1 => ∃ (done rest : List α) (t1 : Bx), acc = done.map f ∧ h1 = (h0.al (.lst (rest.map f))).bx b t1 ∧ okB (c + i) t1 ∧ rest.length + i = l.length ∧ (done ++ rest).Perm l) rfl (fun _ _ _ _ => trivial) (by rw [List.length_range, sizeLine_eq]; omega) ⟨[], l, t, rfl, rfl, ok, rfl, .refl _⟩ ?_ ?_
  · rintro x i acc h1 hi hx ⟨done, rest, t1, rfl, rfl, ok1, lr, pm⟩ K N hK hN
    rw [List.length_range] at hi
    fin2
    refine ⟨⟨_, acc_get hb⟩, ?_⟩
    fin2
    refine len_l (acc_get hb) ?_
    fin2
    refine take_of hb' ok1 (by omega) (by rw [List.length_map]; omega) (by rw [List.length_map]; omega) fun d t2 d0 d1 ok2 => ?_
    fin2
    rw [List.length_map] at d1
    have hd : d.toNat < rest.length := by omega
    refine ⟨_, acc_get hb, d.toNat, ?_, f rest[d.toNat], ?_, ?_⟩
    · rw [List.length_map]
      unfold L2.ixN
      rw [if_pos (by omega), if_pos (by omega)]
    · rw [List.getElem?_map, List.getElem?_eq_getElem hd]; rfl
    · rw [acc_put hb rfl, erase_map]
      refine hK _ _ ⟨done ++ [rest[d.toNat]], rest.eraseIdx d.toNat, t2, by rw [List.map_append]; rfl, rfl, ok2.mono (by omega), ?_, ?_⟩
      · rw [List.length_eraseIdx_of_lt hd]; omega
      · rw [List.append_assoc]
        exact (List.Perm.append_left done (erase_perm hd)).trans pm
  · rintro acc h1 ⟨done, rest, t1, rfl, rfl, ok1, lr, pm⟩
    rw [List.length_range] at lr ok1
    have : rest = [] := List.length_eq_zero_iff.mp (by omega)
    subst this
    rw [List.append_nil] at pm
    fin2
    have lw : lowR h0.nx (.fl (done.map f)) = true := lows_tre (tres_map _ fun x _ => tf x)
    refine gc_bx hb lw (Nat.le_succ _) (fun m hm => ?_) (q done t1 (ok1.mono (by omega)) pm)
    rw [Hv.al_old (by omega)]
theorem pr_law_rise : ∀ vs h Q Ex, sp_law_rise vs h Q Ex → bodyW 2 2 b_law_rise vs h (gcQ h Q) (gcX h Ex) := by
  rintro vs h Q Ex ⟨h0, b, t, c, top, rfl, rfl, hb, ok, lc, t0, t1, q⟩
  refine ⟨rfl, ?_⟩
  ((try simp only [b_law_rise]); fin2; (try (simp only [b_law_rise]; fin2)))
  refine take_of hb ok (by omega) (by omega) (by omega) fun d1 t2 d10 d11 ok1 => ?_
  fin2
  refine take_of hb ok1 (by omega) (by omega) (by omega) fun d2 t3 d20 d21 ok2 => ?_
  fin2
  refine take_of hb ok2 (by omega) (by omega) (by omega) fun d3 t4 d30 d31 ok3 => ?_
  fin2
  refine take_of hb ok3 (by omega) (by omega) (by omega) fun d4 t5 d40 d41 ok4 => ?_
  obtain ⟨v, hv, _, ix⟩ := atI_int (xs := [Val.int 0, .int (top - 1), .int d1, .int d2, .int d3]) d40 d41
  refine idx_f ix ?_
  simp only [List.mem_cons, List.not_mem_nil, or_false] at hv
  rcases hv with rfl | rfl | rfl | rfl | rfl <;> exact gc_bx0 hb rfl (q _ _ (ok4.mono (by omega)) (by omega) (by omega))
theorem pr_law_legs : ∀ vs h Q Ex, sp_law_legs vs h Q Ex → bodyW 13 3 b_law_legs vs h (gcQ h Q) (gcX h Ex) := by
  rintro vs h Q Ex ⟨h0, b, t, c, ps, more, rfl, rfl, hb, ok, lc, m0, m1, nd, q⟩
  refine ⟨rfl, ?_⟩
  ((try simp only [b_law_legs]); fin2; (try (simp only [b_law_legs]; fin2)))
  refine take_of hb ok (by omega) (by decide) (by decide) fun d1 t1 d10 d11 ok1 => ?_
  obtain ⟨v, hv, _, ix⟩ := atI_int (xs := [Val.int 3, .int 8, .int 10001]) d10 d11
  refine idx_f ix ?_
  obtain ⟨top, rfl, top0, top1⟩ : ∃ mi, v = .int mi ∧ 3 ≤ mi ∧ mi ≤ 10001 := by
    simp only [List.mem_cons, List.not_mem_nil, or_false] at hv
    rcases hv with rfl | rfl | rfl <;> exact ⟨_, rfl, by omega, by omega⟩
  clear ix hv
  fin2
  refine take_of hb ok1 (by omega) (by decide) (by decide) fun sp t2 sp0 sp1 ok2 => ?_
  fin2
  rw [List.length_map, bx_al hb, bx_al (Nat.lt_succ_of_lt hb)]
  have hb' : ∀ {o o2 : Ob}, b < ((h0.al o).al o2).nx := Nat.lt_succ_of_lt (Nat.lt_succ_of_lt hb)
  refine ⟨by omega, by omega, ?_⟩
  rw [show ((ps.length : Int) - 1).toNat = ps.length - 1 by omega]
  refine forW_at (l := List.range (ps.length - 1)) (v := fun (k : Nat) => .int (1 + k)) (fun i env h1 => ∃ (pr : List (Nat × Nat)) (t : Bx) (e7 e8 e9 f0 f1 f2 : Option Val), env = [some (.ref b), some (.fl (ps.map .str)), some (.int more), some (.int top), some (.int sp), some (.ref h0.nx), some (.ref (h0.nx + 1)), e7, e8, e9, f0, f1, f2] ∧
    h1 = ((h0.al (.lst (pr.map prV))).al (.lst [])).bx b t ∧ okB (c + 2 + 2 * i) t ∧ PrOk (i + 1) pr ∧ pr.length ≤ i) rfl (fun _ _ _ _ => trivial) ⟨[], t2, _, _, _, _, _, _, rfl, rfl, ok2, .nil, Nat.le_refl _⟩ ?_ ?_
  · rintro i k env h1 hi hk ⟨pr, t3, e7, e8, e9, f0, f1, f2, rfl, rfl, ok3, po, lp⟩ N hN
    rw [List.length_range] at hi
    rw [List.getElem?_range hi] at hk
    cases hk
    fin2
    have fin : ∀ (d : Int) (t5 : Bx), 0 ≤ d → d < 1 + i → okB (c + 2 + 2 * i + 2) t5 → N [some (.ref b), some (.fl (ps.map .str)), some (.int more), some (.int top), some (.int sp), some (.ref h0.nx), some (.ref (h0.nx + 1)), some (.int (1 + i)), e8, e9, f0, f1, f2] (((h0.al (.lst (pr.map prV ++ [.tup [.int (1 + i), .int d]]))).al (.lst [])).bx b t5) := fun d t5 d0 d1 ok5 => by
      refine hN _ _ ⟨pr ++ [(1 + i, d.toNat)], t5, _, _, _, _, _, _, rfl, ?_, ok5.mono (by omega), ?_, by fin_item⟩
      · rw [List.map_append]
        show _ = ((h0.al (.lst (pr.map prV ++ [prV (1 + i, d.toNat)]))).al (.lst [])).bx b t5
        unfold prV
        rw [show ((d.toNat : Nat) : Int) = d by omega, show (((1 + i : Nat)) : Int) = 1 + i by omega]
      · refine PrOk.snoc ⟨fun p m => ?_, po.u⟩ (by show 1 + i < i + 1 + 1; omega) (by show d.toNat < i + 1 + 1; omega) (by show 1 + i ≠ d.toNat; omega) fun p m => ?_
        · have := po.b p m; omega
        · have := po.b p m
          unfold clashP
          show ¬ ((p.1 = 1 + i ∧ p.2 = d.toNat) ∨ (p.1 = d.toNat ∧ p.2 = 1 + i))
          omega
    refine if_dec (fun _ => ?_) fun _ => ?_
    · refine ⟨⟨_, acc2_get0 hb⟩, take_of hb' ok3 (by omega) (by omega) (by omega) fun d t5 d0 d1 ok5 => ?_⟩
      fin2
      refine ⟨_, acc2_get0 hb, by fin_item, ?_⟩
      rw [acc2_put0 hb]
      exact fin d t5 d0 d1 (ok5.mono (by omega))
    · refine take_of hb' ok3 (by omega) (by decide) (by decide) fun d4 t4 d40 d41 ok4 => ?_
      fin2
      refine if_dec (fun _ => ?_) fun _ => ?_
      · refine ⟨⟨_, acc2_get0 hb⟩, take_of hb' ok4 (by omega) (by omega) (by omega) fun d t5 d0 d1 ok5 => ?_⟩
        fin2
        refine ⟨_, acc2_get0 hb, by fin_item, ?_⟩
        rw [acc2_put0 hb]
        exact fin d t5 d0 d1 (ok5.mono (by omega))
      · refine hN _ _ ⟨pr, t4, _, _, _, _, _, _, rfl, rfl, ok4.mono (by omega), ⟨fun p m => ?_, po.u⟩, by omega⟩
        have := po.b p m; omega
  rintro env h1 ⟨pr, t3, e7, e8, e9, f0, f1, f2, rfl, rfl, ok3, po, lp⟩
  rw [List.length_range] at lp ok3 po
  fin2
  rw [List.length_map]
  obtain ⟨z, hz, z0, z1, z2⟩ : ∃ z, (more * if decide (1 < (ps.length : Int)) = true then (1 : Int) else 0) = z ∧ 0 ≤ z ∧ z ≤ more ∧ (0 < z → 1 < ps.length) := by
    refine ⟨_, rfl, ?_⟩
    by_cases h1 : 1 < (ps.length : Int)
    · rw [decide_eq_true h1, if_pos rfl]; omega
    · rw [decide_eq_false h1, if_neg (by decide)]; omega
  rw [hz]
  refine ⟨.inl ⟨by omega, by omega⟩, by omega, by omega, ?_⟩
  have po : PrOk ps.length pr := by
    cases pr with
    | nil => exact .nil
    | cons p r =>
      rw [List.length_cons] at lp
      rw [show ps.length = ps.length - 1 + 1 by omega]; exact po
  refine forW_at (l := List.range z.toNat) (v := fun (k : Nat) => .int k) (fun i env h1 => ∃ (pr : List (Nat × Nat)) (t : Bx) (e7 e8 e9 f0 f1 f2 : Option Val), env = [some (.ref b), some (.fl (ps.map .str)), some (.int more), some (.int top), some (.int sp), some (.ref h0.nx), some (.ref (h0.nx + 1)), e7, e8, e9, f0, f1, f2] ∧
    h1 = ((h0.al (.lst (pr.map prV))).al (.lst [])).bx b t ∧ okB (c + 200 + 2 * i) t ∧ PrOk ps.length pr ∧ pr.length + 1 ≤ ps.length + i + 1 ∧ (pr.length ≤ ps.length - 1 + i)) rfl (fun _ _ _ _ => trivial) ⟨pr, t3, _, _, _, _, _, _, rfl, rfl, ok3.mono (by omega), po, by omega, by omega⟩ ?_ ?_
  · clear ok3 lp po
    rintro i k env h1 hi hk ⟨pr, t3, e7, e8, e9, f0, f1, f2, rfl, rfl, ok3, po, _, lp⟩ N hN
    rw [List.length_range] at hi
    rw [List.getElem?_range hi] at hk
    cases hk
    have n2 : 1 < ps.length := z2 (by omega)
    fin2
    rw [List.length_map]
    refine take_of hb' ok3 (by omega) (by omega) (by omega) fun d t4 d0 d1 ok4 => ?_
    fin2
    refine take_of hb' ok4 (by omega) (by omega) (by omega) fun d' t5 d'0 d'1 ok5 => ?_
    obtain ⟨o, rfl⟩ : ∃ o : Nat, d = o := ⟨d.toNat, by omega⟩
    obtain ⟨o', rfl⟩ : ∃ o : Nat, d' = o := ⟨d'.toNat, by omega⟩
    fin2
    have bnd : ∀ p ∈ pr, p.1 < 1000 ∧ p.2 < 1000 := fun p m => by have := po.b p m; omega
    have out : N [some (.ref b), some (.fl (ps.map .str)), some (.int more), some (.int top), some (.int sp), some (.ref h0.nx), some (.ref (h0.nx + 1)), e7, some (.int i), some (.int o), some (.int o'), f1, f2] (((h0.al (.lst (pr.map prV))).al (.lst [])).bx b t5) :=
      hN _ _ ⟨pr, t5, _, _, _, _, _, _, rfl, rfl, ok5.mono (by omega), po, by omega, by omega⟩
    refine if_ndec (fun h1 => ?_) fun h1 => ?_
    · refine in_n (in_prs (by omega) (by omega) (by omega) bnd (acc2_get0 hb) ?_)
      refine if_ndec (fun h2 => ?_) fun h2 => ?_
      · refine in_n (in_prs (by omega) (by omega) (by omega) bnd (acc2_get0 hb) ?_)
        refine if_ndec (fun h3 => ?_) fun h3 => ?_
        · refine ⟨⟨_, acc2_get0 hb⟩, ?_⟩
          fin2
          refine ⟨_, acc2_get0 hb, by fin_item, ?_⟩
          rw [acc2_put0 hb]
          refine hN _ _ ⟨pr ++ [(o, o')], t5, _, _, _, _, _, _, rfl, ?_, ok5.mono (by omega), ?_, by fin_item, by fin_item⟩
          · rw [List.map_append]; rfl
          · refine po.snoc (by show o < ps.length; omega) (by show o' < ps.length; omega) (by show o ≠ o'; omega) fun p m c => ?_
            rcases c with ⟨c1, c2⟩ | ⟨c1, c2⟩
            · exact h2 (by rw [show (o, o') = p from Prod.ext c1.symm c2.symm]; exact m)
            · exact h3 (by rw [show (o', o) = p from Prod.ext c1.symm c2.symm]; exact m)
        · exact out
      · exact out
    · exact out
  clear po lp ok3
  rintro env h1 ⟨pr, t3, e7, e8, e9, f0, f1, f2, rfl, rfl, ok3, po, _, lp⟩
  rw [List.length_range] at lp ok3
  fin2
  refine ⟨_, _, .lst (acc2_get0 hb) .same, ?_⟩
  rw [bx_del (by omega)]
  obtain ⟨H, eH, hHn, hHg, hHl⟩ : ∃ H, ((h0.al (.lst (pr.map prV))).al (.lst [])).del h0.nx = H ∧ H.nx = h0.nx + 2 ∧ H.g (h0.nx + 1) = some (.lst []) ∧ ∀ m, m < h0.nx → H.g m = h0.g m := by
    refine ⟨_, rfl, rfl, ?_, fun m hm => ?_⟩
    · rw [del_get (by omega)]; exact Hv.al_new _ _
    · rw [del_get (by omega), Hv.al_old (show m ≠ h0.nx + 1 by omega), Hv.al_old (by omega)]
  rw [eH]
  clear eH
  have hbH : b < H.nx := by omega
  refine mixed_of (l := pr) (f := prV) hbH ok3 (by omega) (by omega) (fun _ => rfl) fun pr2 t4 ok4 pm => ?_
  have po2 := po.perm pm
  have l2 : pr2.length = pr.length := pm.length_eq
  fin2
  refine forW_at (l := pr2) (v := prV) (fun i env h1 => ∃ (ls : List Leg) (t : Bx) (e7 e8 e9 f0 f1 f2 : Option Val), env = [some (.ref b), some (.fl (ps.map .str)), some (.int more), some (.int top), some (.int sp), some (.fl (pr.map prV)), some (.ref (h0.nx + 1)), e7, e8, e9, f0, f1, f2] ∧
    h1 = (H.put (h0.nx + 1) (.lst (ls.map legV))).bx b t ∧ okB (c + 500 + 5 * i) t ∧ ls.length = i ∧ (∀ l ∈ ls, (∃ p ∈ pr2.take i, ofP ps p l) ∧ 0 ≤ l.r ∧ l.r ≤ 10000) ∧ ls.Pairwise fun l k => l.on k.a k.b = false) rfl (fun _ _ _ _ => trivial) ⟨[], t4, _, _, _, _, _, _, rfl, by rw [List.map_nil, put_id hHg], ok4.mono (by omega), rfl, fun _ m => (nomatch m), List.Pairwise.nil⟩ ?_ ?_
  · rintro p i env h1 hi hp ⟨ls, t5, e7, e8, e9, f0, f1, f2, rfl, rfl, ok5, ll, hl, pw⟩ N hN
    obtain ⟨pb1, pb2, pb3⟩ := po2.b p (List.mem_of_getElem? hp)
    fin2
    have hb5 : b < (H.put (h0.nx + 1) (.lst (ls.map legV))).nx := hbH
    have nb : h0.nx + 1 ≠ b := by omega
    have get : ∀ t, ((H.put (h0.nx + 1) (.lst (ls.map legV))).bx b t).g (h0.nx + 1) = some (.lst (ls.map legV)) := fun t => by rw [bx_ne nb]; exact put_get (by omega)
    refine take_of hb5 ok5 (by omega) (by decide) (by decide) fun d t6 d0 d1 ok6 => ?_
    fin2
    refine ⟨⟨_, get t6⟩, ?_⟩
    have nm : ∀ {j : Nat} (hj : j < ps.length), L2.atI (ps.map Val.str) (j : Int) = some (.str ps[j]) := fun {j} hj => L2.atI_nat (by rw [List.getElem?_map, List.getElem?_eq_getElem hj]; rfl)
    have d2 : d = 0 ∨ d = 1 := by omega
    have fin : ∀ (l : Leg) t7, ofP ps p l → 0 ≤ l.r → l.r < top → okB (c + 500 + 5 * i + 5) t7 → N [some (.ref b), some (.fl (ps.map .str)), some (.int more), some (.int top), some (.int sp), some (.fl (pr.map prV)), some (.ref (h0.nx + 1)), e7, e8, e9, f0, some (prV p), some (.int d)] ((H.put (h0.nx + 1) (.lst (ls.map legV ++ [legV l]))).bx b t7) := fun l t7 o r0 r1 ok7 => by
      refine hN _ _ ⟨ls ++ [l], t7, _, _, _, _, _, _, rfl, by rw [List.map_append]; rfl, ok7.mono (by omega), by fin_item, fun k m => ?_, ?_⟩
      · rw [List.take_add_one, hp]
        rcases List.mem_append.mp m with m | m
        · obtain ⟨⟨q, mq, oq⟩, r2, r3⟩ := hl k m
          exact ⟨⟨q, List.mem_append_left _ mq, oq⟩, r2, r3⟩
        · rw [List.mem_singleton.mp m]
          exact ⟨⟨p, List.mem_append_right _ (List.mem_singleton.mpr rfl), o⟩, r0, by omega⟩
      · rw [List.pairwise_append]
        refine ⟨pw, List.pairwise_singleton _ _, fun k mk k2 m2 => ?_⟩
        rw [List.mem_singleton.mp m2]
        obtain ⟨⟨q, mq, oq⟩, _⟩ := hl k mk
        obtain ⟨j, hj, ej⟩ := List.getElem_of_mem mq
        rw [List.length_take] at hj
        rw [List.getElem_take] at ej
        have e2 := (List.getElem?_eq_some_iff.mp hp).2
        have nc := List.pairwise_iff_getElem.mp po2.u j i (by omega) hi (by omega)
        rw [ej, e2] at nc
        exact oq.apart nd o nc
    rcases d2 with rfl | rfl
    · refine idx_t (v := .int p.1) rfl (idx_f (nm pb1) (idx_t (v := .int p.2) rfl (idx_f (nm pb2) ?_)))
      refine lrise_of hb5 ok6 (by omega) (by omega) (by omega) fun r t7 ok7 r0 r1 => ?_
      fin2
      refine ⟨_, get t7, by fin_item, ?_⟩
      rw [put_comm nb.symm, put_put]
      exact fin ⟨ps[p.1], ps[p.2], r⟩ t7 (.inl ⟨List.getElem?_eq_getElem _, List.getElem?_eq_getElem _⟩) r0 r1 (ok7.mono (by omega))
    · refine idx_t (v := .int p.2) rfl (idx_f (nm pb2) (idx_t (v := .int p.1) rfl (idx_f (nm pb1) ?_)))
      refine lrise_of hb5 ok6 (by omega) (by omega) (by omega) fun r t7 ok7 r0 r1 => ?_
      fin2
      refine ⟨_, get t7, by fin_item, ?_⟩
      rw [put_comm nb.symm, put_put]
      exact fin ⟨ps[p.2], ps[p.1], r⟩ t7 (.inr ⟨List.getElem?_eq_getElem _, List.getElem?_eq_getElem _⟩) r0 r1 (ok7.mono (by omega))
  · rintro env h1 ⟨ls, t5, e7, e8, e9, f0, f1, f2, rfl, rfl, ok5, ll, hl, pw⟩
    fin2
    have nb : h0.nx + 1 ≠ b := by omega
    refine ⟨_, _, .lst (by rw [bx_ne nb]; exact put_get (by omega)) .same, ?_⟩
    rw [bx_del nb]
    have lw : lowR h0.nx (.fl (ls.map legV)) = true := lows_tre (tres_map _ fun _ _ => rfl)
    refine gc_bx hb lw (by show h0.nx ≤ H.nx; omega) (fun m hm => ?_) (q ls t5 (ok5.mono (by omega)) (by omega) (fun l m => ?_) pw)
    · rw [del_get (by omega), Hv.put_ne (by omega), hHl m hm]
    · obtain ⟨⟨p, mp, o⟩, r0, r1⟩ := hl l m
      exact o.ok nd (po2.b p (List.mem_of_mem_take mp)).2.2 r0 r1
end Lw
set_option Elab.async false
set_option linter.all false
set_option maxRecDepth 100000
set_option maxHeartbeats 2000000
namespace Lw
open PySem
local macro_rules | `(tactic| fin2) => `(tactic| try simp only [wipeE, un_t, un_f, slc_s, slc_t, slc_f, slc_r, rev_f, rev_r, en_t, en_f, en_r, it_s, it_t, it_c, it_f, it_r, wpSs, wpS, wpE, wpEs, wpEo, wpAnd, wpOr, wpIfs, wpT, wpTs, wpI, wpF, startE, setAll, List.map_cons, List.map_nil, List.cons_append, List.nil_append, List.getElem?_cons_zero, List.getElem?_cons_succ, List.getElem?_nil, List.set_cons_zero, List.set_cons_succ, List.length_cons, List.length_nil, List.replicate, Nat.zero_add, Nat.reduceAdd, Nat.reduceSub, add_ii, add_ss, add_ff, add_rl, add_fr, add_tt, mul_ii, mul_si, mul_fi, sub_ii, mod_ii, fdiv_ii, pow_ii, lt_ii, gt_ii, le_ii, ge_ii, lt_ss, gt_ss, le_ss, ge_ss, eq_ii, ne_ii, eq_ss, ne_ss, is_vb, isnt_vb, is_vn, isnt_vn, tst_b, tag_i, tag_b, tag_s, tag_t, tag_n, tag_f, tag_d, tag_o, len_s, len_t, len_c, len_f, len_d, list_w, listW_f, listW_t, listW_c, listW_d, tuple_w, tupW_f, tupW_t, tupW_r, all_w, any_w, sum_w, max_w, min_w, dict_w, dictW_f, dictW_d, divmod_w, int_i, int_b, str_i, fmt_s, fmt_i, max_ii, min_ii, abs_i, newL_t, newL_f, newD_t, newD_f, asL_f, asL_r, asSeq_f, asSeq_t, asSeq_c, asSeq_r, asD_f, asD_r, bmT, join_w, split_w, get1_w, get2_w, append_w, pop1_w, clear_w, extend_w, tl_r, fld_o, isIns_o, is_integer_w, law_is_int_w, is_name_w, law_is_name_w, is_list_w, is_tuple_w, box_w, tgIs, tgB, Ts.len, Option.some.injEq, Val.int.injEq, Val.bl.injEq, Val.str.injEq, Val.ref.injEq, Val.tup.injEq, Val.fl.injEq, Ob.lst.injEq, List.cons.injEq, and_true, true_and, and_self, exists_eq_left', exists_eq_left, exists_eq', exists_and_left, exists_const, and_assoc, Bool.not_true, Bool.not_false, Bool.not_not, Bool.false_eq_true, ↓reduceIte, List.any_cons, List.any_nil, Bool.or_false, Bool.false_or, Bool.true_or, Bool.or_true, reduceCtorEq, sizeLine_eq, Int.reduceLT, Int.reduceLE, Int.reducePow, Int.reduceNeg, Int.reduceAdd, Int.reduceSub, Int.reduceMul, Int.reduceToNat, Int.toNat_zero, Int.toNat_one, natAbs_10, Nat.reducePow, Nat.reduceLT, Nat.reduceLeDiff, Nat.reduceMul, decide_true, decide_false, or_true, true_or, ne_eq, not_false_eq_true])
local macro_rules | `(tactic| fin_item) => `(tactic| (first | omega | (simp only [List.length_append, List.length_cons, List.length_nil, List.length_map, List.length_take, List.length_drop, List.length_replicate, List.length_range]; omega)))
def n_law_names : List Nm := ["box", "many", "letters", "first", "way", "k", "stem", "at"]
def b_law_names : Ss := .cons (.asg (.name 2) (.con (.str [97, 98, 99, 100, 101, 102, 103, 104, 105, 106, 107, 108, 109, 110, 111, 112, 113, 114, 115, 116, 117, 118, 119, 120, 121, 122])))
  (.cons (.asg (.tup (.cons (.name 3) (.cons (.name 4) .nil))) (.tup (.cons (.call "_law_take" sp_law_take (.cons (.var 0) (.cons (.con (.int (26))) .nil))) (.cons (.call "_law_take" sp_law_take (.cons (.var 0) (.cons (.con (.int (4))) .nil))) .nil))))
  (.cons (.ite (.and (.cons (.cmp .eq (.var 4) (.con (.int (0)))) (.cons (.cmp .lt (.var 1) (.con (.int (9)))) .nil)))
  (.cons (.ret (.lc true (.bin (.mul true) (.idx (.var 2) (.var 3)) (.bin (.add true) (.var 5) (.con (.int (1))))) (.name 5) (.rng1 (.var 1)) .nil [5]))
  .nil)
  .nil)
  (.cons (.asg (.name 6) (.bm .join (.con (.str [])) (.cons (.lc true (.idx (.var 2) (.call "_law_take" sp_law_take (.cons (.var 0) (.cons (.con (.int (26))) .nil)))) (.name 5) (.rng1 (.call "_law_take" sp_law_take (.cons (.var 0) (.cons (.con (.int (8))) .nil)))) .nil [5]) .nil)))
  (.cons (.asg (.name 7) (.call "_law_take" sp_law_take (.cons (.var 0) (.cons (.bin (.add true) (.bi .len (.cons (.var 6) .nil)) (.con (.int (1)))) .nil))))
  (.cons (.ret (.lc true (.bin (.add true) (.bin (.add true) (.slc true (.var 6) .none (.some (.var 7))) (.idx (.var 2) (.bin .mod (.bin (.add true) (.var 3) (.bin (.mul true) (.con (.int (5))) (.var 5))) (.con (.int (26)))))) (.slc true (.var 6) (.some (.var 7)) .none)) (.name 5) (.rng1 (.var 1)) .nil [5]))
  .nil)))))

def n_law_net : List Nm := ["box", "most", "names", "legs"]
def b_law_net : Ss := .cons (.asg (.name 2) (.call "_law_names" sp_law_names (.cons (.var 0) (.cons (.idx (.lst true (.cons (.bin (.add true) (.con (.int (1))) (.call "_law_take" sp_law_take (.cons (.var 0) (.cons (.var 1) .nil)))) (.cons (.var 1) (.cons (.call "_law_take" sp_law_take (.cons (.var 0) (.cons (.con (.int (4))) .nil))) .nil)))) (.call "_law_take" sp_law_take (.cons (.var 0) (.cons (.con (.int (3))) .nil)))) .nil))))
  (.cons (.asg (.name 3) (.call "_law_legs" sp_law_legs (.cons (.var 0) (.cons (.var 2) (.cons (.idx (.lst true (.cons (.con (.int (0))) (.cons (.con (.int (1))) (.cons (.con (.int (3))) (.cons (.bin (.mul true) (.con (.int (2))) (.var 1)) .nil))))) (.call "_law_take" sp_law_take (.cons (.var 0) (.cons (.con (.int (4))) .nil)))) .nil)))))
  (.cons (.ret (.tup (.cons (.call "_law_mixed" sp_law_mixed (.cons (.var 0) (.cons (.var 2) .nil))) (.cons (.var 3) .nil))))
  .nil))

def n_law_even : List Nm := ["told", "due"]
def b_law_even : Ss := .cons (.ret (.and (.cons (.cmp .eq (.var 0) (.var 1)) (.cons (.cmp .eq (.bi .repr (.cons (.var 0) .nil)) (.bi .repr (.cons (.var 1) .nil))) .nil))))
  .nil

theorem pr_law_names : ∀ vs h Q Ex, sp_law_names vs h Q Ex → bodyW 8 2 b_law_names vs h (gcQ h Q) (gcX h Ex) := by
  rintro vs h Q Ex ⟨h0, b, t, m, c, rfl, rfl, hb, ok, hc, m0, m1, q⟩
  refine ⟨rfl, ?_⟩
  simp only [b_law_names, wipeE, un_t, un_f, slc_s, slc_t, slc_f, slc_r, rev_f, rev_r, en_t, en_f, en_r, it_s, it_t, it_c, it_f, it_r, wpSs, wpS, wpE, wpEs, wpEo, wpAnd, wpOr, wpIfs, wpT, wpTs, wpI, wpF, startE, setAll, List.map_cons, List.map_nil, List.cons_append, List.nil_append, List.getElem?_cons_zero, List.getElem?_cons_succ, List.getElem?_nil, List.set_cons_zero, List.set_cons_succ, List.length_cons, List.length_nil, List.replicate, Nat.zero_add, Nat.reduceAdd, Nat.reduceSub, add_ii, add_ss, add_ff, add_rl, add_fr, add_tt, mul_ii, mul_si, mul_fi, sub_ii, mod_ii, fdiv_ii, pow_ii, lt_ii, gt_ii, le_ii, ge_ii, lt_ss, gt_ss, le_ss, ge_ss, eq_ii, ne_ii, eq_ss, ne_ss, is_vb, isnt_vb, is_vn, isnt_vn, tst_b, tag_i, tag_b, tag_s, tag_t, tag_n, tag_f, tag_d, tag_o, len_s, len_t, len_c, len_f, len_d, list_w, listW_f, listW_t, listW_c, listW_d, tuple_w, tupW_f, tupW_t, tupW_r, all_w, any_w, sum_w, max_w, min_w, dict_w, dictW_f, dictW_d, divmod_w, int_i, int_b, str_i, fmt_s, fmt_i, max_ii, min_ii, abs_i, newL_t, newL_f, newD_t, newD_f, asL_f, asL_r, asSeq_f, asSeq_t, asSeq_c, asSeq_r, asD_f, asD_r, bmT, join_w, split_w, get1_w, get2_w, append_w, pop1_w, clear_w, extend_w, tl_r, fld_o, isIns_o, is_integer_w, law_is_int_w, is_name_w, law_is_name_w, is_list_w, is_tuple_w, box_w, tgIs, tgB, Ts.len, Option.some.injEq, Val.int.injEq, Val.bl.injEq, Val.str.injEq, Val.ref.injEq, Val.tup.injEq, Val.fl.injEq, Ob.lst.injEq, List.cons.injEq, and_true, true_and, and_self, exists_eq_left', exists_eq_left, exists_eq', exists_and_left, exists_const, and_assoc, Bool.not_true, Bool.not_false, Bool.not_not, Bool.false_eq_true, ↓reduceIte, List.any_cons, List.any_nil, Bool.or_false, Bool.false_or, Bool.true_or, Bool.or_true, reduceCtorEq, sizeLine_eq, Int.reduceLT, Int.reduceLE, Int.reducePow, Int.reduceNeg, Int.reduceAdd, Int.reduceSub, Int.reduceMul, Int.reduceToNat, Int.toNat_zero, Int.toNat_one, natAbs_10, Nat.reducePow, Nat.reduceLT, Nat.reduceLeDiff, Nat.reduceMul, decide_true, decide_false, or_true, true_or, ne_eq, not_false_eq_true]
  refine take_of hb ok (by omega) (by decide) (by decide) fun d1 t1 d10 d11 ok1 => ?_
  refine take_of hb ok1 (by omega) (by decide) (by decide) fun d2 t2 d20 d21 ok2 => ?_
  fin2
  have at26 : ∀ {i : Int}, 0 ≤ i → i < 26 → L2.atI low26 i = some (97 + i.toNat) ∧ 97 + i.toNat ∈ low26 := fun {i} h0 h1 => by
    obtain ⟨ch, m, e, ix⟩ := atI_int (xs := low26) h0 h1
    have e2 : low26[i.toNat]? = some (97 + i.toNat) := low26_get (by omega)
    rw [e2] at e; cases e
    exact ⟨ix, m⟩
  have fin : ∀ {t3 : Bx} {f : Nat → List Nat}, okB (c + 20) t3 → (∀ k, k < m.toNat → nameB (f k) = true) → (∀ i j, i < j → j < m.toNat → f i ≠ f j) → gcQ (h0.bx b t) Q (.fl ((List.range m.toNat).map fun k => .str (f k))) (h0.bx b t3) := fun {t3 f} ok3 nm inj => by
    have e : ((List.range m.toNat).map fun k => Val.str (f k)) = ((List.range m.toNat).map f).map Val.str := by rw [List.map_map]; rfl
    rw [e]
    refine gc_bx0 hb (low_tre (tres_strs _)) (q _ _ ok3 ?_ ?_ ?_)
    · rw [List.length_map, List.length_range]; omega
    · intro s hs
      obtain ⟨k, hk, rfl⟩ := List.mem_map.mp hs
      exact nm k (List.mem_range.mp hk)
    · exact nodup_range inj
  refine (fun longer => if_dec (fun z1 => if_dec (fun z2 => ?_) fun _ => longer) fun _ => longer) ?_
  · refine ⟨by omega, by omega, compW_map (l := List.range m.toNat) (v := fun k => .int k) (fun k => .str (repL (k + 1) [97 + d1.toNat])) rfl trivial (by rw [List.length_range, sizeLine_eq]; omega) (fun k hk K N q => ?_) ?_⟩
    · have hk := List.mem_range.mp hk
      fin2
      refine idx_s (by decide) (at26 d10 d11).1 ?_
      fin2
      exact ⟨by omega, by omega, by omega, by rw [show ((k : Int) + 1).toNat = k + 1 by omega]; exact q⟩
    · refine fin (ok2.mono (by omega)) (fun k hk => ?_) fun i j hij hj e => ?_
      · rw [repL_one, nameB_all (by simp) (by simp; omega), List.all_eq_true]
        intro x hx
        rw [(List.mem_replicate.mp hx).2]
        exact decide_eq_true (at26 d10 d11).2
      · have := congrArg List.length e
        rw [repL_one, repL_one] at this
        simp at this
        omega
  · refine take_of hb ok2 (by omega) (by decide) (by decide) fun d3 t3 d30 d31 ok3 => ?_
    fin2
    refine ⟨by omega, by omega, compW_bx (l := List.range d3.toNat) (v := fun k => .int k) (fun w => ∃ x, w = Val.str [x] ∧ x ∈ low26) 1 rfl (fun _ => trivial) (by rw [List.length_range, sizeLine_eq]; omega) ok3 (fun x t4 i hi hx ok4 K N k => ?_) fun ws t4 ok4 hl hw => ?_⟩
    · fin2
      rw [List.length_range] at hi
      refine take_of hb ok4 (by omega) (by decide) (by decide) fun d5 t5 d50 d51 ok5 => ?_
      refine idx_s (by decide) (at26 d50 d51).1 ?_
      exact k _ _ (ok5.mono (by omega)) ⟨_, rfl, (at26 d50 d51).2⟩
    · rw [List.length_range] at hl ok4
      obtain ⟨cs, rfl, hcs⟩ := map_of (f := fun x => Val.str [x]) hw
      rw [List.length_map] at hl
      fin2
      refine ⟨_, allStr_one cs, ?_, ?_⟩
      · rw [joinW_one]; omega
      rw [joinW_one]
      fin2
      refine ⟨by omega, take_of hb ok4 (by omega) (by omega) (by omega) fun d6 t6 d60 d61 ok6 => ?_⟩
      fin2
      have l2 : (cs.take d6.toNat).length ≤ 7 := by rw [List.length_take]; omega
      have l3 : (cs.drop d6.toNat).length ≤ 7 := by rw [List.length_drop]; omega
      refine ⟨by omega, by omega, compW_map (l := List.range m.toNat) (v := fun k => .int k) (fun k => .str (cs.take d6.toNat ++ [97 + ((d1 + 5 * (k : Int)) % 26).toNat] ++ cs.drop d6.toNat)) rfl trivial (by rw [List.length_range, sizeLine_eq]; omega) (fun k hk K N q => ?_) ?_⟩
      · have hk := List.mem_range.mp hk
        fin2
        refine ⟨by omega, ?_⟩
        refine idx_s (by decide) (at26 (Int.emod_nonneg _ (by decide)) (Int.emod_lt_of_pos _ (by decide))).1 ?_
        fin2
        rw [cut_to cs d60, cut_from cs d60]
        exact ⟨by omega, by omega, by rw [List.length_append, List.length_singleton]; omega, q⟩
      · refine fin (ok6.mono (by omega)) (fun k hk => ?_) fun i j hij hj e => ?_
        · have lt : (cs.take d6.toNat ++ [97 + ((d1 + 5 * (k : Int)) % 26).toNat] ++ cs.drop d6.toNat).length = cs.length + 1 := by simp; omega
          rw [nameB_all (by omega) (by omega), List.all_eq_true]
          intro y hy
          rcases List.mem_append.mp hy with hy | hy
          · rcases List.mem_append.mp hy with hy | hy
            · exact decide_eq_true (hcs y (List.mem_of_mem_take hy))
            · rw [List.mem_singleton.mp hy]
              exact decide_eq_true (at26 (Int.emod_nonneg _ (by decide)) (Int.emod_lt_of_pos _ (by decide))).2
          · exact decide_eq_true (hcs y (List.mem_of_mem_drop hy))
        · have e2 := List.append_cancel_right e
          have e3 := List.append_cancel_left e2
          have e4 := (List.cons.inj e3).1
          omega
theorem pr_law_net : ∀ vs h Q Ex, sp_law_net vs h Q Ex → bodyW 4 2 b_law_net vs h (gcQ h Q) (gcX h Ex) := by
  rintro vs h Q Ex ⟨h0, b, t, c, most, rfl, rfl, hb, ok, lc, m0, m1, q⟩
  refine ⟨rfl, ?_⟩
  ((try simp only [b_law_net]); fin2; (try (simp only [b_law_net]; fin2)))
  refine take_of hb ok (by omega) (by omega) (by omega) fun d1 t1 d10 d11 ok1 => ?_
  fin2
  refine take_of hb ok1 (by omega) (by decide) (by decide) fun d2 t2 d20 d21 ok2 => ?_
  fin2
  refine take_of hb ok2 (by omega) (by decide) (by decide) fun d3 t3 d30 d31 ok3 => ?_
  obtain ⟨v, hv, _, ix⟩ := atI_int (xs := [Val.int (1 + d1), .int most, .int d2]) d30 d31
  refine idx_f ix ?_
  obtain ⟨n, rfl, n0, n1⟩ : ∃ mi, v = .int mi ∧ 0 ≤ mi ∧ mi ≤ most := by
    simp only [List.mem_cons, List.not_mem_nil, or_false] at hv
    rcases hv with rfl | rfl | rfl <;> exact ⟨_, rfl, by omega, by omega⟩
  clear ix hv
  refine names_of hb ok3 (by omega) n0 (by omega) fun ss t4 ok4 hs nm nd => ?_
  fin2
  refine take_of hb ok4 (by omega) (by decide) (by decide) fun d5 t5 d50 d51 ok5 => ?_
  obtain ⟨v, hv, _, ix⟩ := atI_int (xs := [Val.int 0, .int 1, .int 3, .int (2 * most)]) d50 d51
  refine idx_f ix ?_
  obtain ⟨more, rfl, r0, r1⟩ : ∃ mi, v = .int mi ∧ 0 ≤ mi ∧ mi ≤ 24 := by
    simp only [List.mem_cons, List.not_mem_nil, or_false] at hv
    rcases hv with rfl | rfl | rfl | rfl <;> exact ⟨_, rfl, by omega, by omega⟩
  clear ix hv
  refine llegs_of hb ok5 (by omega) r0 (by omega) nd fun ls t6 ok6 ll hl pw => ?_
  fin2
  refine mixed_of (l := ss) (f := Val.str) hb ok6 (by omega) (by omega) (fun _ => rfl) fun ps t7 ok7 pm => ?_
  fin2
  have lw : lowR h0.nx (.tup [.fl (ps.map .str), .fl (ls.map legV)]) = true := by
    show lowRs h0.nx [.fl (ps.map .str), .fl (ls.map legV)] = true
    unfold lowRs lowRs lowRs
    rw [show lowR h0.nx (.fl (ps.map .str)) = true from lows_tre (tres_strs ps), show lowR h0.nx (.fl (ls.map legV)) = true from lows_tre (tres_map ls fun _ _ => rfl)]
    rfl
  have l2 := pm.length_eq
  refine gc_bx0 hb lw (q ps ls t7 (ok7.mono (by omega)) ⟨fun p m => nm p (pm.mem_iff.mp m), pm.nodup_iff.mpr nd, by omega, ll, fun l m => (hl l m).of_mem fun p m => pm.mem_iff.mpr m, pw⟩ (by omega))
theorem pr_law_even : ∀ vs h Q Ex, sp_law_even vs h Q Ex → bodyW 2 2 b_law_even vs h (gcQ h Q) (gcX h Ex) := by
  rintro vs h Q Ex ⟨x, y, w, rfl, sx, sy, g, n, q⟩
  refine ⟨rfl, ?_⟩
  simp only [b_law_even, wipeE, un_t, un_f, slc_s, slc_t, slc_f, slc_r, rev_f, rev_r, en_t, en_f, en_r, it_s, it_t, it_c, it_f, it_r, wpSs, wpS, wpE, wpEs, wpEo, wpAnd, wpOr, wpIfs, wpT, wpTs, wpI, wpF, startE, setAll, List.map_cons, List.map_nil, List.cons_append, List.nil_append, List.getElem?_cons_zero, List.getElem?_cons_succ, List.getElem?_nil, List.set_cons_zero, List.set_cons_succ, List.length_cons, List.length_nil, List.replicate, Nat.zero_add, Nat.reduceAdd, Nat.reduceSub, add_ii, add_ss, add_ff, add_rl, add_fr, add_tt, mul_ii, mul_si, mul_fi, sub_ii, mod_ii, fdiv_ii, pow_ii, lt_ii, gt_ii, le_ii, ge_ii, lt_ss, gt_ss, le_ss, ge_ss, eq_ii, ne_ii, eq_ss, ne_ss, is_vb, isnt_vb, is_vn, isnt_vn, tst_b, tag_i, tag_b, tag_s, tag_t, tag_n, tag_f, tag_d, tag_o, len_s, len_t, len_c, len_f, len_d, list_w, listW_f, listW_t, listW_c, listW_d, tuple_w, tupW_f, tupW_t, tupW_r, all_w, any_w, sum_w, max_w, min_w, dict_w, dictW_f, dictW_d, divmod_w, int_i, int_b, str_i, fmt_s, fmt_i, max_ii, min_ii, abs_i, newL_t, newL_f, newD_t, newD_f, asL_f, asL_r, asSeq_f, asSeq_t, asSeq_c, asSeq_r, asD_f, asD_r, bmT, join_w, split_w, get1_w, get2_w, append_w, pop1_w, clear_w, extend_w, tl_r, fld_o, isIns_o, is_integer_w, law_is_int_w, is_name_w, law_is_name_w, is_list_w, is_tuple_w, box_w, tgIs, tgB, Ts.len, Option.some.injEq, Val.int.injEq, Val.bl.injEq, Val.str.injEq, Val.ref.injEq, Val.tup.injEq, Val.fl.injEq, Ob.lst.injEq, List.cons.injEq, and_true, true_and, and_self, exists_eq_left', exists_eq_left, exists_eq', exists_and_left, exists_const, and_assoc, Bool.not_true, Bool.not_false, Bool.not_not, Bool.false_eq_true, ↓reduceIte, List.any_cons, List.any_nil, Bool.or_false, Bool.false_or, Bool.true_or, Bool.or_true, reduceCtorEq, sizeLine_eq, Int.reduceLT, Int.reduceLE, Int.reducePow, Int.reduceNeg, Int.reduceAdd, Int.reduceSub, Int.reduceMul, Int.reduceToNat, Int.toNat_zero, Int.toNat_one, natAbs_10, Nat.reducePow, Nat.reduceLT, Nat.reduceLeDiff, Nat.reduceMul, decide_true, decide_false, or_true, true_or, ne_eq, not_false_eq_true, eq_vv]
  refine eq_sh sx sy g g n n ?_
  rw [veq_refl g n, if_pos rfl]
  refine repr_sh sx g (repr_sh sy g (eq_str ?_))
  rw [decide_eq_true rfl]
  exact gc_same rfl q
end Lw
set_option Elab.async false
set_option linter.all false
set_option maxRecDepth 100000
set_option maxHeartbeats 2000000
namespace Lw
open PySem
local macro_rules | `(tactic| fin2) => `(tactic| try simp only [wipeE, un_t, un_f, slc_s, slc_t, slc_f, slc_r, rev_f, rev_r, en_t, en_f, en_r, it_s, it_t, it_c, it_f, it_r, wpSs, wpS, wpE, wpEs, wpEo, wpAnd, wpOr, wpIfs, wpT, wpTs, wpI, wpF, startE, setAll, List.map_cons, List.map_nil, List.cons_append, List.nil_append, List.getElem?_cons_zero, List.getElem?_cons_succ, List.getElem?_nil, List.set_cons_zero, List.set_cons_succ, List.length_cons, List.length_nil, List.replicate, Nat.zero_add, Nat.reduceAdd, Nat.reduceSub, add_ii, add_ss, add_ff, add_rl, add_fr, add_tt, mul_ii, mul_si, mul_fi, sub_ii, mod_ii, fdiv_ii, pow_ii, lt_ii, gt_ii, le_ii, ge_ii, lt_ss, gt_ss, le_ss, ge_ss, eq_ii, ne_ii, eq_ss, ne_ss, is_vb, isnt_vb, is_vn, isnt_vn, tst_b, tag_i, tag_b, tag_s, tag_t, tag_n, tag_f, tag_d, tag_o, len_s, len_t, len_c, len_f, len_d, list_w, listW_f, listW_t, listW_c, listW_d, tuple_w, tupW_f, tupW_t, tupW_r, all_w, any_w, sum_w, max_w, min_w, dict_w, dictW_f, dictW_d, divmod_w, int_i, int_b, str_i, fmt_s, fmt_i, max_ii, min_ii, abs_i, newL_t, newL_f, newD_t, newD_f, asL_f, asL_r, asSeq_f, asSeq_t, asSeq_c, asSeq_r, asD_f, asD_r, bmT, join_w, split_w, get1_w, get2_w, append_w, pop1_w, clear_w, extend_w, tl_r, fld_o, isIns_o, is_integer_w, law_is_int_w, is_name_w, law_is_name_w, is_list_w, is_tuple_w, box_w, tgIs, tgB, Ts.len, Option.some.injEq, Val.int.injEq, Val.bl.injEq, Val.str.injEq, Val.ref.injEq, Val.tup.injEq, Val.fl.injEq, Ob.lst.injEq, List.cons.injEq, and_true, true_and, and_self, exists_eq_left', exists_eq_left, exists_eq', exists_and_left, exists_const, and_assoc, Bool.not_true, Bool.not_false, Bool.not_not, Bool.false_eq_true, ↓reduceIte, List.any_cons, List.any_nil, Bool.or_false, Bool.false_or, Bool.true_or, Bool.or_true, reduceCtorEq, sizeLine_eq, Int.reduceLT, Int.reduceLE, Int.reducePow, Int.reduceNeg, Int.reduceAdd, Int.reduceSub, Int.reduceMul, Int.reduceToNat, Int.toNat_zero, Int.toNat_one, natAbs_10, Nat.reducePow, Nat.reduceLT, Nat.reduceLeDiff, Nat.reduceMul, decide_true, decide_false, or_true, true_or, ne_eq, not_false_eq_true])
local macro_rules | `(tactic| fin_item) => `(tactic| (first | omega | (simp only [List.length_append, List.length_cons, List.length_nil, List.length_map, List.length_take, List.length_drop, List.length_replicate, List.length_range]; omega)))
def n_law_far : List Nm := ["places", "legs", "far", "one", "other", "rise", "by", "near", "total"]
def b_law_far : Ss := .cons (.asg (.name 2) (.dict false .nil))
  (.cons (.for_ (.name 3) (.any (.var 0))
  (.cons (.for_ (.name 4) (.any (.var 0))
  (.cons (.asg (.sub (.var 2) (.tup (.cons (.var 3) (.cons (.var 4) .nil)))) (.ife (.cmp .eq (.var 3) (.var 4)) (.con (.int (0))) (.con (.non))))
  .nil))
  .nil))
  (.cons (.for_ (.tup (.cons (.name 3) (.cons (.name 4) (.cons (.name 5) .nil)))) (.any (.var 1))
  (.cons (.asg (.sub (.var 2) (.tup (.cons (.var 3) (.cons (.var 4) .nil)))) (.var 5))
  (.cons (.asg (.sub (.var 2) (.tup (.cons (.var 4) (.cons (.var 3) .nil)))) (.var 5))
  .nil)))
  (.cons (.for_ (.name 6) (.any (.var 0))
  (.cons (.asg (.name 7) (.lc true (.var 3) (.name 3) (.any (.var 0)) (.cons (.cmp .isnt (.idx (.var 2) (.tup (.cons (.var 3) (.cons (.var 6) .nil)))) (.con (.non))) .nil) [3]))
  (.cons (.for_ (.name 3) (.any (.var 7))
  (.cons (.for_ (.name 4) (.any (.var 7))
  (.cons (.asg (.name 8) (.bin (.add true) (.idx (.var 2) (.tup (.cons (.var 3) (.cons (.var 6) .nil)))) (.idx (.var 2) (.tup (.cons (.var 6) (.cons (.var 4) .nil))))))
  (.cons (.ite (.or (.cons (.cmp .is_ (.idx (.var 2) (.tup (.cons (.var 3) (.cons (.var 4) .nil)))) (.con (.non))) (.cons (.cmp .lt (.var 8) (.idx (.var 2) (.tup (.cons (.var 3) (.cons (.var 4) .nil))))) .nil)))
  (.cons (.asg (.sub (.var 2) (.tup (.cons (.var 3) (.cons (.var 4) .nil)))) (.var 8))
  .nil)
  .nil)
  .nil)))
  .nil))
  .nil)))
  (.cons (.ret (.fz (.var 2)))
  .nil))))

theorem min1 {f g : Option Int} {t : Int} (h : g = f ∨ g = minO f (some t)) (e : g = none) : minO f (some t) = some t := by
  cases f with
  | none => rfl
  | some x => rcases h with h | h <;> (rw [e] at h; cases h)
theorem min2 {f g : Option Int} {t v : Int} (h : g = f ∨ g = minO f (some t)) (e : g = some v) (l : t < v) : minO f (some t) = some t := by
  cases f with
  | none => rfl
  | some x =>
    have m : minO (some x) (some t) = some (if t < x then t else x) := rfl
    rw [m] at h ⊢
    rcases h with h | h <;> (rw [e] at h; have h := Option.some.inj h)
    · rw [if_pos (by omega)]
    · split at h <;> omega
theorem min3 {f g : Option Int} {t v : Int} (h : g = f ∨ g = minO f (some t)) (e : g = some v) (l : ¬ t < v) : minO f (some t) = some v := by
  rcases h with h | h
  · rw [e] at h
    rw [← h]
    show some (if t < v then t else v) = some v
    rw [if_neg l]
  · rw [← h, e]
theorem pr_law_far : ∀ vs h Q Ex, sp_law_far vs h Q Ex → bodyW 9 2 b_law_far vs h (gcQ h Q) (gcX h Ex) := by
  rintro vs h Q Ex ⟨ps, ls, rfl, o, q⟩
  have lp := o.lp
  have ll := o.ll
  refine ⟨rfl, ?_⟩
  ((try simp only [b_law_far, plV, llV]); fin2; (try (simp only [b_law_far, plV, llV]; fin2)))
  refine ⟨_, rfl, ?_⟩
  fin2
  refine forW_at (l := ps) (v := Val.str) (fun i env h1 => ∃ e3 e4 : Option Val, env = [some (plV ps), some (llV ls), some (.ref h.nx), e3, e4, none, none, none, none] ∧ h1 = h.al (.dic (farK ps (ps.take i) F0) false)) rfl (fun _ _ _ _ => trivial) ⟨_, _, rfl, rfl⟩ ?_ ?_
  · rintro a i env h1 hi ha ⟨e3, e4, rfl, rfl⟩ N hN
    have ma : a ∉ ps.take i := fun m => by
      obtain ⟨j, hj, e⟩ := List.getElem_of_mem m
      rw [List.length_take] at hj
      rw [List.getElem_take] at e
      have e2 := (List.getElem?_eq_some_iff.mp ha).2
      exact (List.pairwise_iff_getElem.mp o.nd) j i (by omega) hi (by omega) (by rw [e, e2])
    ((try simp only [plV]); fin2; (try (simp only [plV]; fin2)))
    refine forW_at (l := ps) (v := Val.str) (fun j env h1 => ∃ e4 : Option Val, env = [some (plV ps), some (llV ls), some (.ref h.nx), some (.str a), e4, none, none, none, none] ∧ h1 = h.al (.dic (farK ps (ps.take i) F0 ++ rowF F0 a (ps.take j)) false)) rfl (fun _ _ _ _ => trivial) ⟨_, rfl, by show _ = h.al (.dic (farK ps (ps.take i) F0 ++ []) false); rw [List.append_nil]⟩ ?_ ?_
    · rintro b j env h1 hj hb ⟨e4, rfl, rfl⟩ N2 hN2
      have mb : b ∉ ps.take j := fun m => by
        obtain ⟨k, hk, e⟩ := List.getElem_of_mem m
        rw [List.length_take] at hk
        rw [List.getElem_take] at e
        have e2 := (List.getElem?_eq_some_iff.mp hb).2
        exact (List.pairwise_iff_getElem.mp o.nd) k j (by omega) hj (by omega) (by rw [e, e2])
      fin2
      have put : ∀ v : Val, v = optV (F0 a b) → stSub (.ref h.nx) (.tup [.str a, .str b]) v (h.al (.dic (farK ps (ps.take i) F0 ++ rowF F0 a (ps.take j)) false)) fun h3 => N2 [some (plV ps), some (llV ls), some (.ref h.nx), some (.str a), some (.str b), none, none, none, none] h3 := fun v ev => by
        refine .inr ⟨_, Hv.al_new _ _, ?_, ?_, ?_⟩
        · refine ⟨rfl, ?_, fun z => by cases z⟩
          have k1 : ((farK ps (ps.take i) F0).all fun p => isTup p.1 == isTup (Val.tup [.str a, .str b])) = true := (far_keys F0 ps (ps.take i) a b).2.1
          rw [List.all_append, k1]
          show (true && _) = true
          rw [Bool.true_and, List.all_eq_true]
          intro p m
          obtain ⟨_, _, rfl⟩ := List.mem_map.mp m
          rfl
        · rw [List.length_append, far_len, sizeLine_eq]
          unfold rowF
          rw [List.length_map, List.length_take, List.length_take]
          have : min i ps.length * ps.length ≤ 24 * 24 := Nat.mul_le_mul (by omega) (by omega)
          omega
        · rw [al_put rfl, show Val.tup [.str a, .str b] = pk a b from rfl, put_new (by rw [kvGet_append, far_get, if_neg (fun z => ma z.1), row_get, if_neg (fun z => mb z.2)]), ev]
          refine hN2 _ _ ⟨_, rfl, ?_⟩
          rw [List.take_add_one, hb, List.append_assoc]
          unfold rowF
          rw [List.map_append]; rfl
      refine if_dec (fun e => ?_) fun e => ?_
      · exact put _ (by unfold F0; rw [if_pos e]; rfl)
      · exact put _ (by unfold F0; rw [if_neg e]; rfl)
    · rintro env h1 ⟨e4, rfl, rfl⟩
      rw [List.take_length]
      refine hN _ _ ⟨_, _, rfl, ?_⟩
      rw [List.take_add_one, ha]
      unfold farK
      rw [List.flatMap_append]
      congr 2
      show _ = _ ++ (rowF F0 a ps ++ [])
      rw [List.append_nil]
  rintro env h1 ⟨e3, e4, rfl, rfl⟩
  rw [List.take_length]
  ((try simp only [plV, llV]); fin2; (try (simp only [plV, llV]; fin2)))
  have e0 : F0 = F1 (ls.take 0) := by
    funext a b
    unfold F0 F1
    rfl
  refine forW_at (l := ls) (v := legV) (fun i env h1 => ∃ e3 e4 e5 : Option Val, env = [some (plV ps), some (llV ls), some (.ref h.nx), e3, e4, e5, none, none, none] ∧ h1 = h.al (.dic (farK ps ps (F1 (ls.take i))) false)) rfl (fun _ _ _ _ => trivial) ⟨_, _, _, rfl, by rw [← e0]⟩ ?_ ?_
  · rintro l i env h1 hi hl ⟨e3, e4, e5, rfl, rfl⟩ N hN
    have ml := List.mem_of_getElem? hl
    have lo := o.ok l ml
    have nw := one_new o.one hl
    ((try simp only [legV]); fin2; (try (simp only [legV]; fin2)))
    have len : ∀ F, (farK ps ps F).length < sizeLine := fun F => by
      rw [far_len, sizeLine_eq]
      have : ps.length * ps.length ≤ 24 * 24 := Nat.mul_le_mul lp lp
      omega
    refine .inr ⟨_, Hv.al_new _ _, far_keys _ _ _ _ _, len _, ?_⟩
    rw [al_put rfl, show kvPut (.tup [.str l.a, .str l.b]) (.int l.r) (farK ps ps (F1 (ls.take i))) = farK ps ps (updF (F1 (ls.take i)) l.a l.b (some l.r)) from far_put _ lo.ma lo.mb (some l.r)]
    fin2
    refine .inr ⟨_, Hv.al_new _ _, far_keys _ _ _ _ _, len _, ?_⟩
    rw [al_put rfl, show kvPut (.tup [.str l.b, .str l.a]) (.int l.r) (farK ps ps (updF (F1 (ls.take i)) l.a l.b (some l.r))) = farK ps ps (updF (updF (F1 (ls.take i)) l.a l.b (some l.r)) l.b l.a (some l.r)) from far_put _ lo.mb lo.ma (some l.r), F1_snoc nw lo.ne]
    refine hN _ _ ⟨_, _, _, rfl, ?_⟩
    rw [List.take_add_one, hl]; rfl
  rintro env h1 ⟨e3, e4, e5, rfl, rfl⟩
  rw [List.take_length]
  ((try simp only [plV, llV]); fin2; (try (simp only [plV, llV]; fin2)))
  have rs : Rs ls := fun l m => ⟨(o.ok l m).r0, (o.ok l m).r1⟩
  have ends : ∀ l ∈ ls, l.a ∈ ps ∧ l.b ∈ ps := fun l m => ⟨(o.ok l m).ma, (o.ok l m).mb⟩
  have ne : ∀ x, riseO ls x x = none := fun x => riseO_none fun l m => by
    have := (o.ok l m).ne
    unfold Leg.on
    by_cases h1 : l.a = x <;> by_cases h2 : l.b = x <;> simp [h1, h2]
    exact this (by rw [h1, h2])
  have get : ∀ {F : Pl → Pl → Option Int} {a b : Pl} {P : K1}, a ∈ ps → b ∈ ps → P (optV (F a b)) (h.al (.dic (farK ps ps F) false)) → oIdx (.ref h.nx) (.tup [.str a, .str b]) (h.al (.dic (farK ps ps F) false)) P := fun {F a b P} ma mb p =>
    .inr ⟨_, false, optV (F a b), Hv.al_new _ _, far_keys F ps ps a b, by rw [show Val.tup [.str a, .str b] = pk a b from rfl, far_get, if_pos ⟨ma, mb⟩], p⟩
  have len : ∀ F, (farK ps ps F).length < sizeLine := fun F => by
    rw [far_len, sizeLine_eq]
    have : ps.length * ps.length ≤ 24 * 24 := Nat.mul_le_mul lp lp
    omega
  have set_ : ∀ {F : Pl → Pl → Option Int} {a b : Pl} {d : Int} {P : Hv → Prop}, a ∈ ps → b ∈ ps → P (h.al (.dic (farK ps ps (updF F a b (some d))) false)) → stSub (.ref h.nx) (.tup [.str a, .str b]) (.int d) (h.al (.dic (farK ps ps F) false)) P := fun {F a b d P} ma mb p => by
    refine .inr ⟨_, Hv.al_new _ _, far_keys F ps ps a b, len _, ?_⟩
    rw [al_put rfl, show kvPut (.tup [.str a, .str b]) (.int d) (farK ps ps F) = farK ps ps (updF F a b (some d)) from far_put F ma mb (some d)]
    exact p
  refine forW_at (l := ps) (v := Val.str) (fun i env h1 => ∃ (F : Pl → Pl → Option Int) (e3 e4 e5 e6 e7 e8 : Option Val), env = [some (plV ps), some (llV ls), some (.ref h.nx), e3, e4, e5, e6, e7, e8] ∧ h1 = h.al (.dic (farK ps ps F) false) ∧ ∀ a ∈ ps, ∀ b ∈ ps, Best ls (fun x => x ∈ ps.take i) a b (F a b)) rfl (fun _ _ _ _ => trivial)
    ⟨F1 ls, _, _, _, _, _, _, rfl, rfl, fun a ma b mb => (Best.base rs ne).congr (fun d w => w.mono fun _ f => f.elim) (fun d w => w.mono fun x m => by cases m)⟩ ?_ ?_
  · rintro k i env h1 hi hk ⟨F, e3, e4, e5, e6, e7, e8, rfl, rfl, hF⟩ N hN
    have mk := List.mem_of_getElem? hk
    have kk : F k k = some 0 := (hF k mk k mk).uniq (Best.self rs)
    ((try simp only [plV]); fin2; (try (simp only [plV]; fin2)))
    refine compW_filter (l := ps) (v := Val.str) (fun x => (F x k).isSome) Val.str rfl trivial (by rw [sizeLine_eq]; omega) (fun x mx K N1 k1 k2 => ?_) ?_
    · fin2
      refine get mx mk ?_
      cases e : F x k with
      | none => ((try simp only [optV]); fin2; (try (simp only [optV]; fin2))); exact k2 (by rw [e]; rfl)
      | some d => ((try simp only [optV]); fin2; (try (simp only [optV]; fin2))); exact k1 (by rw [e]; rfl)
    fin2
    have inn : ∀ x, x ∈ ps.filter (fun x => (F x k).isSome) → x ∈ ps ∧ ∃ d, F x k = some d := fun x m => ⟨(List.mem_filter.mp m).1, Option.isSome_iff_exists.mp (List.mem_filter.mp m).2⟩
    have sym : ∀ x ∈ ps, F k x = F x k := fun x mx => (hF k mk x mx).uniq ((hF x mx k mk).symm)
    generalize hn : ps.filter (fun x => (F x k).isSome) = near at inn
    let Inv : (Pl → Pl → Prop) → (Pl → Pl → Option Int) → Prop := fun dn G => ∀ a b, (G a b = F a b ∨ G a b = stepF F k a b) ∧ (dn a b → G a b = stepF F k a b)
    refine forW_at (l := near) (v := Val.str) (fun i2 env h1 => ∃ (G : Pl → Pl → Option Int) (e3 e4 e8 : Option Val), env = [some (plV ps), some (llV ls), some (.ref h.nx), e3, e4, e5, some (.str k), some (.fl (near.map .str)), e8] ∧ h1 = h.al (.dic (farK ps ps G) false) ∧ Inv (fun a b => a ∈ near.take i2 ∧ b ∈ near) G) rfl (fun _ _ _ _ => trivial)
      ⟨F, _, _, _, rfl, rfl, fun a b => ⟨.inl rfl, fun z => by cases z.1⟩⟩ ?_ ?_
    · rintro x i2 env h1 hi2 hx ⟨G, e3, e4, e8, rfl, rfl, hG⟩ N2 hN2
      obtain ⟨mx, d1, hd1⟩ := inn x (List.mem_of_getElem? hx)
      fin2
      refine forW_at (l := near) (v := Val.str) (fun j env h1 => ∃ (G : Pl → Pl → Option Int) (e4 e8 : Option Val), env = [some (plV ps), some (llV ls), some (.ref h.nx), some (.str x), e4, e5, some (.str k), some (.fl (near.map .str)), e8] ∧ h1 = h.al (.dic (farK ps ps G) false) ∧ Inv (fun a b => (a ∈ near.take i2 ∧ b ∈ near) ∨ (a = x ∧ b ∈ near.take j)) G) rfl (fun _ _ _ _ => trivial)
        ⟨G, _, _, rfl, rfl, fun a b => ⟨(hG a b).1, fun z => z.elim (hG a b).2 fun z => by cases z.2⟩⟩ ?_ ?_
      · clear hG
        rintro y j env h1 hj hy ⟨G, e4, e8, rfl, rfl, hG⟩ N3 hN3
        obtain ⟨my, d2, hd2⟩ := inn y (List.mem_of_getElem? hy)
        have gx : G x k = some d1 := by
          rcases (hG x k).1 with e | e
          · rw [e]; exact hd1
          · rw [e, stepF_k1 kk]; exact hd1
        have gy : G k y = some d2 := by
          rcases (hG k y).1 with e | e
          · rw [e, sym y my]; exact hd2
          · rw [e, stepF_k2 kk, sym y my]; exact hd2
        have st : stepF F k x y = minO (F x y) (some (d1 + d2)) := by
          unfold stepF
          rw [hd1, sym y my, hd2]; rfl
        have hxy := (hG x y).1
        rw [st] at hxy
        have keep : ∀ H : Pl → Pl → Option Int, H x y = stepF F k x y → (∀ a b, ¬ (a = x ∧ b = y) → H a b = G a b) → Inv (fun a b => (a ∈ near.take i2 ∧ b ∈ near) ∨ (a = x ∧ b ∈ near.take (j + 1))) H := fun H h1 h2 a b => by
          by_cases z : a = x ∧ b = y
          · obtain ⟨rfl, rfl⟩ := z
            exact ⟨.inr h1, fun _ => h1⟩
          · rw [h2 a b z]
            refine ⟨(hG a b).1, fun m => (hG a b).2 (m.imp id fun m => ⟨m.1, ?_⟩)⟩
            have m2 := m.2
            rw [List.take_add_one, hy] at m2
            rcases List.mem_append.mp m2 with m2 | m2
            · exact m2
            · exact absurd ⟨m.1, List.mem_singleton.mp m2⟩ z
        have upd : ∀ v, updF G x y (some v) x y = some v ∧ ∀ a b, ¬ (a = x ∧ b = y) → updF G x y (some v) a b = G a b := fun v => ⟨if_pos ⟨rfl, rfl⟩, fun a b z => if_neg z⟩
        fin2
        refine get mx mk ?_
        rw [gx]
        refine get mk my ?_
        rw [gy]
        ((try simp only [optV]); fin2; (try (simp only [optV]; fin2)))
        refine get mx my ?_
        cases hg : G x y with
        | none =>
          ((try simp only [optV]); fin2; (try (simp only [optV]; fin2)))
          refine set_ mx my (hN3 _ _ ⟨_, _, _, rfl, rfl, keep _ ?_ (upd _).2⟩)
          rw [(upd _).1, st, min1 hxy hg]
        | some v =>
          ((try simp only [optV]); fin2; (try (simp only [optV]; fin2)))
          refine get mx my ?_
          rw [hg]
          ((try simp only [optV]); fin2; (try (simp only [optV]; fin2)))
          refine if_dec (fun l => ?_) fun l => ?_
          · refine set_ mx my (hN3 _ _ ⟨_, _, _, rfl, rfl, keep _ ?_ (upd _).2⟩)
            rw [(upd _).1, st, min2 hxy hg l]
          · refine hN3 _ _ ⟨G, _, _, rfl, rfl, keep G ?_ fun _ _ _ => rfl⟩
            rw [hg, st, min3 hxy hg l]
      · rintro env h1 ⟨G, e4, e8, rfl, rfl, hG⟩
        rw [List.take_length] at hG
        refine hN2 _ _ ⟨G, _, _, _, rfl, rfl, fun a b => ⟨(hG a b).1, fun m => (hG a b).2 ?_⟩⟩
        have m1 := m.1
        rw [List.take_add_one, hx] at m1
        rcases List.mem_append.mp m1 with m1 | m1
        · exact .inl ⟨m1, m.2⟩
        · exact .inr ⟨List.mem_singleton.mp m1, m.2⟩
    · rintro env h1 ⟨G, e3, e4, e8, rfl, rfl, hG⟩
      rw [List.take_length] at hG
      refine hN _ _ ⟨G, _, _, _, _, _, _, rfl, rfl, fun a ma b mb => ?_⟩
      have e : G a b = stepF F k a b := by
        by_cases z : a ∈ near ∧ b ∈ near
        · exact (hG a b).2 z
        · have no : F a k = none ∨ F k b = none := by
            have out : ∀ c ∈ ps, c ∉ near → F c k = none := fun c mc nc => by
              cases h2 : F c k with
              | none => rfl
              | some d => exact absurd (by rw [← hn]; exact List.mem_filter.mpr ⟨mc, by rw [h2]; rfl⟩) nc
            by_cases z1 : a ∈ near
            · exact .inr (by rw [sym b mb]; exact out b mb fun m => z ⟨z1, m⟩)
            · exact .inl (out a ma z1)
          rcases (hG a b).1 with e | e
          · rw [e, stepF_no no]
          · exact e
      rw [e]
      refine (Best.step rs (hF a ma b mb) (hF a ma k mk) (hF k mk b mb)).congr (fun d w => w.mono fun x m => ?_) (fun d w => w.mono fun x m => ?_)
      · rw [List.take_add_one, hk]
        rcases m with m | m
        · exact List.mem_append_left _ m
        · exact List.mem_append_right _ (List.mem_singleton.mpr m)
      · rw [List.take_add_one, hk] at m
        rcases List.mem_append.mp m with m | m
        · exact .inl m
        · exact .inr (List.mem_singleton.mp m)
  · rintro env h1 ⟨F, e3, e4, e5, e6, e7, e8, rfl, rfl, hF⟩
    rw [List.take_length] at hF
    fin2
    refine ⟨_, _, .dic (Hv.al_new _ _) .same, ?_⟩
    have tr : trek (farK ps ps F) = true := by
      have all : ∀ l : List (Val × Val), (∀ p ∈ l, tre p.1 = true ∧ tre p.2 = true) → trek l = true := fun l => by
        induction l with
        | nil => exact fun _ => rfl
        | cons p r ih =>
          intro hp
          obtain ⟨h1, h2⟩ := hp p List.mem_cons_self
          show (tre p.1 && tre p.2 && trek r) = true
          rw [h1, h2, ih fun x m => hp x (List.mem_cons_of_mem _ m)]; rfl
      refine all _ fun p m => ?_
      obtain ⟨a, _, m⟩ := List.mem_flatMap.mp m
      obtain ⟨b, _, rfl⟩ := List.mem_map.mp m
      exact ⟨rfl, by show tre (optV (F a b)) = true; cases F a b <;> rfl⟩
    refine gc_ext (lowk_tre tr) (Nat.le_succ _) (fun m hm => ?_) (q F fun a ma b mb => (hF a ma b mb).congr (fun d w => w.mono fun _ _ => trivial) fun d w => w.inner ends)
    rw [del_get (by omega), Hv.al_old (by omega)]
end Lw
set_option Elab.async false
set_option linter.all false
set_option maxRecDepth 100000
set_option maxHeartbeats 2000000
namespace Lw
open PySem
local macro_rules | `(tactic| fin2) => `(tactic| try simp only [wipeE, un_t, un_f, slc_s, slc_t, slc_f, slc_r, rev_f, rev_r, en_t, en_f, en_r, it_s, it_t, it_c, it_f, it_r, wpSs, wpS, wpE, wpEs, wpEo, wpAnd, wpOr, wpIfs, wpT, wpTs, wpI, wpF, startE, setAll, List.map_cons, List.map_nil, List.cons_append, List.nil_append, List.getElem?_cons_zero, List.getElem?_cons_succ, List.getElem?_nil, List.set_cons_zero, List.set_cons_succ, List.length_cons, List.length_nil, List.replicate, Nat.zero_add, Nat.reduceAdd, Nat.reduceSub, add_ii, add_ss, add_ff, add_rl, add_fr, add_tt, mul_ii, mul_si, mul_fi, sub_ii, mod_ii, fdiv_ii, pow_ii, lt_ii, gt_ii, le_ii, ge_ii, lt_ss, gt_ss, le_ss, ge_ss, eq_ii, ne_ii, eq_ss, ne_ss, is_vb, isnt_vb, is_vn, isnt_vn, tst_b, tag_i, tag_b, tag_s, tag_t, tag_n, tag_f, tag_d, tag_o, len_s, len_t, len_c, len_f, len_d, list_w, listW_f, listW_t, listW_c, listW_d, tuple_w, tupW_f, tupW_t, tupW_r, all_w, any_w, sum_w, max_w, min_w, dict_w, dictW_f, dictW_d, divmod_w, int_i, int_b, str_i, fmt_s, fmt_i, max_ii, min_ii, abs_i, newL_t, newL_f, newD_t, newD_f, asL_f, asL_r, asSeq_f, asSeq_t, asSeq_c, asSeq_r, asD_f, asD_r, bmT, join_w, split_w, get1_w, get2_w, append_w, pop1_w, clear_w, extend_w, tl_r, fld_o, isIns_o, is_integer_w, law_is_int_w, is_name_w, law_is_name_w, is_list_w, is_tuple_w, box_w, tgIs, tgB, Ts.len, Option.some.injEq, Val.int.injEq, Val.bl.injEq, Val.str.injEq, Val.ref.injEq, Val.tup.injEq, Val.fl.injEq, Ob.lst.injEq, List.cons.injEq, and_true, true_and, and_self, exists_eq_left', exists_eq_left, exists_eq', exists_and_left, exists_const, and_assoc, Bool.not_true, Bool.not_false, Bool.not_not, Bool.false_eq_true, ↓reduceIte, List.any_cons, List.any_nil, Bool.or_false, Bool.false_or, Bool.true_or, Bool.or_true, reduceCtorEq, sizeLine_eq, Int.reduceLT, Int.reduceLE, Int.reducePow, Int.reduceNeg, Int.reduceAdd, Int.reduceSub, Int.reduceMul, Int.reduceToNat, Int.toNat_zero, Int.toNat_one, natAbs_10, Nat.reducePow, Nat.reduceLT, Nat.reduceLeDiff, Nat.reduceMul, decide_true, decide_false, or_true, true_or, ne_eq, not_false_eq_true])
local macro_rules | `(tactic| fin_item) => `(tactic| (first | omega | (simp only [List.length_append, List.length_cons, List.length_nil, List.length_map, List.length_take, List.length_drop, List.length_replicate, List.length_range]; omega)))
def n_need_net : List Nm := ["net"]
def b_need_net : Ss := .cons (.ite (.not (.isc 0 (.var 0)))
  (.cons .dead
  .nil)
  .nil)
  .nil

def n_reached : List Nm := ["net", "start", "found", "ahead", "going", "one", "other", "rise", "near", "far"]
def b_reached : Ss := .cons (.asg (.name 2) (.dict false (.cons (.var 1) (.cons (.con (.int (0))) .nil))))
  (.cons (.asg (.name 3) (.dict false .nil))
  (.cons (.asg (.name 4) (.con (.bl true)))
  (.cons (.whl (.var 4)
  (.cons (.asg (.name 4) (.con (.bl false)))
  (.cons (.for_ (.tup (.cons (.name 5) (.cons (.name 6) (.cons (.name 7) .nil)))) (.any (.mth 0 "legs" sp_Net_legs (.var 0) .nil))
  (.cons (.for_ (.tup (.cons (.name 8) (.cons (.name 9) .nil))) (.any (.tup (.cons (.tup (.cons (.var 5) (.cons (.var 6) .nil))) (.cons (.tup (.cons (.var 6) (.cons (.var 5) .nil))) .nil))))
  (.cons (.ite (.and (.cons (.cmp .isin (.var 8) (.var 2)) (.cons (.or (.cons (.cmp .notin (.var 9) (.var 2)) (.cons (.cmp .lt (.bin (.add true) (.idx (.var 2) (.var 8)) (.var 7)) (.idx (.var 2) (.var 9))) .nil))) .nil)))
  (.cons (.asg (.sub (.var 2) (.var 9)) (.bin (.add true) (.idx (.var 2) (.var 8)) (.var 7)))
  (.cons (.asg (.sub (.var 3) (.var 9)) (.var 8))
  (.cons (.asg (.name 4) (.con (.bl true)))
  .nil)))
  .nil)
  .nil))
  .nil))
  .nil)))
  (.cons (.ret (.tup (.cons (.fz (.var 2)) (.cons (.fz (.var 3)) .nil))))
  .nil))))

def n_reach_from : List Nm := ["net", "start"]
def b_reach_from : Ss := .cons (.ret (.idx (.call "reached" sp_reached (.cons (.var 0) (.cons (.var 1) .nil))) (.con (.int (0)))))
  .nil

theorem pr_need_net : ∀ vs h Q Ex, sp_need_net vs h Q Ex → bodyW 1 1 b_need_net vs h (gcQ h Q) (gcX h Ex) := by
  rintro vs h Q Ex ⟨x, ps, ls, rfl, N, q⟩
  refine ⟨rfl, ?_⟩
  ((try simp only [b_need_net]); fin2; (try (simp only [b_need_net]; fin2)))
  have ic : ∀ {P : Bool → Prop}, P true → isCV 0 x h P := fun {P} p => by
    cases N with
    | fz => exact ⟨rfl, p⟩
    | rf e _ _ _ => unfold isCV tag; simp only [e]; exact ⟨trivial, p⟩
  refine ic ?_
  fin2
  exact gc_same rfl q
theorem trek_skv : ∀ {l : List (Pl × Val)}, (∀ p ∈ l, tre p.2 = true) → trek (skv l) = true
  | [], _ => rfl
  | p :: r, h => by
    show (true && tre p.2 && trek (skv r)) = true
    rw [h p List.mem_cons_self, trek_skv fun x m => h x (List.mem_cons_of_mem _ m)]; rfl
theorem pr_reached : ∀ vs h Q Ex, sp_reached vs h Q Ex → bodyW 10 2 b_reached vs h (gcQ h Q) (gcX h Ex) := by
  rintro vs h Q Ex ⟨ps, ls, s, rfl, o, ms, q⟩
  have lp := o.lp
  have ll := o.ll
  refine ⟨rfl, ?_⟩
  ((try simp only [b_reached]); fin2; (try (simp only [b_reached]; fin2)))
  refine ⟨_, rfl, ?_⟩
  fin2
  refine ⟨_, rfl, ?_⟩
  have rs : Rs ls := fun l m => ⟨(o.ok l m).r0, (o.ok l m).r1⟩
  refine ⟨fun n env h1 => ∃ (f : Pl → Option Int) (l m : List (Pl × Val)) (g : Bool) (e5 e6 e7 e8 e9 : Option Val), env = [some (netV ps ls), some (.str s), some (.ref h.nx), some (.ref (h.nx + 1)), some (.bl g), e5, e6, e7, e8, e9] ∧ h1 = (h.al (.dic (skv l) false)).al (.dic (skv m) false) ∧ (∀ x, lGet x l = (f x).map .int) ∧ ((∀ p ∈ l, tre p.2 = true) ∧ ∀ p ∈ m, tre p.2 = true) ∧ (Srch ps ls s f ∧ l.length + m.length + 2 * mea f ps ≤ 12000000) ∧ n = mea f ps + (if g = true then 1 else 0) ∧ (g = false → ∀ k ∈ ls, Rlx f k),
    ⟨_, updP (fun _ => none) s 0, [(s, .int 0)], [], true, _, _, _, _, _, rfl, rfl, fun x => ?_, ⟨fun p m => ?_, fun p m => by cases m⟩, ⟨Srch.start ms o.nd, ?_⟩, rfl, fun z => by cases z⟩, ?_⟩
  · show (if s = x then some (Val.int 0) else none) = _
    unfold updP
    by_cases e : s = x
    · rw [if_pos e, if_pos e]; rfl
    · rw [if_neg e, if_neg e]; rfl
  · rw [List.mem_singleton.mp m]; rfl
  · have : ∀ qs : List Pl, mea (updP (fun _ => none) s 0) qs ≤ 240001 * qs.length := fun qs => by
      induction qs with
      | nil => exact Nat.le_refl _
      | cons p r ih =>
        show wtP (updP (fun _ => none) s 0) p + mea _ r ≤ 240001 * (r.length + 1)
        have : wtP (updP (fun _ => none) s 0) p ≤ 240001 := by
          unfold wtP updP
          by_cases q : s = p
          · rw [if_pos q]; decide
          · rw [if_neg q]; exact Nat.le_refl _
        omega
    have := this ps
    show 1 + 0 + 2 * mea _ ps ≤ 12000000
    omega
  rintro n env h1 ⟨f, l, m, g, e5, e6, e7, e8, e9, rfl, rfl, hl, ⟨tl, tm⟩, ⟨S, SL⟩, rfl, st⟩
  fin2
  cases g with
  | false =>
    rw [if_neg (by decide)]
    have best : ∀ x, Best ls (fun _ => True) s x (f x) := Best.relax rs ⟨0, S.st, Int.le_refl _⟩ S.way fun x y d r hx hr => by
      obtain ⟨k, mk, on, rfl⟩ := riseO_mem hr
      obtain ⟨p1, p2⟩ := st rfl k mk
      unfold Leg.on at on
      rw [Bool.or_eq_true, Bool.and_eq_true, Bool.and_eq_true, decide_eq_true_eq, decide_eq_true_eq, decide_eq_true_eq, decide_eq_true_eq] at on
      rcases on with ⟨e1, e2⟩ | ⟨e1, e2⟩
      · rw [← e1] at hx; rw [← e2]; exact p1 d hx
      · rw [← e1] at hx; rw [← e2]; exact p2 d hx
    fin2
    have g0 : ((h.al (.dic (skv l) false)).al (.dic (skv m) false)).g h.nx = some (.dic (skv l) false) := by
      rw [Hv.al_old (show h.nx ≠ h.nx + 1 by omega)]; exact Hv.al_new _ _
    refine ⟨_, _, .dic g0 .same, _, _, .dic ((del_get (by omega)).trans (Hv.al_new _ _)) .same, ?_⟩
    refine gc_ext ?_ (by show h.nx ≤ h.nx + 1 + 1; omega) (fun m' hm => ?_) (q f l m hl best tl)
    · show lowRs h.nx [.fd (skv l), .fd (skv m)] = true
      unfold lowRs lowRs lowRs
      rw [show lowR h.nx (.fd (skv l)) = true from lowk_tre (trek_skv tl), show lowR h.nx (.fd (skv m)) = true from lowk_tre (trek_skv tm)]
      rfl
    · rw [del_get (by omega), del_get (by omega), Hv.al_old (show m' ≠ h.nx + 1 by omega), Hv.al_old (by omega)]
  | true =>
    rw [if_pos rfl]
    clear st
    fin2
    refine ⟨rfl, legs_w .fz ?_⟩
    fin2
    let Pst : (Pl → Option Int) → Bool → Prop → Prop := fun f' g' R => (g' = true ∧ mea f' ps < mea f ps) ∨ (g' = false ∧ f' = f ∧ R)
    refine forW_at (l := ls) (v := legV) (fun i env h1 => ∃ (f' : Pl → Option Int) (l m : List (Pl × Val)) (g' : Bool) (e5 e6 e7 e8 e9 : Option Val), env = [some (netV ps ls), some (.str s), some (.ref h.nx), some (.ref (h.nx + 1)), some (.bl g'), e5, e6, e7, e8, e9] ∧ h1 = (h.al (.dic (skv l) false)).al (.dic (skv m) false) ∧ (∀ x, lGet x l = (f' x).map .int) ∧ ((∀ p ∈ l, tre p.2 = true) ∧ ∀ p ∈ m, tre p.2 = true) ∧ (Srch ps ls s f' ∧ l.length + m.length + 2 * mea f' ps ≤ 12000000) ∧ Pst f' g' (∀ k ∈ ls.take i, Rlx f k)) rfl (fun _ _ _ _ => trivial)
      ⟨f, l, m, false, _, _, _, _, _, rfl, rfl, hl, ⟨tl, tm⟩, ⟨S, SL⟩, .inr ⟨rfl, rfl, fun _ z => by cases z⟩⟩ ?_ ?_
    · rintro k i env h1 hi hk ⟨f1, l1, m1, g1, e5, e6, e7, e8, e9, rfl, rfl, hl1, tt1, ⟨S1, SL1⟩, p1⟩ N hN
      have mk := List.mem_of_getElem? hk
      have lo := o.ok k mk
      ((try simp only [legV]); fin2; (try (simp only [legV]; fin2)))
      refine forW_at (l := [(k.a, k.b), (k.b, k.a)]) (v := fun p : Pl × Pl => .tup [.str p.1, .str p.2]) (fun j env h1 => ∃ (f' : Pl → Option Int) (l m : List (Pl × Val)) (g' : Bool) (e8 e9 : Option Val), env = [some (netV ps ls), some (.str s), some (.ref h.nx), some (.ref (h.nx + 1)), some (.bl g'), some (.str k.a), some (.str k.b), some (.int k.r), e8, e9] ∧ h1 = (h.al (.dic (skv l) false)).al (.dic (skv m) false) ∧ (∀ x, lGet x l = (f' x).map .int) ∧ ((∀ p ∈ l, tre p.2 = true) ∧ ∀ p ∈ m, tre p.2 = true) ∧ (Srch ps ls s f' ∧ l.length + m.length + 2 * mea f' ps ≤ 12000000) ∧ Pst f' g' ((∀ k' ∈ ls.take i, Rlx f k') ∧ ∀ p ∈ ([(k.a, k.b), (k.b, k.a)] : List (Pl × Pl)).take j, ∀ d, f p.1 = some d → ∃ e, f p.2 = some e ∧ e ≤ d + k.r)) rfl (fun _ _ _ _ => trivial)
        ⟨f1, l1, m1, g1, _, _, rfl, rfl, hl1, tt1, ⟨S1, SL1⟩, p1.imp id fun z => ⟨z.1, z.2.1, z.2.2, fun _ z => by cases z⟩⟩ ?_ ?_
      · rintro ⟨a, b⟩ j env h1 hj hp ⟨f2, l2, m2, g2, e8, e9, rfl, rfl, hl2, tt2, ⟨S2, SL2⟩, p2⟩ N2 hN2
        fin2
        have g0 : ((h.al (.dic (skv l2) false)).al (.dic (skv m2) false)).g h.nx = some (.dic (skv l2) false) := by
          rw [Hv.al_old (show h.nx ≠ h.nx + 1 by omega)]; exact Hv.al_new _ _
        have ab : (a = k.a ∧ b = k.b) ∨ (a = k.b ∧ b = k.a) := by
          have m := List.mem_of_getElem? hp
          simp only [List.mem_cons, List.not_mem_nil, or_false, Prod.mk.injEq] at m
          exact m
        have stay : (f2 = f → ∀ d, f a = some d → ∃ e, f b = some e ∧ e ≤ d + k.r) → N2 [some (netV ps ls), some (.str s), some (.ref h.nx), some (.ref (h.nx + 1)), some (.bl g2), some (.str k.a), some (.str k.b), some (.int k.r), some (.str a), some (.str b)] ((h.al (.dic (skv l2) false)).al (.dic (skv m2) false)) := fun rl =>
          hN2 _ _ ⟨f2, l2, m2, g2, _, _, rfl, rfl, hl2, tt2, ⟨S2, SL2⟩, p2.imp id fun z => ⟨z.1, z.2.1, z.2.2.1, fun p m => by
            rw [List.take_add_one, hp] at m
            rcases List.mem_append.mp m with m | m
            · exact z.2.2.2 p m
            · rw [List.mem_singleton.mp m]; exact rl z.2.1⟩⟩
        refine .inr ⟨_, false, g0, skv_ok a l2, ?_⟩
        rw [skv_get, hl2]
        cases fa : f2 a with
        | none =>
          exact stay fun e d hd => by rw [← e, fa] at hd; cases hd
        | some d =>
          have hr : riseO ls a b = some k.r := by
            rcases ab with ⟨rfl, rfl⟩ | ⟨rfl, rfl⟩
            · exact riseO_leg o.one mk
            · rw [riseO_symm]; exact riseO_leg o.one mk
          have mb : b ∈ ps := by
            rcases ab with ⟨_, rfl⟩ | ⟨_, rfl⟩
            · exact lo.mb
            · exact lo.ma
          rw [if_pos (by rfl)]
          have geta : ∀ {P : K1}, P (.int d) ((h.al (.dic (skv l2) false)).al (.dic (skv m2) false)) → oIdx (.ref h.nx) (.str a) ((h.al (.dic (skv l2) false)).al (.dic (skv m2) false)) P := fun p => .inr ⟨_, false, .int d, g0, skv_ok a l2, by rw [skv_get, hl2, fa]; rfl, p⟩
          have store : (f2 b = none ∨ ∃ e, f2 b = some e ∧ d + k.r < e) → stSub (.ref h.nx) (.str b) (.int (d + k.r)) ((h.al (.dic (skv l2) false)).al (.dic (skv m2) false)) fun h3 => stSub (.ref (h.nx + 1)) (.str b) (.str a) h3 fun h3 => N2 [some (netV ps ls), some (.str s), some (.ref h.nx), some (.ref (h.nx + 1)), some (.bl true), some (.str k.a), some (.str k.b), some (.int k.r), some (.str a), some (.str b)] h3 := fun bt => by
            obtain ⟨S3, lt⟩ := S2.step rs o.nd lp fa hr mb bt
            have lenP : ∀ (x : Pl) (v : Val) (l : List (Pl × Val)), (lPut x v l).length ≤ l.length + 1 := fun x v l => by
              unfold lPut
              split
              · rw [List.length_map]; omega
              · rw [List.length_append]; exact Nat.le_refl _
            have treP : ∀ (x : Pl) (v : Val) (l : List (Pl × Val)), tre v = true → (∀ p ∈ l, tre p.2 = true) → ∀ p ∈ lPut x v l, tre p.2 = true := fun x v l tv tl p m => by
              unfold lPut at m
              split at m
              · obtain ⟨q, mq, rfl⟩ := List.mem_map.mp m
                split
                · exact tv
                · exact tl q mq
              · rcases List.mem_append.mp m with m | m
                · exact tl p m
                · rw [List.mem_singleton.mp m]; exact tv
            have sl : ∀ l : List (Pl × Val), (skv l).length = l.length := fun l => List.length_map _
            refine .inr ⟨_, g0, skv_ok b l2, by rw [sl, sizeLine_eq]; omega, ?_⟩
            rw [skv_put, al_put_ne (show h.nx < h.nx + 1 by omega), al_put rfl]
            refine .inr ⟨_, Hv.al_new _ _, skv_ok b m2, by rw [sl, sizeLine_eq]; omega, ?_⟩
            rw [skv_put, al_put (h := h.al _) (n := h.nx + 1) rfl]
            have l3 := lenP b (.int (d + k.r)) l2
            have m3 := lenP b (.str a) m2
            refine hN2 _ _ ⟨_, _, _, true, _, _, rfl, rfl, fun x => ?_, ⟨treP _ _ _ rfl tt2.1, treP _ _ _ rfl tt2.2⟩, ⟨S3, by omega⟩, .inl ⟨rfl, ?_⟩⟩
            · rw [lGet_put]
              unfold updP
              by_cases q : b = x
              · rw [if_pos q, if_pos q]; rfl
              · rw [if_neg q, if_neg q]; exact hl2 x
            · rcases p2 with ⟨_, l4⟩ | ⟨_, e4, _⟩
              · omega
              · have lt2 := lt
                conv at lt2 => rhs; rw [e4]
                exact lt2
          refine .inr ⟨_, false, g0, skv_ok b l2, ?_⟩
          rw [skv_get, hl2]
          cases fb : f2 b with
          | none =>
            rw [if_pos (by rfl)]
            refine geta ?_
            fin2
            exact store (.inl fb)
          | some e =>
            rw [if_neg (by exact Bool.false_ne_true)]
            refine geta ?_
            fin2
            refine .inr ⟨_, false, .int e, g0, skv_ok b l2, by rw [skv_get, hl2, fb]; rfl, ?_⟩
            fin2
            refine if_dec (fun lt => ?_) fun lt => ?_
            · refine geta ?_
              fin2
              exact store (.inr ⟨e, fb, lt⟩)
            · exact stay fun ef d' hd => by
                rw [← ef, fa] at hd
                cases hd
                exact ⟨e, by rw [← ef]; exact fb, by omega⟩
      · rintro env h1 ⟨f2, l2, m2, g2, e8, e9, rfl, rfl, hl2, tt2, ⟨S2, SL2⟩, p2⟩
        refine hN _ _ ⟨f2, l2, m2, g2, _, _, _, _, _, rfl, rfl, hl2, tt2, ⟨S2, SL2⟩, p2.imp id fun z => ⟨z.1, z.2.1, fun k' m' => ?_⟩⟩
        rw [List.take_add_one, hk] at m'
        rcases List.mem_append.mp m' with m' | m'
        · exact z.2.2.1 k' m'
        · rw [List.mem_singleton.mp m']
          exact ⟨z.2.2.2 (k.a, k.b) (by simp), z.2.2.2 (k.b, k.a) (by simp)⟩
    · rintro env h1 ⟨f', l', m', g', e5, e6, e7, e8, e9, rfl, rfl, hl', tt', S', p⟩
      rw [List.take_length] at p
      rcases p with ⟨rfl, lt⟩ | ⟨rfl, rfl, st⟩
      · exact ⟨mea f' ps + 1, by simp; omega, f', l', m', true, _, _, _, _, _, rfl, rfl, hl', tt'.1, tt'.2, S'.1, S'.2, by simp, fun z => by cases z⟩
      · exact ⟨mea f' ps, by simp, f', l', m', false, _, _, _, _, _, rfl, rfl, hl', tt'.1, tt'.2, S'.1, S'.2, by simp, fun _ => st⟩
theorem pr_reach_from : ∀ vs h Q Ex, sp_reach_from vs h Q Ex → bodyW 2 2 b_reach_from vs h (gcQ h Q) (gcX h Ex) := by
  rintro vs h Q Ex ⟨ps, ls, s, rfl, o, ms, q⟩
  refine ⟨rfl, ?_⟩
  ((try simp only [b_reach_from]); fin2; (try (simp only [b_reach_from]; fin2)))
  refine ⟨ps, ls, s, rfl, o, ms, fun f l m hl best tl => ?_⟩
  fin2
  refine idx_t (v := .fd (skv l)) rfl ?_
  exact gc_same (lowk_tre (trek_skv tl)) (q f l hl best tl)
end Lw
set_option Elab.async false
set_option linter.all false
set_option maxRecDepth 100000
set_option maxHeartbeats 2000000
namespace Lw
open PySem
local macro_rules | `(tactic| fin2) => `(tactic| try simp only [wipeE, un_t, un_f, slc_s, slc_t, slc_f, slc_r, rev_f, rev_r, en_t, en_f, en_r, it_s, it_t, it_c, it_f, it_r, wpSs, wpS, wpE, wpEs, wpEo, wpAnd, wpOr, wpIfs, wpT, wpTs, wpI, wpF, startE, setAll, List.map_cons, List.map_nil, List.cons_append, List.nil_append, List.getElem?_cons_zero, List.getElem?_cons_succ, List.getElem?_nil, List.set_cons_zero, List.set_cons_succ, List.length_cons, List.length_nil, List.replicate, Nat.zero_add, Nat.reduceAdd, Nat.reduceSub, add_ii, add_ss, add_ff, add_rl, add_fr, add_tt, mul_ii, mul_si, mul_fi, sub_ii, mod_ii, fdiv_ii, pow_ii, lt_ii, gt_ii, le_ii, ge_ii, lt_ss, gt_ss, le_ss, ge_ss, eq_ii, ne_ii, eq_ss, ne_ss, is_vb, isnt_vb, is_vn, isnt_vn, tst_b, tag_i, tag_b, tag_s, tag_t, tag_n, tag_f, tag_d, tag_o, len_s, len_t, len_c, len_f, len_d, list_w, listW_f, listW_t, listW_c, listW_d, tuple_w, tupW_f, tupW_t, tupW_r, all_w, any_w, sum_w, max_w, min_w, dict_w, dictW_f, dictW_d, divmod_w, int_i, int_b, str_i, fmt_s, fmt_i, max_ii, min_ii, abs_i, newL_t, newL_f, newD_t, newD_f, asL_f, asL_r, asSeq_f, asSeq_t, asSeq_c, asSeq_r, asD_f, asD_r, bmT, join_w, split_w, get1_w, get2_w, append_w, pop1_w, clear_w, extend_w, tl_r, fld_o, isIns_o, is_integer_w, law_is_int_w, is_name_w, law_is_name_w, is_list_w, is_tuple_w, box_w, tgIs, tgB, Ts.len, Option.some.injEq, Val.int.injEq, Val.bl.injEq, Val.str.injEq, Val.ref.injEq, Val.tup.injEq, Val.fl.injEq, Ob.lst.injEq, List.cons.injEq, and_true, true_and, and_self, exists_eq_left', exists_eq_left, exists_eq', exists_and_left, exists_const, and_assoc, Bool.not_true, Bool.not_false, Bool.not_not, Bool.false_eq_true, ↓reduceIte, List.any_cons, List.any_nil, Bool.or_false, Bool.false_or, Bool.true_or, Bool.or_true, reduceCtorEq, sizeLine_eq, Int.reduceLT, Int.reduceLE, Int.reducePow, Int.reduceNeg, Int.reduceAdd, Int.reduceSub, Int.reduceMul, Int.reduceToNat, Int.toNat_zero, Int.toNat_one, natAbs_10, Nat.reducePow, Nat.reduceLT, Nat.reduceLeDiff, Nat.reduceMul, decide_true, decide_false, or_true, true_or, ne_eq, not_false_eq_true])
local macro_rules | `(tactic| fin_item) => `(tactic| (first | omega | (simp only [List.length_append, List.length_cons, List.length_nil, List.length_map, List.length_take, List.length_drop, List.length_replicate, List.length_range]; omega)))
def n_is_depth : List Nm := ["value"]
def b_is_depth : Ss := .cons (.ret (.call "is_integer" sp_is_integer (.cons (.var 0) (.cons (.neg (.glb "DEEPEST" (.int (1000000)))) (.cons (.glb "DEEPEST" (.int (1000000))) .nil)))))
  .nil

def n_is_sounding : List Nm := ["value"]
def b_is_sounding : Ss := .cons (.ite (.or (.cons (.not (.call "is_tuple" sp_is_tuple (.cons (.var 0) (.cons (.con (.int (3))) .nil)))) (.cons (.not (.call "is_name" sp_is_name (.cons (.idx (.var 0) (.con (.int (0)))) .nil))) .nil)))
  (.cons (.ret (.con (.bl false)))
  .nil)
  .nil)
  (.cons (.ret (.and (.cons (.call "is_depth" sp_is_depth (.cons (.idx (.var 0) (.con (.int (1)))) .nil)) (.cons (.call "is_depth" sp_is_depth (.cons (.idx (.var 0) (.con (.int (2)))) .nil)) (.cons (.cmp .le (.idx (.var 0) (.con (.int (1)))) (.idx (.var 0) (.con (.int (2))))) .nil)))))
  .nil)

def n_is_log : List Nm := ["value", "item"]
def b_is_log : Ss := .cons (.ret (.and (.cons (.call "is_list" sp_is_list (.cons (.var 0) (.cons (.glb "MOST_SOUNDINGS" (.int (30))) .nil))) (.cons (.bi .all (.cons (.lc true (.call "is_sounding" sp_is_sounding (.cons (.var 1) .nil)) (.name 1) (.any (.var 0)) .nil [1]) .nil)) .nil))))
  .nil

def n_need_log : List Nm := ["net", "log", "place", "low", "high"]
def b_need_log : Ss := .cons (.expr (.call "need_net" sp_need_net (.cons (.var 0) .nil)))
  (.cons (.ite (.not (.call "is_log" sp_is_log (.cons (.var 1) .nil)))
  (.cons .dead
  .nil)
  .nil)
  (.cons (.for_ (.tup (.cons (.name 2) (.cons (.name 3) (.cons (.name 4) .nil)))) (.any (.var 1))
  (.cons (.expr (.call "need_place" sp_need_place (.cons (.var 0) (.cons (.var 2) .nil))))
  .nil))
  .nil))

theorem pr_is_depth : ∀ vs h Q Ex, sp_is_depth vs h Q Ex → bodyW 1 1 b_is_depth vs h (gcQ h Q) (gcX h Ex) := by
  rintro vs h Q Ex ⟨v, rfl, t, q⟩
  refine ⟨rfl, ?_⟩
  ((try simp only [b_is_depth]); fin2; (try (simp only [b_is_depth]; fin2)))
  exact ⟨t, gc_same rfl q⟩
theorem pr_is_sounding : ∀ vs h Q Ex, sp_is_sounding vs h Q Ex → bodyW 1 1 b_is_sounding vs h (gcQ h Q) (gcX h Ex) := by
  rintro vs h Q Ex ⟨v, rfl, g, q⟩
  refine ⟨rfl, ?_⟩
  ((try simp only [b_is_sounding, is_tuple_w]); fin2; (try (simp only [b_is_sounding, is_tuple_w]; fin2)))
  refine ⟨g.t, ?_⟩
  cases t : tupV 3 v with
  | false =>
    have e : sndB v = false := by
      unfold sndB
      split
      · cases t
      · rfl
    rw [e] at q
    fin2
    exact gc_same rfl q
  | true =>
    obtain ⟨x, y, z, rfl⟩ := tupV3 t
    have gx := g.items (x := x) (by simp)
    have gy := g.items (x := y) (by simp)
    have gz := g.items (x := z) (by simp)
    have q : Q (.bl (nameV x && (depV y && (depV z && leV y z)))) h := q
    fin2
    refine idx_t (v := x) rfl ?_
    ((try simp only [is_name_w]); fin2; (try (simp only [is_name_w]; fin2)))
    refine ⟨gx, ?_⟩
    cases nx : nameV x with
    | false => rw [nx] at q; fin2; exact gc_same rfl q
    | true =>
      rw [nx] at q
      fin2
      refine idx_t (v := y) rfl ?_
      ((try simp only [is_depth_w]); fin2; (try (simp only [is_depth_w]; fin2)))
      refine ⟨gy.t, ?_⟩
      cases ny : depV y with
      | false => rw [ny] at q; fin2; exact gc_same rfl q
      | true =>
        rw [ny] at q
        fin2
        refine idx_t (v := z) rfl ?_
        ((try simp only [is_depth_w]); fin2; (try (simp only [is_depth_w]; fin2)))
        refine ⟨gz.t, ?_⟩
        cases nz : depV z with
        | false => rw [nz] at q; fin2; exact gc_same rfl q
        | true =>
          rw [nz] at q
          obtain ⟨i, rfl, _⟩ := intV_is ny
          obtain ⟨j, rfl, _⟩ := intV_is nz
          fin2
          refine idx_t (v := .int i) rfl (idx_t (v := .int j) rfl ?_)
          fin2
          have e : leV (.int i) (.int j) = !decide (j < i) := by
            show decide (i ≤ j) = _
            by_cases h : i ≤ j
            · rw [decide_eq_true h, decide_eq_false (by omega)]; rfl
            · rw [decide_eq_false h, decide_eq_true (by omega)]; rfl
          rw [e] at q
          exact gc_same rfl q
theorem pr_is_log : ∀ vs h Q Ex, sp_is_log vs h Q Ex → bodyW 2 1 b_is_log vs h (gcQ h Q) (gcX h Ex) := by
  rintro vs h Q Ex ⟨v, rfl, g, q⟩
  refine ⟨rfl, ?_⟩
  ((try simp only [b_is_log]); fin2; (try (simp only [b_is_log]; fin2)))
  refine ⟨g.t, ?_⟩
  cases l : listV 30 v with
  | false =>
    have e : logB v = false := by unfold logB; rw [l]; rfl
    rw [e] at q
    fin2
    exact gc_same rfl q
  | true =>
    fin2
    have go : ∀ (xs : List Val), itemsV v = xs → (∀ x ∈ xs, Good x) → (xs.length : Int) ≤ 30 → itAny v h fun w h1 => compW w (fun x h2 K => K [some v, some x] h2) (fun e2 h2 K => K true h2) (fun e2 h2 K => ∃ v, e2[1]? = some (some v) ∧ sp_is_sounding [v] h2 K noE) w.items h1 [] fun acc h3 => ∃ bs, allBl acc = some bs ∧ gcQ h Q (.bl (bs.all id)) h3 := fun xs ex gx lx => by
      have it : ∀ {P : WkK}, (∀ G : Hv → Prop, G h → P ⟨xs, G⟩ h) → itAny v h P := fun {P} p => by
        cases v with
        | fl ys => cases ex; exact p _ trivial
        | tup ys => cases ex; exact p _ trivial
        | _ => cases l
      refine it fun G hG => ?_
      refine compW_map (l := xs) (v := id) (fun x => .bl (sndB x)) (List.map_id _).symm hG (by rw [sizeLine_eq]; omega) (fun x mx K N1 k1 => ?_) ?_
      · ((try simp only [is_sounding_w, id]); fin2; (try (simp only [is_sounding_w, id]; fin2)))
        exact ⟨gx x mx, k1⟩
      · refine ⟨_, allBl_map _ xs, ?_⟩
        have e2 : logB v = (xs.map sndB).all id := by
          unfold logB
          rw [l, ex, List.all_map]; rfl
        rw [e2] at q
        exact gc_same rfl q
    cases v with
    | fl xs => exact go xs rfl (fun x m => g.itemsL m) (of_decide_eq_true l)
    | tup xs => exact go xs rfl (fun x m => g.items m) (of_decide_eq_true l)
    | _ => cases l
theorem pr_need_log : ∀ vs h Q Ex, sp_need_log vs h Q Ex → bodyW 5 2 b_need_log vs h (gcQ h Q) (gcX h Ex) := by
  rintro vs h Q Ex ⟨x, v, ps, ls, ss, rfl, N, o, i, q⟩
  refine ⟨rfl, ?_⟩
  ((try simp only [b_need_log]); fin2; (try (simp only [b_need_log]; fin2)))
  refine need_net_w N ?_
  ((try simp only [is_log_w]); fin2; (try (simp only [is_log_w]; fin2)))
  refine ⟨(lg_ok o.ll o.ok i).good, ?_⟩
  rw [log_is o.ll o.ok i]
  fin2
  have it : ∀ {P : WkK}, (∀ G : Hv → Prop, (∀ h, G h) → P ⟨ss.map sndV, G⟩ h) → itAny v h P := fun {P} p => by
    rcases i with rfl | rfl <;> exact p _ fun _ => trivial
  refine it fun G hG => ?_
  refine forW_pure (l := ss) (v := sndV) (fun _ env => ∃ a b c : Option Val, env = [some x, some v, a, b, c]) rfl (hG h) ⟨_, _, _, rfl⟩ ?_ ?_
  · rintro s j env hj hs ⟨a, b, c, rfl⟩ N2 hN2
    have ms := List.mem_of_getElem? hs
    ((try simp only [sndV]); fin2; (try (simp only [sndV]; fin2)))
    refine need_place_w N (o.mp s ms) ?_
    exact hN2 _ ⟨_, _, _, rfl⟩
  · rintro env ⟨a, b, c, rfl⟩
    fin2
    exact gc_same rfl q
theorem agr_enum {ss : List Snd} {w : Val} {h : Hv} {P : WkK} (i : IsLog w ss) (p : ∀ G : Hv → Prop, G h → P ⟨(ss.zipIdx).map (fun p : Snd × Nat => .tup [.int p.2, sndV p.1]), G⟩ h) : enW w h P := by
  have e : enumW 0 (ss.map sndV) = (ss.zipIdx).map fun p : Snd × Nat => .tup [.int p.2, sndV p.1] := enumW_map sndV ss 0
  rcases i with rfl | rfl
  · rw [en_f, e]; exact p _ (.inl rfl)
  · rw [en_t, e]; exact p _ trivial
end Lw
set_option Elab.async false
set_option linter.all false
set_option maxRecDepth 100000
set_option maxHeartbeats 2000000
namespace Lw
open PySem
local macro_rules | `(tactic| fin2) => `(tactic| try simp only [wipeE, un_t, un_f, slc_s, slc_t, slc_f, slc_r, rev_f, rev_r, en_t, en_f, en_r, it_s, it_t, it_c, it_f, it_r, wpSs, wpS, wpE, wpEs, wpEo, wpAnd, wpOr, wpIfs, wpT, wpTs, wpI, wpF, startE, setAll, List.map_cons, List.map_nil, List.cons_append, List.nil_append, List.getElem?_cons_zero, List.getElem?_cons_succ, List.getElem?_nil, List.set_cons_zero, List.set_cons_succ, List.length_cons, List.length_nil, List.replicate, Nat.zero_add, Nat.reduceAdd, Nat.reduceSub, add_ii, add_ss, add_ff, add_rl, add_fr, add_tt, mul_ii, mul_si, mul_fi, sub_ii, mod_ii, fdiv_ii, pow_ii, lt_ii, gt_ii, le_ii, ge_ii, lt_ss, gt_ss, le_ss, ge_ss, eq_ii, ne_ii, eq_ss, ne_ss, is_vb, isnt_vb, is_vn, isnt_vn, tst_b, tag_i, tag_b, tag_s, tag_t, tag_n, tag_f, tag_d, tag_o, len_s, len_t, len_c, len_f, len_d, list_w, listW_f, listW_t, listW_c, listW_d, tuple_w, tupW_f, tupW_t, tupW_r, all_w, any_w, sum_w, max_w, min_w, dict_w, dictW_f, dictW_d, divmod_w, int_i, int_b, str_i, fmt_s, fmt_i, max_ii, min_ii, abs_i, newL_t, newL_f, newD_t, newD_f, asL_f, asL_r, asSeq_f, asSeq_t, asSeq_c, asSeq_r, asD_f, asD_r, bmT, join_w, split_w, get1_w, get2_w, append_w, pop1_w, clear_w, extend_w, tl_r, fld_o, isIns_o, is_integer_w, law_is_int_w, is_name_w, law_is_name_w, is_list_w, is_tuple_w, box_w, tgIs, tgB, Ts.len, Option.some.injEq, Val.int.injEq, Val.bl.injEq, Val.str.injEq, Val.ref.injEq, Val.tup.injEq, Val.fl.injEq, Ob.lst.injEq, List.cons.injEq, and_true, true_and, and_self, exists_eq_left', exists_eq_left, exists_eq', exists_and_left, exists_const, and_assoc, Bool.not_true, Bool.not_false, Bool.not_not, Bool.false_eq_true, ↓reduceIte, List.any_cons, List.any_nil, Bool.or_false, Bool.false_or, Bool.true_or, Bool.or_true, reduceCtorEq, sizeLine_eq, Int.reduceLT, Int.reduceLE, Int.reducePow, Int.reduceNeg, Int.reduceAdd, Int.reduceSub, Int.reduceMul, Int.reduceToNat, Int.toNat_zero, Int.toNat_one, natAbs_10, Nat.reducePow, Nat.reduceLT, Nat.reduceLeDiff, Nat.reduceMul, decide_true, decide_false, or_true, true_or, ne_eq, not_false_eq_true])
local macro_rules | `(tactic| fin_item) => `(tactic| (first | omega | (simp only [List.length_append, List.length_cons, List.length_nil, List.length_map, List.length_take, List.length_drop, List.length_replicate, List.length_range]; omega)))
def n_law_bed : List Nm := ["box", "places", "far", "base", "cones", "bed", "turn", "place", "near", "at", "depth"]
def b_law_bed : Ss := .cons (.asg (.name 3) (.idx (.lst true (.cons (.con (.int (0))) (.cons (.con (.int (0))) (.cons (.neg (.con (.int (4)))) (.cons (.con (.int (870000))) (.cons (.neg (.con (.int (1000000)))) .nil)))))) (.call "_law_take" sp_law_take (.cons (.var 0) (.cons (.con (.int (5))) .nil)))))
  (.cons (.par [4, 5] (.cons (.lst false .nil) (.cons (.dict false .nil) .nil)))
  (.cons (.for_ (.name 6) (.rng1 (.bin (.mul true) (.bin (.add true) (.con (.int (1))) (.call "_law_take" sp_law_take (.cons (.var 0) (.cons (.con (.int (3))) .nil)))) (.bi .int (.cons (.cmp .ne (.var 1) (.lst true .nil)) .nil))))
  (.cons (.expr (.bm .append (.var 4) (.cons (.tup (.cons (.idx (.var 1) (.call "_law_take" sp_law_take (.cons (.var 0) (.cons (.bi .len (.cons (.var 1) .nil)) .nil)))) (.cons (.bin (.add true) (.var 3) (.call "_law_take" sp_law_take (.cons (.var 0) (.cons (.idx (.lst true (.cons (.con (.int (2))) (.cons (.con (.int (9))) (.cons (.con (.int (40))) .nil)))) (.call "_law_take" sp_law_take (.cons (.var 0) (.cons (.con (.int (3))) .nil)))) .nil)))) .nil))) .nil)))
  .nil))
  (.cons (.for_ (.name 7) (.any (.var 1))
  (.cons (.asg (.name 8) (.lc true (.bin (.add true) (.var 10) (.idx (.var 2) (.tup (.cons (.var 9) (.cons (.var 7) .nil))))) (.tup (.cons (.name 9) (.cons (.name 10) .nil))) (.any (.var 4)) (.cons (.cmp .isnt (.idx (.var 2) (.tup (.cons (.var 9) (.cons (.var 7) .nil)))) (.con (.non))) .nil) [9, 10]))
  (.cons (.asg (.sub (.var 5) (.var 7)) (.ife (.cmp .ne (.var 8) (.lst true .nil)) (.bi .min1 (.cons (.var 8) .nil)) (.var 3)))
  .nil)))
  (.cons (.ret (.fz (.var 5)))
  .nil))))

def n_law_kept : List Nm := ["depth"]
def b_law_kept : Ss := .cons (.ret (.bi .max2 (.cons (.bin .sub (.con (.int (0))) (.con (.int (1000000)))) (.cons (.bi .min2 (.cons (.con (.int (1000000))) (.cons (.var 0) .nil))) .nil))))
  .nil

def n_law_log : List Nm := ["box", "places", "bed", "many", "worst", "found", "turn", "place", "wide", "off", "low"]
def b_law_log : Ss := .cons (.asg (.name 5) (.lst false .nil))
  (.cons (.for_ (.name 6) (.rng1 (.bin (.mul true) (.var 3) (.bi .int (.cons (.cmp .ne (.var 1) (.lst true .nil)) .nil))))
  (.cons (.asg (.name 7) (.idx (.var 1) (.call "_law_take" sp_law_take (.cons (.var 0) (.cons (.bi .len (.cons (.var 1) .nil)) .nil)))))
  (.cons (.asg (.name 8) (.idx (.lst true (.cons (.con (.int (0))) (.cons (.con (.int (0))) (.cons (.con (.int (1))) (.cons (.call "_law_take" sp_law_take (.cons (.var 0) (.cons (.con (.int (9))) .nil))) .nil))))) (.call "_law_take" sp_law_take (.cons (.var 0) (.cons (.con (.int (4))) .nil)))))
  (.cons (.asg (.name 9) (.idx (.lst true (.cons (.con (.int (0))) (.cons (.con (.int (0))) (.cons (.con (.int (0))) (.cons (.con (.int (0))) (.cons (.con (.int (1))) (.cons (.neg (.con (.int (1)))) (.cons (.bin .sub (.con (.int (4))) (.call "_law_take" sp_law_take (.cons (.var 0) (.cons (.con (.int (9))) .nil)))) (.cons (.bin .sub (.var 4) (.call "_law_take" sp_law_take (.cons (.var 0) (.cons (.bin (.add true) (.bin (.mul true) (.con (.int (2))) (.var 4)) (.con (.int (1)))) .nil)))) .nil))))))))) (.call "_law_take" sp_law_take (.cons (.var 0) (.cons (.con (.int (8))) .nil)))))
  (.cons (.asg (.name 10) (.bin .sub (.bin (.add true) (.idx (.var 2) (.var 7)) (.bin (.mul true) (.var 9) (.bi .int (.cons (.cmp .gt (.var 4) (.con (.int (0)))) .nil)))) (.call "_law_take" sp_law_take (.cons (.var 0) (.cons (.bin (.add true) (.var 8) (.con (.int (1)))) .nil)))))
  (.cons (.expr (.bm .append (.var 5) (.cons (.tup (.cons (.var 7) (.cons (.call "_law_kept" sp_law_kept (.cons (.var 10) .nil)) (.cons (.call "_law_kept" sp_law_kept (.cons (.bin (.add true) (.var 10) (.var 8)) .nil)) .nil)))) .nil)))
  .nil))))))
  (.cons (.ret (.fz (.var 5)))
  .nil))

theorem pr_law_bed : ∀ vs h Q Ex, sp_law_bed vs h Q Ex → bodyW 11 3 b_law_bed vs h (gcQ h Q) (gcX h Ex) := by
  rintro vs h Q Ex ⟨h0, b, t, c, ps, ls, F, rfl, rfl, hb, ok, lc, o, hF, q⟩
  have lp := o.lp
  refine ⟨rfl, ?_⟩
  ((try simp only [b_law_bed, plV, farV]); fin2; (try (simp only [b_law_bed, plV, farV]; fin2)))
  refine take_of hb ok (by omega) (by decide) (by decide) fun d t1 d0 d1 ok1 => ?_
  refine idx_fi d0 d1 fun v mv => ?_
  obtain ⟨base, rfl, b0, b1⟩ : ∃ s : Int, v = .int s ∧ -1000000 ≤ s ∧ s ≤ 870000 := by
    simp only [List.mem_cons, List.not_mem_nil, or_false] at mv
    rcases mv with rfl | rfl | rfl | rfl | rfl
    · exact ⟨0, rfl, by omega, by omega⟩
    · exact ⟨0, rfl, by omega, by omega⟩
    · exact ⟨-4, rfl, by omega, by omega⟩
    · exact ⟨870000, rfl, by omega, by omega⟩
    · exact ⟨-1000000, rfl, by omega, by omega⟩
  clear mv d0 d1
  fin2
  refine ⟨_, rfl, ?_⟩
  fin2
  rw [bx_al hb, bx_al_nx, bx_al (Nat.lt_succ_of_lt hb)]
  have hb' : ∀ {o o2 : Ob}, b < ((h0.al o).al o2).nx := Nat.lt_succ_of_lt (Nat.lt_succ_of_lt hb)
  refine take_of hb' ok1 (by omega) (by decide) (by decide) fun k t2 k0 k1 ok2 => ?_
  fin2
  refine ne_nilF ?_
  fin2
  obtain ⟨m, hm, m1, m2⟩ : ∃ m : Nat, (1 + k) * (if (!(ps.map Val.str).isEmpty) = true then 1 else 0) = (m : Int) ∧ m ≤ 3 ∧ (0 < m → 0 < ps.length) := by
    cases ps with
    | nil => exact ⟨0, by simp, by omega, fun z => absurd z (by decide)⟩
    | cons p r => exact ⟨(1 + k).toNat, by show (1 + k) * 1 = _; omega, by omega, fun _ => Nat.succ_pos _⟩
  rw [hm]
  refine ⟨.inl ⟨by omega, by omega⟩, by omega, by omega, ?_⟩
  rw [Int.toNat_natCast]
  refine forW_at (l := List.range m) (v := fun (k : Nat) => .int k) (fun i env h1 => ∃ (t : Bx) (cs : List Cone) (e6 : Option Val), env = [some (.ref b), some (plV ps), some (farV ps F), some (.int base), some (.ref h0.nx), some (.ref (h0.nx + 1)), e6, none, none, none, none] ∧ okB (c + 2 + 3 * i) t ∧ cs.length = i ∧ (∀ c ∈ cs, c.1 ∈ ps ∧ base ≤ c.2 ∧ c.2 ≤ base + 39) ∧ h1 = ((h0.al (.lst (cs.map cnV))).al (.dic [] false)).bx b t) rfl (fun _ _ _ _ => trivial) ⟨t2, [], none, rfl, ok2, rfl, (fun _ z => nomatch z), rfl⟩ ?_ ?_
  · rintro x i env h1 hi hx ⟨t3, cs, e6, rfl, ok3, lcs, hcs, rfl⟩ N hN
    rw [List.length_range] at hi
    have pos := m2 (by omega)
    ((try simp only [plV, farV]); fin2; (try (simp only [plV, farV]; fin2)))
    refine ⟨⟨_, acc2_get0 hb⟩, ?_⟩
    rw [List.length_map]
    refine take_of hb' ok3 (by omega) (by omega) (by omega) fun a t4 a0 a1 ok4 => ?_
    refine idx_fi a0 (by rw [List.length_map]; exact a1) fun v mv => ?_
    obtain ⟨p, mp, rfl⟩ := List.mem_map.mp mv
    refine take_of hb' ok4 (by omega) (by decide) (by decide) fun u t5 u0 u1 ok5 => ?_
    refine idx_fi u0 u1 fun v mv => ?_
    obtain ⟨s, rfl, s0, s1⟩ : ∃ s : Int, v = .int s ∧ 0 < s ∧ s ≤ 40 := by
      simp only [List.mem_cons, List.not_mem_nil, or_false] at mv
      rcases mv with rfl | rfl | rfl
      · exact ⟨2, rfl, by omega, by omega⟩
      · exact ⟨9, rfl, by omega, by omega⟩
      · exact ⟨40, rfl, by omega, by omega⟩
    refine take_of hb' ok5 (by omega) s0 (by omega) fun w t6 w0 w1 ok6 => ?_
    fin2
    refine ⟨_, acc2_get0 hb, by rw [List.length_map]; omega, ?_⟩
    rw [acc2_put0 hb]
    refine hN _ _ ⟨t6, cs ++ [(p, base + w)], _, rfl, ok6, by rw [List.length_append, lcs]; rfl, fun z m => ?_, by rw [List.map_append]; rfl⟩
    rcases List.mem_append.mp m with m | m
    · exact hcs z m
    · rw [List.mem_singleton.mp m]
      exact ⟨mp, by show base ≤ base + w; omega, by show base + w ≤ base + 39; omega⟩
  rintro env h1 ⟨t3, cs, e6, rfl, ok3, lcs, hcs, rfl⟩
  rw [List.length_range] at lcs ok3
  have BO := cone_ok (cs := cs) o hF ⟨b0, b1⟩ hcs
  ((try simp only [plV]); fin2; (try (simp only [plV]; fin2)))
  refine forW_at (l := ps) (v := Val.str) (fun i env h1 => ∃ (e7 e8 : Option Val), env = [some (.ref b), some (plV ps), some (farV ps F), some (.int base), some (.ref h0.nx), some (.ref (h0.nx + 1)), e6, e7, e8, none, none] ∧ h1 = ((h0.al (.lst (cs.map cnV))).al (.dic (bedK (ps.take i) (coneB F cs base)) false)).bx b t3) rfl (fun _ _ _ _ => trivial) ⟨_, _, rfl, rfl⟩ ?_ ?_
  · rintro p i env h1 hi hp ⟨e7, e8, rfl, rfl⟩ N hN
    have mp := List.mem_of_getElem? hp
    have np : p ∉ ps.take i := fun m => by
      obtain ⟨j, hj, e⟩ := List.getElem_of_mem m
      rw [List.length_take] at hj
      rw [List.getElem_take] at e
      have e2 := (List.getElem?_eq_some_iff.mp hp).2
      exact (List.pairwise_iff_getElem.mp o.nd) j i (by omega) hi (by omega) (by rw [e, e2])
    have get : ∀ {z : Cone} {hh : Hv} {P : K1}, z ∈ cs → P (optV (F z.1 p)) hh → oIdx (farV ps F) (.tup [.str z.1, .str p]) hh P := fun {z hh P} mz q => get_f (far_keys F ps ps z.1 p) (by rw [show Val.tup [.str z.1, .str p] = pk z.1 p from rfl, far_get, if_pos ⟨(hcs z mz).1, mp⟩]) q
    fin2
    refine ⟨_, acc2_get0 hb, ?_⟩
    refine compW_filter (l := cs) (v := cnV) (fun z => (F z.1 p).isSome) (fun z => .int (z.2 + (F z.1 p).getD 0)) rfl (acc2_get0 hb) (by rw [sizeLine_eq]; omega) (fun z mz K N1 k1 k2 => ?_) ?_
    · ((try simp only [cnV]); fin2; (try (simp only [cnV]; fin2)))
      refine get mz ?_
      cases e : F z.1 p with
      | none =>
        ((try simp only [optV]); fin2; (try (simp only [optV]; fin2)))
        exact k2 (by rw [e]; rfl)
      | some d =>
        rw [e] at k1
        ((try simp only [optV]); fin2; (try (simp only [optV]; fin2)))
        refine get mz ?_
        rw [e]
        ((try simp only [optV]); fin2; (try (simp only [optV]; fin2)))
        exact k1 rfl
    rw [show ((cs.filter fun z => (F z.1 p).isSome).map fun z => Val.int (z.2 + (F z.1 p).getD 0)) = (nearL F cs p).map Val.int by unfold nearL; rw [List.map_map]; rfl]
    fin2
    refine ne_nilF ?_
    have fin : stSub (.ref (h0.nx + 1)) (.str p) (.int (coneB F cs base p)) (((h0.al (.lst (cs.map cnV))).al (.dic (bedK (ps.take i) (coneB F cs base)) false)).bx b t3) fun h3 => N [some (.ref b), some (plV ps), some (farV ps F), some (.int base), some (.ref h0.nx), some (.ref (h0.nx + 1)), e6, some (.str p), some (.fl ((nearL F cs p).map Val.int)), none, none] h3 := by
      refine .inr ⟨_, acc2_get1 hb, okKey_str (bedK_keys _ _), by unfold bedK; rw [List.length_map, List.length_take, sizeLine_eq]; omega, ?_⟩
      rw [bedK_new np, acc2_put1 hb]
      have e : (fun q => if q = p then coneB F cs base p else coneB F cs base q) = coneB F cs base := by
        funext q
        by_cases h : q = p
        · rw [if_pos h, h]
        · rw [if_neg h]
      rw [e]
      refine hN _ _ ⟨_, _, rfl, ?_⟩
      rw [List.take_add_one, hp]; rfl
    unfold coneB at fin
    cases e : nearL F cs p with
    | nil =>
      rw [e] at fin
      ((try simp only [List.isEmpty_nil]); fin2; (try (simp only [List.isEmpty_nil]; fin2)))
      exact fin
    | cons x r =>
      rw [e] at fin
      have ai : allInt ((x :: r).map Val.int) = some (x :: r) := by
        have : ∀ l : List Int, allInt (l.map Val.int) = some l := fun l => by
          induction l with
          | nil => rfl
          | cons y l ih =>
            show (allInt (l.map Val.int)).map (y :: ·) = _
            rw [ih]; rfl
        exact this _
      rw [show (!((x :: r).map Val.int).isEmpty) = true from rfl]
      fin2
      exact ⟨x, r, ai, fin⟩
  rintro env h1 ⟨e7, e8, rfl, rfl⟩
  rw [List.take_length]
  fin2
  refine ⟨_, _, .dic (acc2_get1 hb) .same, ?_⟩
  rw [bx_del (by omega)]
  refine gc_bx hb (lowk_tre (bedK_tre ps _)) (by show h0.nx ≤ h0.nx + 1 + 1; omega) (fun m hm => ?_) (q _ _ (ok3.mono (by omega)) BO)
  rw [del_get (by omega), Hv.al_old (by show m ≠ h0.nx + 1; omega), Hv.al_old (by omega)]
theorem pr_law_kept : ∀ vs h Q Ex, sp_law_kept vs h Q Ex → bodyW 1 1 b_law_kept vs h (gcQ h Q) (gcX h Ex) := by
  rintro vs h Q Ex ⟨d, rfl, q⟩
  refine ⟨rfl, ?_⟩
  ((try simp only [b_law_kept]); fin2; (try (simp only [b_law_kept]; fin2)))
  have e : (if (if d < 1000000 then d else 1000000) > -1000000 then (if d < 1000000 then d else 1000000) else -1000000) = keptI d := by
    unfold keptI
    split <;> split <;> (try split) <;> omega
  rw [e]
  exact gc_same rfl q
theorem pr_law_log : ∀ vs h Q Ex, sp_law_log vs h Q Ex → bodyW 11 5 b_law_log vs h (gcQ h Q) (gcX h Ex) := by
  rintro vs h Q Ex ⟨h0, b, t, c, ps, B, many, worst, rfl, rfl, hb, ok, lc, nm, lp, m0, m1, w0, w1, q⟩
  refine ⟨rfl, ?_⟩
  ((try simp only [b_law_log, plV]); fin2; (try (simp only [b_law_log, plV]; fin2)))
  rw [bx_al hb, bx_al_nx]
  have hb' : ∀ {o : Ob}, b < (h0.al o).nx := Nat.lt_succ_of_lt hb
  refine ne_nilF ?_
  fin2
  obtain ⟨m, hm, m2, m3, m4⟩ : ∃ m : Nat, many * (if (!(ps.map Val.str).isEmpty) = true then 1 else 0) = (m : Int) ∧ (m : Int) ≤ many ∧ (0 < m → 0 < ps.length) ∧ (0 < ps.length → (m : Int) = many) := by
    cases ps with
    | nil => exact ⟨0, by simp, by omega, fun z => absurd z (by decide), fun z => absurd z (by decide)⟩
    | cons p r => exact ⟨many.toNat, by show many * 1 = _; omega, by omega, fun _ => Nat.succ_pos _, fun _ => by omega⟩
  rw [hm]
  refine ⟨.inl ⟨by omega, by omega⟩, by omega, by omega, ?_⟩
  rw [Int.toNat_natCast]
  refine forW_at (l := List.range m) (v := fun (k : Nat) => .int k) (fun i env h1 => ∃ (t : Bx) (ss : List Snd) (e6 e7 e8 e9 e10 : Option Val), env = [some (.ref b), some (plV ps), some (bedV ps B), some (.int many), some (.int worst), some (.ref h0.nx), e6, e7, e8, e9, e10] ∧ okB (c + 10 * i) t ∧ ss.length = i ∧ LogOk ps ss ∧ (worst = 0 → ∀ s ∈ ss, s.lo ≤ keptI (B s.p) ∧ keptI (B s.p) ≤ s.hi) ∧ h1 = (h0.al (.lst (ss.map sndV))).bx b t) rfl (fun _ _ _ _ => trivial) ⟨t, [], _, _, _, _, _, rfl, ok, rfl, ⟨Nat.zero_le _, (fun _ z => nomatch z), (fun _ z => nomatch z)⟩, (fun _ _ z => nomatch z), rfl⟩ ?_ ?_
  · rintro x i env h1 hi hx ⟨t3, ss, e6, e7, e8, e9, e10, rfl, ok3, lss, lo, ex, rfl⟩ N hN
    rw [List.length_range] at hi
    have pos := m3 (by omega)
    ((try simp only [plV]); fin2; (try (simp only [plV]; fin2)))
    rw [List.length_map]
    refine take_of hb' ok3 (by omega) (by omega) (by omega) fun a t4 a0 a1 ok4 => ?_
    refine idx_fi a0 (by rw [List.length_map]; exact a1) fun v mv => ?_
    obtain ⟨p, mp, rfl⟩ := List.mem_map.mp mv
    clear mv a0 a1
    refine take_of hb' ok4 (by omega) (by decide) (by decide) fun u t5 u0 u1 ok5 => ?_
    refine take_of hb' ok5 (by omega) (by decide) (by decide) fun a t6 a0 a1 ok6 => ?_
    refine idx_fi a0 a1 fun v mv => ?_
    obtain ⟨wide, rfl, wd0, wd1⟩ : ∃ s : Int, v = .int s ∧ 0 ≤ s ∧ s ≤ 8 := by
      simp only [List.mem_cons, List.not_mem_nil, or_false] at mv
      rcases mv with rfl | rfl | rfl | rfl
      · exact ⟨0, rfl, by omega, by omega⟩
      · exact ⟨0, rfl, by omega, by omega⟩
      · exact ⟨1, rfl, by omega, by omega⟩
      · exact ⟨u, rfl, by omega, by omega⟩
    clear mv a0 a1 u0 u1
    fin2
    refine take_of hb' ok6 (by omega) (by decide) (by decide) fun y t7 y0 y1 ok7 => ?_
    fin2
    refine take_of hb' ok7 (by omega) (by omega) (by omega) fun z t8 z0 z1 ok8 => ?_
    fin2
    refine take_of hb' ok8 (by omega) (by decide) (by decide) fun a t9 a0 a1 ok9 => ?_
    refine idx_fi a0 a1 fun v mv => ?_
    obtain ⟨off, rfl, of0, of1⟩ : ∃ s : Int, v = .int s ∧ -200000 ≤ s ∧ s ≤ 200000 := by
      simp only [List.mem_cons, List.not_mem_nil, or_false] at mv
      rcases mv with rfl | rfl | rfl | rfl | rfl | rfl | rfl | rfl
      · exact ⟨0, rfl, by omega, by omega⟩
      · exact ⟨0, rfl, by omega, by omega⟩
      · exact ⟨0, rfl, by omega, by omega⟩
      · exact ⟨0, rfl, by omega, by omega⟩
      · exact ⟨1, rfl, by omega, by omega⟩
      · exact ⟨-1, rfl, by omega, by omega⟩
      · exact ⟨4 - y, rfl, by omega, by omega⟩
      · exact ⟨worst - z, rfl, by omega, by omega⟩
    clear mv a0 a1 y0 y1 z0 z1
    fin2
    refine get_f (okKey_str (bedK_keys _ _)) (by rw [bedK_get, if_pos mp]) ?_
    fin2
    refine ⟨.inl ⟨by omega, by omega⟩, ?_⟩
    refine take_of hb' ok9 (by omega) (by omega) (by omega) fun e t10 e0 e1 ok10 => ?_
    fin2
    have hz : worst = 0 → off * (if decide (0 < worst) = true then 1 else 0) = 0 := fun z => by rw [z]; simp
    generalize off * (if decide (0 < worst) = true then 1 else 0) = off2 at hz ⊢
    refine ⟨⟨_, acc_get hb⟩, ?_⟩
    ((try simp only [kept_w]); fin2; (try (simp only [kept_w]; fin2)))
    refine ⟨_, acc_get hb, by rw [List.length_map]; omega, ?_⟩
    rw [acc_put hb rfl]
    have lim := keptI_b (B p + off2 - e)
    have lim2 := keptI_b (B p + off2 - e + wide)
    refine hN _ _ ⟨t10, ss ++ [⟨p, keptI (B p + off2 - e), keptI (B p + off2 - e + wide)⟩], _, _, _, _, _, rfl, ok10.mono (by omega), by rw [List.length_append, lss]; rfl, ⟨by rw [List.length_append, lss]; show i + 1 ≤ 30; omega, fun s ms => ?_, fun s ms => ?_⟩, fun wz s ms => ?_, by rw [List.map_append]; rfl⟩
    · rcases List.mem_append.mp ms with ms | ms
      · exact lo.ok s ms
      · rw [List.mem_singleton.mp ms]
        exact ⟨nm p mp, lim.1, lim2.2, keptI_mono (by omega)⟩
    · rcases List.mem_append.mp ms with ms | ms
      · exact lo.mp s ms
      · rw [List.mem_singleton.mp ms]; exact mp
    · rcases List.mem_append.mp ms with ms | ms
      · exact ex wz s ms
      · rw [List.mem_singleton.mp ms]
        have := hz wz
        exact ⟨keptI_mono (by show B p + off2 - e ≤ B p; omega), keptI_mono (by show B p ≤ B p + off2 - e + wide; omega)⟩
  rintro env h1 ⟨t3, ss, e6, e7, e8, e9, e10, rfl, ok3, lss, lo, ex, rfl⟩
  rw [List.length_range] at lss ok3
  fin2
  exact ⟨_, _, fz_acc hb, gc_acc hb (lows_tre (tres_map _ fun _ _ => rfl)) (q ss t3 (ok3.mono (by omega)) ⟨by omega, fun z => by have := m4 z; omega⟩ lo ex)⟩
end Lw
set_option Elab.async false
set_option linter.all false
set_option maxRecDepth 100000
set_option maxHeartbeats 2000000
namespace Lw
open PySem
local macro_rules | `(tactic| fin2) => `(tactic| try simp only [wipeE, un_t, un_f, slc_s, slc_t, slc_f, slc_r, rev_f, rev_r, en_t, en_f, en_r, it_s, it_t, it_c, it_f, it_r, wpSs, wpS, wpE, wpEs, wpEo, wpAnd, wpOr, wpIfs, wpT, wpTs, wpI, wpF, startE, setAll, List.map_cons, List.map_nil, List.cons_append, List.nil_append, List.getElem?_cons_zero, List.getElem?_cons_succ, List.getElem?_nil, List.set_cons_zero, List.set_cons_succ, List.length_cons, List.length_nil, List.replicate, Nat.zero_add, Nat.reduceAdd, Nat.reduceSub, add_ii, add_ss, add_ff, add_rl, add_fr, add_tt, mul_ii, mul_si, mul_fi, sub_ii, mod_ii, fdiv_ii, pow_ii, lt_ii, gt_ii, le_ii, ge_ii, lt_ss, gt_ss, le_ss, ge_ss, eq_ii, ne_ii, eq_ss, ne_ss, is_vb, isnt_vb, is_vn, isnt_vn, tst_b, tag_i, tag_b, tag_s, tag_t, tag_n, tag_f, tag_d, tag_o, len_s, len_t, len_c, len_f, len_d, list_w, listW_f, listW_t, listW_c, listW_d, tuple_w, tupW_f, tupW_t, tupW_r, all_w, any_w, sum_w, max_w, min_w, dict_w, dictW_f, dictW_d, divmod_w, int_i, int_b, str_i, fmt_s, fmt_i, max_ii, min_ii, abs_i, newL_t, newL_f, newD_t, newD_f, asL_f, asL_r, asSeq_f, asSeq_t, asSeq_c, asSeq_r, asD_f, asD_r, bmT, join_w, split_w, get1_w, get2_w, append_w, pop1_w, clear_w, extend_w, tl_r, fld_o, isIns_o, is_integer_w, law_is_int_w, is_name_w, law_is_name_w, is_list_w, is_tuple_w, box_w, tgIs, tgB, Ts.len, Option.some.injEq, Val.int.injEq, Val.bl.injEq, Val.str.injEq, Val.ref.injEq, Val.tup.injEq, Val.fl.injEq, Ob.lst.injEq, List.cons.injEq, and_true, true_and, and_self, exists_eq_left', exists_eq_left, exists_eq', exists_and_left, exists_const, and_assoc, Bool.not_true, Bool.not_false, Bool.not_not, Bool.false_eq_true, ↓reduceIte, List.any_cons, List.any_nil, Bool.or_false, Bool.false_or, Bool.true_or, Bool.or_true, reduceCtorEq, sizeLine_eq, Int.reduceLT, Int.reduceLE, Int.reducePow, Int.reduceNeg, Int.reduceAdd, Int.reduceSub, Int.reduceMul, Int.reduceToNat, Int.toNat_zero, Int.toNat_one, natAbs_10, Nat.reducePow, Nat.reduceLT, Nat.reduceLeDiff, Nat.reduceMul, decide_true, decide_false, or_true, true_or, ne_eq, not_false_eq_true])
local macro_rules | `(tactic| fin_item) => `(tactic| (first | omega | (simp only [List.length_append, List.length_cons, List.length_nil, List.length_map, List.length_take, List.length_drop, List.length_replicate, List.length_range]; omega)))
def n_is_too_deep : List Nm := ["one", "other", "near"]
def b_is_too_deep : Ss := .cons (.ret (.and (.cons (.cmp .isnt (.var 2) (.con (.non))) (.cons (.cmp .gt (.idx (.var 1) (.con (.int (1)))) (.bin (.add true) (.idx (.var 0) (.con (.int (2)))) (.var 2))) .nil))))
  .nil

def n_law_near_edge : List Nm := ["box", "places", "far", "log", "one", "place", "near", "edge", "low"]
def b_law_near_edge : Ss := .cons (.ite (.cmp .eq (.var 3) (.lst true .nil))
  (.cons (.ret (.bi (.list true) (.cons (.var 3) .nil)))
  .nil)
  .nil)
  (.cons (.asg (.name 4) (.idx (.var 3) (.call "_law_take" sp_law_take (.cons (.var 0) (.cons (.bi .len (.cons (.var 3) .nil)) .nil)))))
  (.cons (.asg (.name 5) (.idx (.var 1) (.call "_law_take" sp_law_take (.cons (.var 0) (.cons (.bi .len (.cons (.var 1) .nil)) .nil)))))
  (.cons (.asg (.name 6) (.idx (.var 2) (.tup (.cons (.idx (.var 4) (.con (.int (0)))) (.cons (.var 5) .nil)))))
  (.cons (.ite (.cmp .is_ (.var 6) (.con (.non)))
  (.cons (.ret (.bi (.list true) (.cons (.var 3) .nil)))
  .nil)
  .nil)
  (.cons (.asg (.name 7) (.bin .sub (.call "_law_take" sp_law_take (.cons (.var 0) (.cons (.con (.int (4))) .nil))) (.con (.int (1)))))
  (.cons (.asg (.name 8) (.ife (.cmp .eq (.call "_law_take" sp_law_take (.cons (.var 0) (.cons (.con (.int (2))) .nil))) (.con (.int (0)))) (.bin (.add true) (.bin (.add true) (.idx (.var 4) (.con (.int (2)))) (.var 6)) (.var 7)) (.bin .sub (.bin .sub (.bin .sub (.idx (.var 4) (.con (.int (1)))) (.var 6)) (.var 7)) (.call "_law_take" sp_law_take (.cons (.var 0) (.cons (.con (.int (3))) .nil))))))
  (.cons (.asg (.name 8) (.call "_law_kept" sp_law_kept (.cons (.var 8) .nil)))
  (.cons (.ret (.bin (.add true) (.var 3) (.lst true (.cons (.tup (.cons (.var 5) (.cons (.var 8) (.cons (.call "_law_kept" sp_law_kept (.cons (.bin (.add true) (.var 8) (.idx (.lst true (.cons (.con (.int (0))) (.cons (.con (.int (0))) (.cons (.con (.int (2))) .nil)))) (.call "_law_take" sp_law_take (.cons (.var 0) (.cons (.con (.int (3))) .nil))))) .nil)) .nil)))) .nil))))
  .nil))))))))

def n_law_stand : List Nm := ["box", "most", "many", "worst", "places", "legs", "far", "bed", "log"]
def b_law_stand : Ss := .cons (.asg (.tup (.cons (.name 4) (.cons (.name 5) .nil))) (.call "_law_net" sp_law_net (.cons (.var 0) (.cons (.var 1) .nil))))
  (.cons (.ite (.cmp .eq (.var 4) (.lst true .nil))
  (.cons (.par [4, 5] (.cons (.lst true (.cons (.con (.str [98])) (.cons (.con (.str [97])) (.cons (.con (.str [99])) .nil)))) (.cons (.lst true (.cons (.tup (.cons (.con (.str [97])) (.cons (.con (.str [98])) (.cons (.con (.int (3))) .nil)))) (.cons (.tup (.cons (.con (.str [99])) (.cons (.con (.str [98])) (.cons (.con (.int (1))) .nil)))) .nil))) .nil)))
  .nil)
  .nil)
  (.cons (.asg (.name 6) (.call "_law_far" sp_law_far (.cons (.var 4) (.cons (.var 5) .nil))))
  (.cons (.asg (.name 7) (.call "_law_bed" sp_law_bed (.cons (.var 0) (.cons (.var 4) (.cons (.var 6) .nil)))))
  (.cons (.asg (.name 8) (.call "_law_log" sp_law_log (.cons (.var 0) (.cons (.var 4) (.cons (.var 7) (.cons (.var 2) (.cons (.idx (.lst true (.cons (.con (.int (0))) (.cons (.var 3) (.cons (.var 3) .nil)))) (.call "_law_take" sp_law_take (.cons (.var 0) (.cons (.con (.int (3))) .nil)))) .nil)))))))
  (.cons (.ite (.and (.cons (.cmp .gt (.var 2) (.con (.int (1)))) (.cons (.cmp .eq (.call "_law_take" sp_law_take (.cons (.var 0) (.cons (.con (.int (3))) .nil))) (.con (.int (0)))) .nil)))
  (.cons (.asg (.name 8) (.call "_law_near_edge" sp_law_near_edge (.cons (.var 0) (.cons (.var 4) (.cons (.var 6) (.cons (.slc true (.var 8) .none (.some (.neg (.con (.int (1)))))) .nil))))))
  .nil)
  .nil)
  (.cons (.ret (.lst true (.cons (.var 4) (.cons (.var 5) (.cons (.var 6) (.cons (.var 8) .nil))))))
  .nil))))))

theorem pr_is_too_deep : ∀ vs h Q Ex, sp_is_too_deep vs h Q Ex → bodyW 3 3 b_is_too_deep vs h (gcQ h Q) (gcX h Ex) := by
  rintro vs h Q Ex ⟨s, t, x, rfl, os, ot, bx, q⟩
  refine ⟨rfl, ?_⟩
  ((try simp only [b_is_too_deep]); fin2; (try (simp only [b_is_too_deep]; fin2)))
  have a0 := os.l0
  have a1 := os.h1
  have a2 := os.lh
  cases x with
  | none =>
    ((try simp only [optV]); fin2; (try (simp only [optV]; fin2)))
    exact gc_same rfl q
  | some d =>
    have := bx d rfl
    ((try simp only [optV, sndV]); fin2; (try (simp only [optV, sndV]; fin2)))
    refine idx_t (v := .int t.lo) rfl (idx_t (v := .int s.hi) rfl ?_)
    fin2
    exact gc_same rfl q
theorem pr_law_near_edge : ∀ vs h Q Ex, sp_law_near_edge vs h Q Ex → bodyW 9 4 b_law_near_edge vs h (gcQ h Q) (gcX h Ex) := by
  rintro vs h Q Ex ⟨h0, b, t, c, ps, ls, F, ss, rfl, rfl, hb, ok, lc, o, hF, l29, lo, q⟩
  refine ⟨rfl, ?_⟩
  ((try simp only [b_law_near_edge, lgV, plV]); fin2; (try (simp only [b_law_near_edge, lgV, plV]; fin2)))
  have same : ∀ t', okB (c + 10) t' → gcQ (h0.bx b t) Q (.fl (ss.map sndV)) (h0.bx b t') := fun t' ok' => gc_bx0 hb (lows_tre (tres_map _ fun _ _ => rfl)) (q ss t' ok' lo (Nat.le_refl _) (Nat.le_succ _) id)
  refine eq_nilF ?_
  cases hs : ss with
  | nil =>
    rw [hs] at same
    exact same t (ok.mono (by omega))
  | cons s0 sr =>
  rw [← hs, if_neg (by rw [hs]; intro z; cases z)]
  have l0 : 0 < ss.length := by rw [hs]; exact Nat.succ_pos _
  have p0 : 0 < ps.length := by
    have := lo.mp s0 (by rw [hs]; exact List.mem_cons_self)
    cases ps with
    | nil => cases this
    | cons => exact Nat.succ_pos _
  have lp := o.lp
  rw [List.length_map, List.length_map]
  refine take_of hb ok (by omega) (by omega) (by omega) fun a t1 a0 a1 ok1 => ?_
  refine idx_fi a0 (by rw [List.length_map]; exact a1) fun v mv => ?_
  obtain ⟨s, ms, rfl⟩ := List.mem_map.mp mv
  clear mv a0 a1
  refine take_of hb ok1 (by omega) (by omega) (by omega) fun a t2 a0 a1 ok2 => ?_
  refine idx_fi a0 (by rw [List.length_map]; exact a1) fun v mv => ?_
  obtain ⟨p, mp, rfl⟩ := List.mem_map.mp mv
  clear mv a0 a1
  have i0 : ∀ {hh : Hv} {P : K1}, P (.str s.p) hh → oIdx (sndV s) (.int 0) hh P := fun q => idx_t (v := .str s.p) rfl q
  have i1 : ∀ {hh : Hv} {P : K1}, P (.int s.lo) hh → oIdx (sndV s) (.int 1) hh P := fun q => idx_t (v := .int s.lo) rfl q
  have i2 : ∀ {hh : Hv} {P : K1}, P (.int s.hi) hh → oIdx (sndV s) (.int 2) hh P := fun q => idx_t (v := .int s.hi) rfl q
  refine i0 (get_f (far_keys F ps ps s.p p) (show kvGet (pk s.p p) (farK ps ps F) = _ from by rw [far_get, if_pos ⟨lo.mp s ms, mp⟩]) ?_)
  have best := hF s.p (lo.mp s ms) p mp
  have os := lo.ok s ms
  have z0 := os.l0
  have z1 := os.h1
  have z2 := os.lh
  cases e : F s.p p with
  | none =>
    ((try simp only [optV]); fin2; (try (simp only [optV]; fin2)))
    exact same t2 (ok2.mono (by omega))
  | some d =>
    rw [e] at best
    have bd := Best.bound o best
    ((try simp only [optV]); fin2; (try (simp only [optV]; fin2)))
    have done : ∀ (low wide : Int) (t' : Bx), okB (c + 10) t' → 0 ≤ wide → ss.length ≤ 16777215 ∧ gcQ (h0.bx b t) Q (.fl (ss.map sndV ++ [Val.tup [.str p, .int (keptI low), .int (keptI (keptI low + wide))]])) (h0.bx b t') := fun low wide t' ok' w0 => by
      refine ⟨by omega, ?_⟩
      have lim := keptI_b low
      have lim2 := keptI_b (keptI low + wide)
      rw [show ss.map sndV ++ [Val.tup [.str p, .int (keptI low), .int (keptI (keptI low + wide))]] = (ss ++ [(⟨p, keptI low, keptI (keptI low + wide)⟩ : Snd)]).map sndV by rw [List.map_append]; rfl]
      refine gc_bx0 hb (lows_tre (tres_map _ fun _ _ => rfl)) (q _ t' ok' ⟨by rw [List.length_append]; show ss.length + 1 ≤ 30; omega, fun x m => ?_, fun x m => ?_⟩ (by rw [List.length_append]; omega) (by rw [List.length_append]; exact Nat.le_refl _) (fun z => by rw [z] at l0; cases l0))
      · rcases List.mem_append.mp m with m | m
        · exact lo.ok x m
        · rw [List.mem_singleton.mp m]
          refine ⟨o.n p mp, lim.1, lim2.2, ?_⟩
          show keptI low ≤ keptI (keptI low + wide)
          unfold keptI
          split <;> split <;> (try split) <;> omega
      · rcases List.mem_append.mp m with m | m
        · exact lo.mp x m
        · rw [List.mem_singleton.mp m]; exact mp
    refine take_of hb ok2 (by omega) (by decide) (by decide) fun u t3 u0 u1 ok3 => ?_
    fin2
    refine take_of hb ok3 (by omega) (by decide) (by decide) fun w t4 w0 w1 ok4 => ?_
    fin2
    have wid : ∀ (low : Int) (t5 : Bx), okB (c + 8) t5 → -3000000 ≤ low → low ≤ 3000000 → sp_law_take [.ref b, .int 3] (h0.bx b t5) (fun y h2 => oIdx (.fl [.int 0, .int 0, .int 2]) y h2 fun y h2 => o2 (O2.add true) (.int (keptI low)) y h2 fun v_5 h1 => sp_law_kept [v_5] h1 (fun v_6 h1 => ss.length ≤ 16777215 ∧ gcQ (h0.bx b t) Q (.fl (ss.map sndV ++ [Val.tup [.str p, .int (keptI low), v_6]])) h1) fun x h1 => gcX (h0.bx b t) Ex x h1) fun x h1 => gcX (h0.bx b t) Ex x h1 := fun low t5 ok5 b0 b1 => by
      refine take_of hb ok5 (by omega) (by decide) (by decide) fun a t6 a0 a1 ok6 => ?_
      refine idx_fi a0 a1 fun v mv => ?_
      obtain ⟨wide, rfl, wd0, wd1⟩ : ∃ s : Int, v = .int s ∧ 0 ≤ s ∧ s ≤ 8 := by
        simp only [List.mem_cons, List.not_mem_nil, or_false] at mv
        rcases mv with rfl | rfl | rfl
        · exact ⟨0, rfl, by omega, by omega⟩
        · exact ⟨0, rfl, by omega, by omega⟩
        · exact ⟨2, rfl, by omega, by omega⟩
      have lim := keptI_b low
      ((try simp only [kept_w]); fin2; (try (simp only [kept_w]; fin2)))
      exact done low wide t6 (ok6.mono (by omega)) wd0
    split
    · refine i2 ?_
      ((try simp only [kept_w]); fin2; (try (simp only [kept_w]; fin2)))
      refine wid _ t4 (ok4.mono (by omega)) ?_ ?_ <;> omega
    · refine i1 ?_
      fin2
      refine take_of hb ok4 (by omega) (by decide) (by decide) fun k t5 k0 k1 ok5 => ?_
      ((try simp only [kept_w]); fin2; (try (simp only [kept_w]; fin2)))
      refine wid _ t5 (ok5.mono (by omega)) ?_ ?_ <;> omega
theorem stand3 : NetOk [[98], [97], [99]] [⟨[97], [98], 3⟩, ⟨[99], [98], 1⟩] := by
  refine ⟨by decide, by decide, by decide, by decide, fun l m => ?_, ?_⟩
  · simp only [List.mem_cons, List.not_mem_nil, or_false] at m
    rcases m with rfl | rfl <;> exact ⟨by decide, by decide, by decide, by decide, by decide⟩
  · decide
theorem pr_law_stand : ∀ vs h Q Ex, sp_law_stand vs h Q Ex → bodyW 9 4 b_law_stand vs h (gcQ h Q) (gcX h Ex) := by
  rintro vs h Q Ex ⟨h0, b, t, c, most, many, worst, rfl, rfl, hb, ok, lc, a0, a1, m0, m1, w0, w1, q⟩
  refine ⟨rfl, ?_⟩
  ((try simp only [b_law_stand]); fin2; (try (simp only [b_law_stand]; fin2)))
  refine lnet_of hb ok lc a0 a1 fun ps ls t1 ok1 o lp => ?_
  fin2
  have any : ∀ (ps : List Pl) (ls : List Leg), NetOk ps ls → 0 < ps.length → (ps.length : Int) ≤ most → sp_law_far [.fl (ps.map .str), .fl (ls.map legV)] (h0.bx b t1)
      (fun v h1 => sp_law_bed [.ref b, .fl (ps.map .str), v] h1 (fun v_1 h1 => sp_law_take [.ref b, .int 3] h1 (fun y h2 => oIdx (.fl [.int 0, .int worst, .int worst]) y h2 fun v_2 h1 =>
        sp_law_log [.ref b, .fl (ps.map .str), v_1, .int many, v_2] h1 (fun v_3 h1 =>
          if decide (1 < many) = true then
            sp_law_take [.ref b, .int 3] h1 (fun x h1 => co CO.eq x (.int 0) h1 fun k => if k = true then
              oSlc true v_3 none (some (-1)) h1 fun v_4 h1 => sp_law_near_edge [.ref b, .fl (ps.map .str), v, v_4] h1 (fun v_5 h1 => gcQ (h0.bx b t) Q (.fl [.fl (ps.map .str), .fl (ls.map legV), v, v_5]) h1) fun x h1 => gcX (h0.bx b t) Ex x h1
              else gcQ (h0.bx b t) Q (.fl [.fl (ps.map .str), .fl (ls.map legV), v, v_3]) h1) fun x h1 => gcX (h0.bx b t) Ex x h1
          else gcQ (h0.bx b t) Q (.fl [.fl (ps.map .str), .fl (ls.map legV), v, v_3]) h1) fun x h1 => gcX (h0.bx b t) Ex x h1) fun x h1 => gcX (h0.bx b t) Ex x h1) fun x h1 => gcX (h0.bx b t) Ex x h1) fun x h1 => gcX (h0.bx b t) Ex x h1 := by
    clear o lp ps ls
    intro ps ls o p0 lm
    have lp := o.lp
    refine far_of o fun F hF => ?_
    refine lbed_of hb ok1 (by omega) o hF fun B t2 ok2 bo => ?_
    refine take_of hb ok2 (by omega) (by decide) (by decide) fun a t3 a0 a1 ok3 => ?_
    refine idx_fi a0 a1 fun v mv => ?_
    obtain ⟨wr, rfl, x0, x1⟩ : ∃ s : Int, v = .int s ∧ 0 ≤ s ∧ s ≤ 100000 := by
      simp only [List.mem_cons, List.not_mem_nil, or_false] at mv
      rcases mv with rfl | rfl | rfl
      · exact ⟨0, rfl, by omega, by omega⟩
      · exact ⟨worst, rfl, by omega, by omega⟩
      · exact ⟨worst, rfl, by omega, by omega⟩
    refine llog_of hb ok3 (by omega) o.n lp m0 m1 x0 x1 fun ss t4 ok4 lss lo _ => ?_
    have fin : ∀ (us : List Snd) (t' : Bx), okB (c + 1000 + 400) t' → LogOk ps us → (us.length : Int) ≤ many → gcQ (h0.bx b t) Q (.fl [.fl (ps.map .str), .fl (ls.map legV), farV ps F, lgV us]) (h0.bx b t') := fun us t' ok' lo' lus => by
      refine gc_bx0 hb (lows_tre ?_) (q ps ls F us t' (ok'.mono (by omega)) o p0 hF lo' lus lm)
      have a := plV_tre ps
      have b := llV_tre ls
      show (tre (plV ps) && (tre (llV ls) && (tre (farV ps F) && (tre (lgV us) && true)))) = true
      rw [a, b, farV_tre, lgV_tre]; rfl
    by_cases hm : 1 < many
    · rw [if_pos (decide_eq_true hm)]
      refine take_of hb ok4 (by omega) (by decide) (by decide) fun a t5 a0 a1 ok5 => ?_
      fin2
      split
      · have l1 : ss.length = many.toNat := by omega
        have ll := lo.ll
        have le2 : (ss.take (ss.length - 1)).length = ss.length - 1 := by rw [List.length_take]; omega
        ((try simp only [lgV]); fin2; (try (simp only [lgV]; fin2)))
        rw [cut_but1, List.length_map, ← List.map_take]
        refine edge_w (ss := ss.take (ss.length - 1)) hb ok5 (by omega) o hF (by omega) ⟨by omega, fun s m => lo.ok s (List.mem_of_mem_take m), fun s m => lo.mp s (List.mem_of_mem_take m)⟩ fun us t6 ok6 lu _ le _ => ?_
        exact fin us t6 (ok6.mono (by omega)) lu (by omega)
      · exact fin ss t5 (ok5.mono (by omega)) lo (by omega)
    · rw [if_neg fun z => hm (of_decide_eq_true z)]
      exact fin ss t4 (ok4.mono (by omega)) lo (by omega)
  refine eq_nilF ?_
  split
  · exact any [[98], [97], [99]] [⟨[97], [98], 3⟩, ⟨[99], [98], 1⟩] stand3 (by decide) (show (3 : Int) ≤ most from a0)
  · rename_i z
    exact any ps ls o (by cases ps with
      | nil => exact absurd rfl z
      | cons => exact Nat.succ_pos _) lp
end Lw
set_option Elab.async false
set_option linter.all false
set_option maxRecDepth 100000
set_option maxHeartbeats 2000000
namespace Lw
open PySem
local macro_rules | `(tactic| fin2) => `(tactic| try simp only [wipeE, un_t, un_f, slc_s, slc_t, slc_f, slc_r, rev_f, rev_r, en_t, en_f, en_r, it_s, it_t, it_c, it_f, it_r, wpSs, wpS, wpE, wpEs, wpEo, wpAnd, wpOr, wpIfs, wpT, wpTs, wpI, wpF, startE, setAll, List.map_cons, List.map_nil, List.cons_append, List.nil_append, List.getElem?_cons_zero, List.getElem?_cons_succ, List.getElem?_nil, List.set_cons_zero, List.set_cons_succ, List.length_cons, List.length_nil, List.replicate, Nat.zero_add, Nat.reduceAdd, Nat.reduceSub, add_ii, add_ss, add_ff, add_rl, add_fr, add_tt, mul_ii, mul_si, mul_fi, sub_ii, mod_ii, fdiv_ii, pow_ii, lt_ii, gt_ii, le_ii, ge_ii, lt_ss, gt_ss, le_ss, ge_ss, eq_ii, ne_ii, eq_ss, ne_ss, is_vb, isnt_vb, is_vn, isnt_vn, tst_b, tag_i, tag_b, tag_s, tag_t, tag_n, tag_f, tag_d, tag_o, len_s, len_t, len_c, len_f, len_d, list_w, listW_f, listW_t, listW_c, listW_d, tuple_w, tupW_f, tupW_t, tupW_r, all_w, any_w, sum_w, max_w, min_w, dict_w, dictW_f, dictW_d, divmod_w, int_i, int_b, str_i, fmt_s, fmt_i, max_ii, min_ii, abs_i, newL_t, newL_f, newD_t, newD_f, asL_f, asL_r, asSeq_f, asSeq_t, asSeq_c, asSeq_r, asD_f, asD_r, bmT, join_w, split_w, get1_w, get2_w, append_w, pop1_w, clear_w, extend_w, tl_r, fld_o, isIns_o, is_integer_w, law_is_int_w, is_name_w, law_is_name_w, is_list_w, is_tuple_w, box_w, tgIs, tgB, Ts.len, Option.some.injEq, Val.int.injEq, Val.bl.injEq, Val.str.injEq, Val.ref.injEq, Val.tup.injEq, Val.fl.injEq, Ob.lst.injEq, List.cons.injEq, and_true, true_and, and_self, exists_eq_left', exists_eq_left, exists_eq', exists_and_left, exists_const, and_assoc, Bool.not_true, Bool.not_false, Bool.not_not, Bool.false_eq_true, ↓reduceIte, List.any_cons, List.any_nil, Bool.or_false, Bool.false_or, Bool.true_or, Bool.or_true, reduceCtorEq, sizeLine_eq, Int.reduceLT, Int.reduceLE, Int.reducePow, Int.reduceNeg, Int.reduceAdd, Int.reduceSub, Int.reduceMul, Int.reduceToNat, Int.toNat_zero, Int.toNat_one, natAbs_10, Nat.reducePow, Nat.reduceLT, Nat.reduceLeDiff, Nat.reduceMul, decide_true, decide_false, or_true, true_or, ne_eq, not_false_eq_true])
local macro_rules | `(tactic| fin_item) => `(tactic| (first | omega | (simp only [List.length_append, List.length_cons, List.length_nil, List.length_map, List.length_take, List.length_drop, List.length_replicate, List.length_range]; omega)))
def n_reaches : List Nm := ["net", "log", "found", "place", "low", "high"]
def b_reaches : Ss := .cons (.asg (.name 2) (.dict false .nil))
  (.cons (.for_ (.tup (.cons (.name 3) (.cons (.name 4) (.cons (.name 5) .nil)))) (.any (.var 1))
  (.cons (.ite (.cmp .notin (.var 3) (.var 2))
  (.cons (.asg (.sub (.var 2) (.var 3)) (.call "reach_from" sp_reach_from (.cons (.var 0) (.cons (.var 3) .nil))))
  .nil)
  .nil)
  .nil))
  (.cons (.ret (.fz (.var 2)))
  .nil))

def n_climbs : List Nm := ["net", "log", "found", "rows", "one", "near", "at", "other"]
def b_climbs : Ss := .cons (.asg (.name 2) (.call "reaches" sp_reaches (.cons (.var 0) (.cons (.var 1) .nil))))
  (.cons (.asg (.name 3) (.lst false .nil))
  (.cons (.for_ (.name 4) (.any (.var 1))
  (.cons (.asg (.name 5) (.idx (.var 2) (.idx (.var 4) (.con (.int (0))))))
  (.cons (.expr (.bm .append (.var 3) (.cons (.lc true (.var 6) (.tup (.cons (.name 6) (.cons (.name 7) .nil))) (.enum (.var 1)) (.cons (.call "is_too_deep" sp_is_too_deep (.cons (.var 4) (.cons (.var 7) (.cons (.bm .get1 (.var 5) (.cons (.idx (.var 7) (.con (.int (0)))) .nil)) .nil)))) .nil) [6, 7]) .nil)))
  .nil)))
  (.cons (.ret (.fz (.var 3)))
  .nil)))

def n_all_clashes : List Nm := ["net", "log", "at", "row", "to"]
def b_all_clashes : Ss := .cons (.ret (.lc2 true (.tup (.cons (.var 2) (.cons (.var 4) .nil))) (.tup (.cons (.name 2) (.cons (.name 3) .nil))) (.enum (.call "climbs" sp_climbs (.cons (.var 0) (.cons (.var 1) .nil)))) .nil (.name 4) (.any (.var 3)) .nil [2, 3, 4] [4]))
  .nil

theorem pr_reaches : ∀ vs h Q Ex, sp_reaches vs h Q Ex → bodyW 6 2 b_reaches vs h (gcQ h Q) (gcX h Ex) := by
  rintro vs h Q Ex ⟨ps, ls, ss, w, rfl, o, i, lo, q⟩
  refine ⟨rfl, ?_⟩
  have ll := lo.ll
  ((try simp only [b_reaches]); fin2; (try (simp only [b_reaches]; fin2)))
  refine ⟨_, rfl, ?_⟩
  refine it_log i ?_
  refine forW_at (l := ss) (v := sndV) (fun i env h1 => ∃ (e3 e4 e5 : Option Val) (l : List (Pl × Val)), env = [some (netV ps ls), some w, some (.ref h.nx), e3, e4, e5] ∧ h1 = h.al (.dic (skv l) false) ∧ l.length ≤ i ∧ (∀ p ∈ l, tre p.2 = true) ∧ (∀ p v, lGet p l = some v → RowOk ls p v) ∧ ∀ s ∈ ss.take i, (lGet s.p l).isSome = true) rfl (fun _ _ _ _ => trivial) ⟨_, _, _, [], rfl, rfl, Nat.le_refl _, fun _ z => (nomatch z), fun _ _ z => (nomatch z), fun _ z => (nomatch z)⟩ ?_ ?_
  · rintro s i env h1 hi hs ⟨e3, e4, e5, l, rfl, rfl, ll2, tl, hl, hs2⟩ N hN
    have ms := List.mem_of_getElem? hs
    ((try simp only [sndV]); fin2; (try (simp only [sndV]; fin2)))
    refine in_n (show cIn (.str s.p) (.ref h.nx) _ _ from .inr ⟨_, _, Hv.al_new _ _, skv_ok _ _, ?_⟩)
    rw [skv_get]
    have took : ∀ {t}, t ∈ ss.take (i + 1) → t ∈ ss.take i ∨ t = s := fun {t} m => by
      rw [List.take_add_one, hs] at m
      rcases List.mem_append.mp m with m | m
      · exact .inl m
      · exact .inr (by simpa using m)
    cases z : (lGet s.p l).isSome with
    | true =>
      show (if (!true) = true then _ else _)
      rw [if_neg (by decide)]
      refine hN _ _ ⟨_, _, _, l, rfl, rfl, by omega, tl, hl, fun t mt => ?_⟩
      rcases took mt with mt | rfl
      · exact hs2 t mt
      · exact z
    | false =>
      show (if (!false) = true then _ else _)
      rw [if_pos (by decide)]
      refine ⟨ps, ls, s.p, rfl, o, lo.mp s ms, fun f k hk best tk => ?_⟩
      refine .inr ⟨_, Hv.al_new _ _, skv_ok _ _, by unfold skv; rw [List.length_map, sizeLine_eq]; omega, ?_⟩
      rw [skv_put, al_put rfl]
      refine hN _ _ ⟨_, _, _, lPut s.p (.fd (skv k)) l, rfl, rfl, ?_, ?_, fun p v e => ?_, fun t mt => ?_⟩
      · rw [lPut_new z, List.length_append]; simp; omega
      · rw [lPut_new z]
        intro p m
        rcases List.mem_append.mp m with m | m
        · exact tl p m
        · rw [List.mem_singleton.mp m]; exact skv_tre tk
      · rw [lGet_put] at e
        by_cases y : s.p = p
        · rw [if_pos y] at e
          cases e
          subst y
          exact ⟨f, k, rfl, hk, best, tk⟩
        · rw [if_neg y] at e; exact hl p v e
      · rw [lGet_put]
        by_cases y : s.p = t.p
        · rw [if_pos y]; rfl
        · rw [if_neg y]
          rcases took mt with mt | rfl
          · exact hs2 t mt
          · exact absurd rfl y
  rintro env h1 ⟨e3, e4, e5, l, rfl, rfl, ll2, tl, hl, hs2⟩
  rw [List.take_length] at hs2
  fin2
  refine ⟨_, _, .dic (Hv.al_new _ _) .same, ?_⟩
  exact gc_ext (lowk_tre (skv_tre tl)) (Nat.le_succ _) (fun m hm => by rw [del_get (by omega), Hv.al_old (by omega)]) (q l tl fun s ms => by
    obtain ⟨v, e⟩ := Option.isSome_iff_exists.mp (hs2 s ms)
    exact ⟨v, e, hl _ _ e⟩)
theorem pr_climbs : ∀ vs h Q Ex, sp_climbs vs h Q Ex → bodyW 8 2 b_climbs vs h (gcQ h Q) (gcX h Ex) := by
  rintro vs h Q Ex ⟨ps, ls, F, ss, w, rfl, o, hF, i, lo, q⟩
  refine ⟨rfl, ?_⟩
  have ll := lo.ll
  ((try simp only [b_climbs]); fin2; (try (simp only [b_climbs]; fin2)))
  refine reaches_w o i lo fun l tl hl => ?_
  fin2
  refine it_log i ?_
  refine forW_at (l := ss) (v := sndV) (fun i env h1 => ∃ (e4 e5 : Option Val), env = [some (netV ps ls), some w, some (.fd (skv l)), some (.ref h.nx), e4, e5, none, none] ∧ h1 = h.al (.lst ((ss.take i).map fun s => .fl (rowI F ss s)))) rfl (fun _ _ _ _ => trivial) ⟨_, _, rfl, rfl⟩ ?_ ?_
  · rintro s k env h1 hi hs ⟨e4, e5, rfl, rfl⟩ N hN
    have ms := List.mem_of_getElem? hs
    obtain ⟨v, ev, f, r, rfl, hr, best, tr⟩ := hl s ms
    have eF : ∀ t ∈ ss, f t.p = F s.p t.p := fun t mt => (best t.p).uniq (hF _ (lo.mp s ms) _ (lo.mp t mt))
    fin2
    refine (show oIdx (sndV s) (.int 0) _ _ from idx_t (v := .str s.p) rfl ?_)
    refine get_f (skv_ok _ _) (by rw [skv_get]; exact ev) ?_
    refine ⟨⟨_, Hv.al_new _ _⟩, ?_⟩
    refine en_log i fun G hG => ?_
    refine compW_filter (l := ss.zipIdx) (v := fun p : Snd × Nat => .tup [.int p.2, sndV p.1]) (fun p => deepB (F s.p p.1.p) s p.1) (fun p => .int p.2) rfl hG (by rw [sizeLine_eq, List.length_zipIdx]; omega) (fun p mp K N1 k1 k2 => ?_) ?_
    · have mt : p.1 ∈ ss := List.fst_mem_of_mem_zipIdx mp
      fin2
      refine (show oIdx (sndV p.1) (.int 0) _ _ from idx_t (v := .str p.1.p) rfl ?_)
      refine ⟨skv_ok _ _, ?_⟩
      rw [skv_get, hr, eF _ mt, show ((F s.p p.1.p).map Val.int).getD .non = optV (F s.p p.1.p) by cases F s.p p.1.p <;> rfl]
      refine deep_w (lo.ok s ms) (lo.ok _ mt) (fun d e => hF.bd o (lo.mp s ms) (lo.mp _ mt) e) ?_
      fin2
      cases e : deepB (F s.p p.1.p) s p.1 with
      | true => fin2; exact k1 e
      | false => fin2; exact k2 e
    fin2
    refine ⟨_, Hv.al_new _ _, by rw [List.length_map, List.length_take]; omega, ?_⟩
    rw [al_put rfl]
    refine hN _ _ ⟨_, _, rfl, ?_⟩
    rw [List.take_add_one, hs, List.map_append]; rfl
  rintro env h1 ⟨e4, e5, rfl, rfl⟩
  rw [List.take_length]
  fin2
  refine ⟨_, _, .lst (Hv.al_new _ _) .same, ?_⟩
  exact gc_ext (lows_tre (tres_map _ fun s _ => (show tres (rowI F ss s) = true from tres_map _ fun _ _ => rfl))) (Nat.le_succ _) (fun m hm => by rw [del_get (by omega), Hv.al_old (by omega)]) q
theorem pr_all_clashes : ∀ vs h Q Ex, sp_all_clashes vs h Q Ex → bodyW 5 2 b_all_clashes vs h (gcQ h Q) (gcX h Ex) := by
  rintro vs h Q Ex ⟨ps, ls, F, ss, w, rfl, o, hF, i, lo, q⟩
  refine ⟨rfl, ?_⟩
  have ll := lo.ll
  ((try simp only [b_all_clashes]); fin2; (try (simp only [b_all_clashes]; fin2)))
  refine climbs_w o hF i lo ?_
  fin2
  rw [enumW_map]
  refine comp2W_pure (l := ss.zipIdx) (fun p => (rowN F ss p.1).map fun q => prV (p.2, q.2)) rfl (.inl rfl) ?_ (fun p mp acc K N hK k1 => ?_) ?_
  · rw [show (ss.zipIdx.flatMap fun p => (rowN F ss p.1).map fun q => prV (p.2, q.2)) = (clP F ss).map prV by unfold clP; rw [List.map_flatMap]; simp only [List.map_map]; rfl, List.length_map, sizeLine_eq]
    have := clP_len (F := F) ll
    omega
  · ((try simp only [rowI]); fin2; (try (simp only [rowI]; fin2)))
    rw [List.length_map] at hK
    refine compW_onto (l := rowN F ss p.1) (v := fun q : Snd × Nat => .int q.2) (fun _ => true) (fun q => prV (p.2, q.2)) acc trivial hK (fun q mq K2 N2 k2 _ => ?_) ?_
    · fin2
      exact k2 rfl
    · rw [List.filter_eq_self.mpr fun _ _ => rfl]
      exact k1
  rw [show (ss.zipIdx.flatMap fun p => (rowN F ss p.1).map fun q => prV (p.2, q.2)) = (clP F ss).map prV by unfold clP; rw [List.map_flatMap]; simp only [List.map_map]; rfl]
  exact gc_same (lows_tre (tres_map _ fun _ _ => rfl)) q
end Lw
set_option Elab.async false
set_option linter.all false
set_option maxRecDepth 100000
set_option maxHeartbeats 2000000
namespace Lw
open PySem
local macro_rules | `(tactic| fin2) => `(tactic| try simp only [wipeE, un_t, un_f, slc_s, slc_t, slc_f, slc_r, rev_f, rev_r, en_t, en_f, en_r, it_s, it_t, it_c, it_f, it_r, wpSs, wpS, wpE, wpEs, wpEo, wpAnd, wpOr, wpIfs, wpT, wpTs, wpI, wpF, startE, setAll, List.map_cons, List.map_nil, List.cons_append, List.nil_append, List.getElem?_cons_zero, List.getElem?_cons_succ, List.getElem?_nil, List.set_cons_zero, List.set_cons_succ, List.length_cons, List.length_nil, List.replicate, Nat.zero_add, Nat.reduceAdd, Nat.reduceSub, add_ii, add_ss, add_ff, add_rl, add_fr, add_tt, mul_ii, mul_si, mul_fi, sub_ii, mod_ii, fdiv_ii, pow_ii, lt_ii, gt_ii, le_ii, ge_ii, lt_ss, gt_ss, le_ss, ge_ss, eq_ii, ne_ii, eq_ss, ne_ss, is_vb, isnt_vb, is_vn, isnt_vn, tst_b, tag_i, tag_b, tag_s, tag_t, tag_n, tag_f, tag_d, tag_o, len_s, len_t, len_c, len_f, len_d, list_w, listW_f, listW_t, listW_c, listW_d, tuple_w, tupW_f, tupW_t, tupW_r, all_w, any_w, sum_w, max_w, min_w, dict_w, dictW_f, dictW_d, divmod_w, int_i, int_b, str_i, fmt_s, fmt_i, max_ii, min_ii, abs_i, newL_t, newL_f, newD_t, newD_f, asL_f, asL_r, asSeq_f, asSeq_t, asSeq_c, asSeq_r, asD_f, asD_r, bmT, join_w, split_w, get1_w, get2_w, append_w, pop1_w, clear_w, extend_w, tl_r, fld_o, isIns_o, is_integer_w, law_is_int_w, is_name_w, law_is_name_w, is_list_w, is_tuple_w, box_w, tgIs, tgB, Ts.len, Option.some.injEq, Val.int.injEq, Val.bl.injEq, Val.str.injEq, Val.ref.injEq, Val.tup.injEq, Val.fl.injEq, Ob.lst.injEq, List.cons.injEq, and_true, true_and, and_self, exists_eq_left', exists_eq_left, exists_eq', exists_and_left, exists_const, and_assoc, Bool.not_true, Bool.not_false, Bool.not_not, Bool.false_eq_true, ↓reduceIte, List.any_cons, List.any_nil, Bool.or_false, Bool.false_or, Bool.true_or, Bool.or_true, reduceCtorEq, sizeLine_eq, Int.reduceLT, Int.reduceLE, Int.reducePow, Int.reduceNeg, Int.reduceAdd, Int.reduceSub, Int.reduceMul, Int.reduceToNat, Int.toNat_zero, Int.toNat_one, natAbs_10, Nat.reducePow, Nat.reduceLT, Nat.reduceLeDiff, Nat.reduceMul, decide_true, decide_false, or_true, true_or, ne_eq, not_false_eq_true])
local macro_rules | `(tactic| fin_item) => `(tactic| (first | omega | (simp only [List.length_append, List.length_cons, List.length_nil, List.length_map, List.length_take, List.length_drop, List.length_replicate, List.length_range]; omega)))
def n_stretches : List Nm := ["net", "log", "found", "spans", "place", "near", "sounding", "low", "far", "high"]
def b_stretches : Ss := .cons (.asg (.name 2) (.call "reaches" sp_reaches (.cons (.var 0) (.cons (.var 1) .nil))))
  (.cons (.asg (.name 3) (.dict false .nil))
  (.cons (.for_ (.name 4) (.any (.mth 0 "places" sp_Net_places (.var 0) .nil))
  (.cons (.asg (.name 5) (.lc true (.tup (.cons (.var 6) (.cons (.idx (.idx (.var 2) (.idx (.var 6) (.con (.int (0))))) (.var 4)) .nil))) (.name 6) (.any (.var 1)) (.cons (.cmp .isin (.var 4) (.idx (.var 2) (.idx (.var 6) (.con (.int (0)))))) .nil) [6]))
  (.cons (.asg (.sub (.var 3) (.var 4)) (.con (.non)))
  (.cons (.ite (.cmp .ne (.var 5) (.lst true .nil))
  (.cons (.asg (.name 7) (.bi .max1 (.cons (.lc true (.bin .sub (.idx (.var 6) (.con (.int (1)))) (.var 8)) (.tup (.cons (.name 6) (.cons (.name 8) .nil))) (.any (.var 5)) .nil [6, 8]) .nil)))
  (.cons (.asg (.name 9) (.bi .min1 (.cons (.lc true (.bin (.add true) (.idx (.var 6) (.con (.int (2)))) (.var 8)) (.tup (.cons (.name 6) (.cons (.name 8) .nil))) (.any (.var 5)) .nil [6, 8]) .nil)))
  (.cons (.asg (.sub (.var 3) (.var 4)) (.tup (.cons (.var 7) (.cons (.var 9) .nil))))
  .nil)))
  .nil)
  .nil))))
  (.cons (.ret (.fz (.var 3)))
  .nil)))

def n_need_fit : List Nm := ["net", "log", "found"]
def b_need_fit : Ss := .cons (.asg (.name 2) (.call "all_clashes" sp_all_clashes (.cons (.var 0) (.cons (.var 1) .nil))))
  (.cons (.ite (.cmp .ne (.var 2) (.lst true .nil))
  (.cons .dead
  .nil)
  .nil)
  .nil)

def n_law_ranges : List Nm := ["places", "far", "log", "found", "place", "near", "one", "pair"]
def b_law_ranges : Ss := .cons (.asg (.name 3) (.dict false .nil))
  (.cons (.for_ (.name 4) (.any (.var 0))
  (.cons (.asg (.name 5) (.lc true (.tup (.cons (.bin .sub (.idx (.var 6) (.con (.int (1)))) (.idx (.var 1) (.tup (.cons (.idx (.var 6) (.con (.int (0)))) (.cons (.var 4) .nil))))) (.cons (.bin (.add true) (.idx (.var 6) (.con (.int (2)))) (.idx (.var 1) (.tup (.cons (.idx (.var 6) (.con (.int (0)))) (.cons (.var 4) .nil))))) .nil))) (.name 6) (.any (.var 2)) (.cons (.cmp .isnt (.idx (.var 1) (.tup (.cons (.idx (.var 6) (.con (.int (0)))) (.cons (.var 4) .nil)))) (.con (.non))) .nil) [6]))
  (.cons (.asg (.sub (.var 3) (.var 4)) (.ife (.cmp .ne (.var 5) (.lst true .nil)) (.tup (.cons (.bi .max1 (.cons (.lc true (.idx (.var 7) (.con (.int (0)))) (.name 7) (.any (.var 5)) .nil [7]) .nil)) (.cons (.bi .min1 (.cons (.lc true (.idx (.var 7) (.con (.int (1)))) (.name 7) (.any (.var 5)) .nil [7]) .nil)) .nil))) (.con (.non))))
  .nil)))
  (.cons (.ret (.fz (.var 3)))
  .nil))

theorem pr_stretches : ∀ vs h Q Ex, sp_stretches vs h Q Ex → bodyW 10 2 b_stretches vs h (gcQ h Q) (gcX h Ex) := by
  rintro vs h Q Ex ⟨ps, ls, F, ss, w, rfl, o, hF, i, lo, q⟩
  refine ⟨rfl, ?_⟩
  have ll := lo.ll
  have lp := o.lp
  ((try simp only [b_stretches]); fin2; (try (simp only [b_stretches]; fin2)))
  refine reaches_w o i lo fun l tl hl => ?_
  fin2
  refine ⟨_, rfl, rfl, places_w .fz ?_⟩
  fin2
  refine forW_at (l := ps) (v := Val.str) (fun i env h1 => ∃ (e4 e5 e7 e9 : Option Val), env = [some (netV ps ls), some w, some (.fd (skv l)), some (.ref h.nx), e4, e5, none, e7, none, e9] ∧ h1 = h.al (.dic (skv (rngL F ss (ps.take i))) false)) rfl (fun _ _ _ _ => trivial) ⟨_, _, _, _, rfl, rfl⟩ ?_ ?_
  · rintro p k env h1 hi hp ⟨e4, e5, e7, e9, rfl, rfl⟩ N hN
    have mp := List.mem_of_getElem? hp
    have np : p ∉ ps.take k := fun m => by
      obtain ⟨j, hj, e⟩ := List.getElem_of_mem m
      rw [List.length_take] at hj
      rw [List.getElem_take] at e
      have e2 := (List.getElem?_eq_some_iff.mp hp).2
      exact (List.pairwise_iff_getElem.mp o.nd) j k (by omega) hi (by omega) (by rw [e, e2])
    have np2 : ∀ q ∈ rngL F ss (ps.take k), q.1 ≠ p := fun q m e => by
      obtain ⟨x, mx, rfl⟩ := List.mem_map.mp m
      exact np (e ▸ mx)
    have lenR : (skv (rngL F ss (ps.take k))).length = k := by
      unfold skv rngL
      rw [List.length_map, List.length_map, List.length_take]; omega
    have bds : ∀ s ∈ ss, -1000000 ≤ s.lo ∧ s.hi ≤ 1000000 ∧ s.lo ≤ s.hi ∧ 0 ≤ (F s.p p).getD 0 ∧ (F s.p p).getD 0 ≤ 250000 := fun s ms => by
      have a := (lo.ok s ms).l0
      have b := (lo.ok s ms).h1
      have c := (lo.ok s ms).lh
      cases e : F s.p p with
      | none => exact ⟨a, b, c, Int.le_refl _, by show (0 : Int) ≤ _; decide⟩
      | some d =>
        have := hF.bd o (lo.mp s ms) mp e
        exact ⟨a, b, c, this⟩
    have row : ∀ s ∈ ss, ∃ r, lGet s.p l = some (.fd (skv r)) ∧ lGet p r = (F s.p p).map Val.int := fun s ms => by
      obtain ⟨v, ev, f, r, rfl, hr, best, tr⟩ := hl s ms
      exact ⟨r, ev, by rw [hr, (best p).uniq (hF _ (lo.mp s ms) _ mp)]⟩
    fin2
    refine it_log i ?_
    refine compW_filter (l := ss) (v := sndV) (fun s => (F s.p p).isSome) (fun s => .tup [sndV s, .int ((F s.p p).getD 0)]) rfl trivial (by rw [sizeLine_eq]; omega) (fun s ms K N1 k1 k2 => ?_) ?_
    · obtain ⟨r, ev, er⟩ := row s ms
      fin2
      refine (show oIdx (sndV s) (.int 0) _ _ from idx_t (v := .str s.p) rfl ?_)
      refine get_f (skv_ok _ _) (by rw [skv_get]; exact ev) ?_
      refine in_i ⟨skv_ok _ _, ?_⟩
      rw [skv_get, er]
      cases e : F s.p p with
      | none =>
        rw [e] at k1 k2
        ((try simp only [Option.map_none, Option.isSome_none]); fin2; (try (simp only [Option.map_none, Option.isSome_none]; fin2)))
        exact k2 rfl
      | some d =>
        rw [e] at er k1 k2
        ((try simp only [Option.map_some, Option.isSome_some]); fin2; (try (simp only [Option.map_some, Option.isSome_some]; fin2)))
        refine (show oIdx (sndV s) (.int 0) _ _ from idx_t (v := .str s.p) rfl ?_)
        refine get_f (skv_ok _ _) (by rw [skv_get]; exact ev) ?_
        refine get_f (skv_ok _ _) (by rw [skv_get]; exact er) ?_
        fin2
        exact k1 rfl
    have ml : ∀ s ∈ ss.filter (fun s => (F s.p p).isSome), s ∈ ss := fun s m => (List.mem_filter.mp m).1
    have lf : (ss.filter fun s => (F s.p p).isSome).length ≤ 30 := Nat.le_trans (List.length_filter_le _ _) ll
    have eS : nearS F ss p = (ss.filter fun s => (F s.p p).isSome).map fun s => s.lo - (F s.p p).getD 0 := rfl
    have eH : nearH F ss p = (ss.filter fun s => (F s.p p).isSome).map fun s => s.hi + (F s.p p).getD 0 := rfl
    have eR : rngV F ss p = if (ss.filter fun s => (F s.p p).isSome) = [] then .non else .tup [.int (leastB F ss p), .int (mostB F ss p)] := rfl
    have eL : leastB F ss p = maxL (nearS F ss p) := rfl
    have eM : mostB F ss p = minL 0 (nearH F ss p) := rfl
    have step : rngL F ss (ps.take (k + 1)) = rngL F ss (ps.take k) ++ [(p, rngV F ss p)] := by
      unfold rngL
      rw [List.take_add_one, hp, List.map_append]; rfl
    generalize (ss.filter fun s => (F s.p p).isSome) = L at ml lf eS eH eR ⊢
    fin2
    refine .inr ⟨_, Hv.al_new _ _, skv_ok _ _, by rw [lenR, sizeLine_eq]; omega, ?_⟩
    rw [skv_put, lPut_new (by rw [lGet_none np2]; rfl), al_put rfl]
    refine ne_nilF ?_
    cases hL : L with
    | nil =>
      ((try simp only [List.map_nil, List.isEmpty_nil]); fin2; (try (simp only [List.map_nil, List.isEmpty_nil]; fin2)))
      refine hN _ _ ⟨_, _, _, _, rfl, ?_⟩
      rw [step, eR, if_pos hL]
    | cons s0 sr =>
      have hne : L ≠ [] := by rw [hL]; simp
      rw [← hL, if_pos (by rw [hL]; rfl)]
      refine compW_map (l := L) (v := fun s => .tup [sndV s, .int ((F s.p p).getD 0)]) (fun s => .int (s.lo - (F s.p p).getD 0)) rfl trivial (by rw [sizeLine_eq]; omega) (fun s ms K N1 k1 => ?_) ?_
      · have := bds s (ml s ms)
        fin2
        refine (show oIdx (sndV s) (.int 1) _ _ from idx_t (v := .int s.lo) rfl ?_)
        fin2
        exact k1
      obtain ⟨x, r, exr⟩ : ∃ x r, nearS F ss p = x :: r := by rw [eS, hL]; exact ⟨_, _, rfl⟩
      obtain ⟨y, t, eyt⟩ : ∃ x r, nearH F ss p = x :: r := by rw [eH, hL]; exact ⟨_, _, rfl⟩
      refine ⟨x, r, ?_, ?_⟩
      · rw [show (L.map fun s => Val.int (s.lo - (F s.p p).getD 0)) = (nearS F ss p).map Val.int by rw [eS, List.map_map]; rfl, exr]
        exact allInt_map _
      fin2
      refine compW_map (l := L) (v := fun s => .tup [sndV s, .int ((F s.p p).getD 0)]) (fun s => .int (s.hi + (F s.p p).getD 0)) rfl trivial (by rw [sizeLine_eq]; omega) (fun s ms K N1 k1 => ?_) ?_
      · have := bds s (ml s ms)
        fin2
        refine (show oIdx (sndV s) (.int 2) _ _ from idx_t (v := .int s.hi) rfl ?_)
        fin2
        exact k1
      refine ⟨y, t, ?_, ?_⟩
      · rw [show (L.map fun s => Val.int (s.hi + (F s.p p).getD 0)) = (nearH F ss p).map Val.int by rw [eH, List.map_map]; rfl, eyt]
        exact allInt_map _
      fin2
      refine .inr ⟨_, Hv.al_new _ _, skv_ok _ _, by unfold skv; rw [List.length_map, List.length_append]; unfold rngL; rw [List.length_map, List.length_take, sizeLine_eq]; simp; omega, ?_⟩
      rw [skv_put, lPut_last np2, al_put rfl]
      refine hN _ _ ⟨_, _, _, _, rfl, ?_⟩
      rw [step, eR, if_neg hne, eL, eM, exr, eyt]; rfl
  rintro env h1 ⟨e4, e5, e7, e9, rfl, rfl⟩
  rw [List.take_length]
  fin2
  refine ⟨_, _, .dic (Hv.al_new _ _) .same, ?_⟩
  exact gc_ext (lowk_tre (skv_tre rngL_tre)) (Nat.le_succ _) (fun m hm => by rw [del_get (by omega), Hv.al_old (by omega)]) q
theorem pr_need_fit : ∀ vs h Q Ex, sp_need_fit vs h Q Ex → bodyW 3 2 b_need_fit vs h (gcQ h Q) (gcX h Ex) := by
  rintro vs h Q Ex ⟨ps, ls, F, ss, w, rfl, o, hF, i, lo, e, q⟩
  refine ⟨rfl, ?_⟩
  ((try simp only [b_need_fit]); fin2; (try (simp only [b_need_fit]; fin2)))
  refine allcl_w o hF i lo ?_
  rw [e]
  fin2
  refine ne_nilF ?_
  ((try simp only [List.map_nil, List.isEmpty_nil]); fin2; (try (simp only [List.map_nil, List.isEmpty_nil]; fin2)))
  exact gc_same rfl q
theorem pr_law_ranges : ∀ vs h Q Ex, sp_law_ranges vs h Q Ex → bodyW 8 3 b_law_ranges vs h (gcQ h Q) (gcX h Ex) := by
  rintro vs h Q Ex ⟨ps, ls, F, ss, rfl, o, hF, lo, q⟩
  refine ⟨rfl, ?_⟩
  have ll := lo.ll
  have lp := o.lp
  ((try simp only [b_law_ranges, plV, lgV, farV]); fin2; (try (simp only [b_law_ranges, plV, lgV, farV]; fin2)))
  refine ⟨_, rfl, ?_⟩
  fin2
  refine forW_at (l := ps) (v := Val.str) (fun i env h1 => ∃ (e4 e5 : Option Val), env = [some (plV ps), some (farV ps F), some (lgV ss), some (.ref h.nx), e4, e5, none, none] ∧ h1 = h.al (.dic (skv (rngL F ss (ps.take i))) false)) rfl (fun _ _ _ _ => trivial) ⟨_, _, rfl, rfl⟩ ?_ ?_
  · rintro p k env h1 hi hp ⟨e4, e5, rfl, rfl⟩ N hN
    have mp := List.mem_of_getElem? hp
    have np : p ∉ ps.take k := fun m => by
      obtain ⟨j, hj, e⟩ := List.getElem_of_mem m
      rw [List.length_take] at hj
      rw [List.getElem_take] at e
      have e2 := (List.getElem?_eq_some_iff.mp hp).2
      exact (List.pairwise_iff_getElem.mp o.nd) j k (by omega) hi (by omega) (by rw [e, e2])
    have np2 : ∀ q ∈ rngL F ss (ps.take k), q.1 ≠ p := fun q m e => by
      obtain ⟨x, mx, rfl⟩ := List.mem_map.mp m
      exact np (e ▸ mx)
    have lenR : (skv (rngL F ss (ps.take k))).length = k := by
      unfold skv rngL
      rw [List.length_map, List.length_map, List.length_take]; omega
    have get : ∀ {z : Snd} {hh : Hv} {P : K1}, z ∈ ss → P (optV (F z.p p)) hh → oIdx (farV ps F) (.tup [.str z.p, .str p]) hh P := fun {z hh P} mz q => get_f (far_keys F ps ps z.p p) (by rw [show Val.tup [.str z.p, .str p] = pk z.p p from rfl, far_get, if_pos ⟨lo.mp z mz, mp⟩]) q
    ((try simp only [lgV]); fin2; (try (simp only [lgV]; fin2)))
    refine compW_filter (l := ss) (v := sndV) (fun s => (F s.p p).isSome) (fun s => .tup [.int (s.lo - (F s.p p).getD 0), .int (s.hi + (F s.p p).getD 0)]) rfl trivial (by rw [sizeLine_eq]; omega) (fun s ms K N1 k1 k2 => ?_) ?_
    · have z0 := (lo.ok s ms).l0
      have z1 := (lo.ok s ms).h1
      have z2 := (lo.ok s ms).lh
      have i0 : ∀ {hh : Hv} {P : K1}, P (.str s.p) hh → oIdx (sndV s) (.int 0) hh P := fun q => idx_t (v := .str s.p) rfl q
      fin2
      refine i0 (get ms ?_)
      cases e : F s.p p with
      | none =>
        rw [e] at k2
        ((try simp only [optV]); fin2; (try (simp only [optV]; fin2)))
        exact k2 rfl
      | some d =>
        have bd := hF.bd o (lo.mp s ms) mp e
        have get2 : ∀ {hh : Hv} {P : K1}, P (.int d) hh → oIdx (farV ps F) (.tup [.str s.p, .str p]) hh P := fun q => get ms (by rw [e]; exact q)
        rw [e] at k1
        ((try simp only [optV]); fin2; (try (simp only [optV]; fin2)))
        refine (show oIdx (sndV s) (.int 1) _ _ from idx_t (v := .int s.lo) rfl ?_)
        fin2
        refine i0 (get2 ?_)
        fin2
        refine (show oIdx (sndV s) (.int 2) _ _ from idx_t (v := .int s.hi) rfl ?_)
        fin2
        refine i0 (get2 ?_)
        fin2
        exact k1 rfl
    have ml : ∀ s ∈ ss.filter (fun s => (F s.p p).isSome), s ∈ ss := fun s m => (List.mem_filter.mp m).1
    have lf : (ss.filter fun s => (F s.p p).isSome).length ≤ 30 := Nat.le_trans (List.length_filter_le _ _) ll
    have eS : nearS F ss p = (ss.filter fun s => (F s.p p).isSome).map fun s => s.lo - (F s.p p).getD 0 := rfl
    have eH : nearH F ss p = (ss.filter fun s => (F s.p p).isSome).map fun s => s.hi + (F s.p p).getD 0 := rfl
    have eR : rngV F ss p = if (ss.filter fun s => (F s.p p).isSome) = [] then .non else .tup [.int (leastB F ss p), .int (mostB F ss p)] := rfl
    have eL : leastB F ss p = maxL (nearS F ss p) := rfl
    have eM : mostB F ss p = minL 0 (nearH F ss p) := rfl
    have step : rngL F ss (ps.take (k + 1)) = rngL F ss (ps.take k) ++ [(p, rngV F ss p)] := by
      unfold rngL
      rw [List.take_add_one, hp, List.map_append]; rfl
    generalize (ss.filter fun s => (F s.p p).isSome) = L at ml lf eS eH eR ⊢
    fin2
    have put : ∀ v, v = rngV F ss p → stSub (.ref h.nx) (.str p) v (h.al (.dic (skv (rngL F ss (ps.take k))) false)) fun h3 => N [some (plV ps), some (farV ps F), some (lgV ss), some (.ref h.nx), some (.str p), some (.fl (L.map fun s => Val.tup [.int (s.lo - (F s.p p).getD 0), .int (s.hi + (F s.p p).getD 0)])), none, none] h3 := fun v ev => by
      refine .inr ⟨_, Hv.al_new _ _, skv_ok _ _, by rw [lenR, sizeLine_eq]; omega, ?_⟩
      rw [skv_put, lPut_new (by rw [lGet_none np2]; rfl), al_put rfl, ev, ← step]
      exact hN _ _ ⟨_, _, rfl, rfl⟩
    refine ne_nilF ?_
    cases hL : L with
    | nil =>
      have z := put .non (by rw [eR, if_pos hL])
      rw [hL] at z
      ((try simp only [List.map_nil, List.isEmpty_nil]); fin2; (try (simp only [List.map_nil, List.isEmpty_nil]; fin2)))
      exact z
    | cons s0 sr =>
      have hne : L ≠ [] := by rw [hL]; simp
      rw [← hL, if_pos (by rw [hL]; rfl)]
      refine compW_map (l := L) (v := fun s => .tup [.int (s.lo - (F s.p p).getD 0), .int (s.hi + (F s.p p).getD 0)]) (fun s => .int (s.lo - (F s.p p).getD 0)) rfl trivial (by rw [sizeLine_eq]; omega) (fun s ms K N1 k1 => ?_) ?_
      · fin2
        exact idx_t rfl k1
      obtain ⟨x, r, exr⟩ : ∃ x r, nearS F ss p = x :: r := by rw [eS, hL]; exact ⟨_, _, rfl⟩
      obtain ⟨y, t, eyt⟩ : ∃ x r, nearH F ss p = x :: r := by rw [eH, hL]; exact ⟨_, _, rfl⟩
      refine ⟨x, r, ?_, ?_⟩
      · rw [show (L.map fun s => Val.int (s.lo - (F s.p p).getD 0)) = (nearS F ss p).map Val.int by rw [eS, List.map_map]; rfl, exr]
        exact allInt_map _
      fin2
      refine compW_map (l := L) (v := fun s => .tup [.int (s.lo - (F s.p p).getD 0), .int (s.hi + (F s.p p).getD 0)]) (fun s => .int (s.hi + (F s.p p).getD 0)) rfl trivial (by rw [sizeLine_eq]; omega) (fun s ms K N1 k1 => ?_) ?_
      · fin2
        exact idx_t rfl k1
      refine ⟨y, t, ?_, ?_⟩
      · rw [show (L.map fun s => Val.int (s.hi + (F s.p p).getD 0)) = (nearH F ss p).map Val.int by rw [eH, List.map_map]; rfl, eyt]
        exact allInt_map _
      fin2
      refine put _ ?_
      rw [eR, if_neg hne, eL, eM, exr, eyt]; rfl
  rintro env h1 ⟨e4, e5, rfl, rfl⟩
  rw [List.take_length]
  fin2
  refine ⟨_, _, .dic (Hv.al_new _ _) .same, ?_⟩
  exact gc_ext (lowk_tre (skv_tre rngL_tre)) (Nat.le_succ _) (fun m hm => by rw [del_get (by omega), Hv.al_old (by omega)]) q
end Lw
set_option Elab.async false
set_option linter.all false
set_option maxRecDepth 100000
set_option maxHeartbeats 2000000
namespace Lw
open PySem
local macro_rules | `(tactic| fin2) => `(tactic| try simp only [wipeE, un_t, un_f, slc_s, slc_t, slc_f, slc_r, rev_f, rev_r, en_t, en_f, en_r, it_s, it_t, it_c, it_f, it_r, wpSs, wpS, wpE, wpEs, wpEo, wpAnd, wpOr, wpIfs, wpT, wpTs, wpI, wpF, startE, setAll, List.map_cons, List.map_nil, List.cons_append, List.nil_append, List.getElem?_cons_zero, List.getElem?_cons_succ, List.getElem?_nil, List.set_cons_zero, List.set_cons_succ, List.length_cons, List.length_nil, List.replicate, Nat.zero_add, Nat.reduceAdd, Nat.reduceSub, add_ii, add_ss, add_ff, add_rl, add_fr, add_tt, mul_ii, mul_si, mul_fi, sub_ii, mod_ii, fdiv_ii, pow_ii, lt_ii, gt_ii, le_ii, ge_ii, lt_ss, gt_ss, le_ss, ge_ss, eq_ii, ne_ii, eq_ss, ne_ss, is_vb, isnt_vb, is_vn, isnt_vn, tst_b, tag_i, tag_b, tag_s, tag_t, tag_n, tag_f, tag_d, tag_o, len_s, len_t, len_c, len_f, len_d, list_w, listW_f, listW_t, listW_c, listW_d, tuple_w, tupW_f, tupW_t, tupW_r, all_w, any_w, sum_w, max_w, min_w, dict_w, dictW_f, dictW_d, divmod_w, int_i, int_b, str_i, fmt_s, fmt_i, max_ii, min_ii, abs_i, newL_t, newL_f, newD_t, newD_f, asL_f, asL_r, asSeq_f, asSeq_t, asSeq_c, asSeq_r, asD_f, asD_r, bmT, join_w, split_w, get1_w, get2_w, append_w, pop1_w, clear_w, extend_w, tl_r, fld_o, isIns_o, is_integer_w, law_is_int_w, is_name_w, law_is_name_w, is_list_w, is_tuple_w, box_w, tgIs, tgB, Ts.len, Option.some.injEq, Val.int.injEq, Val.bl.injEq, Val.str.injEq, Val.ref.injEq, Val.tup.injEq, Val.fl.injEq, Ob.lst.injEq, List.cons.injEq, and_true, true_and, and_self, exists_eq_left', exists_eq_left, exists_eq', exists_and_left, exists_const, and_assoc, Bool.not_true, Bool.not_false, Bool.not_not, Bool.false_eq_true, ↓reduceIte, List.any_cons, List.any_nil, Bool.or_false, Bool.false_or, Bool.true_or, Bool.or_true, reduceCtorEq, sizeLine_eq, Int.reduceLT, Int.reduceLE, Int.reducePow, Int.reduceNeg, Int.reduceAdd, Int.reduceSub, Int.reduceMul, Int.reduceToNat, Int.toNat_zero, Int.toNat_one, natAbs_10, Nat.reducePow, Nat.reduceLT, Nat.reduceLeDiff, Nat.reduceMul, decide_true, decide_false, or_true, true_or, ne_eq, not_false_eq_true])
local macro_rules | `(tactic| fin_item) => `(tactic| (first | omega | (simp only [List.length_append, List.length_cons, List.length_nil, List.length_map, List.length_take, List.length_drop, List.length_replicate, List.length_range]; omega)))
def noneR (F : Pl → Pl → Option Int) (ss : List Snd) (p : Pl) : Bool := (ss.filter fun s => (F s.p p).isSome).isEmpty
def widR (F : Pl → Pl → Option Int) (ss : List Snd) (p : Pl) : Int := mostB F ss p - leastB F ss p
def fixB (F : Pl → Pl → Option Int) (ss : List Snd) (p : Pl) : Bool := !noneR F ss p && decide (leastB F ss p = mostB F ss p)
def fixL (F : Pl → Pl → Option Int) (ss : List Snd) (ps : List Pl) : List Pl := ps.filter (fixB F ss)
/-- the widest so far, or the first that has no range -/
def nextW (F : Pl → Pl → Option Int) (ss : List Snd) : List Pl → Val → Int → Val
  | [], b, _ => b
  | p :: r, b, w => if noneR F ss p = true then .str p else if widR F ss p > w then nextW F ss r (.str p) (widR F ss p) else nextW F ss r b w
theorem rngV_none {F : Pl → Pl → Option Int} {ss : List Snd} {p : Pl} (h : noneR F ss p = true) : rngV F ss p = .non := if_pos (List.isEmpty_iff.mp h)
theorem rngV_some {F : Pl → Pl → Option Int} {ss : List Snd} {p : Pl} (h : noneR F ss p = false) : rngV F ss p = .tup [.int (leastB F ss p), .int (mostB F ss p)] := if_neg fun z => by unfold noneR at h; rw [z] at h; cases h
theorem mostB_lev {ps : List Pl} {ls : List Leg} {F : Pl → Pl → Option Int} {ss : List Snd} {p : Pl} (o : NetOk ps ls) (hF : FarOk ps ls F) (os : ∀ s ∈ ss, SndOk s) (mp : ∀ s ∈ ss, s.p ∈ ps) (m : p ∈ ps) : -1000000 ≤ mostB F ss p ∧ mostB F ss p ≤ 1250000 := by
  unfold mostB
  by_cases h : nearH F ss p = []
  · rw [h]; show -1000000 ≤ (0 : Int) ∧ (0 : Int) ≤ 1250000; omega
  · obtain ⟨s, ms, e⟩ := List.mem_map.mp (minL_mem (base := 0) h)
    obtain ⟨ms, hs⟩ := List.mem_filter.mp ms
    obtain ⟨d, ed⟩ := Option.isSome_iff_exists.mp hs
    rw [ed] at e
    have bd := hF.bd o (mp s ms) m ed
    have a := (os s ms).l0
    have b := (os s ms).h1
    have c := (os s ms).lh
    have e : s.hi + d = minL 0 (nearH F ss p) := e
    omega
def sp_fixed_places : Spec := fun vs h Q _ => ∃ ps ls F ss w, vs = [netV ps ls, w] ∧ NetOk ps ls ∧ FarOk ps ls F ∧ IsLog w ss ∧ LogOk ps ss ∧ clP F ss = [] ∧ Q (.ref h.nx) (h.al (.lst ((fixL F ss ps).map Val.str)))
theorem fixed_w {h : Hv} {ps : List Pl} {ls : List Leg} {F : Pl → Pl → Option Int} {ss : List Snd} {w : Val} {Q : K1} {Ex : EK} (o : NetOk ps ls) (hF : FarOk ps ls F) (i : IsLog w ss) (lo : LogOk ps ss) (e : clP F ss = []) (q : Q (.ref h.nx) (h.al (.lst ((fixL F ss ps).map Val.str)))) : sp_fixed_places [netV ps ls, w] h Q Ex := ⟨ps, ls, F, ss, w, rfl, o, hF, i, lo, e, q⟩
def sp_next_place : Spec := fun vs h Q _ => ∃ ps ls F ss w, vs = [netV ps ls, w] ∧ NetOk ps ls ∧ FarOk ps ls F ∧ IsLog w ss ∧ LogOk ps ss ∧ clP F ss = [] ∧ Q (nextW F ss ps .non (-1)) h
theorem next_w {h : Hv} {ps : List Pl} {ls : List Leg} {F : Pl → Pl → Option Int} {ss : List Snd} {w : Val} {Q : K1} {Ex : EK} (o : NetOk ps ls) (hF : FarOk ps ls F) (i : IsLog w ss) (lo : LogOk ps ss) (e : clP F ss = []) (q : Q (nextW F ss ps .non (-1)) h) : sp_next_place [netV ps ls, w] h Q Ex := ⟨ps, ls, F, ss, w, rfl, o, hF, i, lo, e, q⟩
def sp_law_right : Spec := fun vs h Q _ => ∃ ps ls F ss, vs = [netV ps ls, plV ps, farV ps F, lgV ss] ∧ NetOk ps ls ∧ FarOk ps ls F ∧ LogOk ps ss ∧ clP F ss = [] ∧ Q (.bl true) h
theorem right30_w {h : Hv} {ps : List Pl} {ls : List Leg} {F : Pl → Pl → Option Int} {ss : List Snd} {Q : K1} {Ex : EK} (o : NetOk ps ls) (hF : FarOk ps ls F) (lo : LogOk ps ss) (e : clP F ss = []) (q : Q (.bl true) h) : sp_law_right [netV ps ls, plV ps, farV ps F, lgV ss] h Q Ex := ⟨ps, ls, F, ss, rfl, o, hF, lo, e, q⟩
def sp_law : Spec := fun vs h Q _ => ∃ ns : List Int, vs = [.cl (ns.map .int)] ∧ ns.length ≤ 63 ∧ ∀ h', Q (.bl true) h'
def n_fixed_places : List Nm := ["net", "log", "found", "place"]
def b_fixed_places : Ss := .cons (.expr (.call "need_log" sp_need_log (.cons (.var 0) (.cons (.var 1) .nil))))
  (.cons (.expr (.call "need_fit" sp_need_fit (.cons (.var 0) (.cons (.var 1) .nil))))
  (.cons (.asg (.name 2) (.call "stretches" sp_stretches (.cons (.var 0) (.cons (.var 1) .nil))))
  (.cons (.ret (.lc false (.var 3) (.name 3) (.any (.mth 0 "places" sp_Net_places (.var 0) .nil)) (.cons (.and (.cons (.cmp .isnt (.idx (.var 2) (.var 3)) (.con (.non))) (.cons (.cmp .eq (.idx (.idx (.var 2) (.var 3)) (.con (.int (0)))) (.idx (.idx (.var 2) (.var 3)) (.con (.int (1))))) .nil))) .nil) [3]))
  .nil)))

def n_next_place : List Nm := ["net", "log", "found", "best", "widest", "place", "low", "high"]
def b_next_place : Ss := .cons (.expr (.call "need_log" sp_need_log (.cons (.var 0) (.cons (.var 1) .nil))))
  (.cons (.expr (.call "need_fit" sp_need_fit (.cons (.var 0) (.cons (.var 1) .nil))))
  (.cons (.asg (.name 2) (.call "stretches" sp_stretches (.cons (.var 0) (.cons (.var 1) .nil))))
  (.cons (.asg (.name 3) (.con (.non)))
  (.cons (.asg (.name 4) (.neg (.con (.int (1)))))
  (.cons (.for_ (.name 5) (.any (.mth 0 "places" sp_Net_places (.var 0) .nil))
  (.cons (.ite (.cmp .is_ (.idx (.var 2) (.var 5)) (.con (.non)))
  (.cons (.ret (.var 5))
  .nil)
  .nil)
  (.cons (.asg (.tup (.cons (.name 6) (.cons (.name 7) .nil))) (.idx (.var 2) (.var 5)))
  (.cons (.ite (.cmp .gt (.bin .sub (.var 7) (.var 6)) (.var 4))
  (.cons (.asg (.name 3) (.var 5))
  (.cons (.asg (.name 4) (.bin .sub (.var 7) (.var 6)))
  .nil))
  .nil)
  .nil))))
  (.cons (.ret (.var 3))
  .nil))))))

def n_law_right : List Nm := ["net", "places", "far", "log", "ranges", "sure", "place", "best", "handed", "found"]
def b_law_right : Ss := .cons (.asg (.name 4) (.call "_law_ranges" sp_law_ranges (.cons (.var 1) (.cons (.var 2) (.cons (.var 3) .nil)))))
  (.cons (.asg (.name 5) (.lc true (.var 6) (.name 6) (.any (.var 1)) (.cons (.and (.cons (.cmp .isnt (.idx (.var 4) (.var 6)) (.con (.non))) (.cons (.cmp .eq (.idx (.idx (.var 4) (.var 6)) (.con (.int (0)))) (.idx (.idx (.var 4) (.var 6)) (.con (.int (1))))) .nil))) .nil) [6]))
  (.cons (.asg (.name 7) (.con (.non)))
  (.cons (.for_ (.name 6) (.any (.var 1))
  (.cons (.ite (.or (.cons (.cmp .is_ (.var 7) (.con (.non))) (.cons (.and (.cons (.cmp .isnt (.idx (.var 4) (.var 7)) (.con (.non))) (.cons (.cmp .is_ (.idx (.var 4) (.var 6)) (.con (.non))) .nil))) .nil)))
  (.cons (.asg (.name 7) (.var 6))
  .nil)
  (.cons (.ite (.and (.cons (.cmp .isnt (.idx (.var 4) (.var 7)) (.con (.non))) (.cons (.cmp .gt (.bin .sub (.idx (.idx (.var 4) (.var 6)) (.con (.int (1)))) (.idx (.idx (.var 4) (.var 6)) (.con (.int (0))))) (.bin .sub (.idx (.idx (.var 4) (.var 7)) (.con (.int (1)))) (.idx (.idx (.var 4) (.var 7)) (.con (.int (0)))))) .nil)))
  (.cons (.asg (.name 7) (.var 6))
  .nil)
  .nil)
  .nil))
  .nil))
  (.cons (.for_ (.name 8) (.any (.lst true (.cons (.bi (.list true) (.cons (.var 3) .nil)) (.cons (.bi .tuple (.cons (.var 3) .nil)) .nil))))
  (.cons (.asg (.name 9) (.call "fixed_places" sp_fixed_places (.cons (.var 0) (.cons (.var 8) .nil))))
  (.cons (.ite (.or (.cons (.not (.call "_law_even" sp_law_even (.cons (.var 9) (.cons (.var 5) .nil)))) (.cons (.not (.call "_law_even" sp_law_even (.cons (.call "next_place" sp_next_place (.cons (.var 0) (.cons (.var 8) .nil))) (.cons (.var 7) .nil)))) .nil)))
  (.cons (.ret (.con (.bl false)))
  .nil)
  .nil)
  (.cons (.expr (.bm .append (.var 9) (.cons (.con (.str [109, 111, 114, 101])) .nil)))
  .nil))))
  (.cons (.ret (.con (.bl true)))
  .nil)))))

def n_law : List Nm := ["script", "k", "box", "places", "legs", "far", "log", "bed", "net", "exact", "one", "some", "place", "gap", "two"]
def b_law : Ss := .cons (.for_ (.name 1) (.rng1 (.bi .max2 (.cons (.con (.int (2))) (.cons (.bi .min2 (.cons (.con (.int (8))) (.cons (.bi .len (.cons (.var 0) .nil)) .nil))) .nil))))
  (.cons (.asg (.name 2) (.call "_law_box" sp_law_box (.cons (.call "_law_cell" sp_law_cell (.cons (.var 0) (.cons (.var 1) .nil))) .nil)))
  (.cons (.asg (.tup (.cons (.name 3) (.cons (.name 4) (.cons (.name 5) (.cons (.name 6) .nil))))) (.call "_law_stand" sp_law_stand (.cons (.var 2) (.cons (.con (.int (10))) (.cons (.con (.int (1))) (.cons (.con (.int (0))) .nil))))))
  (.cons (.asg (.name 7) (.call "_law_bed" sp_law_bed (.cons (.var 2) (.cons (.var 3) (.cons (.var 5) .nil)))))
  (.cons (.asg (.name 6) (.call "_law_log" sp_law_log (.cons (.var 2) (.cons (.var 3) (.cons (.var 7) (.cons (.call "_law_take" sp_law_take (.cons (.var 2) (.cons (.con (.int (9))) .nil))) (.cons (.con (.int (0))) .nil)))))))
  (.cons (.asg (.name 8) (.call "Net" sp_Net (.cons (.bi (.list true) (.cons (.var 3) .nil)) (.cons (.bi (.list true) (.cons (.var 4) .nil)) .nil))))
  (.cons (.asg (.name 9) (.lc true (.tup (.cons (.idx (.var 10) (.con (.int (0)))) (.cons (.idx (.var 7) (.idx (.var 10) (.con (.int (0))))) (.cons (.idx (.var 7) (.idx (.var 10) (.con (.int (0))))) .nil)))) (.name 10) (.any (.var 6)) .nil [10]))
  (.cons (.for_ (.name 11) (.any (.lst true (.cons (.var 6) (.cons (.var 9) (.cons (.slc true (.var 9) .none (.some (.con (.int (1))))) (.cons (.lc true (.tup (.cons (.var 12) (.cons (.idx (.var 7) (.var 12)) (.cons (.idx (.var 7) (.var 12)) .nil)))) (.name 12) (.any (.slc true (.var 3) .none (.some (.call "_law_take" sp_law_take (.cons (.var 2) (.cons (.con (.int (11))) .nil)))))) .nil [12]) (.cons (.lst true .nil) .nil)))))))
  (.cons (.ite (.not (.call "_law_right" sp_law_right (.cons (.var 8) (.cons (.var 3) (.cons (.var 5) (.cons (.var 11) .nil))))))
  (.cons (.ret (.con (.bl false)))
  .nil)
  .nil)
  .nil))
  (.cons (.ite (.or (.cons (.cmp .isnt (.call "next_place" sp_next_place (.cons (.call "Net" sp_Net (.cons (.lst true .nil) (.cons (.lst true .nil) .nil))) (.cons (.lst true .nil) .nil))) (.con (.non))) (.cons (.not (.call "_law_even" sp_law_even (.cons (.fz (.call "fixed_places" sp_fixed_places (.cons (.call "Net" sp_Net (.cons (.lst true .nil) (.cons (.lst true .nil) .nil))) (.cons (.tup .nil) .nil)))) (.cons (.lst true .nil) .nil)))) .nil)))
  (.cons (.ret (.con (.bl false)))
  .nil)
  .nil)
  (.cons (.asg (.name 13) (.call "_law_take" sp_law_take (.cons (.var 2) (.cons (.con (.int (5))) .nil))))
  (.cons (.asg (.name 14) (.call "Net" sp_Net (.cons (.lst true (.cons (.con (.str [97])) (.cons (.con (.str [98])) (.cons (.con (.str [99])) .nil)))) (.cons (.lst true (.cons (.tup (.cons (.con (.str [97])) (.cons (.con (.str [98])) (.cons (.con (.int (2))) .nil)))) (.cons (.tup (.cons (.con (.str [98])) (.cons (.con (.str [99])) (.cons (.con (.int (2))) .nil)))) .nil))) .nil))))
  (.cons (.asg (.name 11) (.lst true (.cons (.tup (.cons (.con (.str [97])) (.cons (.con (.int (4))) (.cons (.con (.int (4))) .nil)))) (.cons (.tup (.cons (.con (.str [99])) (.cons (.bin (.add true) (.con (.int (4))) (.var 13)) (.cons (.bin (.add true) (.con (.int (4))) (.var 13)) .nil)))) .nil))))
  (.cons (.ite (.not (.call "_law_even" sp_law_even (.cons (.lst true (.cons (.fz (.call "fixed_places" sp_fixed_places (.cons (.var 14) (.cons (.var 11) .nil)))) (.cons (.call "next_place" sp_next_place (.cons (.var 14) (.cons (.var 11) .nil))) .nil))) (.cons (.lst true (.cons (.ife (.cmp .lt (.var 13) (.con (.int (4)))) (.lst true (.cons (.con (.str [97])) (.cons (.con (.str [99])) .nil))) (.lst true (.cons (.con (.str [97])) (.cons (.con (.str [98])) (.cons (.con (.str [99])) .nil))))) (.cons (.ife (.cmp .lt (.var 13) (.con (.int (4)))) (.con (.str [98])) (.con (.str [97]))) .nil))) .nil))))
  (.cons (.ret (.con (.bl false)))
  .nil)
  .nil)
  .nil)))))))))))))
  (.cons (.ret (.con (.bl true)))
  .nil)

end Lw
set_option Elab.async false
set_option linter.all false
set_option maxRecDepth 100000
set_option maxHeartbeats 4000000
namespace Lw
open PySem
local macro_rules | `(tactic| fin2) => `(tactic| try simp only [wipeE, un_t, un_f, slc_s, slc_t, slc_f, slc_r, rev_f, rev_r, en_t, en_f, en_r, it_s, it_t, it_c, it_f, it_r, wpSs, wpS, wpE, wpEs, wpEo, wpAnd, wpOr, wpIfs, wpT, wpTs, wpI, wpF, startE, setAll, List.map_cons, List.map_nil, List.cons_append, List.nil_append, List.getElem?_cons_zero, List.getElem?_cons_succ, List.getElem?_nil, List.set_cons_zero, List.set_cons_succ, List.length_cons, List.length_nil, List.replicate, Nat.zero_add, Nat.reduceAdd, Nat.reduceSub, add_ii, add_ss, add_ff, add_rl, add_fr, add_tt, mul_ii, mul_si, mul_fi, sub_ii, mod_ii, fdiv_ii, pow_ii, lt_ii, gt_ii, le_ii, ge_ii, lt_ss, gt_ss, le_ss, ge_ss, eq_ii, ne_ii, eq_ss, ne_ss, is_vb, isnt_vb, is_vn, isnt_vn, tst_b, tag_i, tag_b, tag_s, tag_t, tag_n, tag_f, tag_d, tag_o, len_s, len_t, len_c, len_f, len_d, list_w, listW_f, listW_t, listW_c, listW_d, tuple_w, tupW_f, tupW_t, tupW_r, all_w, any_w, sum_w, max_w, min_w, dict_w, dictW_f, dictW_d, divmod_w, int_i, int_b, str_i, fmt_s, fmt_i, max_ii, min_ii, abs_i, newL_t, newL_f, newD_t, newD_f, asL_f, asL_r, asSeq_f, asSeq_t, asSeq_c, asSeq_r, asD_f, asD_r, bmT, join_w, split_w, get1_w, get2_w, append_w, pop1_w, clear_w, extend_w, tl_r, fld_o, isIns_o, is_integer_w, law_is_int_w, is_name_w, law_is_name_w, is_list_w, is_tuple_w, box_w, tgIs, tgB, Ts.len, Option.some.injEq, Val.int.injEq, Val.bl.injEq, Val.str.injEq, Val.ref.injEq, Val.tup.injEq, Val.fl.injEq, Ob.lst.injEq, List.cons.injEq, and_true, true_and, and_self, exists_eq_left', exists_eq_left, exists_eq', exists_and_left, exists_const, and_assoc, Bool.not_true, Bool.not_false, Bool.not_not, Bool.false_eq_true, ↓reduceIte, List.any_cons, List.any_nil, Bool.or_false, Bool.false_or, Bool.true_or, Bool.or_true, reduceCtorEq, sizeLine_eq, Int.reduceLT, Int.reduceLE, Int.reducePow, Int.reduceNeg, Int.reduceAdd, Int.reduceSub, Int.reduceMul, Int.reduceToNat, Int.toNat_zero, Int.toNat_one, natAbs_10, Nat.reducePow, Nat.reduceLT, Nat.reduceLeDiff, Nat.reduceMul, decide_true, decide_false, or_true, true_or, ne_eq, not_false_eq_true])
local macro_rules | `(tactic| fin_item) => `(tactic| (first | omega | (simp only [List.length_append, List.length_cons, List.length_nil, List.length_map, List.length_take, List.length_drop, List.length_replicate, List.length_range]; omega)))
theorem nextW_cons {F : Pl → Pl → Option Int} {ss : List Snd} {p : Pl} {r : List Pl} {b : Val} {w : Int} : nextW F ss (p :: r) b w = if noneR F ss p = true then .str p else if widR F ss p > w then nextW F ss r (.str p) (widR F ss p) else nextW F ss r b w := rfl
theorem rg_get {F : Pl → Pl → Option Int} {ss : List Snd} {ps : List Pl} {p : Pl} {h : Hv} {P : K1} (m : p ∈ ps) (q : P (rngV F ss p) h) : oIdx (.fd (skv (rngL F ss ps))) (.str p) h P := get_f (skv_ok _ _) (by rw [skv_get, rngL_get m]) q
theorem pr_fixed_places : ∀ vs h Q Ex, sp_fixed_places vs h Q Ex → bodyW 4 2 b_fixed_places vs h Q Ex := by
  rintro vs h Q Ex ⟨ps, ls, F, ss, w, rfl, o, hF, i, lo, e, q⟩
  refine ⟨rfl, ?_⟩
  have lp := o.lp
  ((try simp only [b_fixed_places]); fin2; (try (simp only [b_fixed_places]; fin2)))
  refine need_log_w .fz lo i (need_fit_w o hF i lo e (stretches_w o hF i lo ?_))
  fin2
  refine ⟨rfl, places_w .fz ?_⟩
  fin2
  refine compW_filter (l := ps) (v := Val.str) (fixB F ss) Val.str rfl trivial (by rw [sizeLine_eq]; omega) (fun p mp K N1 k1 k2 => ?_) q
  fin2
  refine rg_get mp ?_
  cases n : noneR F ss p with
  | true =>
    rw [rngV_none n]
    fin2
    exact k2 (by unfold fixB; rw [n]; rfl)
  | false =>
    rw [rngV_some n]
    fin2
    refine rg_get mp ?_
    rw [rngV_some n]
    refine idx_t (v := .int (leastB F ss p)) rfl ?_
    fin2
    refine rg_get mp ?_
    rw [rngV_some n]
    refine idx_t (v := .int (mostB F ss p)) rfl ?_
    fin2
    by_cases z : leastB F ss p = mostB F ss p
    · rw [if_pos (decide_eq_true z)]
      exact k1 (by unfold fixB; rw [n, decide_eq_true z]; rfl)
    · rw [if_neg fun y => z (of_decide_eq_true y)]
      exact k2 (by unfold fixB; rw [n, decide_eq_false z]; rfl)
theorem pr_next_place : ∀ vs h Q Ex, sp_next_place vs h Q Ex → bodyW 8 2 b_next_place vs h (gcQ h Q) (gcX h Ex) := by
  rintro vs h Q Ex ⟨ps, ls, F, ss, w, rfl, o, hF, i, lo, e, q⟩
  refine ⟨rfl, ?_⟩
  have lp := o.lp
  ((try simp only [b_next_place]); fin2; (try (simp only [b_next_place]; fin2)))
  refine need_log_w .fz lo i (need_fit_w o hF i lo e (stretches_w o hF i lo ?_))
  fin2
  refine ⟨rfl, places_w .fz ?_⟩
  fin2
  refine forW_at (l := ps) (v := Val.str) (fun i env h1 => ∃ (e5 e6 e7 : Option Val) (b : Val) (wd : Int), env = [some (netV ps ls), some w, some (.fd (skv (rngL F ss ps))), some b, some (.int wd), e5, e6, e7] ∧ (tre b = true) ∧ nextW F ss (ps.drop i) b wd = nextW F ss ps .non (-1) ∧ h1 = h) rfl (fun _ _ _ _ => trivial) ⟨_, _, _, _, _, rfl, rfl, rfl, rfl⟩ ?_ ?_
  · rintro p i env h1 hi hp ⟨e5, e6, e7, b, wd, rfl, tb, eq, rfl⟩ N hN
    have mp := List.mem_of_getElem? hp
    have ed : ps.drop i = p :: ps.drop (i + 1) := by
      rw [List.drop_eq_getElem_cons hi, (List.getElem?_eq_some_iff.mp hp).2]
    have b1 := least_lev o hF lo.ok lo.mp mp
    have b2 := mostB_lev o hF lo.ok lo.mp mp
    fin2
    refine rg_get mp ?_
    cases n : noneR F ss p with
    | true =>
      rw [rngV_none n]
      fin2
      rw [ed, nextW_cons, if_pos n] at eq
      rw [← eq] at q
      exact gc_same rfl q
    | false =>
      rw [rngV_some n]
      fin2
      refine rg_get mp ?_
      rw [rngV_some n]
      fin2
      rw [ed, nextW_cons, if_neg (by rw [n]; decide)] at eq
      by_cases z : mostB F ss p - leastB F ss p > wd
      · rw [if_pos (show widR F ss p > wd from z)] at eq
        rw [if_pos (decide_eq_true z)]
        exact hN _ _ ⟨_, _, _, _, _, rfl, rfl, eq, rfl⟩
      · rw [if_neg (show ¬ widR F ss p > wd from z)] at eq
        rw [if_neg fun y => z (of_decide_eq_true y)]
        exact hN _ _ ⟨_, _, _, _, _, rfl, tb, eq, rfl⟩
  rintro env h1 ⟨e5, e6, e7, b, wd, rfl, tb, eq, rfl⟩
  rw [List.drop_length] at eq
  fin2
  have eq : b = nextW F ss ps .non (-1) := eq
  rw [← eq] at q
  exact gc_same (low_tre tb) q
/-- the best by the law's own loop -/
def bestL (F : Pl → Pl → Option Int) (ss : List Snd) : List Pl → Option Pl → Option Pl
  | [], b => b
  | p :: r, none => bestL F ss r (some p)
  | p :: r, some b => if noneR F ss b = false ∧ (noneR F ss p = true ∨ widR F ss p > widR F ss b) then bestL F ss r (some p) else bestL F ss r (some b)
def oS : Option Pl → Val
  | none => .non
  | some p => .str p
theorem bestL_none {F : Pl → Pl → Option Int} {ss : List Snd} {b : Pl} (h : noneR F ss b = true) : ∀ ps : List Pl, bestL F ss ps (some b) = some b
  | [] => rfl
  | p :: r => by
    show (if noneR F ss b = false ∧ (noneR F ss p = true ∨ widR F ss p > widR F ss b) then bestL F ss r (some p) else bestL F ss r (some b)) = _
    rw [if_neg fun z => by rw [h] at z; cases z.1]
    exact bestL_none h r
theorem best_next {F : Pl → Pl → Option Int} {ss : List Snd} : ∀ (ps : List Pl) (b : Pl), noneR F ss b = false → nextW F ss ps (.str b) (widR F ss b) = oS (bestL F ss ps (some b))
  | [], _, _ => rfl
  | p :: r, b, h => by
    rw [nextW_cons]
    show _ = oS (if noneR F ss b = false ∧ (noneR F ss p = true ∨ widR F ss p > widR F ss b) then bestL F ss r (some p) else bestL F ss r (some b))
    by_cases n : noneR F ss p = true
    · rw [if_pos n, if_pos ⟨h, .inl n⟩, bestL_none n]; rfl
    · rw [if_neg n]
      have n2 : noneR F ss p = false := Bool.not_eq_true _ |>.mp n
      by_cases z : widR F ss p > widR F ss b
      · rw [if_pos z, if_pos ⟨h, .inr z⟩]
        exact best_next r p n2
      · rw [if_neg z, if_neg fun y => y.2.elim n z]
        exact best_next r b h
theorem next_best {F : Pl → Pl → Option Int} {ss : List Snd} : ∀ ps : List Pl, (∀ p ∈ ps, noneR F ss p = false → 0 ≤ widR F ss p) → nextW F ss ps .non (-1) = oS (bestL F ss ps none)
  | [], _ => rfl
  | p :: r, h => by
    rw [nextW_cons]
    show _ = oS (bestL F ss r (some p))
    by_cases n : noneR F ss p = true
    · rw [if_pos n, bestL_none n]; rfl
    · have n2 : noneR F ss p = false := Bool.not_eq_true _ |>.mp n
      have := h p List.mem_cons_self n2
      rw [if_neg n, if_pos (by omega)]
      exact best_next r p n2
theorem pr_law_right : ∀ vs h Q Ex, sp_law_right vs h Q Ex → bodyW 10 4 b_law_right vs h (gcQ h Q) (gcX h Ex) := by
  rintro vs h Q Ex ⟨ps, ls, F, ss, rfl, o, hF, lo, e, q⟩
  refine ⟨rfl, ?_⟩
  have lp := o.lp
  have ll := lo.ll
  ((try simp only [b_law_right, plV, lgV]); fin2; (try (simp only [b_law_right, plV, lgV]; fin2)))
  refine (show sp_law_ranges [plV ps, farV ps F, lgV ss] h _ _ from ranges_w o hF lo ?_)
  fin2
  refine compW_filter (l := ps) (v := Val.str) (fixB F ss) Val.str rfl trivial (by rw [sizeLine_eq]; omega) (fun p mp K N1 k1 k2 => ?_) ?_
  · fin2
    refine rg_get mp ?_
    cases n : noneR F ss p with
    | true =>
      rw [rngV_none n]
      fin2
      exact k2 (by unfold fixB; rw [n]; rfl)
    | false =>
      rw [rngV_some n]
      fin2
      refine rg_get mp ?_
      rw [rngV_some n]
      refine idx_t (v := .int (leastB F ss p)) rfl ?_
      fin2
      refine rg_get mp ?_
      rw [rngV_some n]
      refine idx_t (v := .int (mostB F ss p)) rfl ?_
      fin2
      by_cases z : leastB F ss p = mostB F ss p
      · rw [if_pos (decide_eq_true z)]
        exact k1 (by unfold fixB; rw [n, decide_eq_true z]; rfl)
      · rw [if_neg fun y => z (of_decide_eq_true y)]
        exact k2 (by unfold fixB; rw [n, decide_eq_false z]; rfl)
  rw [show ((ps.filter (fixB F ss)).map Val.str) = (fixL F ss ps).map Val.str from rfl]
  refine forW_at (l := ps) (v := Val.str) (fun i env h1 => ∃ (e6 : Option Val) (b : Option Pl), env = [some (netV ps ls), some (plV ps), some (farV ps F), some (lgV ss), some (.fd (skv (rngL F ss ps))), some (.fl ((fixL F ss ps).map Val.str)), e6, some (oS b), none, none] ∧ (∀ x, b = some x → x ∈ ps) ∧ bestL F ss (ps.drop i) b = bestL F ss ps none ∧ h1 = h) rfl (fun _ _ _ _ => trivial) ⟨_, none, rfl, fun _ z => (nomatch z), rfl, rfl⟩ ?_ ?_
  · rintro p i env h1 hi hp ⟨e6, b, rfl, hb, eq, rfl⟩ N hN
    have mp := List.mem_of_getElem? hp
    have ed : ps.drop i = p :: ps.drop (i + 1) := by
      rw [List.drop_eq_getElem_cons hi, (List.getElem?_eq_some_iff.mp hp).2]
    rw [ed] at eq
    cases b with
    | none =>
      ((try simp only [oS]); fin2; (try (simp only [oS]; fin2)))
      exact hN _ _ ⟨_, some p, rfl, fun x z => by cases z; exact mp, eq, rfl⟩
    | some b =>
      have mb := hb b rfl
      have b1 := least_lev o hF lo.ok lo.mp mp
      have b2 := mostB_lev o hF lo.ok lo.mp mp
      have b3 := least_lev o hF lo.ok lo.mp mb
      have b4 := mostB_lev o hF lo.ok lo.mp mb
      have eq : (if noneR F ss b = false ∧ (noneR F ss p = true ∨ widR F ss p > widR F ss b) then bestL F ss (ps.drop (i + 1)) (some p) else bestL F ss (ps.drop (i + 1)) (some b)) = bestL F ss ps none := eq
      have stay : ¬ (noneR F ss b = false ∧ (noneR F ss p = true ∨ widR F ss p > widR F ss b)) → ∀ e6, N [some (netV ps ls), some (plV ps), some (farV ps F), some (lgV ss), some (.fd (skv (rngL F ss ps))), some (.fl ((fixL F ss ps).map Val.str)), e6, some (.str b), none, none] h1 := fun z e6 => by
        rw [if_neg z] at eq
        exact hN _ _ ⟨_, some b, rfl, fun x z => by cases z; exact mb, eq, rfl⟩
      have move : (noneR F ss b = false ∧ (noneR F ss p = true ∨ widR F ss p > widR F ss b)) → ∀ e6, N [some (netV ps ls), some (plV ps), some (farV ps F), some (lgV ss), some (.fd (skv (rngL F ss ps))), some (.fl ((fixL F ss ps).map Val.str)), e6, some (.str p), none, none] h1 := fun z e6 => by
        rw [if_pos z] at eq
        exact hN _ _ ⟨_, some p, rfl, fun x z => by cases z; exact mp, eq, rfl⟩
      ((try simp only [oS]); fin2; (try (simp only [oS]; fin2)))
      refine rg_get mb ?_
      cases nb : noneR F ss b with
      | true =>
        rw [rngV_none nb]
        fin2
        refine rg_get mb ?_
        rw [rngV_none nb]
        fin2
        exact stay (fun z => by rw [nb] at z; cases z.1) _
      | false =>
        rw [rngV_some nb]
        fin2
        refine rg_get mp ?_
        cases np : noneR F ss p with
        | true =>
          rw [rngV_none np]
          fin2
          exact move ⟨nb, .inl np⟩ _
        | false =>
          rw [rngV_some np]
          fin2
          refine rg_get mb ?_
          rw [rngV_some nb]
          fin2
          have i0 : ∀ {x y : Int} {hh : Hv} {P : K1}, P (.int x) hh → oIdx (.tup [.int x, .int y]) (.int 0) hh P := fun q => idx_t rfl q
          have i1 : ∀ {x y : Int} {hh : Hv} {P : K1}, P (.int y) hh → oIdx (.tup [.int x, .int y]) (.int 1) hh P := fun q => idx_t rfl q
          refine rg_get mp ?_
          rw [rngV_some np]
          refine i1 (rg_get mp ?_)
          rw [rngV_some np]
          refine i0 ?_
          fin2
          refine rg_get mb ?_
          rw [rngV_some nb]
          refine i1 (rg_get mb ?_)
          rw [rngV_some nb]
          refine i0 ?_
          fin2
          by_cases z : mostB F ss p - leastB F ss p > mostB F ss b - leastB F ss b
          · rw [if_pos (decide_eq_true z)]
            exact move ⟨nb, .inr z⟩ _
          · rw [if_neg fun y => z (of_decide_eq_true y)]
            exact stay (fun y => y.2.elim (fun w => by rw [np] at w; cases w) z) _
  rintro env h1 ⟨e6, b, rfl, hb, eq, rfl⟩
  rw [List.drop_length] at eq
  have eq : b = bestL F ss ps none := eq
  have nb : nextW F ss ps .non (-1) = oS b := by
    rw [eq]
    exact next_best ps fun p mp n => by
      have := rng_le hF lo.mp mp e fun z => by unfold noneR at n; rw [z] at n; cases n
      unfold widR; omega
  clear eq
  have gf : Good (.fl ((fixL F ss ps).map Val.str)) := (Ok.fl (Oks.map (f := Val.str) (fun p m => Ok.name (o.n p (List.mem_filter.mp m).1)) (Nat.le_trans (List.length_filter_le _ _) lp))).good
  have gb : Good (oS b) := by
    cases b with
    | none => exact Ok.non.good
    | some x => exact (Ok.name (o.n x (hb x rfl))).good
  have db : nod (oS b) = true := by cases b <;> rfl
  have lf : (fixL F ss ps).length ≤ 24 := Nat.le_trans (List.length_filter_le _ _) lp
  ((try simp only [lgV]); fin2; (try (simp only [lgV]; fin2)))
  refine forW_at (l := [Val.fl (ss.map sndV), .tup (ss.map sndV)]) (v := fun x => x) (fun i env h2 => ∃ (e8 e9 : Option Val), env = [some (netV ps ls), some (plV ps), some (farV ps F), some (lgV ss), some (.fd (skv (rngL F ss ps))), some (.fl ((fixL F ss ps).map Val.str)), e6, some (oS b), e8, e9] ∧ h1.nx ≤ h2.nx ∧ ∀ m, m < h1.nx → h2.g m = h1.g m) rfl (fun _ _ _ _ => trivial) ⟨_, _, rfl, Nat.le_refl _, fun _ _ => rfl⟩ ?_ ?_
  · rintro x i env h2 hi hx ⟨e8, e9, rfl, hn, keep⟩ N hN
    have ix : IsLog x ss := by
      have := List.mem_of_getElem? hx
      simp only [List.mem_cons, List.not_mem_nil, or_false] at this
      exact this
    fin2
    refine fixed_w o hF ix lo e ?_
    fin2
    refine even_r (Hv.al_new _ _) rfl gf (nods_map _ fun _ _ => rfl) ?_
    fin2
    refine next_w o hF ix lo e ?_
    rw [nb]
    fin2
    refine even_w rfl gb db ?_
    fin2
    refine ⟨⟨_, Hv.al_new _ _⟩, _, Hv.al_new _ _, by rw [List.length_map]; omega, hN _ _ ⟨_, _, rfl, by show h1.nx ≤ h2.nx + 1; omega, fun m hm => ?_⟩⟩
    rw [Hv.put_ne (by omega), Hv.al_old (by omega)]
    exact keep m hm
  rintro env h2 ⟨e8, e9, rfl, hn, keep⟩
  fin2
  exact gc_ext rfl hn keep q
abbrev psT : List Pl := [[97], [98], [99]]
abbrev lsT : List Leg := [⟨[97], [98], 2⟩, ⟨[98], [99], 2⟩]
def dT (x : Pl) : Int := if x = [98] then 2 else if x = [99] then 4 else 0
def dFT (a b : Pl) : Int := if dT a ≤ dT b then dT b - dT a else dT a - dT b
def FT (a b : Pl) : Option Int := some (dFT a b)
theorem netT : NetOk psT lsT := by
  refine ⟨by decide, by decide, by decide, by decide, fun l m => ?_, by decide⟩
  simp only [List.mem_cons, List.not_mem_nil, or_false] at m
  rcases m with rfl | rfl <;> exact ⟨by decide, by decide, by decide, by decide, by decide⟩
theorem alT (a : Pl) (ha : a ∈ psT) : ∀ l ∈ lsT, dFT a l.a ≤ dFT a l.b + l.r ∧ dFT a l.b ≤ dFT a l.a + l.r := by
  simp only [List.mem_cons, List.not_mem_nil, or_false] at ha
  intro l m
  simp only [List.mem_cons, List.not_mem_nil, or_false] at m
  rcases ha with rfl | rfl | rfl <;> rcases m with rfl | rfl <;> decide
theorem farT : FarOk psT lsT FT := by
  intro a ma b mb
  have low : ∀ e, WayS lsT (fun _ => True) a b e → dFT a b ≤ e := fun e w => by
    have := bed_way (alT a ma) w
    have z : dFT a a = 0 := by
      simp only [List.mem_cons, List.not_mem_nil, or_false] at ma
      rcases ma with rfl | rfl | rfl <;> decide
    omega
  refine ⟨?_, low⟩
  clear low
  simp only [List.mem_cons, List.not_mem_nil, or_false] at ma mb
  rcases ma with rfl | rfl | rfl <;> rcases mb with rfl | rfl | rfl
  · exact .nil _
  · exact .edge (by decide)
  · exact .snoc (d := 2) (r := 2) (.edge (b := [98]) (by decide)) trivial (by decide)
  · exact .edge (by decide)
  · exact .nil _
  · exact .edge (by decide)
  · exact .snoc (d := 2) (r := 2) (.edge (b := [98]) (by decide)) trivial (by decide)
  · exact .edge (by decide)
  · exact .nil _
theorem net0 : NetOk [] [] := ⟨fun _ z => (nomatch z), .nil, by decide, by decide, fun _ z => (nomatch z), .nil⟩
theorem far0 : FarOk [] [] FT := fun _ z => nomatch z
def ssT (g : Int) : List Snd := [⟨[97], 4, 4⟩, ⟨[99], 4 + g, 4 + g⟩]
theorem keyT (g : Int) (g0 : 0 ≤ g) (g1 : g < 5) : clP FT (ssT g) = [] ∧ fixL FT (ssT g) psT = (if g < 4 then [[97], [99]] else [[97], [98], [99]]) ∧ nextW FT (ssT g) psT .non (-1) = (if g < 4 then .str [98] else .str [97]) := by
  obtain rfl | rfl | rfl | rfl | rfl : g = 0 ∨ g = 1 ∨ g = 2 ∨ g = 3 ∨ g = 4 := by omega
  all_goals exact ⟨rfl, rfl, rfl⟩
theorem pr_law : ∀ vs h Q Ex, sp_law vs h Q Ex → bodyW 15 1 b_law vs h Q Ex := by
  rintro vs h Q Ex ⟨ns, rfl, hl, q⟩
  refine ⟨rfl, ?_⟩
  ((try simp only [b_law]); fin2; (try (simp only [b_law]; fin2)))
  have bnd : ∀ m : Int, m ≤ 63 → -4611686018427387904 ≤ (if (if m < 8 then m else 8) > 2 then (if m < 8 then m else 8) else 2) ∧ (if (if m < 8 then m else 8) > 2 then (if m < 8 then m else 8) else 2) ≤ 8 := by
    intro m hm
    constructor <;> split <;> (try split) <;> omega
  obtain ⟨b0, b1⟩ := bnd ((ns.map Val.int).length : Int) (by rw [List.length_map]; omega)
  refine ⟨b0, by omega, ?_⟩
  refine forW_by (fun env _ => ∃ tl : List (Option Val), env = some (.cl (ns.map Val.int)) :: tl ∧ tl.length = 14) (fun _ _ _ => trivial) ?_ ?_ ⟨_, rfl, rfl⟩
  · rintro env h' ⟨tl, rfl, _⟩
    fin2
    exact q h'
  rintro x env h' N ⟨tl, rfl, htl⟩ hN hx
  obtain ⟨kk, hk, rfl⟩ := List.mem_map.mp hx
  have hk := List.mem_range.mp hk
  have hk2 : kk < 9 := by omega
  clear hk hx b0 b1 bnd
  match tl, htl with
  | [e1, e2, e3, e4, e5, e6, e7, e8, e9, f1, f2, f3, f4, f5], _ =>
  have hN0 : ∀ (e1 e2 e3 e4 e5 e6 e7 e8 e9 f1 f2 f3 f4 f5 : Option Val) h', N [some (.cl (ns.map .int)), e1, e2, e3, e4, e5, e6, e7, e8, e9, f1, f2, f3, f4, f5] h' := fun _ _ _ _ _ _ _ _ _ _ _ _ _ _ h' => hN _ h' ⟨_, rfl, rfl⟩
  clear hN htl
  fin2
  refine cell_w (by omega) (by omega) fun cell => ?_
  fin2
  intro h0 b t hb ok
  refine stand_of hb ok (by omega) (by omega) (by omega) (by omega) (by omega) (by omega) (by omega) fun ps ls F ss0 t1 ok1 o p0 hF lo0 _ lm => ?_
  have lp := o.lp
  fin2
  refine lbed_of hb ok1 (by omega) o hF fun B t2 ok2 bo => ?_
  fin2
  refine take_of hb ok2 (by omega) (by omega) (by omega) fun many t3 m0 m1 ok3 => ?_
  refine llog_of hb ok3 (by omega) o.n o.lp m0 (by omega) (by omega) (by omega) fun ss t4 ok4 lss lo wz => ?_
  have wz := wz rfl
  fin2
  ((try simp only [plV, llV, lgV]); fin2; (try (simp only [plV, llV, lgV]; fin2)))
  refine net_w (.inl rfl) (.inl rfl) o ?_
  fin2
  have gB : ∀ {p : Pl} {hh : Hv} {P : K1}, p ∈ ps → P (.int (B p)) hh → oIdx (bedV ps B) (.str p) hh P := fun m q => get_f (okKey_str (bedK_keys _ _)) (by rw [bedK_get, if_pos m]) q
  have bS : ∀ p ∈ ps, SndOk ⟨p, B p, B p⟩ := fun p m => by
    have a := (bo.lev p m).1
    have b := bo.top p m
    exact ⟨o.n p m, a, by show B p ≤ 1000000; omega, Int.le_refl _⟩
  refine compW_map (l := ss) (v := sndV) (fun s => sndV ⟨s.p, B s.p, B s.p⟩) rfl trivial (by rw [sizeLine_eq]; omega) (fun s ms K N1 k1 => ?_) ?_
  · have i0 : ∀ {hh : Hv} {P : K1}, P (.str s.p) hh → oIdx (sndV s) (.int 0) hh P := fun q => idx_t (v := .str s.p) rfl q
    fin2
    refine i0 ?_
    fin2
    refine i0 (gB (lo.mp s ms) ?_)
    fin2
    refine i0 (gB (lo.mp s ms) ?_)
    exact k1
  refine take_of hb ok4 (by omega) (by omega) (by omega) fun a t5 a0 a1 ok5 => ?_
  fin2
  rw [cut_to _ a0, ← List.map_take]
  refine compW_map (l := ps.take a.toNat) (v := Val.str) (fun p => sndV ⟨p, B p, B p⟩) rfl trivial (by rw [sizeLine_eq, List.length_take]; omega) (fun p mp K N1 k1 => ?_) ?_
  · have mp := List.mem_of_mem_take mp
    fin2
    refine gB mp ?_
    fin2
    refine gB mp ?_
    exact k1
  rw [show (ss.map fun s => sndV ⟨s.p, B s.p, B s.p⟩) = (ss.map fun s => (⟨s.p, B s.p, B s.p⟩ : Snd)).map sndV by rw [List.map_map]; rfl, show ((ps.take a.toNat).map fun p => sndV ⟨p, B p, B p⟩) = ((ps.take a.toNat).map fun p => (⟨p, B p, B p⟩ : Snd)).map sndV by rw [List.map_map]; rfl]
  rw [cut_to _ (by decide), ← List.map_take]
  have good : ∀ us : List Snd, us.length ≤ 30 → (∀ s ∈ us, s.p ∈ ps ∧ s = ⟨s.p, B s.p, B s.p⟩) → LogOk ps us ∧ clP F us = [] := fun us l hu => by
    refine ⟨⟨l, fun s m => ?_, fun s m => (hu s m).1⟩, fits_of o hF (fun s m => (hu s m).1) bo.al fun s m => ?_⟩
    · rw [(hu s m).2]; exact bS _ (hu s m).1
    · rw [(hu s m).2]; exact ⟨Int.le_refl _, Int.le_refl _⟩
  have g1 := good (ss.map fun s => (⟨s.p, B s.p, B s.p⟩ : Snd)) (by rw [List.length_map]; exact lo.ll) fun s m => by
    obtain ⟨u, mu, rfl⟩ := List.mem_map.mp m
    exact ⟨lo.mp u mu, rfl⟩
  have g2 := good ((ss.map fun s => (⟨s.p, B s.p, B s.p⟩ : Snd)).take (Int.toNat 1)) (by rw [List.length_take]; have := g1.1.ll; omega) fun s m => by
    obtain ⟨u, mu, rfl⟩ := List.mem_map.mp (List.mem_of_mem_take m)
    exact ⟨lo.mp u mu, rfl⟩
  have g3 := good ((ps.take a.toNat).map fun p => (⟨p, B p, B p⟩ : Snd)) (by rw [List.length_map, List.length_take]; omega) fun s m => by
    obtain ⟨u, mu, rfl⟩ := List.mem_map.mp m
    exact ⟨List.mem_of_mem_take mu, rfl⟩
  have g4 := good [] (by decide) fun _ z => nomatch z
  have g0 : clP F ss = [] := fits_of (B := fun p => keptI (B p)) o hF lo.mp (keptI_al (fun l m => (o.ok l m).r0) bo.al) wz
  generalize (ss.map fun s => (⟨s.p, B s.p, B s.p⟩ : Snd)) = xs at g1 g2 ⊢
  generalize ((ps.take a.toNat).map fun p => (⟨p, B p, B p⟩ : Snd)) = ys at g3 ⊢
  refine forW_at (l := [ss, xs, xs.take (Int.toNat 1), ys, []]) (v := lgV) (fun i env h1 => ∃ (e11 : Option Val), env = [some (.cl (ns.map .int)), some (.int kk), some (.ref b), some (plV ps), some (llV ls), some (farV ps F), some (lgV ss), some (bedV ps B), some (netV ps ls), some (lgV xs), f1, e11, f3, f4, f5] ∧ h1 = h0.bx b t5) rfl (fun _ _ _ _ => trivial) ⟨_, rfl, rfl⟩ ?_ ?_
  · rintro us i env h1 hi hx ⟨e11, rfl, rfl⟩ N2 hN2
    have gu : LogOk ps us ∧ clP F us = [] := by
      have := List.mem_of_getElem? hx
      simp only [List.mem_cons, List.not_mem_nil, or_false] at this
      rcases this with rfl | rfl | rfl | rfl | rfl
      · exact ⟨lo, g0⟩
      · exact g1
      · exact g2
      · exact g3
      · exact g4
    fin2
    refine right30_w o hF gu.1 gu.2 ?_
    fin2
    exact hN2 _ _ ⟨_, rfl, rfl⟩
  rintro env h1 ⟨e11, rfl, rfl⟩
  fin2
  have l0 : LogOk [] [] := ⟨by decide, fun _ z => (nomatch z), fun _ z => (nomatch z)⟩
  refine net_w (ps := []) (ls := []) (.inl rfl) (.inl rfl) net0 ?_
  refine next_w (ss := []) net0 far0 (.inl rfl) l0 rfl ?_
  ((try simp only [nextW]); fin2; (try (simp only [nextW]; fin2)))
  refine net_w (ps := []) (ls := []) (.inl rfl) (.inl rfl) net0 ?_
  refine fixed_w (ss := []) net0 far0 (.inr rfl) l0 rfl ?_
  refine ⟨_, _, .lst (Hv.al_new _ _) .same, ?_⟩
  refine even_w rfl ((Ok.fl .nil).good) rfl ?_
  fin2
  rw [bx_al hb, bx_al_nx, bx_del (by omega)]
  generalize hH : (h0.al _).del h0.nx = H
  have hbH : b < H.nx := by rw [← hH]; exact Nat.lt_succ_of_lt hb
  refine take_of hbH ok5 (by omega) (by omega) (by omega) fun g t6 u0 u1 ok6 => ?_
  refine net_w (ps := psT) (ls := lsT) (.inl rfl) (.inl rfl) netT ?_
  fin2
  obtain ⟨k1, k2, k3⟩ := keyT g u0 u1
  have lT : LogOk psT (ssT g) := by
    refine ⟨(show (2 : Nat) ≤ 30 by decide), fun s m => ?_, fun s m => ?_⟩
    · rcases List.mem_cons.mp m with rfl | m
      · exact ⟨rfl, by decide, by decide, by decide⟩
      · rw [List.mem_singleton.mp m]
        exact ⟨rfl, by show -1000000 ≤ 4 + g; omega, by show 4 + g ≤ 1000000; omega, Int.le_refl _⟩
    · rcases List.mem_cons.mp m with rfl | m
      · show ([97] : Pl) ∈ psT; decide
      · rw [List.mem_singleton.mp m]; show ([99] : Pl) ∈ psT; decide
  refine fixed_w (ss := ssT g) netT farT (.inl rfl) lT k1 ?_
  rw [k2]
  refine ⟨_, _, .lst (Hv.al_new _ _) .same, ?_⟩
  refine next_w (ss := ssT g) netT farT (.inl rfl) lT k1 ?_
  rw [k3]
  fin2
  have nm : ∀ p : Pl, nameB p = true → Ok 0 82 (.str p) := fun p h => Ok.name h
  by_cases z : g < 4
  · rw [if_pos z, if_pos z, if_pos (decide_eq_true z), if_pos (decide_eq_true z)]
    refine even_w rfl ((Ok.fl (.cons (Ok.fl (.cons (nm [97] rfl) (.cons (nm [99] rfl) .nil))) (.cons ((nm [98] rfl).mono (q := 1) (m := 82) (by decide) (by decide)) .nil))).good) rfl ?_
    fin2
    exact hN0 _ _ _ _ _ _ _ _ _ _ _ _ _ _ _
  · rw [if_neg z, if_neg z, if_neg (fun y => z (of_decide_eq_true y)), if_neg (fun y => z (of_decide_eq_true y))]
    refine even_w rfl ((Ok.fl (.cons (Ok.fl (.cons (nm [97] rfl) (.cons (nm [98] rfl) (.cons (nm [99] rfl) .nil)))) (.cons ((nm [97] rfl).mono (q := 1) (m := 82) (by decide) (by decide)) .nil))).good) rfl ?_
    fin2
    exact hN0 _ _ _ _ _ _ _ _ _ _ _ _ _ _ _
end Lw
namespace Lw
end Lw
set_option Elab.async false
set_option linter.all false
set_option maxRecDepth 100000
set_option maxHeartbeats 0
/-! ### the head of law_k30_fixed_places_and_the_next -/
namespace Hd
open PySem PySem.Spec PyProof.Rows L2 Lw
theorem sc_law_box : FnScope n_law_box ["cell"] (defScope (top 53)) := ⟨rfl, rfl, rfl, by decide +kernel, rfl, by decide +kernel, by decide +kernel⟩
theorem mt_law_box : mSs (defM n_law_box (defScope (top 53))) b_law_box (defBody (top 53)) = true := by kernel_rfl
theorem sc_law_cell : FnScope n_law_cell ["script", "k"] (defScope (top 52)) := ⟨rfl, rfl, rfl, by decide +kernel, rfl, by decide +kernel, by decide +kernel⟩
theorem mt_law_cell : mSs (defM n_law_cell (defScope (top 52))) b_law_cell (defBody (top 52)) = true := by kernel_rfl
theorem sc_law_take : FnScope n_law_take ["box", "many"] (defScope (top 54)) := ⟨rfl, rfl, rfl, by decide +kernel, rfl, by decide +kernel, by decide +kernel⟩
theorem mt_law_take : mSs (defM n_law_take (defScope (top 54))) b_law_take (defBody (top 54)) = true := by kernel_rfl
theorem sc_law_names : FnScope n_law_names ["box", "many"] (defScope (top 57)) := ⟨rfl, rfl, rfl, by decide +kernel, rfl, by decide +kernel, by decide +kernel⟩
theorem mt_law_names : mSs (defM n_law_names (defScope (top 57))) b_law_names (defBody (top 57)) = true := by kernel_rfl
theorem sc_law_mixed : FnScope n_law_mixed ["box", "some"] (defScope (top 56)) := ⟨rfl, rfl, rfl, by decide +kernel, rfl, by decide +kernel, by decide +kernel⟩
theorem mt_law_mixed : mSs (defM n_law_mixed (defScope (top 56))) b_law_mixed (defBody (top 56)) = true := by kernel_rfl
theorem sc_law_rise : FnScope n_law_rise ["box", "top"] (defScope (top 58)) := ⟨rfl, rfl, rfl, by decide +kernel, rfl, by decide +kernel, by decide +kernel⟩
theorem mt_law_rise : mSs (defM n_law_rise (defScope (top 58))) b_law_rise (defBody (top 58)) = true := by kernel_rfl
theorem sc_law_legs : FnScope n_law_legs ["box", "names", "more"] (defScope (top 59)) := ⟨rfl, rfl, rfl, by decide +kernel, rfl, by decide +kernel, by decide +kernel⟩
theorem mt_law_legs : mSs (defM n_law_legs (defScope (top 59))) b_law_legs (defBody (top 59)) = true := by kernel_rfl
theorem sc_law_net : FnScope n_law_net ["box", "most"] (defScope (top 60)) := ⟨rfl, rfl, rfl, by decide +kernel, rfl, by decide +kernel, by decide +kernel⟩
theorem mt_law_net : mSs (defM n_law_net (defScope (top 60))) b_law_net (defBody (top 60)) = true := by kernel_rfl
theorem sc_law_far : FnScope n_law_far ["places", "legs"] (defScope (top 61)) := ⟨rfl, rfl, rfl, by decide +kernel, rfl, by decide +kernel, by decide +kernel⟩
theorem mt_law_far : mSs (defM n_law_far (defScope (top 61))) b_law_far (defBody (top 61)) = true := by kernel_rfl
theorem sc_law_bed : FnScope n_law_bed ["box", "places", "far"] (defScope (top 62)) := ⟨rfl, rfl, rfl, by decide +kernel, rfl, by decide +kernel, by decide +kernel⟩
theorem mt_law_bed : mSs (defM n_law_bed (defScope (top 62))) b_law_bed (defBody (top 62)) = true := by kernel_rfl
theorem sc_law_kept : FnScope n_law_kept ["depth"] (defScope (top 63)) := ⟨rfl, rfl, rfl, by decide +kernel, rfl, by decide +kernel, by decide +kernel⟩
theorem mt_law_kept : mSs (defM n_law_kept (defScope (top 63))) b_law_kept (defBody (top 63)) = true := by kernel_rfl
theorem sc_law_log : FnScope n_law_log ["box", "places", "bed", "many", "worst"] (defScope (top 64)) := ⟨rfl, rfl, rfl, by decide +kernel, rfl, by decide +kernel, by decide +kernel⟩
theorem mt_law_log : mSs (defM n_law_log (defScope (top 64))) b_law_log (defBody (top 64)) = true := by kernel_rfl
theorem sc_law_near_edge : FnScope n_law_near_edge ["box", "places", "far", "log"] (defScope (top 65)) := ⟨rfl, rfl, rfl, by decide +kernel, rfl, by decide +kernel, by decide +kernel⟩
theorem mt_law_near_edge : mSs (defM n_law_near_edge (defScope (top 65))) b_law_near_edge (defBody (top 65)) = true := by kernel_rfl
theorem sc_law_stand : FnScope n_law_stand ["box", "most", "many", "worst"] (defScope (top 66)) := ⟨rfl, rfl, rfl, by decide +kernel, rfl, by decide +kernel, by decide +kernel⟩
theorem mt_law_stand : mSs (defM n_law_stand (defScope (top 66))) b_law_stand (defBody (top 66)) = true := by kernel_rfl
theorem sc_is_list : FnScope n_is_list ["value", "most"] (defScope (top 19)) := ⟨rfl, rfl, rfl, by decide +kernel, rfl, by decide +kernel, by decide +kernel⟩
theorem mt_is_list : mSs (defM n_is_list (defScope (top 19))) b_is_list (defBody (top 19)) = true := by kernel_rfl
theorem sc_is_name : FnScope n_is_name ["value"] (defScope (top 18)) := ⟨rfl, rfl, rfl, by decide +kernel, rfl, by decide +kernel, by decide +kernel⟩
theorem mt_is_name : mSs (defM n_is_name (defScope (top 18))) b_is_name (defBody (top 18)) = true := by kernel_rfl
theorem sc_is_tuple : FnScope n_is_tuple ["value", "many"] (defScope (top 20)) := ⟨rfl, rfl, rfl, by decide +kernel, rfl, by decide +kernel, by decide +kernel⟩
theorem mt_is_tuple : mSs (defM n_is_tuple (defScope (top 20))) b_is_tuple (defBody (top 20)) = true := by kernel_rfl
theorem sc_is_integer : FnScope n_is_integer ["value", "low", "high"] (defScope (top 17)) := ⟨rfl, rfl, rfl, by decide +kernel, rfl, by decide +kernel, by decide +kernel⟩
theorem mt_is_integer : mSs (defM n_is_integer (defScope (top 17))) b_is_integer (defBody (top 17)) = true := by kernel_rfl
theorem sc_is_leg : FnScope n_is_leg ["value"] (defScope (top 28)) := ⟨rfl, rfl, rfl, by decide +kernel, rfl, by decide +kernel, by decide +kernel⟩
theorem mt_is_leg : mSs (defM n_is_leg (defScope (top 28))) b_is_leg (defBody (top 28)) = true := by kernel_rfl
theorem sc_Net_has : FnScope n_Net_has ["self", "value"] (defScope (L2.inClass (top 31) 6)) := ⟨rfl, rfl, rfl, by decide +kernel, rfl, by decide +kernel, by decide +kernel⟩
theorem mt_Net_has : mSs (defM n_Net_has (defScope (L2.inClass (top 31) 6))) b_Net_has (defBody (L2.inClass (top 31) 6)) = true := by kernel_rfl
theorem sc_need_place : FnScope n_need_place ["net", "place"] (defScope (top 30)) := ⟨rfl, rfl, rfl, by decide +kernel, rfl, by decide +kernel, by decide +kernel⟩
theorem mt_need_place : mSs (defM n_need_place (defScope (top 30))) b_need_place (defBody (top 30)) = true := by kernel_rfl
theorem sc_Net_rise : FnScope n_Net_rise ["self", "one", "other"] (defScope (L2.inClass (top 31) 7)) := ⟨rfl, rfl, rfl, by decide +kernel, rfl, by decide +kernel, by decide +kernel⟩
theorem mt_Net_rise : mSs (defM n_Net_rise (defScope (L2.inClass (top 31) 7))) b_Net_rise (defBody (L2.inClass (top 31) 7)) = true := by kernel_rfl
theorem sc_need_leg : FnScope n_need_leg ["net", "leg"] (defScope (top 29)) := ⟨rfl, rfl, rfl, by decide +kernel, rfl, by decide +kernel, by decide +kernel⟩
theorem mt_need_leg : mSs (defM n_need_leg (defScope (top 29))) b_need_leg (defBody (top 29)) = true := by kernel_rfl
theorem sc_Net_init : FnScope n_Net_init ["self", "places", "legs"] (defScope (L2.inClass (top 31) 0)) := ⟨rfl, rfl, rfl, by decide +kernel, rfl, by decide +kernel, by decide +kernel⟩
theorem mt_Net_init : mSs (defM n_Net_init (defScope (L2.inClass (top 31) 0))) b_Net_init (defBody (L2.inClass (top 31) 0)) = true := by kernel_rfl
theorem sc_law_ranges : FnScope n_law_ranges ["places", "far", "log"] (defScope (top 67)) := ⟨rfl, rfl, rfl, by decide +kernel, rfl, by decide +kernel, by decide +kernel⟩
theorem mt_law_ranges : mSs (defM n_law_ranges (defScope (top 67))) b_law_ranges (defBody (top 67)) = true := by kernel_rfl
theorem sc_need_net : FnScope n_need_net ["net"] (defScope (top 33)) := ⟨rfl, rfl, rfl, by decide +kernel, rfl, by decide +kernel, by decide +kernel⟩
theorem mt_need_net : mSs (defM n_need_net (defScope (top 33))) b_need_net (defBody (top 33)) = true := by kernel_rfl
theorem sc_is_depth : FnScope n_is_depth ["value"] (defScope (top 21)) := ⟨rfl, rfl, rfl, by decide +kernel, rfl, by decide +kernel, by decide +kernel⟩
theorem mt_is_depth : mSs (defM n_is_depth (defScope (top 21))) b_is_depth (defBody (top 21)) = true := by kernel_rfl
theorem sc_is_sounding : FnScope n_is_sounding ["value"] (defScope (top 39)) := ⟨rfl, rfl, rfl, by decide +kernel, rfl, by decide +kernel, by decide +kernel⟩
theorem mt_is_sounding : mSs (defM n_is_sounding (defScope (top 39))) b_is_sounding (defBody (top 39)) = true := by kernel_rfl
theorem sc_is_log : FnScope n_is_log ["value"] (defScope (top 40)) := ⟨rfl, rfl, rfl, by decide +kernel, rfl, by decide +kernel, by decide +kernel⟩
theorem mt_is_log : mSs (defM n_is_log (defScope (top 40))) b_is_log (defBody (top 40)) = true := by kernel_rfl
theorem sc_need_log : FnScope n_need_log ["net", "log"] (defScope (top 41)) := ⟨rfl, rfl, rfl, by decide +kernel, rfl, by decide +kernel, by decide +kernel⟩
theorem mt_need_log : mSs (defM n_need_log (defScope (top 41))) b_need_log (defBody (top 41)) = true := by kernel_rfl
theorem sc_Net_legs : FnScope n_Net_legs ["self"] (defScope (L2.inClass (top 31) 5)) := ⟨rfl, rfl, rfl, by decide +kernel, rfl, by decide +kernel, by decide +kernel⟩
theorem mt_Net_legs : mSs (defM n_Net_legs (defScope (L2.inClass (top 31) 5))) b_Net_legs (defBody (L2.inClass (top 31) 5)) = true := by kernel_rfl
theorem sc_reached : FnScope n_reached ["net", "start"] (defScope (top 35)) := ⟨rfl, rfl, rfl, by decide +kernel, rfl, by decide +kernel, by decide +kernel⟩
theorem mt_reached : mSs (defM n_reached (defScope (top 35))) b_reached (defBody (top 35)) = true := by kernel_rfl
theorem sc_reach_from : FnScope n_reach_from ["net", "start"] (defScope (top 36)) := ⟨rfl, rfl, rfl, by decide +kernel, rfl, by decide +kernel, by decide +kernel⟩
theorem mt_reach_from : mSs (defM n_reach_from (defScope (top 36))) b_reach_from (defBody (top 36)) = true := by kernel_rfl
theorem sc_reaches : FnScope n_reaches ["net", "log"] (defScope (top 43)) := ⟨rfl, rfl, rfl, by decide +kernel, rfl, by decide +kernel, by decide +kernel⟩
theorem mt_reaches : mSs (defM n_reaches (defScope (top 43))) b_reaches (defBody (top 43)) = true := by kernel_rfl
theorem sc_is_too_deep : FnScope n_is_too_deep ["one", "other", "near"] (defScope (top 42)) := ⟨rfl, rfl, rfl, by decide +kernel, rfl, by decide +kernel, by decide +kernel⟩
theorem mt_is_too_deep : mSs (defM n_is_too_deep (defScope (top 42))) b_is_too_deep (defBody (top 42)) = true := by kernel_rfl
theorem sc_climbs : FnScope n_climbs ["net", "log"] (defScope (top 44)) := ⟨rfl, rfl, rfl, by decide +kernel, rfl, by decide +kernel, by decide +kernel⟩
theorem mt_climbs : mSs (defM n_climbs (defScope (top 44))) b_climbs (defBody (top 44)) = true := by kernel_rfl
theorem sc_all_clashes : FnScope n_all_clashes ["net", "log"] (defScope (top 45)) := ⟨rfl, rfl, rfl, by decide +kernel, rfl, by decide +kernel, by decide +kernel⟩
theorem mt_all_clashes : mSs (defM n_all_clashes (defScope (top 45))) b_all_clashes (defBody (top 45)) = true := by kernel_rfl
theorem sc_need_fit : FnScope n_need_fit ["net", "log"] (defScope (top 48)) := ⟨rfl, rfl, rfl, by decide +kernel, rfl, by decide +kernel, by decide +kernel⟩
theorem mt_need_fit : mSs (defM n_need_fit (defScope (top 48))) b_need_fit (defBody (top 48)) = true := by kernel_rfl
theorem sc_Net_places : FnScope n_Net_places ["self"] (defScope (L2.inClass (top 31) 4)) := ⟨rfl, rfl, rfl, by decide +kernel, rfl, by decide +kernel, by decide +kernel⟩
theorem mt_Net_places : mSs (defM n_Net_places (defScope (L2.inClass (top 31) 4))) b_Net_places (defBody (L2.inClass (top 31) 4)) = true := by kernel_rfl
theorem sc_stretches : FnScope n_stretches ["net", "log"] (defScope (top 47)) := ⟨rfl, rfl, rfl, by decide +kernel, rfl, by decide +kernel, by decide +kernel⟩
theorem mt_stretches : mSs (defM n_stretches (defScope (top 47))) b_stretches (defBody (top 47)) = true := by kernel_rfl
theorem sc_fixed_places : FnScope n_fixed_places ["net", "log"] (defScope (top 49)) := ⟨rfl, rfl, rfl, by decide +kernel, rfl, by decide +kernel, by decide +kernel⟩
theorem mt_fixed_places : mSs (defM n_fixed_places (defScope (top 49))) b_fixed_places (defBody (top 49)) = true := by kernel_rfl
theorem sc_law_even : FnScope n_law_even ["told", "due"] (defScope (top 55)) := ⟨rfl, rfl, rfl, by decide +kernel, rfl, by decide +kernel, by decide +kernel⟩
theorem mt_law_even : mSs (defM n_law_even (defScope (top 55))) b_law_even (defBody (top 55)) = true := by kernel_rfl
theorem sc_next_place : FnScope n_next_place ["net", "log"] (defScope (top 50)) := ⟨rfl, rfl, rfl, by decide +kernel, rfl, by decide +kernel, by decide +kernel⟩
theorem mt_next_place : mSs (defM n_next_place (defScope (top 50))) b_next_place (defBody (top 50)) = true := by kernel_rfl
theorem sc_law_right : FnScope n_law_right ["net", "places", "far", "log"] (defScope (top 68)) := ⟨rfl, rfl, rfl, by decide +kernel, rfl, by decide +kernel, by decide +kernel⟩
theorem mt_law_right : mSs (defM n_law_right (defScope (top 68))) b_law_right (defBody (top 68)) = true := by kernel_rfl
theorem sc_law : FnScope n_law ["script"] (defScope (top 69)) := ⟨rfl, rfl, rfl, by decide +kernel, rfl, by decide +kernel, by decide +kernel⟩
theorem mt_law : mSs (defM n_law (defScope (top 69))) b_law (defBody (top 69)) = true := by kernel_rfl
section
variable {P : Program} {w : World} {K : PySem.W.Frag} {mg : Str → Option Value} {h : Heap}
theorem free (X : K.In h) (G : h.Ns mainGlobals mg) (c : He.SaysD fa fn K) : ∀ x ∈ biNames, mg x = none := by
  intro x hx
  simp only [biNames, List.mem_cons, List.not_mem_nil, or_false] at hx
  rcases hx with rfl | rfl | rfl | rfl | rfl | rfl | rfl | rfl | rfl | rfl | rfl | rfl | rfl | rfl | rfl | rfl | rfl | rfl | rfl | rfl | rfl
  · exact He.free_ok X G (c.fact 58 (f := .free "len") rfl)
  · exact He.free_ok X G (c.fact 59 (f := .free "abs") rfl)
  · exact He.free_ok X G (c.fact 60 (f := .free "max") rfl)
  · exact He.free_ok X G (c.fact 61 (f := .free "min") rfl)
  · exact He.free_ok X G (c.fact 62 (f := .free "sum") rfl)
  · exact He.free_ok X G (c.fact 63 (f := .free "all") rfl)
  · exact He.free_ok X G (c.fact 64 (f := .free "any") rfl)
  · exact He.free_ok X G (c.fact 65 (f := .free "int") rfl)
  · exact He.free_ok X G (c.fact 66 (f := .free "str") rfl)
  · exact He.free_ok X G (c.fact 67 (f := .free "repr") rfl)
  · exact He.free_ok X G (c.fact 68 (f := .free "list") rfl)
  · exact He.free_ok X G (c.fact 69 (f := .free "tuple") rfl)
  · exact He.free_ok X G (c.fact 70 (f := .free "dict") rfl)
  · exact He.free_ok X G (c.fact 71 (f := .free "sorted") rfl)
  · exact He.free_ok X G (c.fact 72 (f := .free "divmod") rfl)
  · exact He.free_ok X G (c.fact 73 (f := .free "range") rfl)
  · exact He.free_ok X G (c.fact 74 (f := .free "isinstance") rfl)
  · exact He.free_ok X G (c.fact 75 (f := .free "bool") rfl)
  · exact He.free_ok X G (c.fact 76 (f := .free "enumerate") rfl)
  · exact He.free_ok X G (c.fact 77 (f := .free "zip") rfl)
  · exact He.free_ok X G (c.fact 78 (f := .free "set") rfl)
theorem c_LETTERS (X : K.In h) (G : h.Ns mainGlobals mg) (c : He.SaysD fa fn K) (xf : ∀ f ∈ xs, f K = true) : COk K mg "LETTERS" (.str [97, 98, 99, 100, 101, 102, 103, 104, 105, 106, 107, 108, 109, 110, 111, 112, 113, 114, 115, 116, 117, 118, 119, 120, 121, 122]) := by
  obtain ⟨t, e⟩ := He.str_ok X G (c.fact 51 (f := .str "LETTERS" "abcdefghijklmnopqrstuvwxyz") rfl)
  refine ⟨_, .str _, e, ⟨t, rfl⟩, fun ρ H => ?_⟩
  have z : RV K ρ H (.str [97, 98, 99, 100, 101, 102, 103, 104, 105, 106, 107, 108, 109, 110, 111, 112, 113, 114, 115, 116, 117, 118, 119, 120, 121, 122]) (.str (toS [97, 98, 99, 100, 101, 102, 103, 104, 105, 106, 107, 108, 109, 110, 111, 112, 113, 114, 115, 116, 117, 118, 119, 120, 121, 122])) := .str (okS_of (by decide))
  have e2 : toS [97, 98, 99, 100, 101, 102, 103, 104, 105, 106, 107, 108, 109, 110, 111, 112, 113, 114, 115, 116, 117, 118, 119, 120, 121, 122] = "abcdefghijklmnopqrstuvwxyz" := by decide +kernel
  rw [e2] at z
  exact z
theorem c_MOST_LEGS (X : K.In h) (G : h.Ns mainGlobals mg) (c : He.SaysD fa fn K) (xf : ∀ f ∈ xs, f K = true) : COk K mg "MOST_LEGS" (.int (60)) := by
  obtain ⟨t, e⟩ := He.int_ok X G (c.fact 52 (f := .int "MOST_LEGS" (60)) rfl)
  exact ⟨_, .int _, e, ⟨t, rfl⟩, fun ρ H => .int _⟩
theorem c_MOST_SOUNDINGS (X : K.In h) (G : h.Ns mainGlobals mg) (c : He.SaysD fa fn K) (xf : ∀ f ∈ xs, f K = true) : COk K mg "MOST_SOUNDINGS" (.int (30)) := by
  obtain ⟨t, e⟩ := He.int_ok X G (c.fact 53 (f := .int "MOST_SOUNDINGS" (30)) rfl)
  exact ⟨_, .int _, e, ⟨t, rfl⟩, fun ρ H => .int _⟩
theorem c_STEEPEST (X : K.In h) (G : h.Ns mainGlobals mg) (c : He.SaysD fa fn K) (xf : ∀ f ∈ xs, f K = true) : COk K mg "STEEPEST" (.int (10000)) := by
  obtain ⟨t, e⟩ := He.int_ok X G (c.fact 54 (f := .int "STEEPEST" (10000)) rfl)
  exact ⟨_, .int _, e, ⟨t, rfl⟩, fun ρ H => .int _⟩
theorem c_MOST_PLACES (X : K.In h) (G : h.Ns mainGlobals mg) (c : He.SaysD fa fn K) (xf : ∀ f ∈ xs, f K = true) : COk K mg "MOST_PLACES" (.int (24)) := by
  obtain ⟨t, e⟩ := He.int_ok X G (c.fact 55 (f := .int "MOST_PLACES" (24)) rfl)
  exact ⟨_, .int _, e, ⟨t, rfl⟩, fun ρ H => .int _⟩
theorem c_DEEPEST (X : K.In h) (G : h.Ns mainGlobals mg) (c : He.SaysD fa fn K) (xf : ∀ f ∈ xs, f K = true) : COk K mg "DEEPEST" (.int (1000000)) := by
  obtain ⟨t, e⟩ := He.int_ok X G (c.fact 56 (f := .int "DEEPEST" (1000000)) rfl)
  exact ⟨_, .int _, e, ⟨t, rfl⟩, fun ρ H => .int _⟩
theorem c_LONGEST_NAME (X : K.In h) (G : h.Ns mainGlobals mg) (c : He.SaysD fa fn K) (xf : ∀ f ∈ xs, f K = true) : COk K mg "LONGEST_NAME" (.int (8)) := by
  obtain ⟨t, e⟩ := He.int_ok X G (c.fact 57 (f := .int "LONGEST_NAME" (8)) rfl)
  exact ⟨_, .int _, e, ⟨t, rfl⟩, fun ρ H => .int _⟩
theorem l_0 (X : K.In h) (G : h.Ns mainGlobals mg) (c : He.SaysD fa fn K) (z : ∃ o, K.lookup sysModules = some o) (xf : ∀ f ∈ xs, f K = true) (base : Heap) : MOk P w K mg base 0 0 .fld := by
  refine ⟨_, (cl_of (C := 0) (He.glo_ok X G (c.fact 40 (f := .glo "Net") rfl))), He.cls_ok (c.fact 41 (f := .cls "Net") rfl), fun f hf => ?_⟩
  simp only [cflds, List.mem_cons, List.not_mem_nil, or_false] at hf
  rcases hf with rfl | rfl | rfl
  · exact He.noat_ok (c.fact 43 (f := .noat "Net" "place_row") rfl)
  · exact He.noat_ok (c.fact 44 (f := .noat "Net" "leg_row") rfl)
  · exact He.noat_ok (c.fact 45 (f := .noat "Net" "leg_rises") rfl)
theorem i_0 (X : K.In h) (G : h.Ns mainGlobals mg) (c : He.SaysD fa fn K) (z : ∃ o, K.lookup sysModules = some o) (xf : ∀ f ∈ xs, f K = true) (base : Heap) : MOk P w K mg base 0 0 .isi := ⟨_, (cl_of (C := 0) (He.glo_ok X G (c.fact 40 (f := .glo "Net") rfl))), He.cls_ok (c.fact 41 (f := .cls "Net") rfl), isiX_ok (xf _ (List.mem_of_getElem? (i := 0) rfl))⟩
theorem f_law_box (X : K.In h) (G : h.Ns mainGlobals mg) (c : He.SaysD fa fn K) (z : ∃ o, K.lookup sysModules = some o) (xf : ∀ f ∈ xs, f K = true) (base : Heap) : FOk P w K mg base 1 "_law_box" sp_law_box := by
  obtain ⟨fd, F⟩ := c.def_ 0 (d := d_law_box) rfl
  refine .inl ⟨_, He.glo_ok X G (c.fact 0 (f := .glo "_law_box") rfl), F.kp, FnG.imp (fnG_of (k := 0) F sc_law_box (F.bindsN fun _ _ _ _ _ _ us hl => match us, hl with | [_], _ => rfl) mt_law_box (free X G c) z ?_) pr_law_box⟩
  simp only [b_law_box, okSs, okS_, okE, okEs, okEo, okTg, okTs, okI, and_true, true_and, and_self]
theorem f_law_cell (X : K.In h) (G : h.Ns mainGlobals mg) (c : He.SaysD fa fn K) (z : ∃ o, K.lookup sysModules = some o) (xf : ∀ f ∈ xs, f K = true) (base : Heap) : FOk P w K mg base 1 "_law_cell" sp_law_cell := by
  obtain ⟨fd, F⟩ := c.def_ 1 (d := d_law_cell) rfl
  refine .inl ⟨_, He.glo_ok X G (c.fact 1 (f := .glo "_law_cell") rfl), F.kp, FnG.gc (fnG_of (k := 0) F sc_law_cell (F.bindsN fun _ _ _ _ _ _ us hl => match us, hl with | [_, _], _ => rfl) mt_law_cell (free X G c) z ?_) pr_law_cell⟩
  simp only [b_law_cell, okSs, okS_, okE, okEs, okEo, okTg, okTs, okI, and_true, true_and, and_self]
theorem f_law_take (X : K.In h) (G : h.Ns mainGlobals mg) (c : He.SaysD fa fn K) (z : ∃ o, K.lookup sysModules = some o) (xf : ∀ f ∈ xs, f K = true) (base : Heap) : FOk P w K mg base 1 "_law_take" sp_law_take := by
  obtain ⟨fd, F⟩ := c.def_ 2 (d := d_law_take) rfl
  refine .inl ⟨_, He.glo_ok X G (c.fact 2 (f := .glo "_law_take") rfl), F.kp, FnG.gc (fnG_of (k := 0) F sc_law_take (F.bindsN fun _ _ _ _ _ _ us hl => match us, hl with | [_, _], _ => rfl) mt_law_take (free X G c) z ?_) pr_law_take⟩
  simp only [b_law_take, okSs, okS_, okE, okEs, okEo, okTg, okTs, okI, and_true, true_and, and_self]
theorem f_law_names (X : K.In h) (G : h.Ns mainGlobals mg) (c : He.SaysD fa fn K) (z : ∃ o, K.lookup sysModules = some o) (xf : ∀ f ∈ xs, f K = true) (base : Heap) : FOk P w K mg base 2 "_law_names" sp_law_names := by
  obtain ⟨fd, F⟩ := c.def_ 3 (d := d_law_names) rfl
  refine .inl ⟨_, He.glo_ok X G (c.fact 3 (f := .glo "_law_names") rfl), F.kp, FnG.gc (fnG_of (k := 1) F sc_law_names (F.bindsN fun _ _ _ _ _ _ us hl => match us, hl with | [_, _], _ => rfl) mt_law_names (free X G c) z ?_) pr_law_names⟩
  simp only [b_law_names, okSs, okS_, okE, okEs, okEo, okTg, okTs, okI, and_true, true_and, and_self]
  first | trivial | exact (f_law_take X G c z xf base).mono (by decide) | (repeat' (first | apply And.intro)) <;> first | trivial | exact (f_law_take X G c z xf base).mono (by decide)
theorem f_law_mixed (X : K.In h) (G : h.Ns mainGlobals mg) (c : He.SaysD fa fn K) (z : ∃ o, K.lookup sysModules = some o) (xf : ∀ f ∈ xs, f K = true) (base : Heap) : FOk P w K mg base 2 "_law_mixed" sp_law_mixed := by
  obtain ⟨fd, F⟩ := c.def_ 4 (d := d_law_mixed) rfl
  refine .inl ⟨_, He.glo_ok X G (c.fact 4 (f := .glo "_law_mixed") rfl), F.kp, FnG.gc (fnG_of (k := 1) F sc_law_mixed (F.bindsN fun _ _ _ _ _ _ us hl => match us, hl with | [_, _], _ => rfl) mt_law_mixed (free X G c) z ?_) pr_law_mixed⟩
  simp only [b_law_mixed, okSs, okS_, okE, okEs, okEo, okTg, okTs, okI, and_true, true_and, and_self]
  first | trivial | exact (f_law_take X G c z xf base).mono (by decide) | (repeat' (first | apply And.intro)) <;> first | trivial | exact (f_law_take X G c z xf base).mono (by decide)
theorem f_law_rise (X : K.In h) (G : h.Ns mainGlobals mg) (c : He.SaysD fa fn K) (z : ∃ o, K.lookup sysModules = some o) (xf : ∀ f ∈ xs, f K = true) (base : Heap) : FOk P w K mg base 2 "_law_rise" sp_law_rise := by
  obtain ⟨fd, F⟩ := c.def_ 5 (d := d_law_rise) rfl
  refine .inl ⟨_, He.glo_ok X G (c.fact 5 (f := .glo "_law_rise") rfl), F.kp, FnG.gc (fnG_of (k := 1) F sc_law_rise (F.bindsN fun _ _ _ _ _ _ us hl => match us, hl with | [_, _], _ => rfl) mt_law_rise (free X G c) z ?_) pr_law_rise⟩
  simp only [b_law_rise, okSs, okS_, okE, okEs, okEo, okTg, okTs, okI, and_true, true_and, and_self]
  first | trivial | exact (f_law_take X G c z xf base).mono (by decide) | (repeat' (first | apply And.intro)) <;> first | trivial | exact (f_law_take X G c z xf base).mono (by decide)
theorem f_law_legs (X : K.In h) (G : h.Ns mainGlobals mg) (c : He.SaysD fa fn K) (z : ∃ o, K.lookup sysModules = some o) (xf : ∀ f ∈ xs, f K = true) (base : Heap) : FOk P w K mg base 3 "_law_legs" sp_law_legs := by
  obtain ⟨fd, F⟩ := c.def_ 6 (d := d_law_legs) rfl
  refine .inl ⟨_, He.glo_ok X G (c.fact 6 (f := .glo "_law_legs") rfl), F.kp, FnG.gc (fnG_of (k := 2) F sc_law_legs (F.bindsN fun _ _ _ _ _ _ us hl => match us, hl with | [_, _, _], _ => rfl) mt_law_legs (free X G c) z ?_) pr_law_legs⟩
  simp only [b_law_legs, okSs, okS_, okE, okEs, okEo, okTg, okTs, okI, and_true, true_and, and_self]
  first | trivial | exact (f_law_take X G c z xf base).mono (by decide) | (repeat' (first | apply And.intro)) <;> first | trivial | exact (f_law_take X G c z xf base).mono (by decide) | exact (f_law_mixed X G c z xf base).mono (by decide) | exact (f_law_rise X G c z xf base).mono (by decide)
theorem f_law_net (X : K.In h) (G : h.Ns mainGlobals mg) (c : He.SaysD fa fn K) (z : ∃ o, K.lookup sysModules = some o) (xf : ∀ f ∈ xs, f K = true) (base : Heap) : FOk P w K mg base 4 "_law_net" sp_law_net := by
  obtain ⟨fd, F⟩ := c.def_ 7 (d := d_law_net) rfl
  refine .inl ⟨_, He.glo_ok X G (c.fact 7 (f := .glo "_law_net") rfl), F.kp, FnG.gc (fnG_of (k := 3) F sc_law_net (F.bindsN fun _ _ _ _ _ _ us hl => match us, hl with | [_, _], _ => rfl) mt_law_net (free X G c) z ?_) pr_law_net⟩
  simp only [b_law_net, okSs, okS_, okE, okEs, okEo, okTg, okTs, okI, and_true, true_and, and_self]
  first | trivial | exact (f_law_names X G c z xf base).mono (by decide) | (repeat' (first | apply And.intro)) <;> first | trivial | exact (f_law_names X G c z xf base).mono (by decide) | exact (f_law_take X G c z xf base).mono (by decide) | exact (f_law_legs X G c z xf base).mono (by decide) | exact (f_law_mixed X G c z xf base).mono (by decide)
theorem f_law_far (X : K.In h) (G : h.Ns mainGlobals mg) (c : He.SaysD fa fn K) (z : ∃ o, K.lookup sysModules = some o) (xf : ∀ f ∈ xs, f K = true) (base : Heap) : FOk P w K mg base 1 "_law_far" sp_law_far := by
  obtain ⟨fd, F⟩ := c.def_ 8 (d := d_law_far) rfl
  refine .inl ⟨_, He.glo_ok X G (c.fact 8 (f := .glo "_law_far") rfl), F.kp, FnG.gc (fnG_of (k := 0) F sc_law_far (F.bindsN fun _ _ _ _ _ _ us hl => match us, hl with | [_, _], _ => rfl) mt_law_far (free X G c) z ?_) pr_law_far⟩
  simp only [b_law_far, okSs, okS_, okE, okEs, okEo, okTg, okTs, okI, and_true, true_and, and_self]
theorem f_law_bed (X : K.In h) (G : h.Ns mainGlobals mg) (c : He.SaysD fa fn K) (z : ∃ o, K.lookup sysModules = some o) (xf : ∀ f ∈ xs, f K = true) (base : Heap) : FOk P w K mg base 2 "_law_bed" sp_law_bed := by
  obtain ⟨fd, F⟩ := c.def_ 9 (d := d_law_bed) rfl
  refine .inl ⟨_, He.glo_ok X G (c.fact 9 (f := .glo "_law_bed") rfl), F.kp, FnG.gc (fnG_of (k := 1) F sc_law_bed (F.bindsN fun _ _ _ _ _ _ us hl => match us, hl with | [_, _, _], _ => rfl) mt_law_bed (free X G c) z ?_) pr_law_bed⟩
  simp only [b_law_bed, okSs, okS_, okE, okEs, okEo, okTg, okTs, okI, and_true, true_and, and_self]
  first | trivial | exact (f_law_take X G c z xf base).mono (by decide) | (repeat' (first | apply And.intro)) <;> first | trivial | exact (f_law_take X G c z xf base).mono (by decide)
theorem f_law_kept (X : K.In h) (G : h.Ns mainGlobals mg) (c : He.SaysD fa fn K) (z : ∃ o, K.lookup sysModules = some o) (xf : ∀ f ∈ xs, f K = true) (base : Heap) : FOk P w K mg base 1 "_law_kept" sp_law_kept := by
  obtain ⟨fd, F⟩ := c.def_ 10 (d := d_law_kept) rfl
  refine .inl ⟨_, He.glo_ok X G (c.fact 10 (f := .glo "_law_kept") rfl), F.kp, FnG.gc (fnG_of (k := 0) F sc_law_kept (F.bindsN fun _ _ _ _ _ _ us hl => match us, hl with | [_], _ => rfl) mt_law_kept (free X G c) z ?_) pr_law_kept⟩
  simp only [b_law_kept, okSs, okS_, okE, okEs, okEo, okTg, okTs, okI, and_true, true_and, and_self]
theorem f_law_log (X : K.In h) (G : h.Ns mainGlobals mg) (c : He.SaysD fa fn K) (z : ∃ o, K.lookup sysModules = some o) (xf : ∀ f ∈ xs, f K = true) (base : Heap) : FOk P w K mg base 2 "_law_log" sp_law_log := by
  obtain ⟨fd, F⟩ := c.def_ 11 (d := d_law_log) rfl
  refine .inl ⟨_, He.glo_ok X G (c.fact 11 (f := .glo "_law_log") rfl), F.kp, FnG.gc (fnG_of (k := 1) F sc_law_log (F.bindsN fun _ _ _ _ _ _ us hl => match us, hl with | [_, _, _, _, _], _ => rfl) mt_law_log (free X G c) z ?_) pr_law_log⟩
  simp only [b_law_log, okSs, okS_, okE, okEs, okEo, okTg, okTs, okI, and_true, true_and, and_self]
  first | trivial | exact (f_law_take X G c z xf base).mono (by decide) | (repeat' (first | apply And.intro)) <;> first | trivial | exact (f_law_take X G c z xf base).mono (by decide) | exact (f_law_kept X G c z xf base).mono (by decide)
theorem f_law_near_edge (X : K.In h) (G : h.Ns mainGlobals mg) (c : He.SaysD fa fn K) (z : ∃ o, K.lookup sysModules = some o) (xf : ∀ f ∈ xs, f K = true) (base : Heap) : FOk P w K mg base 2 "_law_near_edge" sp_law_near_edge := by
  obtain ⟨fd, F⟩ := c.def_ 12 (d := d_law_near_edge) rfl
  refine .inl ⟨_, He.glo_ok X G (c.fact 12 (f := .glo "_law_near_edge") rfl), F.kp, FnG.gc (fnG_of (k := 1) F sc_law_near_edge (F.bindsN fun _ _ _ _ _ _ us hl => match us, hl with | [_, _, _, _], _ => rfl) mt_law_near_edge (free X G c) z ?_) pr_law_near_edge⟩
  simp only [b_law_near_edge, okSs, okS_, okE, okEs, okEo, okTg, okTs, okI, and_true, true_and, and_self]
  first | trivial | exact (f_law_take X G c z xf base).mono (by decide) | (repeat' (first | apply And.intro)) <;> first | trivial | exact (f_law_take X G c z xf base).mono (by decide) | exact (f_law_kept X G c z xf base).mono (by decide)
theorem f_law_stand (X : K.In h) (G : h.Ns mainGlobals mg) (c : He.SaysD fa fn K) (z : ∃ o, K.lookup sysModules = some o) (xf : ∀ f ∈ xs, f K = true) (base : Heap) : FOk P w K mg base 5 "_law_stand" sp_law_stand := by
  obtain ⟨fd, F⟩ := c.def_ 13 (d := d_law_stand) rfl
  refine .inl ⟨_, He.glo_ok X G (c.fact 13 (f := .glo "_law_stand") rfl), F.kp, FnG.gc (fnG_of (k := 4) F sc_law_stand (F.bindsN fun _ _ _ _ _ _ us hl => match us, hl with | [_, _, _, _], _ => rfl) mt_law_stand (free X G c) z ?_) pr_law_stand⟩
  simp only [b_law_stand, okSs, okS_, okE, okEs, okEo, okTg, okTs, okI, and_true, true_and, and_self]
  first | trivial | exact (f_law_net X G c z xf base).mono (by decide) | (repeat' (first | apply And.intro)) <;> first | trivial | exact (f_law_net X G c z xf base).mono (by decide) | exact (f_law_far X G c z xf base).mono (by decide) | exact (f_law_bed X G c z xf base).mono (by decide) | exact (f_law_log X G c z xf base).mono (by decide) | exact (f_law_take X G c z xf base).mono (by decide) | exact (f_law_near_edge X G c z xf base).mono (by decide)
theorem f_is_list_s (X : K.In h) (G : h.Ns mainGlobals mg) (c : He.SaysD fa fn K) (z : ∃ o, K.lookup sysModules = some o) (xf : ∀ f ∈ xs, f K = true) (base : Heap) : FOk P w K mg base 1 "is_list" sp_is_list_s := by
  obtain ⟨fd, F⟩ := c.def_ 14 (d := d_is_list) rfl
  refine .inl ⟨_, He.glo_ok X G (c.fact 14 (f := .glo "is_list") rfl), F.kp, FnG.gc (fnG_of (k := 0) F sc_is_list (F.bindsN fun _ _ _ _ _ _ us hl => match us, hl with | [_, _], _ => rfl) mt_is_list (free X G c) z ?_) pr_is_list_s⟩
  simp only [b_is_list, okSs, okS_, okE, okEs, okEo, okTg, okTs, okI, and_true, true_and, and_self]
theorem f_is_name (X : K.In h) (G : h.Ns mainGlobals mg) (c : He.SaysD fa fn K) (z : ∃ o, K.lookup sysModules = some o) (xf : ∀ f ∈ xs, f K = true) (base : Heap) : FOk P w K mg base 1 "is_name" sp_is_name := by
  obtain ⟨fd, F⟩ := c.def_ 15 (d := d_is_name) rfl
  refine .inl ⟨_, He.glo_ok X G (c.fact 15 (f := .glo "is_name") rfl), F.kp, FnG.gc (fnG_of (k := 0) F sc_is_name (F.bindsN fun _ _ _ _ _ _ us hl => match us, hl with | [_], _ => rfl) mt_is_name (free X G c) z ?_) pr_is_name⟩
  simp only [b_is_name, okSs, okS_, okE, okEs, okEo, okTg, okTs, okI, and_true, true_and, and_self]
  first | trivial | exact c_LONGEST_NAME X G c xf | (repeat' (first | apply And.intro)) <;> first | trivial | exact c_LONGEST_NAME X G c xf | exact c_LETTERS X G c xf
theorem f_is_tuple (X : K.In h) (G : h.Ns mainGlobals mg) (c : He.SaysD fa fn K) (z : ∃ o, K.lookup sysModules = some o) (xf : ∀ f ∈ xs, f K = true) (base : Heap) : FOk P w K mg base 1 "is_tuple" sp_is_tuple := by
  obtain ⟨fd, F⟩ := c.def_ 16 (d := d_is_tuple) rfl
  refine .inl ⟨_, He.glo_ok X G (c.fact 16 (f := .glo "is_tuple") rfl), F.kp, FnG.gc (fnG_of (k := 0) F sc_is_tuple (F.bindsN fun _ _ _ _ _ _ us hl => match us, hl with | [_, _], _ => rfl) mt_is_tuple (free X G c) z ?_) pr_is_tuple⟩
  simp only [b_is_tuple, okSs, okS_, okE, okEs, okEo, okTg, okTs, okI, and_true, true_and, and_self]
theorem f_is_integer (X : K.In h) (G : h.Ns mainGlobals mg) (c : He.SaysD fa fn K) (z : ∃ o, K.lookup sysModules = some o) (xf : ∀ f ∈ xs, f K = true) (base : Heap) : FOk P w K mg base 1 "is_integer" sp_is_integer := by
  obtain ⟨fd, F⟩ := c.def_ 17 (d := d_is_integer) rfl
  refine .inl ⟨_, He.glo_ok X G (c.fact 17 (f := .glo "is_integer") rfl), F.kp, FnG.gc (fnG_of (k := 0) F sc_is_integer (F.bindsN fun _ _ _ _ _ _ us hl => match us, hl with | [_, _, _], _ => rfl) mt_is_integer (free X G c) z ?_) pr_is_integer⟩
  simp only [b_is_integer, okSs, okS_, okE, okEs, okEo, okTg, okTs, okI, and_true, true_and, and_self]
theorem f_is_leg (X : K.In h) (G : h.Ns mainGlobals mg) (c : He.SaysD fa fn K) (z : ∃ o, K.lookup sysModules = some o) (xf : ∀ f ∈ xs, f K = true) (base : Heap) : FOk P w K mg base 2 "is_leg" sp_is_leg := by
  obtain ⟨fd, F⟩ := c.def_ 18 (d := d_is_leg) rfl
  refine .inl ⟨_, He.glo_ok X G (c.fact 18 (f := .glo "is_leg") rfl), F.kp, FnG.gc (fnG_of (k := 1) F sc_is_leg (F.bindsN fun _ _ _ _ _ _ us hl => match us, hl with | [_], _ => rfl) mt_is_leg (free X G c) z ?_) pr_is_leg⟩
  simp only [b_is_leg, okSs, okS_, okE, okEs, okEo, okTg, okTs, okI, and_true, true_and, and_self]
  first | trivial | exact (f_is_tuple X G c z xf base).mono (by decide) | (repeat' (first | apply And.intro)) <;> first | trivial | exact (f_is_tuple X G c z xf base).mono (by decide) | exact (f_is_name X G c z xf base).mono (by decide) | exact (f_is_integer X G c z xf base).mono (by decide) | exact c_STEEPEST X G c xf
theorem m_Net_has (X : K.In h) (G : h.Ns mainGlobals mg) (c : He.SaysD fa fn K) (z : ∃ o, K.lookup sysModules = some o) (xf : ∀ f ∈ xs, f K = true) (base : Heap) : MOk P w K mg base 1 0 (.mth "has" sp_Net_has) := by
  obtain ⟨fd, F⟩ := c.def_ 19 (d := d_Net_has) rfl
  refine ⟨_, _, cl_of (C := 0) (He.glo_ok X G (c.fact 40 (f := .glo "Net") rfl)), He.cls_ok (c.fact 41 (f := .cls "Net") rfl), by decide +kernel, He.meth_ok (c.fact 46 (f := .meth "Net" "has") rfl), FnG.gc (fnG_of (k := 0) F sc_Net_has (F.bindsN fun _ _ _ _ _ _ us hl => match us, hl with | [_, _], _ => rfl) mt_Net_has (free X G c) z ?_) pr_Net_has⟩
  simp only [b_Net_has, okSs, okS_, okE, okEs, okEo, okTg, okTs, okI, and_true, true_and, and_self]
  first | trivial | exact (l_0 X G c z xf base).mono (by decide) | (repeat' (first | apply And.intro)) <;> first | trivial | exact (l_0 X G c z xf base).mono (by decide)
theorem f_need_place (X : K.In h) (G : h.Ns mainGlobals mg) (c : He.SaysD fa fn K) (z : ∃ o, K.lookup sysModules = some o) (xf : ∀ f ∈ xs, f K = true) (base : Heap) : FOk P w K mg base 2 "need_place" sp_need_place := by
  obtain ⟨fd, F⟩ := c.def_ 20 (d := d_need_place) rfl
  refine .inl ⟨_, He.glo_ok X G (c.fact 19 (f := .glo "need_place") rfl), F.kp, FnG.gc (fnG_of (k := 1) F sc_need_place (F.bindsN fun _ _ _ _ _ _ us hl => match us, hl with | [_, _], _ => rfl) mt_need_place (free X G c) z ?_) pr_need_place⟩
  simp only [b_need_place, okSs, okS_, okE, okEs, okEo, okTg, okTs, okI, and_true, true_and, and_self]
  first | trivial | exact (m_Net_has X G c z xf base).mono (by decide) | (repeat' (first | apply And.intro)) <;> first | trivial | exact (m_Net_has X G c z xf base).mono (by decide)
theorem m_Net_rise (X : K.In h) (G : h.Ns mainGlobals mg) (c : He.SaysD fa fn K) (z : ∃ o, K.lookup sysModules = some o) (xf : ∀ f ∈ xs, f K = true) (base : Heap) : MOk P w K mg base 3 0 (.mth "rise" sp_Net_rise) := by
  obtain ⟨fd, F⟩ := c.def_ 21 (d := d_Net_rise) rfl
  refine ⟨_, _, cl_of (C := 0) (He.glo_ok X G (c.fact 40 (f := .glo "Net") rfl)), He.cls_ok (c.fact 41 (f := .cls "Net") rfl), by decide +kernel, He.meth_ok (c.fact 47 (f := .meth "Net" "rise") rfl), FnG.gc (fnG_of (k := 2) F sc_Net_rise (F.bindsN fun _ _ _ _ _ _ us hl => match us, hl with | [_, _, _], _ => rfl) mt_Net_rise (free X G c) z ?_) pr_Net_rise⟩
  simp only [b_Net_rise, okSs, okS_, okE, okEs, okEo, okTg, okTs, okI, and_true, true_and, and_self]
  first | trivial | exact (f_need_place X G c z xf base).mono (by decide) | (repeat' (first | apply And.intro)) <;> first | trivial | exact (f_need_place X G c z xf base).mono (by decide) | exact (l_0 X G c z xf base).mono (by decide)
theorem f_need_leg (X : K.In h) (G : h.Ns mainGlobals mg) (c : He.SaysD fa fn K) (z : ∃ o, K.lookup sysModules = some o) (xf : ∀ f ∈ xs, f K = true) (base : Heap) : FOk P w K mg base 4 "need_leg" sp_need_leg := by
  obtain ⟨fd, F⟩ := c.def_ 22 (d := d_need_leg) rfl
  refine .inl ⟨_, He.glo_ok X G (c.fact 20 (f := .glo "need_leg") rfl), F.kp, FnG.gc (fnG_of (k := 3) F sc_need_leg (F.bindsN fun _ _ _ _ _ _ us hl => match us, hl with | [_, _], _ => rfl) mt_need_leg (free X G c) z ?_) pr_need_leg⟩
  simp only [b_need_leg, okSs, okS_, okE, okEs, okEo, okTg, okTs, okI, and_true, true_and, and_self]
  first | trivial | exact (f_is_leg X G c z xf base).mono (by decide) | (repeat' (first | apply And.intro)) <;> first | trivial | exact (f_is_leg X G c z xf base).mono (by decide) | exact (f_need_place X G c z xf base).mono (by decide) | exact (m_Net_rise X G c z xf base).mono (by decide)
theorem f_Net (X : K.In h) (G : h.Ns mainGlobals mg) (c : He.SaysD fa fn K) (z : ∃ o, K.lookup sysModules = some o) (xf : ∀ f ∈ xs, f K = true) (base : Heap) : FOk P w K mg base 6 "Net" sp_Net := by
  obtain ⟨fd, F⟩ := c.def_ 23 (d := d_Net_init) rfl
  refine .inr ⟨0, _, _, 5, _, rfl, cl_of (C := 0) (He.glo_ok X G (c.fact 40 (f := .glo "Net") rfl)), He.mkr_ok (c.fact 42 (f := .mkr "Net") rfl), by decide, (fnG_of (k := 4) F sc_Net_init (F.bindsN fun _ _ _ _ _ _ us hl => match us, hl with | [_, _, _], _ => rfl) mt_Net_init (free X G c) z ?_), pr_Net⟩
  simp only [b_Net_init, okSs, okS_, okE, okEs, okEo, okTg, okTs, okI, and_true, true_and, and_self]
  first | trivial | exact (f_is_list_s X G c z xf base).mono (by decide) | (repeat' (first | apply And.intro)) <;> first | trivial | exact (f_is_list_s X G c z xf base).mono (by decide) | exact (f_is_name X G c z xf base).mono (by decide) | exact (f_need_leg X G c z xf base).mono (by decide) | exact (l_0 X G c z xf base).mono (by decide) | exact c_MOST_PLACES X G c xf | exact c_MOST_LEGS X G c xf
theorem f_law_ranges (X : K.In h) (G : h.Ns mainGlobals mg) (c : He.SaysD fa fn K) (z : ∃ o, K.lookup sysModules = some o) (xf : ∀ f ∈ xs, f K = true) (base : Heap) : FOk P w K mg base 1 "_law_ranges" sp_law_ranges := by
  obtain ⟨fd, F⟩ := c.def_ 24 (d := d_law_ranges) rfl
  refine .inl ⟨_, He.glo_ok X G (c.fact 21 (f := .glo "_law_ranges") rfl), F.kp, FnG.gc (fnG_of (k := 0) F sc_law_ranges (F.bindsN fun _ _ _ _ _ _ us hl => match us, hl with | [_, _, _], _ => rfl) mt_law_ranges (free X G c) z ?_) pr_law_ranges⟩
  simp only [b_law_ranges, okSs, okS_, okE, okEs, okEo, okTg, okTs, okI, and_true, true_and, and_self]
theorem f_need_net (X : K.In h) (G : h.Ns mainGlobals mg) (c : He.SaysD fa fn K) (z : ∃ o, K.lookup sysModules = some o) (xf : ∀ f ∈ xs, f K = true) (base : Heap) : FOk P w K mg base 1 "need_net" sp_need_net := by
  obtain ⟨fd, F⟩ := c.def_ 25 (d := d_need_net) rfl
  refine .inl ⟨_, He.glo_ok X G (c.fact 22 (f := .glo "need_net") rfl), F.kp, FnG.gc (fnG_of (k := 0) F sc_need_net (F.bindsN fun _ _ _ _ _ _ us hl => match us, hl with | [_], _ => rfl) mt_need_net (free X G c) z ?_) pr_need_net⟩
  simp only [b_need_net, okSs, okS_, okE, okEs, okEo, okTg, okTs, okI, and_true, true_and, and_self]
  first | trivial | exact (i_0 X G c z xf base).mono (by decide) | (repeat' (first | apply And.intro)) <;> first | trivial | exact (i_0 X G c z xf base).mono (by decide)
theorem f_is_list (X : K.In h) (G : h.Ns mainGlobals mg) (c : He.SaysD fa fn K) (z : ∃ o, K.lookup sysModules = some o) (xf : ∀ f ∈ xs, f K = true) (base : Heap) : FOk P w K mg base 1 "is_list" sp_is_list := by
  obtain ⟨fd, F⟩ := c.def_ 14 (d := d_is_list) rfl
  refine .inl ⟨_, He.glo_ok X G (c.fact 14 (f := .glo "is_list") rfl), F.kp, FnG.gc (fnG_of (k := 0) F sc_is_list (F.bindsN fun _ _ _ _ _ _ us hl => match us, hl with | [_, _], _ => rfl) mt_is_list (free X G c) z ?_) pr_is_list⟩
  simp only [b_is_list, okSs, okS_, okE, okEs, okEo, okTg, okTs, okI, and_true, true_and, and_self]
theorem f_is_depth (X : K.In h) (G : h.Ns mainGlobals mg) (c : He.SaysD fa fn K) (z : ∃ o, K.lookup sysModules = some o) (xf : ∀ f ∈ xs, f K = true) (base : Heap) : FOk P w K mg base 2 "is_depth" sp_is_depth := by
  obtain ⟨fd, F⟩ := c.def_ 26 (d := d_is_depth) rfl
  refine .inl ⟨_, He.glo_ok X G (c.fact 23 (f := .glo "is_depth") rfl), F.kp, FnG.gc (fnG_of (k := 1) F sc_is_depth (F.bindsN fun _ _ _ _ _ _ us hl => match us, hl with | [_], _ => rfl) mt_is_depth (free X G c) z ?_) pr_is_depth⟩
  simp only [b_is_depth, okSs, okS_, okE, okEs, okEo, okTg, okTs, okI, and_true, true_and, and_self]
  first | trivial | exact (f_is_integer X G c z xf base).mono (by decide) | (repeat' (first | apply And.intro)) <;> first | trivial | exact (f_is_integer X G c z xf base).mono (by decide) | exact c_DEEPEST X G c xf
theorem f_is_sounding (X : K.In h) (G : h.Ns mainGlobals mg) (c : He.SaysD fa fn K) (z : ∃ o, K.lookup sysModules = some o) (xf : ∀ f ∈ xs, f K = true) (base : Heap) : FOk P w K mg base 3 "is_sounding" sp_is_sounding := by
  obtain ⟨fd, F⟩ := c.def_ 27 (d := d_is_sounding) rfl
  refine .inl ⟨_, He.glo_ok X G (c.fact 24 (f := .glo "is_sounding") rfl), F.kp, FnG.gc (fnG_of (k := 2) F sc_is_sounding (F.bindsN fun _ _ _ _ _ _ us hl => match us, hl with | [_], _ => rfl) mt_is_sounding (free X G c) z ?_) pr_is_sounding⟩
  simp only [b_is_sounding, okSs, okS_, okE, okEs, okEo, okTg, okTs, okI, and_true, true_and, and_self]
  first | trivial | exact (f_is_tuple X G c z xf base).mono (by decide) | (repeat' (first | apply And.intro)) <;> first | trivial | exact (f_is_tuple X G c z xf base).mono (by decide) | exact (f_is_name X G c z xf base).mono (by decide) | exact (f_is_depth X G c z xf base).mono (by decide)
theorem f_is_log (X : K.In h) (G : h.Ns mainGlobals mg) (c : He.SaysD fa fn K) (z : ∃ o, K.lookup sysModules = some o) (xf : ∀ f ∈ xs, f K = true) (base : Heap) : FOk P w K mg base 4 "is_log" sp_is_log := by
  obtain ⟨fd, F⟩ := c.def_ 28 (d := d_is_log) rfl
  refine .inl ⟨_, He.glo_ok X G (c.fact 25 (f := .glo "is_log") rfl), F.kp, FnG.gc (fnG_of (k := 3) F sc_is_log (F.bindsN fun _ _ _ _ _ _ us hl => match us, hl with | [_], _ => rfl) mt_is_log (free X G c) z ?_) pr_is_log⟩
  simp only [b_is_log, okSs, okS_, okE, okEs, okEo, okTg, okTs, okI, and_true, true_and, and_self]
  first | trivial | exact (f_is_list X G c z xf base).mono (by decide) | (repeat' (first | apply And.intro)) <;> first | trivial | exact (f_is_list X G c z xf base).mono (by decide) | exact (f_is_sounding X G c z xf base).mono (by decide) | exact c_MOST_SOUNDINGS X G c xf
theorem f_need_log (X : K.In h) (G : h.Ns mainGlobals mg) (c : He.SaysD fa fn K) (z : ∃ o, K.lookup sysModules = some o) (xf : ∀ f ∈ xs, f K = true) (base : Heap) : FOk P w K mg base 5 "need_log" sp_need_log := by
  obtain ⟨fd, F⟩ := c.def_ 29 (d := d_need_log) rfl
  refine .inl ⟨_, He.glo_ok X G (c.fact 26 (f := .glo "need_log") rfl), F.kp, FnG.gc (fnG_of (k := 4) F sc_need_log (F.bindsN fun _ _ _ _ _ _ us hl => match us, hl with | [_, _], _ => rfl) mt_need_log (free X G c) z ?_) pr_need_log⟩
  simp only [b_need_log, okSs, okS_, okE, okEs, okEo, okTg, okTs, okI, and_true, true_and, and_self]
  first | trivial | exact (f_need_net X G c z xf base).mono (by decide) | (repeat' (first | apply And.intro)) <;> first | trivial | exact (f_need_net X G c z xf base).mono (by decide) | exact (f_is_log X G c z xf base).mono (by decide) | exact (f_need_place X G c z xf base).mono (by decide)
theorem m_Net_legs (X : K.In h) (G : h.Ns mainGlobals mg) (c : He.SaysD fa fn K) (z : ∃ o, K.lookup sysModules = some o) (xf : ∀ f ∈ xs, f K = true) (base : Heap) : MOk P w K mg base 1 0 (.mth "legs" sp_Net_legs) := by
  obtain ⟨fd, F⟩ := c.def_ 30 (d := d_Net_legs) rfl
  refine ⟨_, _, cl_of (C := 0) (He.glo_ok X G (c.fact 40 (f := .glo "Net") rfl)), He.cls_ok (c.fact 41 (f := .cls "Net") rfl), by decide +kernel, He.meth_ok (c.fact 49 (f := .meth "Net" "legs") rfl), FnG.gc (fnG_of (k := 0) F sc_Net_legs (F.bindsN fun _ _ _ _ _ _ us hl => match us, hl with | [_], _ => rfl) mt_Net_legs (free X G c) z ?_) pr_Net_legs⟩
  simp only [b_Net_legs, okSs, okS_, okE, okEs, okEo, okTg, okTs, okI, and_true, true_and, and_self]
  first | trivial | exact (l_0 X G c z xf base).mono (by decide) | (repeat' (first | apply And.intro)) <;> first | trivial | exact (l_0 X G c z xf base).mono (by decide)
theorem f_reached (X : K.In h) (G : h.Ns mainGlobals mg) (c : He.SaysD fa fn K) (z : ∃ o, K.lookup sysModules = some o) (xf : ∀ f ∈ xs, f K = true) (base : Heap) : FOk P w K mg base 2 "reached" sp_reached := by
  obtain ⟨fd, F⟩ := c.def_ 31 (d := d_reached) rfl
  refine .inl ⟨_, He.glo_ok X G (c.fact 27 (f := .glo "reached") rfl), F.kp, FnG.gc (fnG_of (k := 1) F sc_reached (F.bindsN fun _ _ _ _ _ _ us hl => match us, hl with | [_, _], _ => rfl) mt_reached (free X G c) z ?_) pr_reached⟩
  simp only [b_reached, okSs, okS_, okE, okEs, okEo, okTg, okTs, okI, and_true, true_and, and_self]
  first | trivial | exact (m_Net_legs X G c z xf base).mono (by decide) | (repeat' (first | apply And.intro)) <;> first | trivial | exact (m_Net_legs X G c z xf base).mono (by decide)
theorem f_reach_from (X : K.In h) (G : h.Ns mainGlobals mg) (c : He.SaysD fa fn K) (z : ∃ o, K.lookup sysModules = some o) (xf : ∀ f ∈ xs, f K = true) (base : Heap) : FOk P w K mg base 3 "reach_from" sp_reach_from := by
  obtain ⟨fd, F⟩ := c.def_ 32 (d := d_reach_from) rfl
  refine .inl ⟨_, He.glo_ok X G (c.fact 28 (f := .glo "reach_from") rfl), F.kp, FnG.gc (fnG_of (k := 2) F sc_reach_from (F.bindsN fun _ _ _ _ _ _ us hl => match us, hl with | [_, _], _ => rfl) mt_reach_from (free X G c) z ?_) pr_reach_from⟩
  simp only [b_reach_from, okSs, okS_, okE, okEs, okEo, okTg, okTs, okI, and_true, true_and, and_self]
  first | trivial | exact (f_reached X G c z xf base).mono (by decide) | (repeat' (first | apply And.intro)) <;> first | trivial | exact (f_reached X G c z xf base).mono (by decide)
theorem f_reaches (X : K.In h) (G : h.Ns mainGlobals mg) (c : He.SaysD fa fn K) (z : ∃ o, K.lookup sysModules = some o) (xf : ∀ f ∈ xs, f K = true) (base : Heap) : FOk P w K mg base 4 "reaches" sp_reaches := by
  obtain ⟨fd, F⟩ := c.def_ 33 (d := d_reaches) rfl
  refine .inl ⟨_, He.glo_ok X G (c.fact 29 (f := .glo "reaches") rfl), F.kp, FnG.gc (fnG_of (k := 3) F sc_reaches (F.bindsN fun _ _ _ _ _ _ us hl => match us, hl with | [_, _], _ => rfl) mt_reaches (free X G c) z ?_) pr_reaches⟩
  simp only [b_reaches, okSs, okS_, okE, okEs, okEo, okTg, okTs, okI, and_true, true_and, and_self]
  first | trivial | exact (f_reach_from X G c z xf base).mono (by decide) | (repeat' (first | apply And.intro)) <;> first | trivial | exact (f_reach_from X G c z xf base).mono (by decide)
theorem f_is_too_deep (X : K.In h) (G : h.Ns mainGlobals mg) (c : He.SaysD fa fn K) (z : ∃ o, K.lookup sysModules = some o) (xf : ∀ f ∈ xs, f K = true) (base : Heap) : FOk P w K mg base 1 "is_too_deep" sp_is_too_deep := by
  obtain ⟨fd, F⟩ := c.def_ 34 (d := d_is_too_deep) rfl
  refine .inl ⟨_, He.glo_ok X G (c.fact 30 (f := .glo "is_too_deep") rfl), F.kp, FnG.gc (fnG_of (k := 0) F sc_is_too_deep (F.bindsN fun _ _ _ _ _ _ us hl => match us, hl with | [_, _, _], _ => rfl) mt_is_too_deep (free X G c) z ?_) pr_is_too_deep⟩
  simp only [b_is_too_deep, okSs, okS_, okE, okEs, okEo, okTg, okTs, okI, and_true, true_and, and_self]
theorem f_climbs (X : K.In h) (G : h.Ns mainGlobals mg) (c : He.SaysD fa fn K) (z : ∃ o, K.lookup sysModules = some o) (xf : ∀ f ∈ xs, f K = true) (base : Heap) : FOk P w K mg base 5 "climbs" sp_climbs := by
  obtain ⟨fd, F⟩ := c.def_ 35 (d := d_climbs) rfl
  refine .inl ⟨_, He.glo_ok X G (c.fact 31 (f := .glo "climbs") rfl), F.kp, FnG.gc (fnG_of (k := 4) F sc_climbs (F.bindsN fun _ _ _ _ _ _ us hl => match us, hl with | [_, _], _ => rfl) mt_climbs (free X G c) z ?_) pr_climbs⟩
  simp only [b_climbs, okSs, okS_, okE, okEs, okEo, okTg, okTs, okI, and_true, true_and, and_self]
  first | trivial | exact (f_reaches X G c z xf base).mono (by decide) | (repeat' (first | apply And.intro)) <;> first | trivial | exact (f_reaches X G c z xf base).mono (by decide) | exact (f_is_too_deep X G c z xf base).mono (by decide)
theorem f_all_clashes (X : K.In h) (G : h.Ns mainGlobals mg) (c : He.SaysD fa fn K) (z : ∃ o, K.lookup sysModules = some o) (xf : ∀ f ∈ xs, f K = true) (base : Heap) : FOk P w K mg base 6 "all_clashes" sp_all_clashes := by
  obtain ⟨fd, F⟩ := c.def_ 36 (d := d_all_clashes) rfl
  refine .inl ⟨_, He.glo_ok X G (c.fact 32 (f := .glo "all_clashes") rfl), F.kp, FnG.gc (fnG_of (k := 5) F sc_all_clashes (F.bindsN fun _ _ _ _ _ _ us hl => match us, hl with | [_, _], _ => rfl) mt_all_clashes (free X G c) z ?_) pr_all_clashes⟩
  simp only [b_all_clashes, okSs, okS_, okE, okEs, okEo, okTg, okTs, okI, and_true, true_and, and_self]
  first | trivial | exact (f_climbs X G c z xf base).mono (by decide) | (repeat' (first | apply And.intro)) <;> first | trivial | exact (f_climbs X G c z xf base).mono (by decide)
theorem f_need_fit (X : K.In h) (G : h.Ns mainGlobals mg) (c : He.SaysD fa fn K) (z : ∃ o, K.lookup sysModules = some o) (xf : ∀ f ∈ xs, f K = true) (base : Heap) : FOk P w K mg base 7 "need_fit" sp_need_fit := by
  obtain ⟨fd, F⟩ := c.def_ 37 (d := d_need_fit) rfl
  refine .inl ⟨_, He.glo_ok X G (c.fact 33 (f := .glo "need_fit") rfl), F.kp, FnG.gc (fnG_of (k := 6) F sc_need_fit (F.bindsN fun _ _ _ _ _ _ us hl => match us, hl with | [_, _], _ => rfl) mt_need_fit (free X G c) z ?_) pr_need_fit⟩
  simp only [b_need_fit, okSs, okS_, okE, okEs, okEo, okTg, okTs, okI, and_true, true_and, and_self]
  first | trivial | exact (f_all_clashes X G c z xf base).mono (by decide) | (repeat' (first | apply And.intro)) <;> first | trivial | exact (f_all_clashes X G c z xf base).mono (by decide)
theorem m_Net_places (X : K.In h) (G : h.Ns mainGlobals mg) (c : He.SaysD fa fn K) (z : ∃ o, K.lookup sysModules = some o) (xf : ∀ f ∈ xs, f K = true) (base : Heap) : MOk P w K mg base 1 0 (.mth "places" sp_Net_places) := by
  obtain ⟨fd, F⟩ := c.def_ 38 (d := d_Net_places) rfl
  refine ⟨_, _, cl_of (C := 0) (He.glo_ok X G (c.fact 40 (f := .glo "Net") rfl)), He.cls_ok (c.fact 41 (f := .cls "Net") rfl), by decide +kernel, He.meth_ok (c.fact 50 (f := .meth "Net" "places") rfl), FnG.gc (fnG_of (k := 0) F sc_Net_places (F.bindsN fun _ _ _ _ _ _ us hl => match us, hl with | [_], _ => rfl) mt_Net_places (free X G c) z ?_) pr_Net_places⟩
  simp only [b_Net_places, okSs, okS_, okE, okEs, okEo, okTg, okTs, okI, and_true, true_and, and_self]
  first | trivial | exact (l_0 X G c z xf base).mono (by decide) | (repeat' (first | apply And.intro)) <;> first | trivial | exact (l_0 X G c z xf base).mono (by decide)
theorem f_stretches (X : K.In h) (G : h.Ns mainGlobals mg) (c : He.SaysD fa fn K) (z : ∃ o, K.lookup sysModules = some o) (xf : ∀ f ∈ xs, f K = true) (base : Heap) : FOk P w K mg base 5 "stretches" sp_stretches := by
  obtain ⟨fd, F⟩ := c.def_ 39 (d := d_stretches) rfl
  refine .inl ⟨_, He.glo_ok X G (c.fact 34 (f := .glo "stretches") rfl), F.kp, FnG.gc (fnG_of (k := 4) F sc_stretches (F.bindsN fun _ _ _ _ _ _ us hl => match us, hl with | [_, _], _ => rfl) mt_stretches (free X G c) z ?_) pr_stretches⟩
  simp only [b_stretches, okSs, okS_, okE, okEs, okEo, okTg, okTs, okI, and_true, true_and, and_self]
  first | trivial | exact (f_reaches X G c z xf base).mono (by decide) | (repeat' (first | apply And.intro)) <;> first | trivial | exact (f_reaches X G c z xf base).mono (by decide) | exact (m_Net_places X G c z xf base).mono (by decide)
theorem f_fixed_places (X : K.In h) (G : h.Ns mainGlobals mg) (c : He.SaysD fa fn K) (z : ∃ o, K.lookup sysModules = some o) (xf : ∀ f ∈ xs, f K = true) (base : Heap) : FOk P w K mg base 8 "fixed_places" sp_fixed_places := by
  obtain ⟨fd, F⟩ := c.def_ 40 (d := d_fixed_places) rfl
  refine .inl ⟨_, He.glo_ok X G (c.fact 35 (f := .glo "fixed_places") rfl), F.kp, FnG.imp (fnG_of (k := 7) F sc_fixed_places (F.bindsN fun _ _ _ _ _ _ us hl => match us, hl with | [_, _], _ => rfl) mt_fixed_places (free X G c) z ?_) pr_fixed_places⟩
  simp only [b_fixed_places, okSs, okS_, okE, okEs, okEo, okTg, okTs, okI, and_true, true_and, and_self]
  first | trivial | exact (f_need_log X G c z xf base).mono (by decide) | (repeat' (first | apply And.intro)) <;> first | trivial | exact (f_need_log X G c z xf base).mono (by decide) | exact (f_need_fit X G c z xf base).mono (by decide) | exact (f_stretches X G c z xf base).mono (by decide) | exact (m_Net_places X G c z xf base).mono (by decide)
theorem f_law_even (X : K.In h) (G : h.Ns mainGlobals mg) (c : He.SaysD fa fn K) (z : ∃ o, K.lookup sysModules = some o) (xf : ∀ f ∈ xs, f K = true) (base : Heap) : FOk P w K mg base 1 "_law_even" sp_law_even := by
  obtain ⟨fd, F⟩ := c.def_ 41 (d := d_law_even) rfl
  refine .inl ⟨_, He.glo_ok X G (c.fact 36 (f := .glo "_law_even") rfl), F.kp, FnG.gc (fnG_of (k := 0) F sc_law_even (F.bindsN fun _ _ _ _ _ _ us hl => match us, hl with | [_, _], _ => rfl) mt_law_even (free X G c) z ?_) pr_law_even⟩
  simp only [b_law_even, okSs, okS_, okE, okEs, okEo, okTg, okTs, okI, and_true, true_and, and_self]
theorem f_next_place (X : K.In h) (G : h.Ns mainGlobals mg) (c : He.SaysD fa fn K) (z : ∃ o, K.lookup sysModules = some o) (xf : ∀ f ∈ xs, f K = true) (base : Heap) : FOk P w K mg base 8 "next_place" sp_next_place := by
  obtain ⟨fd, F⟩ := c.def_ 42 (d := d_next_place) rfl
  refine .inl ⟨_, He.glo_ok X G (c.fact 37 (f := .glo "next_place") rfl), F.kp, FnG.gc (fnG_of (k := 7) F sc_next_place (F.bindsN fun _ _ _ _ _ _ us hl => match us, hl with | [_, _], _ => rfl) mt_next_place (free X G c) z ?_) pr_next_place⟩
  simp only [b_next_place, okSs, okS_, okE, okEs, okEo, okTg, okTs, okI, and_true, true_and, and_self]
  first | trivial | exact (f_need_log X G c z xf base).mono (by decide) | (repeat' (first | apply And.intro)) <;> first | trivial | exact (f_need_log X G c z xf base).mono (by decide) | exact (f_need_fit X G c z xf base).mono (by decide) | exact (f_stretches X G c z xf base).mono (by decide) | exact (m_Net_places X G c z xf base).mono (by decide)
theorem f_law_right (X : K.In h) (G : h.Ns mainGlobals mg) (c : He.SaysD fa fn K) (z : ∃ o, K.lookup sysModules = some o) (xf : ∀ f ∈ xs, f K = true) (base : Heap) : FOk P w K mg base 9 "_law_right" sp_law_right := by
  obtain ⟨fd, F⟩ := c.def_ 43 (d := d_law_right) rfl
  refine .inl ⟨_, He.glo_ok X G (c.fact 38 (f := .glo "_law_right") rfl), F.kp, FnG.gc (fnG_of (k := 8) F sc_law_right (F.bindsN fun _ _ _ _ _ _ us hl => match us, hl with | [_, _, _, _], _ => rfl) mt_law_right (free X G c) z ?_) pr_law_right⟩
  simp only [b_law_right, okSs, okS_, okE, okEs, okEo, okTg, okTs, okI, and_true, true_and, and_self]
  first | trivial | exact (f_law_ranges X G c z xf base).mono (by decide) | (repeat' (first | apply And.intro)) <;> first | trivial | exact (f_law_ranges X G c z xf base).mono (by decide) | exact (f_fixed_places X G c z xf base).mono (by decide) | exact (f_law_even X G c z xf base).mono (by decide) | exact (f_next_place X G c z xf base).mono (by decide)
theorem f_law (X : K.In h) (G : h.Ns mainGlobals mg) (c : He.SaysD fa fn K) (z : ∃ o, K.lookup sysModules = some o) (xf : ∀ f ∈ xs, f K = true) (base : Heap) : FOk P w K mg base 10 "law" sp_law := by
  obtain ⟨fd, F⟩ := c.def_ 44 (d := d_law) rfl
  refine .inl ⟨_, He.glo_ok X G (c.fact 39 (f := .glo "law") rfl), F.kp, FnG.imp (fnG_of (k := 9) F sc_law (F.bindsN fun _ _ _ _ _ _ us hl => match us, hl with | [_], _ => rfl) mt_law (free X G c) z ?_) pr_law⟩
  simp only [b_law, okSs, okS_, okE, okEs, okEo, okTg, okTs, okI, and_true, true_and, and_self]
  first | trivial | exact (f_law_box X G c z xf base).mono (by decide) | (repeat' (first | apply And.intro)) <;> first | trivial | exact (f_law_box X G c z xf base).mono (by decide) | exact (f_law_cell X G c z xf base).mono (by decide) | exact (f_law_stand X G c z xf base).mono (by decide) | exact (f_law_bed X G c z xf base).mono (by decide) | exact (f_law_log X G c z xf base).mono (by decide) | exact (f_law_take X G c z xf base).mono (by decide) | exact (f_Net X G c z xf base).mono (by decide) | exact (f_law_right X G c z xf base).mono (by decide) | exact (f_next_place X G c z xf base).mono (by decide) | exact (f_law_even X G c z xf base).mono (by decide) | exact (f_fixed_places X G c z xf base).mono (by decide)
end
end Hd
open PySem PySem.W PySem.Calls PyProof.Rows in
theorem PySem.Challenge.cw_leadsman_k30_fixed_places_and_the_next_holds : PySem.Challenge.rw_leadsman_k30_fixed_places_and_the_next.Holds := by
  w_on; o_law
  refine HandSHeadRun.head_any (r := OpenLaw.row PySem.Challenge.rw_leadsman_k30_fixed_places_and_the_next) (q := view (OpenLaw.row PySem.Challenge.rw_leadsman_k30_fixed_places_and_the_next).prog [0, 2, 3, 4, 5, 6, 7, 8, 9, 10, 11, 12, 14, 15, 16, 17, 18, 19, 20, 21, 23, 24, 25, 26, 27, 28, 29, 30, 31, 32, 33, 35, 36, 38, 39, 40, 41, 42, 43, 44, 45, 47, 48, 49, 50, 52, 53, 54, 55, 56, 57, 58, 59, 60, 61, 62, 63, 64, 65, 66, 67, 68, 69]) (H := Hd.hk) (ob := Hd.ob) (M := 7000) (loose := Hd.loose) (d := HandSHeadRun.topDef (OpenLaw.row PySem.Challenge.rw_leadsman_k30_fixed_places_and_the_next).prog 69) (kwd := []) Hd.ob_eq
    (by kernel_rfl) (fun s => by kernel_rfl) Hd.run (by kernel_rfl) (by kernel_rfl) (by kernel_rfl) (by rfl) (by first | assumption | decide +kernel) (by decide +kernel) ⟨rfl, rfl, rfl, rfl, rfl, by decide +kernel⟩ ?hw ?hc
  case hw => w_witness2
  case hc =>
    refine Lw.law_walk (l := PySem.Challenge.rw_leadsman_k30_fixed_places_and_the_next) (n := 63) (k := 10) rfl (by decide) (by kernel_rfl) ⟨rfl, by decide, by decide⟩ ?F
    intro w mg fa h Y G hmg0
    obtain ⟨K, KX, c, z, xf⟩ := Y
    have hmg : mg ("law" : PySem.Str) = some (.ref fa) := by
      have e : (HandSHeadRun.topDef (OpenLaw.row PySem.Challenge.rw_leadsman_k30_fixed_places_and_the_next).prog 69).name = ("law" : PySem.Str) := by kernel_rfl
      rw [← e]
      exact hmg0
    refine ⟨K, Lw.sp_law, KX, fun ns hl => ⟨ns, rfl, hl, fun _ => rfl⟩, fun base _ _ => ?_⟩
    rcases Hd.f_law (P := (PySem.Challenge.rw_leadsman_k30_fixed_places_and_the_next).prog) (w := w) KX G c z xf base with ⟨f, e1, _, F⟩ | ⟨C, Ca, f, j, sp0, e, _⟩
    · rw [hmg] at e1
      cases e1
      exact F
    · exact absurd e (Lw.cname_law C)
