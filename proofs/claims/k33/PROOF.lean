import PyProof.Rows.All
import Wide.All
import OpenK.AllK
import Wide.FinOn
import PySem.Str
import HandS.Lambda
import HandS.WordsExc
import HandS.TupAny
import HandS.TupMul
import HandS.Deep
import HandS.Text
import HandS.Style
import HandS.DictTup
import HandS.TupSets
import HandS.ReplaceList
import HandS.Walk
import HandS.Comp
import HandS.IsInst
import HandS.SortInts
import HandS.SortRule
import HandS.Conv
import KE.GoesMore
import HandS.Zip
import HandS.NoneIn
import KE.KDictPairs
import HandS.ExcIs
import HandS.SetFor
import HandS.EndTab
import PyProof.StrOps2
import KE.DataMinMax
import KE.DataMinKey
import KE.DataFind
import PySem.Challenge.RW_lookhalls_k33_whole_where_no_way_leads
set_option Elab.async false
set_option linter.all false
set_option maxRecDepth 100000
namespace PV
open PySem
/-! ### data and results -/
inductive D where
  | non | bl (b : Bool) | int (i : Int) | str (s : Str)
  | tup (xs : List D) | ctup (xs : List D) | lst (xs : List D) | scr (ns : List Int) | dct (kvs : List (List Int × D)) | obj (C : Str) (fs : List (Str × D))
inductive Res (α : Type) where
  | ok (a : α) | ex (c : Str) | no
namespace Res
def bind {α β : Type} : Res α → (α → Res β) → Res β
  | .ok a, f => f a
  | .ex c, _ => .ex c
  | .no, _ => .no
theorem ok_bind {α β : Type} (a : α) (f : α → Res β) : (Res.ok a).bind f = f a := rfl
theorem ex_bind {α β : Type} (c : Str) (f : α → Res β) : (Res.ex c).bind f = .ex c := rfl
end Res
def Res.of {α : Type} : Option α → Res α
  | some a => .ok a
  | none => .no
def Res.nox {α : Type} : Res α → Res α
  | .ok a => .ok a
  | _ => .no
theorem Res.no_bind {α β : Type} (f : α → Res β) : (Res.no : Res α).bind f = .no := rfl
theorem Res.ite_bind {α β : Type} (p : Prop) [Decidable p] (x y : Res α) (f : α → Res β) : (if p then x else y).bind f = if p then x.bind f else y.bind f := by
  split <;> rfl
theorem Res.bind_assoc {α β γ : Type} (x : Res α) (f : α → Res β) (g : β → Res γ) : (x.bind f).bind g = x.bind fun a => (f a).bind g := by cases x <;> rfl
theorem Res.of_some {α : Type} (a : α) : Res.of (some a) = .ok a := rfl
theorem Res.of_none {α : Type} : Res.of (none : Option α) = .no := rfl
/-! sorting -/
section
variable {α : Type} (lt : α → α → Bool)
def insB (x : α) : List α → List α
  | [] => [x]
  | y :: l => if lt y x then y :: insB x l else x :: y :: l
def isort : List α → List α
  | [] => []
  | x :: l => insB lt x (isort l)
theorem insB_perm (x : α) : ∀ l : List α, (insB lt x l).Perm (x :: l)
  | [] => .refl _
  | y :: l => by
    unfold insB
    split
    · exact ((insB_perm x l).cons y).trans (.swap x y l)
    · exact .refl _
theorem isort_perm : ∀ l : List α, (isort lt l).Perm l
  | [] => .refl _
  | x :: l => (insB_perm lt x _).trans ((isort_perm l).cons x)
def Sd (l : List α) : Prop := l.Pairwise fun a b => lt b a = false
variable {lt}
theorem insB_sd (tr : ∀ a b c, lt b a = false → lt c b = false → lt c a = false) (as : ∀ a b, lt a b = true → lt b a = false) (x : α) : ∀ l : List α, Sd lt l → Sd lt (insB lt x l)
  | [], _ => List.pairwise_singleton _ _
  | y :: l, h => by
    obtain ⟨h1, h2⟩ := List.pairwise_cons.mp h
    unfold insB
    split
    · rename_i c
      refine List.pairwise_cons.mpr ⟨fun z hz => ?_, insB_sd tr as x l h2⟩
      rcases List.mem_cons.mp ((insB_perm lt x l).mem_iff.mp hz) with e | hz
      · rw [e]; exact as _ _ c
      · exact h1 z hz
    · rename_i c
      have c' : lt y x = false := by cases e : lt y x <;> simp_all
      refine List.pairwise_cons.mpr ⟨fun z hz => ?_, h⟩
      rcases List.mem_cons.mp hz with e | hz
      · rw [e]; exact c'
      · exact tr _ _ _ c' (h1 z hz)
theorem isort_sd (tr : ∀ a b c, lt b a = false → lt c b = false → lt c a = false) (as : ∀ a b, lt a b = true → lt b a = false) : ∀ l : List α, Sd lt (isort lt l)
  | [] => .nil
  | x :: l => insB_sd tr as x _ (isort_sd tr as l)
theorem sd_uniq (an : ∀ a b, lt a b = false → lt b a = false → a = b) : ∀ {l m : List α}, Sd lt l → Sd lt m → l.Perm m → l = m
  | [], m, _, _, p => (List.nil_perm.mp p).symm
  | a :: l, [], _, _, p => (List.perm_nil.mp p)
  | a :: l, b :: m, hl, hm, p => by
    obtain ⟨l1, l2⟩ := List.pairwise_cons.mp hl
    obtain ⟨m1, m2⟩ := List.pairwise_cons.mp hm
    have hab : a = b := by
      rcases List.mem_cons.mp (p.mem_iff.mp (List.mem_cons_self (a := a) (l := l))) with e | ha
      · exact e
      · rcases List.mem_cons.mp (p.mem_iff.mpr (List.mem_cons_self (a := b) (l := m))) with e | hb
        · exact e.symm
        · exact an _ _ (m1 a ha) (l1 b hb)
    subst hab
    rw [sd_uniq an l2 m2 p.cons_inv]
end
def ltZ (a b : Int) : Bool := decide (a < b)
theorem ltZ_tr (a b c : Int) (h : ltZ b a = false) (g : ltZ c b = false) : ltZ c a = false := by unfold ltZ at *; rw [decide_eq_false_iff_not] at *; omega
theorem ltZ_as (a b : Int) (h : ltZ a b = true) : ltZ b a = false := by unfold ltZ at *; rw [decide_eq_false_iff_not]; rw [decide_eq_true_eq] at h; omega
theorem ltZ_an (a b : Int) (h : ltZ a b = false) (g : ltZ b a = false) : a = b := by unfold ltZ at *; rw [decide_eq_false_iff_not] at *; omega
/-- which of the five refusals -/
def toldIx (c : Str) : Option Nat := if c = "NoCell" then some 0 else if c = "TooMany" then some 1 else if c = "NoWay" then some 2 else if c = "NoDeed" then some 3 else if c = "NoText" then some 4 else none
end PV
/-! T0: what typed values of a def are made of: plain Lean, no machine. Res.no: nothing is claimed (too long, too great, no such place) -/
namespace PV
abbrev Tx := List Char
abbrev Cell := Int × Int
abbrev Hl := List Tx × Int
def SZ : Nat := 16777216
def addTx (a b : Tx) : Res Tx := if a.length + b.length ≤ SZ then .ok (a ++ b) else .no
inductive Told (α : Type) where
  | told (a : α) | ref (k : Int)
deriving DecidableEq
def toldR {α : Type} : Res α → Res (Told α)
  | .ok a => .ok (.told a)
  | .ex c => match toldIx c with
    | some k => .ok (.ref k)
    | none => .no
  | .no => .no
def Told.tag {α : Type} : Told α → Tx
  | .told _ => ['t', 'o', 'l', 'd']
  | .ref _ => ['r', 'e', 'f', 'u', 's', 'e', 'd']
def Told.val {α : Type} : Told α → Res α
  | .told a => .ok a
  | .ref _ => .no
section
variable {α β γ X R : Type}
def addL (a b : List α) : Res (List α) := if a.length + b.length ≤ SZ then .ok (a ++ b) else .no
def pushL (a : List α) (x : α) : Res (List α) := if a.length < SZ then .ok (a ++ [x]) else .no
def mulR (i j : Int) : Res Int := if (-(18446744073709551616) < i ∧ i < 18446744073709551616) ∨ (-(18446744073709551616) < j ∧ j < 18446744073709551616) then .ok (i * j) else .no
def fdivR (i j : Int) : Res Int := if 0 < j ∧ j < 1073741824 then .ok (i / j) else .no
def modR (i j : Int) : Res Int := if 0 < j then .ok (i % j) else .no
def ixZ (n : Nat) (i : Int) : Option Nat := if 0 ≤ i then (if i < n then some i.toNat else none) else if -(n : Int) ≤ i then some (i + n).toNat else none
def atZ (xs : List α) (i : Int) : Option α := (ixZ xs.length i).bind fun j => xs[j]?
def ixR (xs : List α) (i : Int) : Res α := .of (atZ xs i)
def txIx (s : Tx) (i : Int) : Res Tx := if s.length ≤ SZ then .of ((atZ s i).map fun c => [c]) else .no
def txLen (s : Tx) : Res Int := if s.length ≤ SZ then .ok s.length else .no
def sIxZ (n d : Nat) : Option Int → Nat
  | none => d
  | some v => if v < 0 then (v + (n : Int)).toNat else min v.toNat n
def cutZ (xs : List α) (lo hi : Option Int) : List α := (xs.drop (sIxZ xs.length 0 lo)).take (sIxZ xs.length xs.length hi - sIxZ xs.length 0 lo)
def txCut (s : Tx) (lo hi : Option Int) : Res Tx := if s.length ≤ SZ then .ok (cutZ s lo hi) else .no
def txRev (s : Tx) : Res Tx := if s.length ≤ SZ then .ok s.reverse else .no
def rngR (j : Int) : Res (List Int) := if -(4611686018427387904) ≤ j ∧ j < 4611686018427387904 then .ok ((List.range j.toNat).map fun i => (i : Nat)) else .no
def rngR2 (i j : Int) : Res (List Int) := if -(4611686018427387904) ≤ i ∧ i < 4611686018427387904 ∧ -(4611686018427387904) ≤ j ∧ j < 4611686018427387904 then .ok ((List.range (j - i).toNat).map fun k => i + (k : Nat)) else .no
def enumZ (xs : List α) : List (Int × α) := xs.zipIdx.map fun p => ((p.2 : Nat), p.1)
def charsZ (s : Tx) : List Tx := s.map fun c => [c]
def strI (i : Int) : Res Tx := if i.natAbs.log2 < 1920 then .ok (toString i).toList else .no
def maxZ : List Int → Int
  | [] => 0
  | [n] => n
  | n :: r => max n (maxZ r)
def minZ : List Int → Int
  | [] => 0
  | [n] => n
  | n :: r => min n (minZ r)
def maxR (l : List Int) : Res Int := if l = [] then .no else .ok (maxZ l)
def minR (l : List Int) : Res Int := if l = [] then .no else .ok (minZ l)
def signIn (c s : Tx) : Res Bool := match c with
  | [c] => .ok (decide (c ∈ s))
  | _ => .no
def signNot (c s : Tx) : Res Bool := match c with
  | [c] => .ok (!decide (c ∈ s))
  | _ => .no
def txList (s : Tx) : Res (List Tx) := if s.length ≤ SZ then .ok (charsZ s) else .no
def lexZ (p q : Int × Int) : Bool := if p.1 = q.1 then decide (p.2 < q.2) else decide (p.1 < q.1)
def sortI (l : List Int) : List Int := isort ltZ l
def sortC (l : List (Int × Int)) : List (Int × Int) := isort lexZ l
def eqB [DecidableEq α] (a b : α) : Bool := decide (a = b)
def memB [DecidableEq α] (a : α) (l : List α) : Bool := decide (a ∈ l)
theorem eqB_iff [DecidableEq α] {a b : α} : eqB a b = true ↔ a = b := decide_eq_true_iff
theorem memB_iff [DecidableEq α] {a : α} {l : List α} : memB a l = true ↔ a ∈ l := decide_eq_true_iff
theorem eqB_self [DecidableEq α] (a : α) : eqB a a = true := decide_eq_true rfl
theorem eqB_f [DecidableEq α] {a b : α} (h : a ≠ b) : eqB a b = false := decide_eq_false h
theorem memB_t [DecidableEq α] {a : α} {l : List α} (h : a ∈ l) : memB a l = true := decide_eq_true h
theorem memB_f [DecidableEq α] {a : α} {l : List α} (h : a ∉ l) : memB a l = false := decide_eq_false h
def absZ (i : Int) : Int := if i < 0 then -i else i
def optR : Option α → Res α
  | some a => .ok a
  | none => .no
def take2 (l : List α) : Res (α × α) := match l with
  | [a, b] => .ok (a, b)
  | _ => .no
/-! dicts -/
def putZ (l : List (Cell × β)) (k : Cell) (v : β) : List (Cell × β) := if (l.any fun p => decide (p.1 = k)) = true then l.map (fun p => if p.1 = k then (p.1, v) else p) else l ++ [(k, v)]
def dictZ (l : List (Cell × β)) : List (Cell × β) := l.foldl (fun acc p => putZ acc p.1 p.2) []
def getZ (l : List (Cell × β)) (k : Cell) : Option β := (l.find? fun p => decide (p.1 = k)).map (·.2)
def getK (l : List (Cell × β)) (k : Cell) : Res β := .of (getZ l k)
def hasK (l : List (Cell × β)) (k : Cell) : Bool := (getZ l k).isSome
def putR (l : List (Cell × β)) (k : Cell) (v : β) : Res (List (Cell × β)) := if l.length < SZ then .ok (putZ l k v) else .no
def keysZ (l : List (Cell × β)) : List Cell := l.map (·.1)
/-! comprehensions, loops -/
def lcGoR (p : α → Res Bool) (v : α → Res β) : List α → Res (List β)
  | [] => .ok []
  | x :: xs => (p x).bind fun k => if k = true then (v x).bind fun y => (lcGoR p v xs).bind fun ys => .ok (y :: ys) else lcGoR p v xs
def lcR (xs : List α) (p : α → Res Bool) (v : α → Res β) : Res (List β) := (lcGoR p v xs).nox.bind fun ys => if ys.length ≤ SZ then .ok ys else .no
inductive Stp (X R : Type) where
  | nx (x : X) | rt (r : R)
def foldR (b : α → X → Res X) : List α → X → Res X
  | [], x => .ok x
  | a :: as, x => (b a x).bind fun y => foldR b as y
def foldS (b : α → X → Res (Stp X R)) : List α → X → Res (Stp X R)
  | [], x => .ok (.nx x)
  | a :: as, x => (b a x).bind fun s => match s with
    | .nx y => foldS b as y
    | .rt r => .ok (.rt r)
def whileR (c : X → Res Bool) (b : X → Res X) : Nat → X → Res X
  | 0, _ => .no
  | n + 1, x => (c x).bind fun k => if k = true then (b x).bind fun y => whileR c b n y else .ok x
def Stp.go {Y : Type} (ret : R → Y) (k : X → Res Y) : Stp X R → Res Y
  | .nx x => k x
  | .rt r => .ok (ret r)
def bindS {Y : Type} (t : Res (Stp X R)) (ret : R → Y) (k : X → Res Y) : Res Y := t.bind (Stp.go ret k)
/-! how they end -/
theorem bindS_nx {Y : Type} (x : X) (ret : R → Y) (k : X → Res Y) : bindS (.ok (.nx x)) ret k = k x := rfl
theorem bindS_rt {Y : Type} (r : R) (ret : R → Y) (k : X → Res Y) : bindS (X := X) (.ok (.rt r)) ret k = .ok (ret r) := rfl
theorem lcGoR_eq {p : α → Res Bool} {v : α → Res β} {p' : α → Bool} {v' : α → β} : ∀ {xs : List α}, (∀ x ∈ xs, p x = .ok (p' x)) → (∀ x ∈ xs, p' x = true → v x = .ok (v' x)) → lcGoR p v xs = .ok ((xs.filter p').map v')
  | [], _, _ => rfl
  | x :: xs, h1, h2 => by
    have ih := lcGoR_eq (xs := xs) (fun y hy => h1 y (List.mem_cons_of_mem _ hy)) (fun y hy => h2 y (List.mem_cons_of_mem _ hy))
    unfold lcGoR
    rw [h1 x List.mem_cons_self, Res.ok_bind]
    cases e : p' x with
    | true => rw [if_pos rfl, h2 x List.mem_cons_self e, Res.ok_bind, ih, List.filter_cons_of_pos e]; rfl
    | false => rw [if_neg Bool.false_ne_true, ih, List.filter_cons_of_neg (by rw [e]; exact Bool.false_ne_true)]
theorem lcR_eq {p : α → Res Bool} {v : α → Res β} {xs : List α} (p' : α → Bool) (v' : α → β) (h1 : ∀ x ∈ xs, p x = .ok (p' x)) (h2 : ∀ x ∈ xs, p' x = true → v x = .ok (v' x)) (hz : (xs.filter p').length ≤ SZ) : lcR xs p v = .ok ((xs.filter p').map v') := by
  unfold lcR
  rw [lcGoR_eq h1 h2]
  show (if _ then _ else _) = _
  rw [if_pos (by rw [List.length_map]; exact hz)]
theorem lcR_all {v : α → Res β} {xs : List α} (v' : α → β) (h2 : ∀ x ∈ xs, v x = .ok (v' x)) (hz : xs.length ≤ SZ) : lcR xs (fun _ => .ok true) v = .ok (xs.map v') := by
  have e : xs.filter (fun _ => true) = xs := List.filter_eq_self.mpr fun _ _ => rfl
  have := lcR_eq (p := fun _ => .ok true) (xs := xs) (v := v) (fun _ => true) v' (fun _ _ => rfl) (fun x hx _ => h2 x hx) (by rw [e]; exact hz)
  rw [e] at this; exact this
theorem lcR_pure {xs : List α} {p : α → Bool} {v : α → β} (hz : xs.length ≤ 16777216) : lcR xs (fun x => .ok (p x)) (fun x => .ok (v x)) = .ok ((xs.filter p).map v) :=
  lcR_eq p v (fun _ _ => rfl) (fun _ _ _ => rfl) (Nat.le_trans (List.length_filter_le _ _) hz)
theorem lcR_filter {xs : List α} {p : α → Bool} (hz : xs.length ≤ 16777216) : lcR xs (fun x => .ok (p x)) (fun x => .ok x) = .ok (xs.filter p) := by
  have := lcR_pure (xs := xs) (p := p) (v := fun x => x) hz
  rw [List.map_id'] at this; exact this
theorem lcR_map {xs : List α} {v : α → β} (hz : xs.length ≤ 16777216) : lcR xs (fun _ => .ok true) (fun x => .ok (v x)) = .ok (xs.map v) := lcR_all v (fun _ _ => rfl) hz
theorem lcR_fil {xs : List α} {p : α → Res Bool} (p' : α → Bool) (h : ∀ x ∈ xs, p x = .ok (p' x)) (hz : xs.length ≤ 16777216) : lcR xs p (fun x => .ok x) = .ok (xs.filter p') := by
  have := lcR_eq (p := p) (v := fun x : α => Res.ok x) p' (fun x => x) h (fun _ _ _ => rfl) (Nat.le_trans (List.length_filter_le _ _) hz)
  rw [List.map_id'] at this; exact this
/-- F: the state by what was walked so far -/
theorem foldR_eq {b : α → X → Res X} (F : List α → X) : ∀ (post pre : List α), (∀ p a q, pre ++ post = p ++ a :: q → b a (F p) = .ok (F (p ++ [a]))) → foldR b post (F pre) = .ok (F (pre ++ post))
  | [], pre, _ => by rw [List.append_nil]; rfl
  | a :: post, pre, h => by
    have e : pre ++ a :: post = (pre ++ [a]) ++ post := by rw [List.append_assoc]; rfl
    show (b a (F pre)).bind _ = _
    rw [h pre a post rfl, Res.ok_bind, e]
    exact foldR_eq F post (pre ++ [a]) fun p x q eq => h p x q (by rw [e]; exact eq)
theorem foldR_by {b : α → X → Res X} {xs : List α} {x0 : X} (F : List α → X) (h0 : x0 = F []) (h : ∀ p a q, xs = p ++ a :: q → b a (F p) = .ok (F (p ++ [a]))) : foldR b xs x0 = .ok (F xs) := by
  subst h0; exact foldR_eq F xs [] h
/-- an invariant -/
theorem foldR_inv {b : α → X → Res X} (I : List α → X → Prop) : ∀ (post pre : List α) (x : X), I pre x → (∀ p a q x, pre ++ post = p ++ a :: q → I p x → ∃ y, b a x = .ok y ∧ I (p ++ [a]) y) → ∃ y, foldR b post x = .ok y ∧ I (pre ++ post) y
  | [], pre, x, h, _ => ⟨x, rfl, by rw [List.append_nil]; exact h⟩
  | a :: post, pre, x, h, hs => by
    have e : pre ++ a :: post = (pre ++ [a]) ++ post := by rw [List.append_assoc]; rfl
    obtain ⟨y, h1, h2⟩ := hs pre a post x rfl h
    obtain ⟨z, h3, h4⟩ := foldR_inv I post (pre ++ [a]) y h2 fun p x q y eq => hs p x q y (by rw [e]; exact eq)
    refine ⟨z, ?_, by rw [e]; exact h4⟩
    show (b a x).bind _ = _
    rw [h1]; exact h3
theorem foldR_inv0 {b : α → X → Res X} {xs : List α} {x0 : X} (I : List α → X → Prop) (h0 : I [] x0) (hs : ∀ p a q x, xs = p ++ a :: q → I p x → ∃ y, b a x = .ok y ∧ I (p ++ [a]) y) : ∃ y, foldR b xs x0 = .ok y ∧ I xs y :=
  foldR_inv I xs [] x0 h0 hs
/-- no turn hands back -/
theorem foldS_nx {b : α → X → Res (Stp X R)} (F : List α → X) : ∀ (post pre : List α), (∀ p a q, pre ++ post = p ++ a :: q → b a (F p) = .ok (.nx (F (p ++ [a])))) → foldS b post (F pre) = .ok (.nx (F (pre ++ post)))
  | [], pre, _ => by rw [List.append_nil]; rfl
  | a :: post, pre, h => by
    have e : pre ++ a :: post = (pre ++ [a]) ++ post := by rw [List.append_assoc]; rfl
    show (b a (F pre)).bind _ = _
    rw [h pre a post rfl, Res.ok_bind, e]
    exact foldS_nx F post (pre ++ [a]) fun p x q eq => h p x q (by rw [e]; exact eq)
theorem foldS_by {b : α → X → Res (Stp X R)} {xs : List α} {x0 : X} (F : List α → X) (h0 : x0 = F []) (h : ∀ p a q, xs = p ++ a :: q → b a (F p) = .ok (.nx (F (p ++ [a])))) : foldS b xs x0 = .ok (.nx (F xs)) := by
  subst h0; exact foldS_nx F xs [] h
/-- the state stays as it is -/
theorem foldS_all {b : α → X → Res (Stp X R)} {x : X} : ∀ {xs : List α}, (∀ a ∈ xs, b a x = .ok (.nx x)) → foldS b xs x = .ok (.nx x)
  | [], _ => rfl
  | a :: as, h => by
    show (b a x).bind _ = _
    rw [h a List.mem_cons_self]
    exact foldS_all fun c hc => h c (List.mem_cons_of_mem _ hc)
theorem foldS_inv {b : α → X → Res (Stp X R)} (I : List α → X → Prop) : ∀ (post pre : List α) (x : X), I pre x → (∀ p a q x, pre ++ post = p ++ a :: q → I p x → ∃ y, b a x = .ok (.nx y) ∧ I (p ++ [a]) y) → ∃ y, foldS b post x = .ok (.nx y) ∧ I (pre ++ post) y
  | [], pre, x, h, _ => ⟨x, rfl, by rw [List.append_nil]; exact h⟩
  | a :: post, pre, x, h, hs => by
    have e : pre ++ a :: post = (pre ++ [a]) ++ post := by rw [List.append_assoc]; rfl
    obtain ⟨y, h1, h2⟩ := hs pre a post x rfl h
    obtain ⟨z, h3, h4⟩ := foldS_inv I post (pre ++ [a]) y h2 fun p x q y eq => hs p x q y (by rw [e]; exact eq)
    refine ⟨z, ?_, by rw [e]; exact h4⟩
    show (b a x).bind _ = _
    rw [h1]; exact h3
theorem foldS_inv0 {b : α → X → Res (Stp X R)} {xs : List α} {x0 : X} (I : List α → X → Prop) (h0 : I [] x0) (hs : ∀ p a q x, xs = p ++ a :: q → I p x → ∃ y, b a x = .ok (.nx y) ∧ I (p ++ [a]) y) : ∃ y, foldS b xs x0 = .ok (.nx y) ∧ I xs y :=
  foldS_inv I xs [] x0 h0 hs
/-- the first turn that hands back, the state unchanged -/
theorem foldS_find {b : α → X → Res (Stp X R)} {x : X} (f : α → Option R) : ∀ {xs : List α}, (∀ a ∈ xs, b a x = .ok (match f a with | some r => .rt r | none => .nx x)) → foldS b xs x = .ok (match xs.findSome? f with | some r => .rt r | none => .nx x)
  | [], _ => rfl
  | a :: as, h => by
    show (b a x).bind _ = _
    rw [h a List.mem_cons_self, List.findSome?_cons]
    cases f a with
    | some r => rfl
    | none => exact foldS_find f fun c hc => h c (List.mem_cons_of_mem _ hc)
/-- a while: m falls -/
theorem whileR_inv {c : X → Res Bool} {b : X → Res X} (I : X → Prop) (m : X → Nat) (P : X → Prop) : ∀ (n : Nat) (x : X), m x < n → I x → (∀ x, I x → ∃ k, c x = .ok k ∧ (k = true → ∃ y, b x = .ok y ∧ I y ∧ m y < m x) ∧ (k = false → P x)) → ∃ y, whileR c b n x = .ok y ∧ I y ∧ P y
  | 0, _, h, _, _ => absurd h (Nat.not_lt_zero _)
  | n + 1, x, h, hI, hs => by
    obtain ⟨k, h1, h2, h3⟩ := hs x hI
    show ∃ y, (c x).bind _ = _ ∧ _
    rw [h1, Res.ok_bind]
    cases k with
    | false => rw [if_neg Bool.false_ne_true]; exact ⟨x, rfl, hI, h3 rfl⟩
    | true =>
      rw [if_pos rfl]
      obtain ⟨y, h4, h5, h6⟩ := h2 rfl
      rw [h4]
      exact whileR_inv I m P n y (by omega) h5 hs
theorem foldR_ex {Y : Type} {b : α → X → Res X} {xs : List α} {x0 : X} {K : X → Res Y} {P : Y → Prop} (h : ∃ x, foldR b xs x0 = .ok x ∧ ∃ y, K x = .ok y ∧ P y) : ∃ y, (foldR b xs x0).bind K = .ok y ∧ P y := by
  obtain ⟨x, h1, y, h2, h3⟩ := h
  exact ⟨y, by rw [h1]; exact h2, h3⟩
theorem foldR_exI {Y : Type} {b : α → X → Res X} {xs : List α} {x0 : X} {K : X → Res Y} {P : Y → Prop} (I : List α → X → Prop) (h0 : I [] x0) (hs : ∀ p a q x, xs = p ++ a :: q → I p x → ∃ y, b a x = .ok y ∧ I (p ++ [a]) y) (hk : ∀ x, I xs x → ∃ y, K x = .ok y ∧ P y) : ∃ y, (foldR b xs x0).bind K = .ok y ∧ P y := by
  obtain ⟨x, h1, h2⟩ := foldR_inv0 I h0 hs
  obtain ⟨y, h3, h4⟩ := hk x h2
  exact ⟨y, by rw [h1]; exact h3, h4⟩
theorem foldR_ok {Y : Type} {b : α → X → Res X} {xs : List α} {x0 x : X} {K : X → Res Y} {r : Res Y} (h : foldR b xs x0 = .ok x) (k : K x = r) : (foldR b xs x0).bind K = r := by rw [h]; exact k
theorem addL_ok {a b : List α} (h : a.length + b.length ≤ 16777216) : addL a b = .ok (a ++ b) := if_pos h
theorem addTx_ok {a b : Tx} (h : a.length + b.length ≤ 16777216) : addTx a b = .ok (a ++ b) := if_pos h
theorem pushL_ok {a : List α} {x : α} (h : a.length < 16777216) : pushL a x = .ok (a ++ [x]) := if_pos h
theorem fdivR_ok {i j : Int} (h : 0 < j) (h' : j < 1073741824) : fdivR i j = .ok (i / j) := if_pos ⟨h, h'⟩
theorem modR_ok {i j : Int} (h : 0 < j) : modR i j = .ok (i % j) := if_pos h
theorem mulR_l {i j : Int} (h : -(18446744073709551616) < i) (h' : i < 18446744073709551616) : mulR i j = .ok (i * j) := if_pos (.inl ⟨h, h'⟩)
theorem mulR_r {i j : Int} (h : -(18446744073709551616) < j) (h' : j < 18446744073709551616) : mulR i j = .ok (i * j) := if_pos (.inr ⟨h, h'⟩)
theorem txLen_ok {s : Tx} (h : s.length ≤ 16777216) : txLen s = .ok (s.length : Int) := if_pos h
theorem atZ_nat {xs : List α} {i : Int} (h0 : 0 ≤ i) (h1 : i < xs.length) : atZ xs i = xs[i.toNat]? := by
  unfold atZ ixZ; rw [if_pos h0, if_pos h1]; rfl
theorem ixR_ok {xs : List α} {i : Int} {x : α} (h0 : 0 ≤ i) (h1 : xs[i.toNat]? = some x) : ixR xs i = .ok x := by
  have : i.toNat < xs.length := (List.getElem?_eq_some_iff.mp h1).1
  unfold ixR; rw [atZ_nat h0 (by omega), h1]; rfl
theorem ixR_last {xs : List α} {x : α} (h : xs.getLast? = some x) : ixR xs (-1) = .ok x := by
  rw [List.getLast?_eq_getElem?] at h
  have : 0 < xs.length := by
    rcases xs with _ | ⟨a, as⟩
    · simp at h
    · simp
  unfold ixR atZ ixZ
  rw [if_neg (by omega), if_pos (by omega)]
  show Res.of (xs[(-1 + (xs.length : Int)).toNat]?) = _
  rw [show (-1 + (xs.length : Int)).toNat = xs.length - 1 by omega, h]; rfl
theorem txIx_ok {s : Tx} {i : Int} {c : Char} (hz : s.length ≤ 16777216) (h0 : 0 ≤ i) (h1 : s[i.toNat]? = some c) : txIx s i = .ok [c] := by
  have : i.toNat < s.length := (List.getElem?_eq_some_iff.mp h1).1
  unfold txIx; rw [if_pos (show s.length ≤ SZ from hz), atZ_nat h0 (by omega), h1]; rfl
theorem rngR_ok {n : Nat} (h : n < 4611686018427387904) : rngR (n : Int) = .ok ((List.range n).map fun i : Nat => (i : Int)) := by
  unfold rngR; rw [if_pos ⟨by omega, by omega⟩, Int.toNat_natCast]
theorem rngR2_ok {i j : Int} (h1 : -(4611686018427387904) ≤ i) (h2 : i < 4611686018427387904) (h3 : -(4611686018427387904) ≤ j) (h4 : j < 4611686018427387904) : rngR2 i j = .ok ((List.range (j - i).toNat).map fun k => i + (k : Nat)) := if_pos ⟨h1, h2, h3, h4⟩
theorem cutZ_nat {xs : List α} {lo hi : Int} (h0 : 0 ≤ lo) (h1 : lo ≤ hi) (h2 : hi ≤ xs.length) : cutZ xs (some lo) (some hi) = (xs.drop lo.toNat).take (hi.toNat - lo.toNat) := by
  unfold cutZ sIxZ
  dsimp only
  rw [if_neg (by omega), if_neg (by omega), Nat.min_eq_left (by omega), Nat.min_eq_left (by omega)]
theorem cutZ_to {xs : List α} {hi : Int} (h0 : 0 ≤ hi) (h1 : hi ≤ xs.length) : cutZ xs none (some hi) = xs.take hi.toNat := by
  unfold cutZ sIxZ
  dsimp only
  rw [if_neg (by omega), Nat.min_eq_left (by omega), List.drop_zero, Nat.sub_zero]
theorem cutZ_from {xs : List α} {lo : Int} (h0 : 0 ≤ lo) : cutZ xs (some lo) none = xs.drop lo.toNat := by
  unfold cutZ sIxZ
  dsimp only
  rw [if_neg (by omega)]
  by_cases h : lo.toNat ≤ xs.length
  · rw [Nat.min_eq_left h]
    exact List.take_of_length_le (by rw [List.length_drop]; exact Nat.le_refl _)
  · rw [Nat.min_eq_right (by omega), List.drop_length, List.drop_eq_nil_of_le (by omega), List.take_nil]
theorem cutZ_init {xs : List α} : cutZ xs none (some (-1)) = xs.dropLast := by
  unfold cutZ sIxZ
  dsimp only
  rw [if_pos (by omega), List.drop_zero, Nat.sub_zero, List.dropLast_eq_take]
  congr 1; omega
theorem enumZ_get {xs : List α} {i : Nat} {p : Int × α} : (enumZ xs)[i]? = some p ↔ p.1 = i ∧ xs[i]? = some p.2 := by
  unfold enumZ
  rw [List.getElem?_map, List.getElem?_zipIdx]
  cases h : xs[i]? with
  | none => simp
  | some a =>
    obtain ⟨k, b⟩ := p
    simp [eq_comm]
theorem mem_enumZ {xs : List α} {p : Int × α} : p ∈ enumZ xs ↔ ∃ i : Nat, p.1 = i ∧ xs[i]? = some p.2 := by
  rw [List.mem_iff_getElem?]
  exact ⟨fun ⟨i, h⟩ => ⟨i, enumZ_get.mp h⟩, fun ⟨i, h⟩ => ⟨i, enumZ_get.mpr h⟩⟩
theorem enumZ_len (xs : List α) : (enumZ xs).length = xs.length := by unfold enumZ; simp
end
/-! sets of cells -/
def dedC : List Cell → List Cell
  | [] => []
  | p :: l => if p ∈ dedC l then dedC l else p :: dedC l
def inC (p : Cell) : Bool := decide (0 ≤ p.1 ∧ p.1 < 64 ∧ 0 ≤ p.2 ∧ p.2 < 64)
def setCR (l : List Cell) : Res (List Cell) := if l.all inC = true ∧ (dedC l).length < 63 then .ok (dedC l) else .no
def setSortR (l : List Cell) : Res (List Cell) := (setCR l).bind fun m => .ok (sortC m)
def setLenR (l : List Cell) : Res Int := (setCR l).bind fun m => .ok (m.length : Int)
def repL {α : Type} (xs : List α) (n : Int) : Res (List α) := if -1000 ≤ n ∧ n ≤ 1000 ∧ xs.length ≤ 1000 ∧ xs ≠ [] then .ok (List.replicate n.toNat xs).flatten else .no
def repTx (s : Tx) (n : Int) : Res Tx := if -1000 ≤ n ∧ n ≤ 1000 ∧ s.length ≤ 1000 then .ok (List.replicate n.toNat s).flatten else .no
/-! order -/
section
variable {α β : Type}
def lex2 [DecidableEq α] (la : α → α → Bool) (lb : β → β → Bool) (x y : α × β) : Bool := if x.1 = y.1 then lb x.2 y.2 else la x.1 y.1
def lexL [DecidableEq α] (la : α → α → Bool) : List α → List α → Bool
  | [], [] => false
  | [], _ :: _ => true
  | _ :: _, [] => false
  | x :: xs, y :: ys => if x = y then lexL la xs ys else la x y
/-- the first of the least -/
def minLt (lt : α → α → Bool) (x : α) (l : List α) : α := l.foldl (fun a y => if lt y a = true then y else a) x
def minLtR (lt : α → α → Bool) : List α → Res α
  | [] => .no
  | x :: l => .ok (minLt lt x l)
end
/-! texts; pop -/
def joinTx (sep : Tx) : List Tx → Tx
  | [] => []
  | [p] => p
  | p :: q :: r => p ++ (sep ++ joinTx sep (q :: r))
def joinR (sep : Tx) (l : List Tx) : Res Tx := if (l.map List.length).sum + l.length * sep.length ≤ 16777216 then .ok (joinTx sep l) else .no
def popR {α : Type} (l : List α) : Res (α × List α) := match l.getLast? with
  | some x => .ok (x, l.dropLast)
  | none => .no
end PV
/-! T0b: more typed operations -/
namespace PV
section
variable {α β κ : Type}
def keysT (k : α → Res κ) : List α → Res (List κ)
  | [] => .ok []
  | a :: l => (k a).bind fun x => (keysT k l).bind fun xs => .ok (x :: xs)
def minKV (lt : κ → κ → Bool) : List (α × κ) → Res α
  | [] => .no
  | p :: r => .ok (minLt (fun x y => lt x.2 y.2) p r).1
/-- min by a key, the first of the least -/
def minKR (lt : κ → κ → Bool) (k : α → Res κ) (l : List α) : Res α := (keysT k l).nox.bind fun ks => minKV lt (l.zip ks)
/-- a list without the first that is so -/
def eraT [DecidableEq α] : List α → α → List α
  | [], _ => []
  | a :: l, x => if a = x then l else a :: eraT l x
def remR [DecidableEq α] (l : List α) (x : α) : Res (List α) := if x ∈ l then .ok (eraT l x) else .no
/-- l[::k], k > 0 -/
def stepIx (k : Int) (n : Nat) : List Nat := (List.range (if (0 : Int) < (n : Int) then ((n : Int) - 0 + k - 1) / k else 0).toNat).map fun (j : Nat) => (0 + k * (j : Int)).toNat
def stepL (k : Int) (l : List α) : List α := (stepIx k l.length).filterMap (l[·]?)
def stepR (k : Int) (l : List α) : Res (List α) := if 0 < k then .ok (stepL k l) else .no
theorem stepL_map (k : Int) (l : List α) (f : α → β) : stepL k (l.map f) = (stepL k l).map f := by
  unfold stepL
  rw [List.length_map, List.map_filterMap]
  congr 1
  funext j
  rw [List.getElem?_map]
theorem mem_stepL {k : Int} {l : List α} {x : α} (h : x ∈ stepL k l) : x ∈ l := by
  obtain ⟨j, _, e⟩ := List.mem_filterMap.mp h
  exact List.mem_of_getElem? e
end
end PV
namespace PV
open PySem PySem.Spec L2
/-! ### data and results -/
mutual
def D.py : D → Option PyData
  | .non => some .none
  | .bl b => some (.bool b)
  | .int i => some (.int i)
  | .str s => some (.str s)
  | .tup xs => match D.pys xs with | some ys => some (.tuple ys) | none => none
  | .ctup xs => match D.pys xs with | some ys => some (.tuple ys) | none => none
  | .lst xs => match D.pys xs with | some ys => some (.list ys) | none => none
  | .scr ns => some (.list (ns.map .int))
  | .dct _ => none
  | .obj _ _ => none
def D.pys : List D → Option (List PyData)
  | [] => some []
  | x :: xs => match D.py x, D.pys xs with | some y, some ys => some (y :: ys) | _, _ => none
end
abbrev EnvD := List (Option D)
/-! ### how data stand in the abstract heap -/
mutual
inductive Rep (K : PySem.W.Frag) (mg : Str → Option Value) (G : Hp) : V → D → Prop
  | non : Rep K mg G .non .non
  | bl (b : Bool) : Rep K mg G (.bl b) (.bl b)
  | int (i : Int) : Rep K mg G (.int i) (.int i)
  | str (s : Str) : Rep K mg G (.str s) (.str s)
  | tup {a : Addr} {vs : List V} {ds : List D} : G a = some (.tup vs) → Reps K mg G vs ds → Rep K mg G (.ref a) (.tup ds)
  | ctup {a : Addr} {vs : List V} {ds : List D} : SqT K G a vs → Reps K mg G vs ds → Rep K mg G (.ref a) (.ctup ds)
  | scr {a : Addr} {ns : List Int} : SqL K G a (ns.map V.int) → Rep K mg G (.ref a) (.scr ns)
  | lst {a : Addr} {vs : List V} {ds : List D} : G a = some (.lst vs) → Reps K mg G vs ds → Rep K mg G (.ref a) (.lst ds)
  | dct {a : Addr} {kvs : List (List Key × V)} {kds : List (List Int × D)} : G a = some (.dT kvs) → RepK K mg G kvs kds → Rep K mg G (.ref a) (.dct kds)
  | obj {a dx Ca : Addr} {C : Str} {fs : List (Str × V)} {gs : List (Str × D)} : mg C = some (.ref Ca) → G a = some (.ins Ca dx fs) → RepF K mg G fs gs → Rep K mg G (.ref a) (.obj C gs)
inductive Reps (K : PySem.W.Frag) (mg : Str → Option Value) (G : Hp) : List V → List D → Prop
  | nil : Reps K mg G [] []
  | cons {v : V} {vs : List V} {d : D} {ds : List D} : Rep K mg G v d → Reps K mg G vs ds → Reps K mg G (v :: vs) (d :: ds)
inductive RepK (K : PySem.W.Frag) (mg : Str → Option Value) (G : Hp) : List (List Key × V) → List (List Int × D) → Prop
  | nil : RepK K mg G [] []
  | cons {k : List Int} {v : V} {r : List (List Key × V)} {d : D} {s : List (List Int × D)} : Rep K mg G v d → RepK K mg G r s → RepK K mg G ((k.map Sum.inl, v) :: r) ((k, d) :: s)
inductive RepF (K : PySem.W.Frag) (mg : Str → Option Value) (G : Hp) : List (Str × V) → List (Str × D) → Prop
  | nil : RepF K mg G [] []
  | cons {k : Str} {v : V} {r : List (Str × V)} {d : D} {s : List (Str × D)} : Rep K mg G v d → RepF K mg G r s → RepF K mg G ((k, v) :: r) ((k, d) :: s)
end
/-- all but the code tables stays -/
def Sm (H H' : Hp) : Prop := ∀ b o, H b = some o → (∀ ps, o ≠ .tbl ps) → H' b = some o
theorem Sm.refl (H : Hp) : Sm H H := fun _ _ h _ => h
theorem Sm.trans {H H1 H2 : Hp} (a : Sm H H1) (b : Sm H1 H2) : Sm H H2 := fun c o h n => b c o (a c o h n) n
theorem Sm.of {H H' : Hp} (e : Same H H') : Sm H H' := fun b o h _ => e b o h
section
variable {K : PySem.W.Frag} {mg : Str → Option Value} {G G' : Hp}
theorem Sm.sqT {a : Addr} {xs : List V} (e : Sm G G') (h : SqT K G a xs) : SqT K G' a xs := by
  rcases h with (h | ⟨o, h⟩) | h
  · exact .inl (.inl (e _ _ h fun _ z => nomatch z))
  · exact .inl (.inr ⟨o, e _ _ h fun _ z => nomatch z⟩)
  · exact .inr h
theorem Sm.sqL {a : Addr} {xs : List V} (e : Sm G G') (h : SqL K G a xs) : SqL K G' a xs := by
  rcases h with (h | ⟨o, h⟩) | h
  · exact .inl (.inl (e _ _ h fun _ z => nomatch z))
  · exact .inl (.inr ⟨o, e _ _ h fun _ z => nomatch z⟩)
  · exact .inr h
mutual
theorem Rep.mono (e : Sm G G') : ∀ (d : D) (v : V), Rep K mg G v d → Rep K mg G' v d
  | .non, _, h => by cases h; exact .non
  | .bl b, _, h => by cases h; exact .bl b
  | .int i, _, h => by cases h; exact .int i
  | .str s, _, h => by cases h; exact .str s
  | .tup ds, _, h => by cases h with | tup h1 h2 => exact .tup (e _ _ h1 fun _ z => nomatch z) (Reps.mono e ds _ h2)
  | .ctup ds, _, h => by cases h with | ctup h1 h2 => exact .ctup (e.sqT h1) (Reps.mono e ds _ h2)
  | .lst ds, _, h => by cases h with | lst h1 h2 => exact .lst (e _ _ h1 fun _ z => nomatch z) (Reps.mono e ds _ h2)
  | .scr ns, _, h => by cases h with | scr h1 => exact .scr (e.sqL h1)
  | .dct kds, _, h => by cases h with | dct h1 h2 => exact .dct (e _ _ h1 fun _ z => nomatch z) (RepK.mono e kds _ h2)
  | .obj C gs, _, h => by cases h with | obj h0 h1 h2 => exact .obj h0 (e _ _ h1 fun _ z => nomatch z) (RepF.mono e gs _ h2)
theorem Reps.mono (e : Sm G G') : ∀ (ds : List D) (vs : List V), Reps K mg G vs ds → Reps K mg G' vs ds
  | [], _, h => by cases h; exact .nil
  | d :: ds, _, h => by cases h with | cons h1 h2 => exact .cons (Rep.mono e d _ h1) (Reps.mono e ds _ h2)
theorem RepK.mono (e : Sm G G') : ∀ (ds : List (List Int × D)) (vs : List (List Key × V)), RepK K mg G vs ds → RepK K mg G' vs ds
  | [], _, h => by cases h; exact .nil
  | (k, d) :: ds, _, h => by cases h with | cons h1 h2 => exact .cons (Rep.mono e d _ h1) (RepK.mono e ds _ h2)
theorem RepF.mono (e : Sm G G') : ∀ (ds : List (Str × D)) (vs : List (Str × V)), RepF K mg G vs ds → RepF K mg G' vs ds
  | [], _, h => by cases h; exact .nil
  | (k, d) :: ds, _, h => by cases h with | cons h1 h2 => exact .cons (Rep.mono e d _ h1) (RepF.mono e ds _ h2)
end
end
section
variable {K : PySem.W.Frag} {mg : Str → Option Value} {G H : Hp}
theorem Reps.length : ∀ {vs : List V} {ds : List D}, Reps K mg G vs ds → vs.length = ds.length
  | [], _, h => by cases h; rfl
  | _ :: _, _, h => by cases h with | cons _ h2 => simp [Reps.length h2]
theorem Reps.get : ∀ {vs : List V} {ds : List D} {i : Nat} {d : D}, Reps K mg G vs ds → ds[i]? = some d → ∃ v, vs[i]? = some v ∧ Rep K mg G v d
  | _, [], i, _, _, e => by simp at e
  | _, d :: ds, i, d', h, e => by
    cases h with
    | cons h1 h2 =>
      cases i with
      | zero => simp at e; subst e; exact ⟨_, rfl, h1⟩
      | succ j => obtain ⟨v, q, r⟩ := Reps.get h2 (i := j) (by simpa using e); exact ⟨v, by simpa using q, r⟩
theorem Reps.append : ∀ {vs : List V} {ds : List D} {ws : List V} {es : List D}, Reps K mg G vs ds → Reps K mg G ws es → Reps K mg G (vs ++ ws) (ds ++ es)
  | [], _, _, _, h, k => by cases h; exact k
  | _ :: _, _, _, _, h, k => by cases h with | cons h1 h2 => exact .cons h1 (Reps.append h2 k)
theorem Reps.drop : ∀ {vs : List V} {ds : List D} (n : Nat), Reps K mg G vs ds → Reps K mg G (vs.drop n) (ds.drop n)
  | _, _, 0, h => h
  | [], _, _ + 1, h => by cases h; exact .nil
  | _ :: _, _, n + 1, h => by cases h with | cons _ h2 => exact Reps.drop n h2
theorem Reps.take : ∀ {vs : List V} {ds : List D} (n : Nat), Reps K mg G vs ds → Reps K mg G (vs.take n) (ds.take n)
  | _, _, 0, _ => by simpa using Reps.nil
  | [], _, _ + 1, h => by cases h; exact .nil
  | _ :: _, _, n + 1, h => by cases h with | cons h1 h2 => exact .cons h1 (Reps.take n h2)
theorem Reps.reverse : ∀ {vs : List V} {ds : List D}, Reps K mg G vs ds → Reps K mg G vs.reverse ds.reverse
  | [], _, h => by cases h; exact .nil
  | _ :: _, _, h => by cases h with | cons h1 h2 => rw [List.reverse_cons, List.reverse_cons]; exact Reps.append (Reps.reverse h2) (.cons h1 .nil)
theorem Reps.ints : ∀ (ns : List Int), Reps K mg G (ns.map V.int) (ns.map D.int)
  | [] => .nil
  | n :: ns => .cons (.int n) (Reps.ints ns)
theorem Reps.ints_inv : ∀ {ns : List Int} {vs : List V}, Reps K mg G vs (ns.map D.int) → vs = ns.map V.int
  | [], _, h => by cases h; rfl
  | n :: ns, _, h => by cases h with | cons h1 h2 => cases h1; rw [Reps.ints_inv h2]; rfl
/-- the items of a sequence -/
def D.items : D → Option (List D)
  | .tup xs => some xs
  | .ctup xs => some xs
  | .lst xs => some xs
  | .scr ns => some (ns.map D.int)
  | _ => none
theorem Rep.items {v : V} {d : D} {ds : List D} (h : Rep K mg G v d) (e : d.items = some ds) : ∃ a vs, v = .ref a ∧ (SqL K G a vs ∨ SqT K G a vs) ∧ Reps K mg G vs ds := by
  cases h with
  | tup h1 h2 => cases e; exact ⟨_, _, rfl, .inr (.inl (.inl h1)), h2⟩
  | ctup h1 h2 => cases e; exact ⟨_, _, rfl, .inr h1, h2⟩
  | lst h1 h2 => cases e; exact ⟨_, _, rfl, .inl (.inl (.inl h1)), h2⟩
  | scr h1 => cases e; exact ⟨_, _, rfl, .inl h1, Reps.ints _⟩
  | _ => cases e
mutual
theorem Rep.dp (e : Sm G H) : ∀ (d : D) (v : V) (p : PyData), Rep K mg G v d → d.py = some p → Dp K H v p
  | .non, _, _, h, q => by cases h; cases q; exact .non
  | .bl b, _, _, h, q => by cases h; cases q; exact .bl b
  | .int i, _, _, h, q => by cases h; cases q; exact .int i
  | .str s, _, _, h, q => by cases h; cases q; exact .str s
  | .tup ds, _, _, h, q => by
    cases h with
    | tup h1 h2 =>
      unfold D.py at q
      cases z : D.pys ds with
      | none => rw [z] at q; cases q
      | some ys => rw [z] at q; cases q; exact .tup (.inl (.inl (e _ _ h1 fun _ z => nomatch z))) (Reps.dp e ds _ _ h2 z)
  | .ctup ds, _, _, h, q => by
    cases h with
    | ctup h1 h2 =>
      unfold D.py at q
      cases z : D.pys ds with
      | none => rw [z] at q; cases q
      | some ys => rw [z] at q; cases q; exact .tup (e.sqT h1) (Reps.dp e ds _ _ h2 z)
  | .lst ds, _, _, h, q => by
    cases h with
    | lst h1 h2 =>
      unfold D.py at q
      cases z : D.pys ds with
      | none => rw [z] at q; cases q
      | some ys => rw [z] at q; cases q; exact .lst (.inl (.inl (e _ _ h1 fun _ z => nomatch z))) (Reps.dp e ds _ _ h2 z)
  | .scr ns, _, _, h, q => by
    cases h with
    | scr h1 =>
      cases q
      refine .lst (e.sqL h1) ?_
      clear h1
      induction ns with
      | nil => exact .nil
      | cons n ns ih => exact .cons (.int n) ih
  | .dct _, _, _, _, q => by cases q
  | .obj _ _, _, _, _, q => by cases q
theorem Reps.dp (e : Sm G H) : ∀ (ds : List D) (vs : List V) (ps : List PyData), Reps K mg G vs ds → D.pys ds = some ps → DpAll K H vs ps
  | [], _, _, h, q => by cases h; cases q; exact .nil
  | d :: ds, _, _, h, q => by
    cases h with
    | cons h1 h2 =>
      unfold D.pys at q
      cases z1 : D.py d with
      | none => rw [z1] at q; simp at q
      | some y =>
        cases z2 : D.pys ds with
        | none => rw [z1, z2] at q; simp at q
        | some ys => rw [z1, z2] at q; cases q; exact .cons (Rep.dp e d _ _ h1 z1) (Reps.dp e ds _ _ h2 z2)
end
end
/-! data that may be compared -/
mutual
/-- as deep, with what signs -/
def D.ok : Nat → D → Bool
  | _, .non => true
  | _, .bl _ => true
  | _, .int _ => true
  | _, .str s => s.cps.all (· < 0x110000)
  | n + 1, .tup xs => D.oks n xs
  | n + 1, .ctup xs => D.oks n xs
  | n + 1, .lst xs => D.oks n xs
  | _, _ => false
def D.oks : Nat → List D → Bool
  | _, [] => true
  | n, x :: xs => D.ok n x && D.oks n xs
end
mutual
theorem D.ok_py : ∀ (d : D) (n : Nat), D.ok n d = true → ∃ p, d.py = some p ∧ p.canLay0 = true ∧ p.depth ≤ n
  | .non, _, _ => ⟨_, rfl, rfl, Nat.zero_le _⟩
  | .bl _, _, _ => ⟨_, rfl, rfl, Nat.zero_le _⟩
  | .int _, _, _ => ⟨_, rfl, rfl, Nat.zero_le _⟩
  | .str s, n, h => ⟨_, rfl, by cases n <;> exact h, Nat.zero_le _⟩
  | .tup xs, n + 1, h => by
    obtain ⟨ps, e, a, b⟩ := D.oks_py xs n h
    exact ⟨.tuple ps, by unfold D.py; rw [e], a, Nat.succ_le_succ b⟩
  | .ctup xs, n + 1, h => by
    obtain ⟨ps, e, a, b⟩ := D.oks_py xs n h
    exact ⟨.tuple ps, by unfold D.py; rw [e], a, Nat.succ_le_succ b⟩
  | .lst xs, n + 1, h => by
    obtain ⟨ps, e, a, b⟩ := D.oks_py xs n h
    exact ⟨.list ps, by unfold D.py; rw [e], a, Nat.succ_le_succ b⟩
  | .tup _, 0, h => by cases h
  | .ctup _, 0, h => by cases h
  | .lst _, 0, h => by cases h
  | .scr _, n, h => by cases n <;> cases h
  | .dct _, n, h => by cases n <;> cases h
  | .obj _ _, n, h => by cases n <;> cases h
theorem D.oks_py : ∀ (ds : List D) (n : Nat), D.oks n ds = true → ∃ ps, D.pys ds = some ps ∧ PyData.canLayAll0 ps = true ∧ PyData.depthAll ps ≤ n
  | [], _, _ => ⟨[], rfl, rfl, Nat.zero_le _⟩
  | d :: ds, n, h => by
    unfold D.oks at h
    rw [Bool.and_eq_true] at h
    obtain ⟨p, e1, a1, b1⟩ := D.ok_py d n h.1
    obtain ⟨ps, e2, a2, b2⟩ := D.oks_py ds n h.2
    refine ⟨p :: ps, by unfold D.pys; rw [e1, e2], ?_, ?_⟩
    · unfold PyData.canLayAll0; rw [a1, a2]; rfl
    · unfold PyData.depthAll; omega
end
theorem D.ok_shaped {d : D} (h : D.ok 60 d = true) : ∃ p, d.py = some p ∧ SeqAt.shaped p = true := by
  obtain ⟨p, e, a, b⟩ := D.ok_py d 60 h
  exact ⟨p, e, by unfold SeqAt.shaped; rw [a, decide_eq_true (by omega)]; rfl⟩
theorem D.oks_shaped {ds : List D} (h : D.oks 59 ds = true) : ∃ ps, D.pys ds = some ps ∧ SeqAt.shaped (.list ps) = true := by
  obtain ⟨ps, e, a, b⟩ := D.oks_py ds 59 h
  refine ⟨ps, e, ?_⟩
  unfold SeqAt.shaped
  have : (PyData.list ps).canLay0 = true := a
  have h2 : (PyData.list ps).depth ≤ 64 := by show PyData.depthAll ps + 1 ≤ 64; omega
  rw [this, decide_eq_true h2]; rfl
mutual
def D.eqv : D → D → Bool
  | .non, .non => true
  | .bl a, .bl b => a == b
  | .bl a, .int j => (if a then 1 else 0) == j
  | .int i, .bl b => i == (if b then 1 else 0)
  | .int i, .int j => i == j
  | .str x, .str y => x == y
  | .tup xs, .tup ys => D.eqvs xs ys
  | .tup xs, .ctup ys => D.eqvs xs ys
  | .ctup xs, .tup ys => D.eqvs xs ys
  | .ctup xs, .ctup ys => D.eqvs xs ys
  | .lst xs, .lst ys => D.eqvs xs ys
  | _, _ => false
def D.eqvs : List D → List D → Bool
  | [], [] => true
  | x :: xs, y :: ys => D.eqv x y && D.eqvs xs ys
  | _, _ => false
end
mutual
theorem D.eqv_py : ∀ (x y : D) (n : Nat) (a b : PyData), D.ok n x = true → D.ok n y = true → x.py = some a → y.py = some b → PyData.eqv a b = D.eqv x y
  | .non, .non, _, _, _, _, _, u, v => by cases u; cases v; rfl
  | .non, .bl q, _, _, _, _, _, u, v => by cases u; cases v; rfl
  | .non, .int j, _, _, _, _, _, u, v => by cases u; cases v; rfl
  | .non, .str t, _, _, _, _, _, u, v => by cases u; cases v; rfl
  | .non, .tup ys, 0, _, _, _, h, _, _ => by cases h
  | .non, .tup ys, n + 1, a, b, h, k, u, v => by
    obtain ⟨ps, e1, _, _⟩ := D.oks_py ys n k
    unfold D.py at v
    rw [e1] at v
    cases u; cases v
    rfl
  | .non, .ctup ys, 0, _, _, _, h, _, _ => by cases h
  | .non, .ctup ys, n + 1, a, b, h, k, u, v => by
    obtain ⟨ps, e1, _, _⟩ := D.oks_py ys n k
    unfold D.py at v
    rw [e1] at v
    cases u; cases v
    rfl
  | .non, .lst ys, 0, _, _, _, h, _, _ => by cases h
  | .non, .lst ys, n + 1, a, b, h, k, u, v => by
    obtain ⟨ps, e1, _, _⟩ := D.oks_py ys n k
    unfold D.py at v
    rw [e1] at v
    cases u; cases v
    rfl
  | .bl p, .non, _, _, _, _, _, u, v => by cases u; cases v; rfl
  | .bl p, .bl q, _, _, _, _, _, u, v => by cases u; cases v; rfl
  | .bl p, .int j, _, _, _, _, _, u, v => by cases u; cases v; rfl
  | .bl p, .str t, _, _, _, _, _, u, v => by cases u; cases v; rfl
  | .bl p, .tup ys, 0, _, _, _, h, _, _ => by cases h
  | .bl p, .tup ys, n + 1, a, b, h, k, u, v => by
    obtain ⟨ps, e1, _, _⟩ := D.oks_py ys n k
    unfold D.py at v
    rw [e1] at v
    cases u; cases v
    rfl
  | .bl p, .ctup ys, 0, _, _, _, h, _, _ => by cases h
  | .bl p, .ctup ys, n + 1, a, b, h, k, u, v => by
    obtain ⟨ps, e1, _, _⟩ := D.oks_py ys n k
    unfold D.py at v
    rw [e1] at v
    cases u; cases v
    rfl
  | .bl p, .lst ys, 0, _, _, _, h, _, _ => by cases h
  | .bl p, .lst ys, n + 1, a, b, h, k, u, v => by
    obtain ⟨ps, e1, _, _⟩ := D.oks_py ys n k
    unfold D.py at v
    rw [e1] at v
    cases u; cases v
    rfl
  | .int i, .non, _, _, _, _, _, u, v => by cases u; cases v; rfl
  | .int i, .bl q, _, _, _, _, _, u, v => by cases u; cases v; rfl
  | .int i, .int j, _, _, _, _, _, u, v => by cases u; cases v; rfl
  | .int i, .str t, _, _, _, _, _, u, v => by cases u; cases v; rfl
  | .int i, .tup ys, 0, _, _, _, h, _, _ => by cases h
  | .int i, .tup ys, n + 1, a, b, h, k, u, v => by
    obtain ⟨ps, e1, _, _⟩ := D.oks_py ys n k
    unfold D.py at v
    rw [e1] at v
    cases u; cases v
    rfl
  | .int i, .ctup ys, 0, _, _, _, h, _, _ => by cases h
  | .int i, .ctup ys, n + 1, a, b, h, k, u, v => by
    obtain ⟨ps, e1, _, _⟩ := D.oks_py ys n k
    unfold D.py at v
    rw [e1] at v
    cases u; cases v
    rfl
  | .int i, .lst ys, 0, _, _, _, h, _, _ => by cases h
  | .int i, .lst ys, n + 1, a, b, h, k, u, v => by
    obtain ⟨ps, e1, _, _⟩ := D.oks_py ys n k
    unfold D.py at v
    rw [e1] at v
    cases u; cases v
    rfl
  | .str s, .non, _, _, _, _, _, u, v => by cases u; cases v; rfl
  | .str s, .bl q, _, _, _, _, _, u, v => by cases u; cases v; rfl
  | .str s, .int j, _, _, _, _, _, u, v => by cases u; cases v; rfl
  | .str s, .str t, _, _, _, _, _, u, v => by cases u; cases v; rfl
  | .str s, .tup ys, 0, _, _, _, h, _, _ => by cases h
  | .str s, .tup ys, n + 1, a, b, h, k, u, v => by
    obtain ⟨ps, e1, _, _⟩ := D.oks_py ys n k
    unfold D.py at v
    rw [e1] at v
    cases u; cases v
    rfl
  | .str s, .ctup ys, 0, _, _, _, h, _, _ => by cases h
  | .str s, .ctup ys, n + 1, a, b, h, k, u, v => by
    obtain ⟨ps, e1, _, _⟩ := D.oks_py ys n k
    unfold D.py at v
    rw [e1] at v
    cases u; cases v
    rfl
  | .str s, .lst ys, 0, _, _, _, h, _, _ => by cases h
  | .str s, .lst ys, n + 1, a, b, h, k, u, v => by
    obtain ⟨ps, e1, _, _⟩ := D.oks_py ys n k
    unfold D.py at v
    rw [e1] at v
    cases u; cases v
    rfl
  | .tup xs, .non, 0, _, _, h, _, _, _ => by cases h
  | .tup xs, .non, n + 1, a, b, h, k, u, v => by
    obtain ⟨ps, e1, _, _⟩ := D.oks_py xs n h
    unfold D.py at u
    rw [e1] at u
    cases u; cases v
    rfl
  | .tup xs, .bl q, 0, _, _, h, _, _, _ => by cases h
  | .tup xs, .bl q, n + 1, a, b, h, k, u, v => by
    obtain ⟨ps, e1, _, _⟩ := D.oks_py xs n h
    unfold D.py at u
    rw [e1] at u
    cases u; cases v
    rfl
  | .tup xs, .int j, 0, _, _, h, _, _, _ => by cases h
  | .tup xs, .int j, n + 1, a, b, h, k, u, v => by
    obtain ⟨ps, e1, _, _⟩ := D.oks_py xs n h
    unfold D.py at u
    rw [e1] at u
    cases u; cases v
    rfl
  | .tup xs, .str t, 0, _, _, h, _, _, _ => by cases h
  | .tup xs, .str t, n + 1, a, b, h, k, u, v => by
    obtain ⟨ps, e1, _, _⟩ := D.oks_py xs n h
    unfold D.py at u
    rw [e1] at u
    cases u; cases v
    rfl
  | .tup xs, .tup ys, 0, _, _, h, _, _, _ => by cases h
  | .tup xs, .tup ys, n + 1, a, b, h, k, u, v => by
    obtain ⟨ps, e1, _, _⟩ := D.oks_py xs n h
    obtain ⟨qs, e2, _, _⟩ := D.oks_py ys n k
    unfold D.py at u v
    rw [e1] at u; rw [e2] at v
    cases u; cases v
    show PyData.eqvAll _ _ = D.eqvs xs ys; exact D.eqvs_py xs ys n _ _ h k e1 e2
  | .tup xs, .ctup ys, 0, _, _, h, _, _, _ => by cases h
  | .tup xs, .ctup ys, n + 1, a, b, h, k, u, v => by
    obtain ⟨ps, e1, _, _⟩ := D.oks_py xs n h
    obtain ⟨qs, e2, _, _⟩ := D.oks_py ys n k
    unfold D.py at u v
    rw [e1] at u; rw [e2] at v
    cases u; cases v
    show PyData.eqvAll _ _ = D.eqvs xs ys; exact D.eqvs_py xs ys n _ _ h k e1 e2
  | .tup xs, .lst ys, 0, _, _, h, _, _, _ => by cases h
  | .tup xs, .lst ys, n + 1, a, b, h, k, u, v => by
    obtain ⟨ps, e1, _, _⟩ := D.oks_py xs n h
    obtain ⟨qs, e2, _, _⟩ := D.oks_py ys n k
    unfold D.py at u v
    rw [e1] at u; rw [e2] at v
    cases u; cases v
    rfl
  | .ctup xs, .non, 0, _, _, h, _, _, _ => by cases h
  | .ctup xs, .non, n + 1, a, b, h, k, u, v => by
    obtain ⟨ps, e1, _, _⟩ := D.oks_py xs n h
    unfold D.py at u
    rw [e1] at u
    cases u; cases v
    rfl
  | .ctup xs, .bl q, 0, _, _, h, _, _, _ => by cases h
  | .ctup xs, .bl q, n + 1, a, b, h, k, u, v => by
    obtain ⟨ps, e1, _, _⟩ := D.oks_py xs n h
    unfold D.py at u
    rw [e1] at u
    cases u; cases v
    rfl
  | .ctup xs, .int j, 0, _, _, h, _, _, _ => by cases h
  | .ctup xs, .int j, n + 1, a, b, h, k, u, v => by
    obtain ⟨ps, e1, _, _⟩ := D.oks_py xs n h
    unfold D.py at u
    rw [e1] at u
    cases u; cases v
    rfl
  | .ctup xs, .str t, 0, _, _, h, _, _, _ => by cases h
  | .ctup xs, .str t, n + 1, a, b, h, k, u, v => by
    obtain ⟨ps, e1, _, _⟩ := D.oks_py xs n h
    unfold D.py at u
    rw [e1] at u
    cases u; cases v
    rfl
  | .ctup xs, .tup ys, 0, _, _, h, _, _, _ => by cases h
  | .ctup xs, .tup ys, n + 1, a, b, h, k, u, v => by
    obtain ⟨ps, e1, _, _⟩ := D.oks_py xs n h
    obtain ⟨qs, e2, _, _⟩ := D.oks_py ys n k
    unfold D.py at u v
    rw [e1] at u; rw [e2] at v
    cases u; cases v
    show PyData.eqvAll _ _ = D.eqvs xs ys; exact D.eqvs_py xs ys n _ _ h k e1 e2
  | .ctup xs, .ctup ys, 0, _, _, h, _, _, _ => by cases h
  | .ctup xs, .ctup ys, n + 1, a, b, h, k, u, v => by
    obtain ⟨ps, e1, _, _⟩ := D.oks_py xs n h
    obtain ⟨qs, e2, _, _⟩ := D.oks_py ys n k
    unfold D.py at u v
    rw [e1] at u; rw [e2] at v
    cases u; cases v
    show PyData.eqvAll _ _ = D.eqvs xs ys; exact D.eqvs_py xs ys n _ _ h k e1 e2
  | .ctup xs, .lst ys, 0, _, _, h, _, _, _ => by cases h
  | .ctup xs, .lst ys, n + 1, a, b, h, k, u, v => by
    obtain ⟨ps, e1, _, _⟩ := D.oks_py xs n h
    obtain ⟨qs, e2, _, _⟩ := D.oks_py ys n k
    unfold D.py at u v
    rw [e1] at u; rw [e2] at v
    cases u; cases v
    rfl
  | .lst xs, .non, 0, _, _, h, _, _, _ => by cases h
  | .lst xs, .non, n + 1, a, b, h, k, u, v => by
    obtain ⟨ps, e1, _, _⟩ := D.oks_py xs n h
    unfold D.py at u
    rw [e1] at u
    cases u; cases v
    rfl
  | .lst xs, .bl q, 0, _, _, h, _, _, _ => by cases h
  | .lst xs, .bl q, n + 1, a, b, h, k, u, v => by
    obtain ⟨ps, e1, _, _⟩ := D.oks_py xs n h
    unfold D.py at u
    rw [e1] at u
    cases u; cases v
    rfl
  | .lst xs, .int j, 0, _, _, h, _, _, _ => by cases h
  | .lst xs, .int j, n + 1, a, b, h, k, u, v => by
    obtain ⟨ps, e1, _, _⟩ := D.oks_py xs n h
    unfold D.py at u
    rw [e1] at u
    cases u; cases v
    rfl
  | .lst xs, .str t, 0, _, _, h, _, _, _ => by cases h
  | .lst xs, .str t, n + 1, a, b, h, k, u, v => by
    obtain ⟨ps, e1, _, _⟩ := D.oks_py xs n h
    unfold D.py at u
    rw [e1] at u
    cases u; cases v
    rfl
  | .lst xs, .tup ys, 0, _, _, h, _, _, _ => by cases h
  | .lst xs, .tup ys, n + 1, a, b, h, k, u, v => by
    obtain ⟨ps, e1, _, _⟩ := D.oks_py xs n h
    obtain ⟨qs, e2, _, _⟩ := D.oks_py ys n k
    unfold D.py at u v
    rw [e1] at u; rw [e2] at v
    cases u; cases v
    rfl
  | .lst xs, .ctup ys, 0, _, _, h, _, _, _ => by cases h
  | .lst xs, .ctup ys, n + 1, a, b, h, k, u, v => by
    obtain ⟨ps, e1, _, _⟩ := D.oks_py xs n h
    obtain ⟨qs, e2, _, _⟩ := D.oks_py ys n k
    unfold D.py at u v
    rw [e1] at u; rw [e2] at v
    cases u; cases v
    rfl
  | .lst xs, .lst ys, 0, _, _, h, _, _, _ => by cases h
  | .lst xs, .lst ys, n + 1, a, b, h, k, u, v => by
    obtain ⟨ps, e1, _, _⟩ := D.oks_py xs n h
    obtain ⟨qs, e2, _, _⟩ := D.oks_py ys n k
    unfold D.py at u v
    rw [e1] at u; rw [e2] at v
    cases u; cases v
    show PyData.eqvAll _ _ = D.eqvs xs ys; exact D.eqvs_py xs ys n _ _ h k e1 e2
  | .scr _, _, n, _, _, h, _, _, _ => by cases n <;> cases h
  | .non, .scr _, n, _, _, _, h, _, _ => by cases n <;> cases h
  | .bl _, .scr _, n, _, _, _, h, _, _ => by cases n <;> cases h
  | .int _, .scr _, n, _, _, _, h, _, _ => by cases n <;> cases h
  | .str _, .scr _, n, _, _, _, h, _, _ => by cases n <;> cases h
  | .tup _, .scr _, n, _, _, _, h, _, _ => by cases n <;> cases h
  | .ctup _, .scr _, n, _, _, _, h, _, _ => by cases n <;> cases h
  | .lst _, .scr _, n, _, _, _, h, _, _ => by cases n <;> cases h
  | .dct _, _, n, _, _, h, _, _, _ => by cases n <;> cases h
  | .non, .dct _, n, _, _, _, h, _, _ => by cases n <;> cases h
  | .bl _, .dct _, n, _, _, _, h, _, _ => by cases n <;> cases h
  | .int _, .dct _, n, _, _, _, h, _, _ => by cases n <;> cases h
  | .str _, .dct _, n, _, _, _, h, _, _ => by cases n <;> cases h
  | .tup _, .dct _, n, _, _, _, h, _, _ => by cases n <;> cases h
  | .ctup _, .dct _, n, _, _, _, h, _, _ => by cases n <;> cases h
  | .lst _, .dct _, n, _, _, _, h, _, _ => by cases n <;> cases h
  | .obj _ _, _, n, _, _, h, _, _, _ => by cases n <;> cases h
  | .non, .obj _ _, n, _, _, _, h, _, _ => by cases n <;> cases h
  | .bl _, .obj _ _, n, _, _, _, h, _, _ => by cases n <;> cases h
  | .int _, .obj _ _, n, _, _, _, h, _, _ => by cases n <;> cases h
  | .str _, .obj _ _, n, _, _, _, h, _, _ => by cases n <;> cases h
  | .tup _, .obj _ _, n, _, _, _, h, _, _ => by cases n <;> cases h
  | .ctup _, .obj _ _, n, _, _, _, h, _, _ => by cases n <;> cases h
  | .lst _, .obj _ _, n, _, _, _, h, _, _ => by cases n <;> cases h
theorem D.eqvs_py : ∀ (xs ys : List D) (n : Nat) (a b : List PyData), D.oks n xs = true → D.oks n ys = true → D.pys xs = some a → D.pys ys = some b → PyData.eqvAll a b = D.eqvs xs ys
  | [], [], _, _, _, _, _, u, v => by cases u; cases v; rfl
  | [], y :: ys, n, _, _, _, k, u, v => by
    unfold D.oks at k
    rw [Bool.and_eq_true] at k
    obtain ⟨p, e1, _, _⟩ := D.ok_py y n k.1
    obtain ⟨ps, e2, _, _⟩ := D.oks_py ys n k.2
    unfold D.pys at v
    rw [e1, e2] at v
    cases u; cases v; rfl
  | x :: xs, [], n, _, _, k, _, u, v => by
    unfold D.oks at k
    rw [Bool.and_eq_true] at k
    obtain ⟨p, e1, _, _⟩ := D.ok_py x n k.1
    obtain ⟨ps, e2, _, _⟩ := D.oks_py xs n k.2
    unfold D.pys at u
    rw [e1, e2] at u
    cases u; cases v; rfl
  | x :: xs, y :: ys, n, _, _, h, k, u, v => by
    unfold D.oks at h k
    rw [Bool.and_eq_true] at h k
    obtain ⟨p, e1, _, _⟩ := D.ok_py x n h.1
    obtain ⟨ps, e2, _, _⟩ := D.oks_py xs n h.2
    obtain ⟨q, e3, _, _⟩ := D.ok_py y n k.1
    obtain ⟨qs, e4, _, _⟩ := D.oks_py ys n k.2
    unfold D.pys at u v
    rw [e1, e2] at u
    rw [e3, e4] at v
    cases u; cases v
    show (PyData.eqv p q && PyData.eqvAll ps qs) = (D.eqv x y && D.eqvs xs ys)
    rw [D.eqv_py x y n p q h.1 k.1 e1 e3, D.eqvs_py xs ys n ps qs h.2 k.2 e2 e4]
end
end PV
namespace PV
open PySem PySem.Spec L2
abbrev Tbs := List (Addr × Str)
/-- G is part of H, without tables -/
def Vw (G H : Hp) : Prop := ∀ b o, G b = some o → H b = some o ∧ ∀ ps, o ≠ .tbl ps
theorem Vw.sm {G H : Hp} (e : Vw G H) : Sm G H := fun b o q _ => (e b o q).1
theorem Vw.none {G H : Hp} (e : Vw G H) {a : Addr} (h : H a = none) : G a = none := by
  cases q : G a with
  | none => rfl
  | some o => have := (e a o q).1; rw [h] at this; cases this
theorem Vw.to {G H H' : Hp} (e : Vw G H) (x : Sm H H') : Vw G H' := fun b o q => ⟨x b o (e b o q).1 (e b o q).2, (e b o q).2⟩
/-- what may be changed: a list, a dict, an instance -/
def Mo (o : HO) : Prop := (∃ xs, o = .lst xs) ∨ (∃ ks, o = .dT ks) ∨ ∃ C dx fs, o = .ins C dx fs
theorem Mo.lst {xs : List V} : Mo (.lst xs) := .inl ⟨_, rfl⟩
theorem Mo.dct {xs : List (List Key × V)} : Mo (.dT xs) := .inr (.inl ⟨_, rfl⟩)
theorem Mo.nt {o : HO} (h : Mo o) : ∀ ps, o ≠ .tbl ps := fun ps z => by subst z; rcases h with ⟨_, z⟩ | ⟨_, z⟩ | ⟨_, _, _, z⟩ <;> cases z
/-- from the view (G, H) to the view (G', H'): G what may be read by all and is written by none, H all that is tracked -/
structure Ext (T : Tbs) (G H G' H' : Hp) : Prop where
  hh : Sm H H'
  gg : Sm G G'
  gh : Vw G' H'
  fr : ∀ a o, G a = none → H a = some o → Mo o → G' a = none
  tb : LamX.Tabs T H'
section
variable {T : Tbs} {G H G' H' G1 H1 G2 H2 : Hp}
theorem Ext.refl (h : Vw G H) (t : LamX.Tabs T H) : Ext T G H G H := ⟨Sm.refl _, Sm.refl _, h, fun _ _ h _ _ => h, t⟩
theorem Ext.trans (a : Ext T G H G1 H1) (b : Ext T G1 H1 G2 H2) : Ext T G H G2 H2 :=
  ⟨a.hh.trans b.hh, a.gg.trans b.gg, b.gh, fun c o h1 h2 n => b.fr c o (a.fr c o h1 h2 n) (a.hh c o h2 n.nt) n, b.tb⟩
theorem Sm.upd {H : Hp} {p : Addr} {o : HO} (h : H p = none) : Sm H (upd H p o) := fun b u q _ => by rw [upd_ne (ne_of_none q h)]; exact q
theorem Sm.none {H H' : Hp} (e : Sm H H') {a : Addr} (h : H' a = none) : ∀ o, H a = some o → ∃ ps, o = .tbl ps := fun o q => by
  by_cases ht : ∃ ps, o = .tbl ps
  · exact ht
  · have := e a o q fun ps z => ht ⟨ps, z⟩
    rw [h] at this; cases this
/-- a new object that all may read -/
theorem Ext.new {p : Addr} {o : HO} (h : Vw G H) (t : LamX.Tabs T H) (hp : H p = none) (no : ∀ ps, o ≠ .tbl ps) : Ext T G H (upd G p o) (upd H p o) := by
  refine ⟨Sm.upd hp, Sm.upd (h.none hp), fun b u q => ?_, fun a u h1 h2 n => ?_, t.ext fun b u q => by rw [upd_ne (ne_of_none q hp)]; exact q⟩
  · by_cases e : b = p
    · subst e; rw [upd_same] at q ⊢; cases q; exact ⟨rfl, no⟩
    · rw [upd_ne e] at q ⊢; exact h b u q
  · rw [upd_ne (ne_of_none h2 hp)]; exact h1
/-- a new object of one's own -/
theorem Ext.priv {p : Addr} {o : HO} (h : Vw G H) (t : LamX.Tabs T H) (hp : H p = none) : Ext T G H G (upd H p o) :=
  ⟨Sm.upd hp, Sm.refl _, h.to (Sm.upd hp), fun _ _ h _ _ => h, t.ext fun b u q => by rw [upd_ne (ne_of_none q hp)]; exact q⟩
/-- what was one's own becomes free to read -/
theorem Ext.open {p : Addr} {o : HO} (h : Vw G H) (hp : H p = some o) (hg : G p = none) (no : ∀ ps, o ≠ .tbl ps) : Sm G (upd G p o) ∧ Vw (upd G p o) H := by
  refine ⟨Sm.upd hg, fun b u q => ?_⟩
  by_cases e : b = p
  · subst e; rw [upd_same] at q; cases q; exact ⟨hp, no⟩
  · rw [upd_ne e] at q; exact h b u q
/-- nothing but a table stands there -/
def NT (H : Hp) (a : Addr) : Prop := ∀ o, H a = some o → ∃ ps, o = .tbl ps
theorem NT.of {H : Hp} {a : Addr} (h : H a = none) : NT H a := fun o q => by rw [h] at q; cases q
theorem NT.ne {H : Hp} {a b : Addr} {o : HO} (h : NT H a) (q : H b = some o) (n : ∀ ps, o ≠ .tbl ps) : b ≠ a := fun e => by
  subst e; obtain ⟨ps, z⟩ := h o q; exact n ps z
theorem NT.back {H H' : Hp} {a : Addr} (h : NT H' a) (e : Sm H H') : NT H a := fun o q => by
  by_cases ht : ∃ ps, o = .tbl ps
  · exact ht
  · exact h o (e a o q fun ps z => ht ⟨ps, z⟩)
/-- .. if it was made since (G, H) -/
theorem Ext.free {p : Addr} {o : HO} (x : Ext T G H G1 H1) (hp : H1 p = some o) (hg : G1 p = none) (no : ∀ ps, o ≠ .tbl ps) (h0 : NT H p) : Ext T G H (upd G1 p o) H1 := by
  have t := Ext.open x.gh hp hg no
  refine ⟨x.hh, x.gg.trans t.1, t.2, fun a u h1 h2 n => ?_, x.tb⟩
  rw [upd_ne (h0.ne h2 n.nt)]
  exact x.fr a u h1 h2 n
theorem codeO_tup {c : Addr} {q : Str} {o : HO} (ho : Mo o) : LamX.CodeO c q ≠ o := fun z => by
  unfold LamX.CodeO at z
  rcases ho with ⟨_, rfl⟩ | ⟨_, rfl⟩ | ⟨_, _, _, rfl⟩ <;> cases z
/-- what is one's own is written -/
theorem Ext.put {p : Addr} {o o' : HO} (x : Ext T G H G1 H1) (hp : H1 p = some o) (ho : Mo o) (hg : G1 p = none) (h0 : NT H p) : Ext T G H G1 (upd H1 p o') := by
  have no := ho.nt
  refine ⟨fun b u q n => ?_, x.gg, fun b u q => ?_, x.fr, fun t ht => ?_⟩
  · rw [upd_ne (h0.ne q n)]; exact x.hh b u q n
  · have : b ≠ p := fun e => by subst e; rw [hg] at q; cases q
    rw [upd_ne this]; exact x.gh b u q
  · obtain ⟨ps, h1, h2, h3⟩ := x.tb t ht
    refine ⟨ps, ?_, h2, fun pos cv hc => ?_⟩
    · have : t.1 ≠ p := fun e => by rw [e, hp] at h1; cases h1; exact no _ rfl
      rw [upd_ne this]; exact h1
    · obtain ⟨c, e1, e2⟩ := h3 pos cv hc
      refine ⟨c, e1, ?_⟩
      have : c ≠ p := fun e => by rw [e, hp] at e2; cases e2; exact codeO_tup (c := p) (q := t.2) ho rfl
      rw [upd_ne this]; exact e2
end
/-- all tuples may be read -/
def tupsOf (G H : Hp) : Hp := fun a => match G a with
  | some o => some o
  | none => match H a with
    | some (.tup xs) => some (.tup xs)
    | _ => none
theorem Ext.tups {T : Tbs} {G H : Hp} (h : Vw G H) (t : LamX.Tabs T H) : Ext T G H (tupsOf G H) H := by
  refine ⟨Sm.refl _, fun b o q _ => by unfold tupsOf; rw [q], fun b o q => ?_, fun a o h1 h2 m => ?_, t⟩
  · unfold tupsOf at q
    split at q
    · rename_i o' e; cases q; exact h b _ e
    · split at q
      · rename_i e; cases q; exact ⟨e, fun _ z => nomatch z⟩
      · cases q
  · unfold tupsOf
    rw [h1]
    dsimp only
    split
    · rename_i e; rw [h2] at e; cases e; rcases m with ⟨_, z⟩ | ⟨_, z⟩ | ⟨_, _, _, z⟩ <;> cases z
    · rfl
theorem tupsOf_at {T : Tbs} {G H : Hp} (h : Vw G H) {a : Addr} {xs : List V} (e : H a = some (.tup xs)) : tupsOf G H a = some (.tup xs) := by
  unfold tupsOf
  split
  · rename_i o q; have := (h a o q).1; rw [e] at this; exact this.symm
  · rw [e]
/-- a list or dict that stands at a and is one's own -/
def OwnAt (K : PySem.W.Frag) (mg : Str → Option Value) (G H : Hp) (a : Addr) (d : D) : Prop :=
  G a = none ∧ ((∃ vs ds, d = .lst ds ∧ H a = some (.lst vs) ∧ Reps K mg G vs ds) ∨ (∃ kvs kds, d = .dct kds ∧ H a = some (.dT kvs) ∧ RepK K mg G kvs kds))
theorem OwnAt.ext {K : PySem.W.Frag} {mg : Str → Option Value} {T : Tbs} {G H G' H' : Hp} {a : Addr} {d : D} (o : OwnAt K mg G H a d) (x : Ext T G H G' H') : OwnAt K mg G' H' a d := by
  obtain ⟨h0, h⟩ := o
  rcases h with ⟨vs, ds, e, h1, h2⟩ | ⟨kvs, kds, e, h1, h2⟩
  · exact ⟨x.fr a _ h0 h1 (by first | exact Mo.lst | exact Mo.dct), .inl ⟨vs, ds, e, x.hh _ _ h1 (fun _ z => nomatch z), Reps.mono x.gg _ _ h2⟩⟩
  · exact ⟨x.fr a _ h0 h1 (by first | exact Mo.lst | exact Mo.dct), .inr ⟨kvs, kds, e, x.hh _ _ h1 (fun _ z => nomatch z), RepK.mono x.gg _ _ h2⟩⟩
structure ER (X : Cx) (T : Tbs) (M : List Nat) (G0 H0 G H : Hp) (σ : St) (σd : EnvD) : Prop where
  ext : Ext T G0 H0 G H
  len : σ.length = σd.length
  imm : ∀ i d, i ∉ M → σd[i]? = some (some d) → ∃ v, σ[i]? = some (some v) ∧ Rep X.K X.mg G v d
  own : ∀ i d, i ∈ M → σd[i]? = some (some d) → ∃ a, σ[i]? = some (some (.ref a)) ∧ NT H0 a ∧ OwnAt X.K X.mg G H a d
  sep : ∀ i j a, i ∈ M → j ∈ M → (∃ d, σd[i]? = some (some d)) → (∃ d, σd[j]? = some (some d)) → σ[i]? = some (some (.ref a)) → σ[j]? = some (some (.ref a)) → i = j
theorem ER.to {X : Cx} {T : Tbs} {M : List Nat} {G0 H0 G H G' H' : Hp} {σ : St} {σd : EnvD} (r : ER X T M G0 H0 G H σ σd) (x : Ext T G H G' H') : ER X T M G0 H0 G' H' σ σd :=
  ⟨r.ext.trans x, r.len, fun i d h e => let ⟨v, q, p⟩ := r.imm i d h e; ⟨v, q, Rep.mono x.gg _ _ p⟩, fun i d h e => let ⟨a, q, n, p⟩ := r.own i d h e; ⟨a, q, n, p.ext x⟩, r.sep⟩
/-- what is to be shown behind r -/
def Out (X : Cx) (T : Tbs) (W : WX) (H0 : Hp) {α β : Type} (R : Hp → Hp → β → α → Prop) (r : Res α) (G H : Hp) (Q : β → Hp → Prop) : Prop :=
  match r with
  | .ok d => ∀ G' H' v, Ext T G H G' H' → R G' H' v d → Q v H'
  | .ex c => ∀ C H' σ', X.mg c = some (.ref C) → Sm H0 H' → LamX.Tabs T H' → W (.ref C) none σ' H'
  | .no => False
theorem Out.seq {X : Cx} {T : Tbs} {W : WX} {H0 : Hp} {α β α' β' : Type} {R : Hp → Hp → β → α → Prop} {R' : Hp → Hp → β' → α' → Prop} {r : Res α} {k : α → Res α'} {G H : Hp} {Q : β' → Hp → Prop} {Q1 : β → Hp → Prop}
    (h : Out X T W H0 R' (r.bind k) G H Q) (hk : ∀ a G1 H1 v, r = .ok a → Ext T G H G1 H1 → R G1 H1 v a → Out X T W H0 R' (k a) G1 H1 Q → Q1 v H1) : Out X T W H0 R r G H Q1 := by
  cases r with
  | ok a =>
    intro G1 H1 v x rv
    refine hk a G1 H1 v rfl x rv ?_
    have h : Out X T W H0 R' (k a) G H Q := h
    revert h
    cases k a with
    | ok b => exact fun h G2 H2 u y q => h G2 H2 u (x.trans y) q
    | ex c => exact id
    | no => exact id
  | ex c => exact h
  | no => exact h
theorem Out.imp {X : Cx} {T : Tbs} {W : WX} {H0 : Hp} {α β β' : Type} {R : Hp → Hp → β → α → Prop} {R' : Hp → Hp → β' → α → Prop} {r : Res α} {G H : Hp} {Q : β' → Hp → Prop} {Q1 : β → Hp → Prop}
    (h : Out X T W H0 R' r G H Q) (hk : ∀ a G1 H1 v, r = .ok a → Ext T G H G1 H1 → R G1 H1 v a → (∀ G2 H2 u, Ext T G1 H1 G2 H2 → R' G2 H2 u a → Q u H2) → Q1 v H1) : Out X T W H0 R r G H Q1 := by
  cases r with
  | ok a => exact fun G1 H1 v x rv => hk a G1 H1 v rfl x rv fun G2 H2 u y q => h G2 H2 u (x.trans y) q
  | ex c => exact h
  | no => exact h
abbrev rV (X : Cx) : Hp → Hp → V → D → Prop := fun G _ v d => Rep X.K X.mg G v d
abbrev rVs (X : Cx) : Hp → Hp → List V → List D → Prop := fun G _ v d => Reps X.K X.mg G v d
abbrev rB : Hp → Hp → Bool → Bool → Prop := fun _ _ a b => a = b
/-- may be read: all may, or one's own -/
abbrev rR (X : Cx) : Hp → Hp → V → D → Prop := fun G H v d => Rep X.K X.mg G v d ∨ ∃ a, v = .ref a ∧ OwnAt X.K X.mg G H a d
/-- an expression is worth f, of the slots; ρ says how its value stands -/
structure PXg (X : Cx) (T : Tbs) (W : WX) (M : List Nat) (ρ : Hp → Hp → V → D → Prop) (e : Expr) (f : EnvD → Res D) : Prop where
  run : ∃ t, PE X e t ∧ ∀ G0 H0 G H σ σd Q, ER X T M G0 H0 G H σ σd → Out X T W H0 ρ (f σd) G H Q → t σ H Q
abbrev PX (X : Cx) (T : Tbs) (W : WX) (M : List Nat) (e : Expr) (f : EnvD → Res D) : Prop := PXg X T W M (rV X) e f
abbrev PXr (X : Cx) (T : Tbs) (W : WX) (M : List Nat) (e : Expr) (f : EnvD → Res D) : Prop := PXg X T W M (rR X) e f
/-- a new list or dict of one's own -/
structure PXf (X : Cx) (T : Tbs) (W : WX) (M : List Nat) (e : Expr) (f : EnvD → Res D) : Prop where
  run : ∃ t, PE X e t ∧ ∀ G0 H0 G H σ σd Q, ER X T M G0 H0 G H σ σd → Out X T W H0 (fun G' H' v d => ∃ a, v = .ref a ∧ NT H a ∧ OwnAt X.K X.mg G' H' a d) (f σd) G H Q → t σ H Q
structure PXs (X : Cx) (T : Tbs) (W : WX) (M : List Nat) (es : List Expr) (f : EnvD → Res (List D)) : Prop where
  run : ∃ t, PA X es t ∧ ∀ G0 H0 G H σ σd Q, ER X T M G0 H0 G H σ σd → Out X T W H0 (rVs X) (f σd) G H Q → t σ H Q
  len : ∀ σ ds, f σ = .ok ds → ds.length = es.length
structure PXt (X : Cx) (T : Tbs) (W : WX) (M : List Nat) (e : Expr) (f : EnvD → Res Bool) : Prop where
  run : ∃ t, PT X e t ∧ ∀ G0 H0 G H σ σd Q, ER X T M G0 H0 G H σ σd → Out X T W H0 rB (f σd) G H Q → t σ H Q
structure PXw (X : Cx) (T : Tbs) (W : WX) (M : List Nat) (e : Expr) (f : EnvD → Res Bool) : Prop where
  run : ∃ t, PW X e t ∧ ∀ G0 H0 G H σ σd Q, ER X T M G0 H0 G H σ σd → Out X T W H0 rB (f σd) G H Q → t σ H Q
inductive Fl where
  | nx (σ : EnvD) | rt (d : D) | bk (σ : EnvD) | ct (σ : EnvD)
/-- behind a statement -/
def OutS (X : Cx) (T : Tbs) (W : WX) (M : List Nat) (G0 H0 G1 : Hp) (r : Res Fl) (Z : Ends) : Prop :=
  match r with
  | .ok (.nx σd) => ∀ G H σ, Sm G1 G → ER X T M G0 H0 G H σ σd → Z.nx σ H
  | .ok (.rt d) => ∀ G H v, Ext T G0 H0 G H → Rep X.K X.mg G v d → Z.rt v H
  | .ok (.bk σd) => ∀ G H σ, Sm G1 G → ER X T M G0 H0 G H σ σd → Z.bk σ H
  | .ok (.ct σd) => ∀ G H σ, Sm G1 G → ER X T M G0 H0 G H σ σd → Z.ct σ H
  | .ex c => ∀ C H' σ', X.mg c = some (.ref C) → Sm H0 H' → LamX.Tabs T H' → W (.ref C) none σ' H'
  | .no => False
structure PXS (X : Cx) (T : Tbs) (W : WX) (M : List Nat) (st : Stmt) (g : EnvD → Res Fl) : Prop where
  run : ∃ t, PS X st t ∧ ∀ G0 H0 G H σ σd Z, ER X T M G0 H0 G H σ σd → OutS X T W M G0 H0 G (g σd) Z → t Z σ H
structure PXSs (X : Cx) (T : Tbs) (W : WX) (M : List Nat) (st : List Stmt) (g : EnvD → Res Fl) : Prop where
  run : ∃ t, PSs X st t ∧ ∀ G0 H0 G H σ σd Z, ER X T M G0 H0 G H σ σd → OutS X T W M G0 H0 G (g σd) Z → t Z σ H
end PV
namespace PV
open PySem PySem.Spec L2
abbrev Sl := EnvD
def eV (i : Nat) : Sl → Res D := fun σ => match σ[i]? with
  | some (some d) => .ok d
  | _ => .no
def eC (d : D) : Sl → Res D := fun _ => .ok d
def e1 (g : D → Option D) (a : Sl → Res D) : Sl → Res D := fun σ => (a σ).bind fun x => .of (g x)
def e2 (g : D → D → Option D) (a b : Sl → Res D) : Sl → Res D := fun σ => (a σ).bind fun x => (b σ).bind fun y => .of (g x y)
def eNil : Sl → Res (List D) := fun _ => .ok []
def eCons (a : Sl → Res D) (r : Sl → Res (List D)) : Sl → Res (List D) := fun σ => (a σ).bind fun x => (r σ).bind fun xs => .ok (x :: xs)
def eN (g : List D → Option D) (a : Sl → Res (List D)) : Sl → Res D := fun σ => (a σ).bind fun xs => .of (g xs)
def D.tobool : D → Res Bool
  | .bl b => .ok b
  | _ => .no
def eB (a : Sl → Res D) : Sl → Res Bool := fun σ => (a σ).bind D.tobool
def bAnd (a b : Sl → Res Bool) : Sl → Res Bool := fun σ => (a σ).bind fun c => if c = true then b σ else .ok false
def bOr (a b : Sl → Res Bool) : Sl → Res Bool := fun σ => (a σ).bind fun c => if c = true then .ok true else b σ
def bNot (a : Sl → Res Bool) : Sl → Res Bool := fun σ => (a σ).bind fun c => .ok (!c)
def eAnd (a b : Sl → Res D) : Sl → Res D := fun σ => (a σ).bind fun x => x.tobool.bind fun c => if c = true then b σ else .ok (.bl false)
def eOr (a b : Sl → Res D) : Sl → Res D := fun σ => (a σ).bind fun x => x.tobool.bind fun c => if c = true then .ok (.bl true) else b σ
def eNot (a : Sl → Res D) : Sl → Res D := fun σ => (a σ).bind fun x => x.tobool.bind fun c => .ok (.bl (!c))
/-- a op b op' c -/
def eChain (g g' : D → D → Option D) (a b c : Sl → Res D) : Sl → Res D := fun σ => (a σ).bind fun x => (b σ).bind fun y => (Res.of (g x y)).bind fun z => z.tobool.bind fun k =>
  if k = true then (c σ).bind fun w => .of (g' y w) else .ok (.bl false)
def Op2 (X : Cx) (T : Tbs) (f : Value → Value → Sem Value) (g : D → D → Option D) : Prop :=
  ∃ r : R2, OpR X f r ∧ ∀ G H x y dx dy d Q, Vw G H → LamX.Tabs T H → Rep X.K X.mg G x dx → Rep X.K X.mg G y dy → g dx dy = some d →
    (∀ G' H' v, Ext T G H G' H' → Rep X.K X.mg G' v d → Q v H') → r x y H Q
/-- operands that may be one's own -/
def Op2r (X : Cx) (T : Tbs) (f : Value → Value → Sem Value) (g : D → D → Option D) : Prop :=
  ∃ r : R2, OpR X f r ∧ ∀ G H x y dx dy d Q, Vw G H → LamX.Tabs T H → rR X G H x dx → rR X G H y dy → g dx dy = some d →
    (∀ G' H' v, Ext T G H G' H' → Rep X.K X.mg G' v d → Q v H') → r x y H Q
def OpXr (X : Cx) (T : Tbs) (g : D → D → Option D) : Prop :=
  ∃ r : R2, IxR X r ∧ ∀ G H x y dx dy d Q, Vw G H → LamX.Tabs T H → rR X G H x dx → rR X G H y dy → g dx dy = some d →
    (∀ G' H' v, Ext T G H G' H' → Rep X.K X.mg G' v d → Q v H') → r x y H Q
def Op1r (X : Cx) (T : Tbs) (f : Value) (g : D → Option D) : Prop :=
  ∃ r : List V → Hp → VK → Prop, CallR X f r ∧ ∀ G H x dx d Q, Vw G H → LamX.Tabs T H → rR X G H x dx → g dx = some d →
    (∀ G' H' v, Ext T G H G' H' → Rep X.K X.mg G' v d → Q v H') → r [x] H Q
def Op1 (X : Cx) (T : Tbs) (f : Value → Sem Value) (g : D → Option D) : Prop :=
  ∃ r : V → Hp → VK → Prop, UnR X f r ∧ ∀ G H x dx d Q, Vw G H → LamX.Tabs T H → Rep X.K X.mg G x dx → g dx = some d →
    (∀ G' H' v, Ext T G H G' H' → Rep X.K X.mg G' v d → Q v H') → r x H Q
def OpN (X : Cx) (T : Tbs) (f : Value) (g : List D → Option D) : Prop :=
  ∃ r : List V → Hp → VK → Prop, CallR X f r ∧ ∀ G H xs ds d Q, Vw G H → LamX.Tabs T H → Reps X.K X.mg G xs ds → g ds = some d →
    (∀ G' H' v, Ext T G H G' H' → Rep X.K X.mg G' v d → Q v H') → r xs H Q
def OpX (X : Cx) (T : Tbs) (g : D → D → Option D) : Prop :=
  ∃ r : R2, IxR X r ∧ ∀ G H x y dx dy d Q, Vw G H → LamX.Tabs T H → Rep X.K X.mg G x dx → Rep X.K X.mg G y dy → g dx dy = some d →
    (∀ G' H' v, Ext T G H G' H' → Rep X.K X.mg G' v d → Q v H') → r x y H Q
section
variable {X : Cx} {T : Tbs} {W : WX} {M : List Nat}
theorem rR.mono {G H G' H' : Hp} {v : V} {d : D} (r : rR X G H v d) (x : Ext T G H G' H') : rR X G' H' v d := by
  rcases r with r | ⟨a, e, o⟩
  · exact .inl (Rep.mono x.gg _ _ r)
  · exact .inr ⟨a, e, o.ext x⟩
theorem PXg.r {e : Expr} {f : Sl → Res D} (h : PX X T W M e f) : PXr X T W M e f := by
  obtain ⟨t, p, q⟩ := h.run
  refine ⟨_, p, fun G0 H0 G H σ σd Q er o => q _ _ _ _ _ _ _ er ?_⟩
  exact o.imp fun a G1 H1 v _ _ rv k => k _ _ _ (Ext.refl (by assumption : Ext T G H G1 H1).gh (by assumption : Ext T G H G1 H1).tb) (.inl rv)
theorem Op2r.op2 {f : Value → Value → Sem Value} {g : D → D → Option D} (h : Op2r X T f g) : Op2 X T f g := by
  obtain ⟨r, hr, hg⟩ := h
  exact ⟨r, hr, fun G H x y dx dy d Q e t rx ry => hg G H x y dx dy d Q e t (.inl rx) (.inl ry)⟩
theorem OpXr.opX {g : D → D → Option D} (h : OpXr X T g) : OpX X T g := by
  obtain ⟨r, hr, hg⟩ := h
  exact ⟨r, hr, fun G H x y dx dy d Q e t rx ry => hg G H x y dx dy d Q e t (.inl rx) (.inl ry)⟩
theorem Out.of {α β : Type} {H0 : Hp} {R : Hp → Hp → β → α → Prop} {o : Option α} {G H : Hp} {Q : β → Hp → Prop} (h : Out X T W H0 R (.of o) G H Q) : ∃ d, o = some d ∧ ∀ G' H' v, Ext T G H G' H' → R G' H' v d → Q v H' := by
  cases o with
  | none => exact h.elim
  | some d => exact ⟨d, rfl, h⟩
theorem Out.elimOk {α β : Type} {H0 : Hp} {R : Hp → Hp → β → α → Prop} {r : Res α} {d : α} {G H G' H' : Hp} {v : β} {Q : β → Hp → Prop} (h : Out X T W H0 R r G H Q) (e : r = .ok d) (x : Ext T G H G' H') (rv : R G' H' v d) : Q v H' := by
  subst e; exact h G' H' v x rv
/-- at once -/
theorem Out.now {α β : Type} {H0 : Hp} {R : Hp → Hp → β → α → Prop} {a : α} {G H : Hp} {Q : β → Hp → Prop} (h : Out X T W H0 R (.ok a) G H Q) (e : Vw G H) (t : LamX.Tabs T H) {v : β} (r : R G H v a) : Q v H := h G H v (Ext.refl e t) r
variable {pos : Pos}
theorem ER.gh {G0 H0 G H : Hp} {σ : L2.St} {σd : EnvD} (er : ER X T M G0 H0 G H σ σd) : Vw G H := er.ext.gh
theorem ER.tb {G0 H0 G H : Hp} {σ : L2.St} {σd : EnvD} (er : ER X T M G0 H0 G H σ σd) : LamX.Tabs T H := er.ext.tb
theorem px_var {i : Nat} {x : Str} (h : PE X (.Name x pos) (tVar i)) (hM : i ∉ M) : PX X T W M (.Name x pos) (eV i) := by
  refine ⟨_, h, fun G0 H0 G H σ σd Q er o => ?_⟩
  unfold eV at o
  split at o
  · rename_i d e
    obtain ⟨v, q, r⟩ := er.imm i d hM e
    exact ⟨v, q, o.now er.gh er.tb r⟩
  · exact o.elim
/-- one's own list, to be read -/
theorem pxr_own {i : Nat} {x : Str} (h : PE X (.Name x pos) (tVar i)) (hM : i ∈ M) : PXr X T W M (.Name x pos) (eV i) := by
  refine ⟨_, h, fun G0 H0 G H σ σd Q er o => ?_⟩
  unfold eV at o
  split at o
  · rename_i d e
    obtain ⟨a, q, _, r⟩ := er.own i d hM e
    exact ⟨_, q, o.now er.gh er.tb (.inr ⟨a, rfl, r⟩)⟩
  · exact o.elim
theorem px_const {e : Expr} {v : V} {d : D} (h : PE X e (tC v)) (r : ∀ G, Rep X.K X.mg G v d) : PX X T W M e (eC d) :=
  ⟨_, h, fun G0 H0 G H σ σd Q er o => Out.now (X := X) (W := W) (H0 := H0) (R := rV X) o er.gh er.tb (r G)⟩
theorem px_int {i j} : PX X T W M (.Constant (.int i) j pos) (eC (.int i)) := px_const pe_int fun _ => .int i
theorem px_str {x j} : PX X T W M (.Constant (.str x) j pos) (eC (.str x)) := px_const pe_str fun _ => .str x
theorem px_bl {b j} : PX X T W M (.Constant (.bool b) j pos) (eC (.bl b)) := px_const pe_bl fun _ => .bl b
theorem px_non {j} : PX X T W M (.Constant .none j pos) (eC .non) := px_const pe_non fun _ => .non
variable {a b c : Expr} {fa fb fc : Sl → Res D} {g g' : D → D → Option D}
theorem px_op {op : Operator} (ho : Op2 X T (binaryOp op) g) (ha : PX X T W M a fa) (hb : PX X T W M b fb) : PX X T W M (.BinOp a op b pos) (e2 g fa fb) := by
  obtain ⟨r, hr, hg⟩ := ho
  obtain ⟨ta, pa, qa⟩ := ha.run
  obtain ⟨tb, pb, qb⟩ := hb.run
  refine ⟨_, pe_op hr pa pb, fun G0 H0 G H σ σd Q er o => ?_⟩
  refine qa _ _ _ _ _ _ _ er (o.seq fun dx G1 H1 x _ x1 rx o => ?_)
  refine qb _ _ _ _ _ _ _ (er.to x1) (o.seq fun dy G2 H2 y _ x2 ry o => ?_)
  obtain ⟨d, e, q⟩ := o.of
  exact hg G2 H2 x y dx dy d Q x2.gh x2.tb (Rep.mono x2.gg _ _ rx) ry e q
theorem px_cmp {op : CmpOp} (ho : Op2 X T (compareOp op) g) (hm : behindInMarks op b = false) (ha : PX X T W M a fa) (hb : PX X T W M b fb) : PX X T W M (.Compare a [op] [b] pos) (e2 g fa fb) := by
  obtain ⟨r, hr, hg⟩ := ho
  obtain ⟨ta, pa, qa⟩ := ha.run
  obtain ⟨tb, pb, qb⟩ := hb.run
  refine ⟨_, pe_cmpR hr pa pb hm, fun G0 H0 G H σ σd Q er o => ?_⟩
  refine qa _ _ _ _ _ _ _ er (o.seq fun dx G1 H1 x _ x1 rx o => ?_)
  refine qb _ _ _ _ _ _ _ (er.to x1) (o.seq fun dy G2 H2 y _ x2 ry o => ?_)
  obtain ⟨d, e, q⟩ := o.of
  exact hg G2 H2 x y dx dy d Q x2.gh x2.tb (Rep.mono x2.gg _ _ rx) ry e q
theorem Out.tobool {H0 : Hp} {d : D} {G H : Hp} {Q : Bool → Hp → Prop} (o : Out X T W H0 rB d.tobool G H Q) : ∃ k, d = .bl k ∧ ∀ G' H', Ext T G H G' H' → Q k H' := by
  cases d with
  | bl k => exact ⟨k, rfl, fun G' H' x => o G' H' k x rfl⟩
  | _ => exact o.elim
theorem pxt_cmp {op : CmpOp} (ho : Op2 X T (compareOp op) g) (hm : behindInMarks op b = false) (ha : PX X T W M a fa) (hb : PX X T W M b fb) : PXt X T W M (.Compare a [op] [b] pos) (eB (e2 g fa fb)) := by
  obtain ⟨r, hr, hg⟩ := ho
  obtain ⟨ta, pa, qa⟩ := ha.run
  obtain ⟨tb, pb, qb⟩ := hb.run
  refine ⟨_, pt_cmpR hr pa pb hm, fun G0 H0 G H σ σd Q er o => ?_⟩
  have o1 : Out X T W H0 rB ((fa σd).bind fun x => ((fb σd).bind fun y => .of (g x y)).bind D.tobool) G H Q := by
    have e : eB (e2 g fa fb) σd = ((fa σd).bind fun x => ((fb σd).bind fun y => .of (g x y)).bind D.tobool) := by
      unfold eB e2
      cases fa σd <;> rfl
    rw [← e]; exact o
  refine qa _ _ _ _ _ _ _ er (o1.seq fun dx G1 H1 x _ x1 rx o => ?_)
  have o2 : Out X T W H0 rB ((fb σd).bind fun y => (Res.of (g dx y)).bind D.tobool) G1 H1 Q := by
    have e : ((fb σd).bind fun y => Res.of (g dx y)).bind D.tobool = ((fb σd).bind fun y => (Res.of (g dx y)).bind D.tobool) := by
      cases fb σd <;> rfl
    rw [← e]; exact o
  refine qb _ _ _ _ _ _ _ (er.to x1) (o2.seq fun dy G2 H2 y _ x2 ry o => ?_)
  cases e : g dx dy with
  | none => rw [e] at o; exact o.elim
  | some d =>
    rw [e] at o
    obtain ⟨k, rfl, q⟩ := Out.tobool o
    refine hg G2 H2 x y dx dy _ _ x2.gh x2.tb (Rep.mono x2.gg _ _ rx) ry e fun G3 H3 v x3 rv => ?_
    cases rv
    exact ⟨k, rfl, q G3 H3 x3⟩
/-- a value as a test, where the test is plain -/
theorem pxt_val {f : Sl → Res D} (h : PX X T W M a f) (he : ∀ whole, isTrue a X.env whole = (do let v ← whole; standAt a.pos; holding [v] (truthy v)) := by intro _; rfl) : PXt X T W M a (eB f) := by
  obtain ⟨t, p, q⟩ := h.run
  refine ⟨_, pt_val p he, fun G0 H0 G H σ σd Q er o => ?_⟩
  refine q _ _ _ _ _ _ _ er (o.seq fun d G1 H1 v _ x1 rv o => ?_)
  obtain ⟨k, rfl, q⟩ := Out.tobool o
  cases rv
  exact ⟨k, rfl, q G1 H1 (Ext.refl x1.gh x1.tb)⟩
variable {ba bb : Sl → Res Bool} {rest : List Expr}
theorem pxw_and1 (h : PXt X T W M a ba) : PXw X T W M (.BoolOp .And [a] pos) ba := by
  obtain ⟨t, p, q⟩ := h.run
  exact ⟨_, pw_and1 p, q⟩
theorem pxw_or1 (h : PXt X T W M a ba) : PXw X T W M (.BoolOp .Or [a] pos) ba := by
  obtain ⟨t, p, q⟩ := h.run
  exact ⟨_, pw_or1 p, q⟩
theorem pxw_and (ha : PXt X T W M a ba) (hb : PXw X T W M (.BoolOp .And (b :: rest) pos) bb) : PXw X T W M (.BoolOp .And (a :: b :: rest) pos) (bAnd ba bb) := by
  obtain ⟨ta, pa, qa⟩ := ha.run
  obtain ⟨tb, pb, qb⟩ := hb.run
  refine ⟨_, pw_and pa pb, fun G0 H0 G H σ σd Q er o => ?_⟩
  refine qa _ _ _ _ _ _ _ er (o.seq fun k G1 H1 k' _ x1 rk o => ?_)
  obtain rfl : k' = k := rk
  cases k' with
  | true => rw [if_pos rfl] at o ⊢; exact qb _ _ _ _ _ _ _ (er.to x1) o
  | false => rw [if_neg Bool.false_ne_true] at o ⊢; exact o.now x1.gh x1.tb rfl
theorem pxw_or (ha : PXt X T W M a ba) (hb : PXw X T W M (.BoolOp .Or (b :: rest) pos) bb) : PXw X T W M (.BoolOp .Or (a :: b :: rest) pos) (bOr ba bb) := by
  obtain ⟨ta, pa, qa⟩ := ha.run
  obtain ⟨tb, pb, qb⟩ := hb.run
  refine ⟨_, pw_or pa pb, fun G0 H0 G H σ σd Q er o => ?_⟩
  refine qa _ _ _ _ _ _ _ er (o.seq fun k G1 H1 k' _ x1 rk o => ?_)
  obtain rfl : k' = k := rk
  cases k' with
  | true => rw [if_pos rfl] at o ⊢; exact o.now x1.gh x1.tb rfl
  | false => rw [if_neg Bool.false_ne_true] at o ⊢; exact qb _ _ _ _ _ _ _ (er.to x1) o
theorem pxt_w (h : PXw X T W M a ba) : PXt X T W M a ba := by
  obtain ⟨t, p, q⟩ := h.run
  exact ⟨_, p.pt, q⟩
theorem pxt_not (h : PXt X T W M a ba) : PXt X T W M (.UnaryOp .Not a pos) (bNot ba) := by
  obtain ⟨t, p, q⟩ := h.run
  refine ⟨_, pt_not p, fun G0 H0 G H σ σd Q er o => ?_⟩
  refine q _ _ _ _ _ _ _ er (o.seq fun k G1 H1 k' _ x1 rk o => ?_)
  obtain rfl : k' = k := rk
  exact o.now x1.gh x1.tb rfl
theorem px_one {op} (h : PX X T W M a fa) : PX X T W M (.BoolOp op [a] pos) fa := by
  obtain ⟨t, p, q⟩ := h.run
  exact ⟨_, pe_one p, q⟩
theorem Out.seqb {H0 : Hp} {β' α' : Type} {R' : Hp → Hp → β' → α' → Prop} {d : D} {k : Bool → Res α'} {G H : Hp} {Q : β' → Hp → Prop} (o : Out X T W H0 R' (d.tobool.bind k) G H Q) : ∃ c, d = .bl c ∧ Out X T W H0 R' (k c) G H Q := by
  cases d with
  | bl c => exact ⟨c, rfl, o⟩
  | _ => exact o.elim
theorem px_and (ha : PX X T W M a fa) (hb : PX X T W M (.BoolOp .And (b :: rest) pos) fb) : PX X T W M (.BoolOp .And (a :: b :: rest) pos) (eAnd fa fb) := by
  obtain ⟨ta, pa, qa⟩ := ha.run
  obtain ⟨tb, pb, qb⟩ := hb.run
  refine ⟨_, pe_and pa pb, fun G0 H0 G H σ σd Q er o => ?_⟩
  refine qa _ _ _ _ _ _ _ er (o.seq fun d G1 H1 v _ x1 rv o => ?_)
  obtain ⟨c, rfl, o'⟩ := o.seqb
  cases rv
  refine ⟨c, rfl, ?_⟩
  cases c with
  | true => rw [if_pos rfl] at ⊢; exact qb _ _ _ _ _ _ _ (er.to x1) o'
  | false => rw [if_neg Bool.false_ne_true] at ⊢; exact Out.now (X := X) (W := W) (H0 := H0) (R := rV X) o' x1.gh x1.tb (.bl _)
theorem px_or (ha : PX X T W M a fa) (hb : PX X T W M (.BoolOp .Or (b :: rest) pos) fb) : PX X T W M (.BoolOp .Or (a :: b :: rest) pos) (eOr fa fb) := by
  obtain ⟨ta, pa, qa⟩ := ha.run
  obtain ⟨tb, pb, qb⟩ := hb.run
  refine ⟨_, pe_or pa pb, fun G0 H0 G H σ σd Q er o => ?_⟩
  refine qa _ _ _ _ _ _ _ er (o.seq fun d G1 H1 v _ x1 rv o => ?_)
  obtain ⟨c, rfl, o'⟩ := o.seqb
  cases rv
  refine ⟨c, rfl, ?_⟩
  cases c with
  | true => rw [if_pos rfl] at ⊢; exact Out.now (X := X) (W := W) (H0 := H0) (R := rV X) o' x1.gh x1.tb (.bl _)
  | false => rw [if_neg Bool.false_ne_true] at ⊢; exact qb _ _ _ _ _ _ _ (er.to x1) o'
theorem px_not (ha : PX X T W M a fa) : PX X T W M (.UnaryOp .Not a pos) (eNot fa) := by
  obtain ⟨ta, pa, qa⟩ := ha.run
  refine ⟨_, pe_not pa, fun G0 H0 G H σ σd Q er o => ?_⟩
  refine qa _ _ _ _ _ _ _ er (o.seq fun d G1 H1 v _ x1 rv o => ?_)
  obtain ⟨c, rfl, o⟩ := o.seqb
  cases rv
  exact ⟨c, rfl, o.now x1.gh x1.tb (.bl _)⟩
theorem px_un {op : UnaryOp} {g : D → Option D} (ho : Op1 X T (unaryOp op) g) (ha : PX X T W M a fa) : PX X T W M (.UnaryOp op a pos) (e1 g fa) := by
  obtain ⟨r, hr, hg⟩ := ho
  obtain ⟨ta, pa, qa⟩ := ha.run
  refine ⟨_, pe_un hr pa, fun G0 H0 G H σ σd Q er o => ?_⟩
  refine qa _ _ _ _ _ _ _ er (o.seq fun dx G1 H1 x _ x1 rx o => ?_)
  obtain ⟨d, e, q⟩ := o.of
  exact hg G1 H1 x dx d Q x1.gh x1.tb rx e q
theorem px_ix (ho : OpX X T g) (hs : PlainIx b) (ha : PX X T W M a fa) (hb : PX X T W M b fb) : PX X T W M (.Subscript a b pos) (e2 g fa fb) := by
  obtain ⟨r, hr, hg⟩ := ho
  obtain ⟨ta, pa, qa⟩ := ha.run
  obtain ⟨tb, pb, qb⟩ := hb.run
  refine ⟨_, pe_ix hr pa pb hs, fun G0 H0 G H σ σd Q er o => ?_⟩
  refine qa _ _ _ _ _ _ _ er (o.seq fun dx G1 H1 x _ x1 rx o => ?_)
  refine qb _ _ _ _ _ _ _ (er.to x1) (o.seq fun dy G2 H2 y _ x2 ry o => ?_)
  obtain ⟨d, e, q⟩ := o.of
  exact hg G2 H2 x y dx dy d Q x2.gh x2.tb (Rep.mono x2.gg _ _ rx) ry e q
theorem px_cmp_r {op : CmpOp} (ho : Op2r X T (compareOp op) g) (hm : behindInMarks op b = false) (ha : PXr X T W M a fa) (hb : PXr X T W M b fb) : PX X T W M (.Compare a [op] [b] pos) (e2 g fa fb) := by
  obtain ⟨r, hr, hg⟩ := ho
  obtain ⟨ta, pa, qa⟩ := ha.run
  obtain ⟨tb, pb, qb⟩ := hb.run
  refine ⟨_, pe_cmpR hr pa pb hm, fun G0 H0 G H σ σd Q er o => ?_⟩
  refine qa _ _ _ _ _ _ _ er (o.seq fun dx G1 H1 x _ x1 rx o => ?_)
  refine qb _ _ _ _ _ _ _ (er.to x1) (o.seq fun dy G2 H2 y _ x2 ry o => ?_)
  obtain ⟨d, e, q⟩ := o.of
  exact hg G2 H2 x y dx dy d Q x2.gh x2.tb (rR.mono rx x2) ry e q
theorem pxt_cmp_r {op : CmpOp} (ho : Op2r X T (compareOp op) g) (hm : behindInMarks op b = false) (ha : PXr X T W M a fa) (hb : PXr X T W M b fb) : PXt X T W M (.Compare a [op] [b] pos) (eB (e2 g fa fb)) := by
  obtain ⟨r, hr, hg⟩ := ho
  obtain ⟨ta, pa, qa⟩ := ha.run
  obtain ⟨tb, pb, qb⟩ := hb.run
  refine ⟨_, pt_cmpR hr pa pb hm, fun G0 H0 G H σ σd Q er o => ?_⟩
  have o1 : Out X T W H0 rB ((fa σd).bind fun x => ((fb σd).bind fun y => .of (g x y)).bind D.tobool) G H Q := by
    have e : eB (e2 g fa fb) σd = ((fa σd).bind fun x => ((fb σd).bind fun y => .of (g x y)).bind D.tobool) := by
      unfold eB e2
      cases fa σd <;> rfl
    rw [← e]; exact o
  refine qa _ _ _ _ _ _ _ er (o1.seq fun dx G1 H1 x _ x1 rx o => ?_)
  have o2 : Out X T W H0 rB ((fb σd).bind fun y => (Res.of (g dx y)).bind D.tobool) G1 H1 Q := by
    have e : ((fb σd).bind fun y => Res.of (g dx y)).bind D.tobool = ((fb σd).bind fun y => (Res.of (g dx y)).bind D.tobool) := by
      cases fb σd <;> rfl
    rw [← e]; exact o
  refine qb _ _ _ _ _ _ _ (er.to x1) (o2.seq fun dy G2 H2 y _ x2 ry o => ?_)
  cases e : g dx dy with
  | none => rw [e] at o; exact o.elim
  | some d =>
    rw [e] at o
    obtain ⟨k, rfl, q⟩ := Out.tobool o
    refine hg G2 H2 x y dx dy _ _ x2.gh x2.tb (rR.mono rx x2) ry e fun G3 H3 v x3 rv => ?_
    cases rv
    exact ⟨k, rfl, q G3 H3 x3⟩
theorem px_ix_r (ho : OpXr X T g) (hs : PlainIx b) (ha : PXr X T W M a fa) (hb : PXr X T W M b fb) : PX X T W M (.Subscript a b pos) (e2 g fa fb) := by
  obtain ⟨r, hr, hg⟩ := ho
  obtain ⟨ta, pa, qa⟩ := ha.run
  obtain ⟨tb, pb, qb⟩ := hb.run
  refine ⟨_, pe_ix hr pa pb hs, fun G0 H0 G H σ σd Q er o => ?_⟩
  refine qa _ _ _ _ _ _ _ er (o.seq fun dx G1 H1 x _ x1 rx o => ?_)
  refine qb _ _ _ _ _ _ _ (er.to x1) (o.seq fun dy G2 H2 y _ x2 ry o => ?_)
  obtain ⟨d, e, q⟩ := o.of
  exact hg G2 H2 x y dx dy d Q x2.gh x2.tb (rR.mono rx x2) ry e q
theorem eChain_eq (σ : Sl) : eChain g g' fa fb fc σ = (fa σ).bind fun x => (fb σ).bind fun y => (Res.of (g x y)).bind fun z => z.tobool.bind fun k =>
  if k = true then (fc σ).bind fun w => .of (g' y w) else .ok (.bl false) := rfl
theorem px_chain {op op' : CmpOp} (ho : Op2 X T (compareOp op) g) (ho' : Op2 X T (compareOp op') g') (hm : lastMarks [op, op'] [b, c] = false)
    (ha : PX X T W M a fa) (hb : PX X T W M b fb) (hc : PX X T W M c fc) : PX X T W M (.Compare a [op, op'] [b, c] pos) (eChain g g' fa fb fc) := by
  obtain ⟨r, hr, hg⟩ := ho
  obtain ⟨r', hr', hg'⟩ := ho'
  obtain ⟨ta, pa, qa⟩ := ha.run
  obtain ⟨tb, pb, qb⟩ := hb.run
  obtain ⟨tc, pc, qc⟩ := hc.run
  refine ⟨_, pe_chain hr hr' pa pb pc hm, fun G0 H0 G H σ σd Q er o => ?_⟩
  refine qa _ _ _ _ _ _ _ er (o.seq fun dx G1 H1 x _ x1 rx o => ?_)
  refine qb _ _ _ _ _ _ _ (er.to x1) (o.seq fun dy G2 H2 y _ x2 ry o => ?_)
  have e12 := (er.to x1).to x2
  cases e : g dx dy with
  | none => rw [e] at o; exact o.elim
  | some d =>
    rw [e] at o
    obtain ⟨k, rfl, o'⟩ := Out.seqb (d := d) o
    refine hg G2 H2 x y dx dy _ _ x2.gh x2.tb (Rep.mono x2.gg _ _ rx) ry e fun G3 H3 v x3 rv => ?_
    cases rv
    refine ⟨k, rfl, ?_⟩
    cases k with
    | false =>
      rw [if_neg Bool.false_ne_true]
      exact o' G3 H3 _ x3 (.bl _)
    | true =>
      rw [if_pos rfl]
      have o' : Out X T W H0 (rV X) ((fc σd).bind fun w => Res.of (g' dy w)) G2 H2 Q := o'
      have o3 : Out X T W H0 (rV X) ((fc σd).bind fun w => Res.of (g' dy w)) G3 H3 Q := by
        cases q : fc σd with
        | ok w =>
          rw [q] at o'
          have o : Out X T W H0 (rV X) (Res.of (g' dy w)) G2 H2 Q := o'
          obtain ⟨d, e, q⟩ := o.of
          show Out X T W H0 (rV X) (Res.of (g' dy w)) G3 H3 Q
          rw [e]
          exact fun G' H' v x => q G' H' v (x3.trans x)
        | ex c => rw [q] at o'; exact o'
        | no => rw [q] at o'; exact o'
      refine qc _ _ _ _ _ _ _ (e12.to x3) (o3.seq fun dw G4 H4 w _ x4 rw_ o => ?_)
      obtain ⟨d, e, q⟩ := o.of
      exact hg' G4 H4 y w dy dw d Q x4.gh x4.tb (Rep.mono x4.gg _ _ (Rep.mono x3.gg _ _ ry)) rw_ e q
end
end PV
namespace PV
open PySem PySem.Spec L2
section
variable {X : Cx} {T : Tbs}
theorem Op2.or {f : Value → Value → Sem Value} {g g' : D → D → Option D} (h : Op2 X T f g) (h' : Op2 X T f g') : Op2 X T f (fun x y => (g x y).or (g' x y)) := by
  obtain ⟨r, hr, hg⟩ := h
  obtain ⟨r', hr', hg'⟩ := h'
  refine ⟨_, OpR.or hr hr', fun G H x y dx dy d Q e t rx ry hd q => ?_⟩
  cases z : g dx dy with
  | some d1 => simp only [z, Option.some_or, Option.some.injEq] at hd; subst hd; exact .inl (hg G H x y dx dy d1 Q e t rx ry z q)
  | none => simp only [z, Option.none_or] at hd; exact .inr (hg' G H x y dx dy d Q e t rx ry hd q)
theorem Op2.le {f : Value → Value → Sem Value} {g g' : D → D → Option D} (h : Op2 X T f g) (l : ∀ x y d, g' x y = some d → g x y = some d) : Op2 X T f g' := by
  obtain ⟨r, hr, hg⟩ := h
  exact ⟨r, hr, fun G H x y dx dy d Q e t rx ry hd q => hg G H x y dx dy d Q e t rx ry (l _ _ _ hd) q⟩
theorem OpX.or {g g' : D → D → Option D} (h : OpX X T g) (h' : OpX X T g') : OpX X T (fun x y => (g x y).or (g' x y)) := by
  obtain ⟨r, hr, hg⟩ := h
  obtain ⟨r', hr', hg'⟩ := h'
  refine ⟨_, IxR.or hr hr', fun G H x y dx dy d Q e t rx ry hd q => ?_⟩
  cases z : g dx dy with
  | some d1 => simp only [z, Option.some_or, Option.some.injEq] at hd; subst hd; exact .inl (hg G H x y dx dy d1 Q e t rx ry z q)
  | none => simp only [z, Option.none_or] at hd; exact .inr (hg' G H x y dx dy d Q e t rx ry hd q)
theorem OpX.le {g g' : D → D → Option D} (h : OpX X T g) (l : ∀ x y d, g' x y = some d → g x y = some d) : OpX X T g' := by
  obtain ⟨r, hr, hg⟩ := h
  exact ⟨r, hr, fun G H x y dx dy d Q e t rx ry hd q => hg G H x y dx dy d Q e t rx ry (l _ _ _ hd) q⟩
theorem OpN.or {f : Value} {g g' : List D → Option D} (h : OpN X T f g) (h' : OpN X T f g') : OpN X T f (fun x => (g x).or (g' x)) := by
  obtain ⟨r, hr, hg⟩ := h
  obtain ⟨r', hr', hg'⟩ := h'
  refine ⟨fun xs H Q => r xs H Q ∨ r' xs H Q, ?_, fun G H xs ds d Q e t rx hd q => ?_⟩
  · intro pins s σ H xs us Q I rx h
    rcases h with h | h
    · exact hr pins s σ H xs us Q I rx h
    · exact hr' pins s σ H xs us Q I rx h
  · cases z : g ds with
    | some d1 => simp only [z, Option.some_or, Option.some.injEq] at hd; subst hd; exact .inl (hg G H xs ds d1 Q e t rx z q)
    | none => simp only [z, Option.none_or] at hd; exact .inr (hg' G H xs ds d Q e t rx hd q)
theorem OpN.le {f : Value} {g g' : List D → Option D} (h : OpN X T f g) (l : ∀ x d, g' x = some d → g x = some d) : OpN X T f g' := by
  obtain ⟨r, hr, hg⟩ := h
  exact ⟨r, hr, fun G H xs ds d Q e t rx hd q => hg G H xs ds d Q e t rx (l _ _ hd) q⟩
/-- a plain answer at once -/
theorem Ext.q0 {G H : Hp} {Q : V → Hp → Prop} {d : D} (q : ∀ G' H' v, Ext T G H G' H' → Rep X.K X.mg G' v d → Q v H') (e : Vw G H) (t : LamX.Tabs T H) {v : V} (r : Rep X.K X.mg G v d) : Q v H := q G H v (Ext.refl e t) r
/-- a new tuple, a new list that all may read -/
theorem Ext.qtup {G H : Hp} {Q : V → Hp → Prop} {ds : List D} (q : ∀ G' H' v, Ext T G H G' H' → Rep X.K X.mg G' v (.tup ds) → Q v H') (e : Vw G H) (t : LamX.Tabs T H) {vs : List V} (r : Reps X.K X.mg G vs ds) {p : Addr} (hp : H p = none) : Q (.ref p) (upd H p (.tup vs)) :=
  q _ _ _ (Ext.new e t hp fun _ z => nomatch z) (.tup upd_same (Reps.mono (Sm.upd (e.none hp)) _ _ r))
theorem Ext.qlst {G H : Hp} {Q : V → Hp → Prop} {ds : List D} (q : ∀ G' H' v, Ext T G H G' H' → Rep X.K X.mg G' v (.lst ds) → Q v H') (e : Vw G H) (t : LamX.Tabs T H) {vs : List V} (r : Reps X.K X.mg G vs ds) {p : Addr} (hp : H p = none) : Q (.ref p) (upd H p (.lst vs)) :=
  q _ _ _ (Ext.new e t hp fun _ z => nomatch z) (.lst upd_same (Reps.mono (Sm.upd (e.none hp)) _ _ r))
end
end PV
namespace PV
open PySem PySem.Spec L2
/-! ### the operators over data -/
def addD : D → D → Option D
  | .int i, .int j => some (.int (i + j))
  | .str a, .str b => if a.length + b.length ≤ sizeLine then some (.str (a ++ b)) else none
  | .tup a, .tup b => if a.length + b.length ≤ sizeLine then some (.tup (a ++ b)) else none
  | .lst a, .lst b => if a.length + b.length ≤ sizeLine then some (.lst (a ++ b)) else none
  | _, _ => none
def subD : D → D → Option D
  | .int i, .int j => some (.int (i - j))
  | _, _ => none
def mulI : D → D → Option D
  | .int i, .int j => if (-(2 ^ 64) < i ∧ i < 2 ^ 64) ∨ (-(2 ^ 64) < j ∧ j < 2 ^ 64) then some (.int (i * j)) else none
  | _, _ => none
def mulT : D → D → Option D
  | .tup xs, .int k => if xs ≠ [] ∧ 2 ≤ k ∧ k ≤ 1000 ∧ xs.length ≤ 1000 then some (.tup (List.replicate k.toNat xs).flatten) else none
  | _, _ => none
def fdivD : D → D → Option D
  | .int i, .int j => if 0 < j ∧ j < 1073741824 then some (.int (i / j)) else none
  | _, _ => none
def modD : D → D → Option D
  | .int i, .int j => if 0 < j then some (.int (i % j)) else none
  | _, _ => none
def negD : D → Option D
  | .int i => some (.int (-i))
  | _ => none
def eqD (x y : D) : Option D := if (D.ok 60 x && D.ok 60 y) = true then some (.bl (D.eqv x y)) else none
def neD (x y : D) : Option D := if (D.ok 60 x && D.ok 60 y) = true then some (.bl (!D.eqv x y)) else none
def ltI : D → D → Option D
  | .int i, .int j => some (.bl (decide (i < j)))
  | _, _ => none
def leI : D → D → Option D
  | .int i, .int j => some (.bl (decide (i ≤ j)))
  | _, _ => none
def gtI : D → D → Option D
  | .int i, .int j => some (.bl (decide (j < i)))
  | _, _ => none
def geI : D → D → Option D
  | .int i, .int j => some (.bl (decide (j ≤ i)))
  | _, _ => none
/-- a tuple of ints -/
def D.ints : List D → Option (List Int)
  | [] => some []
  | .int i :: r => match D.ints r with | some ns => some (i :: ns) | none => none
  | _ :: _ => none
def D.key : D → Option (List Int)
  | .tup xs => D.ints xs
  | _ => none
def ltD (x y : D) : Option D := match x.key, y.key with
  | some a, some b => some (.bl (HT.lexLt a b))
  | _, _ => ltI x y
def D.isNon : D → Bool
  | .non => true
  | _ => false
def isD : D → D → Option D
  | x, .non => some (.bl x.isNon)
  | .bl a, .bl b => some (.bl (decide (a = b)))
  | _, _ => none
def isNotD : D → D → Option D
  | x, .non => some (.bl (!x.isNon))
  | .bl a, .bl b => some (.bl (!decide (a = b)))
  | _, _ => none
def memD (xs : List D) (a : D) : Bool := xs.any fun y => D.eqv y a
def lookD (kds : List (List Int × D)) (k : List Int) : Option D := kds.lookup k
def inSeq (x y : D) : Option Bool := match y.items with
  | none => none
  | some ys => if (D.ok 59 x && D.oks 59 ys) = true then some (memD ys x) else none
def ixS : D → D → Option D
  | .str z, .int i => if z.length ≤ sizeLine then (atI z.cps.toList i).map fun c => .str ⟨#[c]⟩ else none
  | _, _ => none
def ixQ (x y : D) : Option D := match x.items, y with
  | some ds, .int i => atI ds i
  | _, _ => none
section
variable {X : Cx} {T : Tbs}
theorem op2_int {f : Value → Value → Sem Value} {C : Int → Int → Prop} {g : Int → Int → V} {gd : D → D → Option D} (h : OpR X f (rI C g))
    (hg : ∀ x y d, gd x y = some d → ∃ i j, x = .int i ∧ y = .int j ∧ C i j ∧ ∀ G, Rep X.K X.mg G (g i j) d) : Op2 X T f gd := by
  refine ⟨_, h, fun G H x y dx dy d Q e t rx ry hd q => ?_⟩
  obtain ⟨i, j, rfl, rfl, c, r⟩ := hg _ _ _ hd
  cases rx; cases ry
  exact ⟨i, j, rfl, rfl, c, Ext.q0 q e t (r G)⟩
theorem op2_int0 {f : Value → Value → Sem Value} {g : Int → Int → V} {gd : D → D → Option D} (h : OpR X f (rI0 g))
    (hg : ∀ x y d, gd x y = some d → ∃ i j, x = .int i ∧ y = .int j ∧ ∀ G, Rep X.K X.mg G (g i j) d) : Op2 X T f gd := by
  refine ⟨_, h, fun G H x y dx dy d Q e t rx ry hd q => ?_⟩
  obtain ⟨i, j, rfl, rfl, r⟩ := hg _ _ _ hd
  cases rx; cases ry
  exact ⟨i, j, rfl, rfl, Ext.q0 q e t (r G)⟩
theorem o_sub : Op2 X T (binaryOp .Sub) subD := op2_int0 op_sub fun x y d h => by
  unfold subD at h; split at h
  · cases h; exact ⟨_, _, rfl, rfl, fun G => .int _⟩
  · cases h
theorem o_mul : Op2 X T (binaryOp .Mult) mulI := op2_int op_mul fun x y d h => by
  unfold mulI at h; split at h
  · split at h
    · rename_i c; cases h; exact ⟨_, _, rfl, rfl, c, fun G => .int _⟩
    · cases h
  · cases h
theorem o_fdiv : Op2 X T (binaryOp .FloorDiv) fdivD := op2_int op_fdiv fun x y d h => by
  unfold fdivD at h; split at h
  · split at h
    · rename_i c; cases h; exact ⟨_, _, rfl, rfl, c, fun G => .int _⟩
    · cases h
  · cases h
theorem o_mod : Op2 X T (binaryOp .Mod) modD := op2_int op_mod fun x y d h => by
  unfold modD at h; split at h
  · split at h
    · rename_i c; cases h; exact ⟨_, _, rfl, rfl, c, fun G => .int _⟩
    · cases h
  · cases h
theorem o_lt : Op2 X T (compareOp .Lt) ltI := op2_int0 op_lt fun x y d h => by
  unfold ltI at h; split at h
  · cases h; exact ⟨_, _, rfl, rfl, fun G => .bl _⟩
  · cases h
theorem o_le : Op2 X T (compareOp .LtE) leI := op2_int0 op_le fun x y d h => by
  unfold leI at h; split at h
  · cases h; exact ⟨_, _, rfl, rfl, fun G => .bl _⟩
  · cases h
theorem o_gt : Op2 X T (compareOp .Gt) gtI := op2_int0 op_gt fun x y d h => by
  unfold gtI at h; split at h
  · cases h; exact ⟨_, _, rfl, rfl, fun G => .bl _⟩
  · cases h
theorem o_ge : Op2 X T (compareOp .GtE) geI := op2_int0 op_ge fun x y d h => by
  unfold geI at h; split at h
  · cases h; exact ⟨_, _, rfl, rfl, fun G => .bl _⟩
  · cases h
theorem o_neg : Op1 X T (unaryOp .USub) negD := by
  refine ⟨_, un_neg, fun G H x dx d Q e t rx hd q => ?_⟩
  unfold negD at hd; split at hd
  · cases hd; cases rx; exact ⟨_, rfl, Ext.q0 q e t (.int _)⟩
  · cases hd
def addA1 : D → D → Option D
  | .int i, .int j => some (.int (i + j))
  | _, _ => none
def addA2 : D → D → Option D
  | .str a, .str b => if a.length + b.length ≤ sizeLine then some (.str (a ++ b)) else none
  | _, _ => none
def addA3 : D → D → Option D
  | .tup a, .tup b => if a.length + b.length ≤ sizeLine then some (.tup (a ++ b)) else none
  | _, _ => none
def addA4 : D → D → Option D
  | .lst a, .lst b => if a.length + b.length ≤ sizeLine then some (.lst (a ++ b)) else none
  | _, _ => none
theorem o_add : Op2 X T (binaryOp .Add) addD := by
  have h1 : Op2 X T (binaryOp .Add) addA1 := op2_int0 op_add fun x y d h => by
    unfold addA1 at h; split at h
    · cases h; exact ⟨_, _, rfl, rfl, fun G => .int _⟩
    · cases h
  have h2 : Op2 X T (binaryOp .Add) addA2 := by
    refine ⟨_, op_add_str, fun G H x y dx dy d Q e t rx ry hd q => ?_⟩
    unfold addA2 at hd; split at hd
    · split at hd
      · rename_i c; cases hd; cases rx; cases ry; exact ⟨_, _, rfl, rfl, c, Ext.q0 q e t (.str _)⟩
      · cases hd
    · cases hd
  have h3 : Op2 X T (binaryOp .Add) addA3 := by
    refine ⟨_, op_catA, fun G H x y dx dy d Q e t rx ry hd q => ?_⟩
    unfold addA3 at hd; split at hd
    · split at hd
      · rename_i c; cases hd
        cases rx with
        | tup a1 a2 =>
          cases ry with
          | tup b1 b2 =>
            have z : _ ≤ sizeLine := c
            rw [← a2.length, ← b2.length] at z
            refine ⟨_, _, _, _, rfl, rfl, .inl (.inl (e _ _ a1).1), .inl (.inl (e _ _ b1).1), z, fun n => ?_, fun n1 n2 => ?_, fun n1 n2 p hp => ?_⟩
            · subst n; cases a2; exact Ext.q0 q e t (.tup b1 b2)
            · subst n2; cases b2; rw [List.append_nil] at q; exact Ext.q0 q e t (.tup a1 a2)
            · exact Ext.qtup q e t (a2.append b2) hp
      · cases hd
    · cases hd
  have h4 : Op2 X T (binaryOp .Add) addA4 := by
    refine ⟨_, op_cat, fun G H x y dx dy d Q e t rx ry hd q => ?_⟩
    unfold addA4 at hd; split at hd
    · split at hd
      · rename_i c; cases hd
        cases rx with
        | lst a1 a2 =>
          cases ry with
          | lst b1 b2 =>
            have z : _ ≤ sizeLine := c
            rw [← a2.length, ← b2.length] at z
            exact ⟨_, _, _, _, rfl, rfl, (e _ _ a1).1, (e _ _ b1).1, z, fun p hp => Ext.qlst q e t (a2.append b2) hp⟩
      · cases hd
    · cases hd
  refine (((h1.or h2).or h3).or h4).le fun x y d h => ?_
  revert h
  cases x <;> cases y <;> simp [addD, addA1, addA2, addA3, addA4]
theorem Reps.flat {K : PySem.W.Frag} {mg : Str → Option Value} {G : Hp} {vs : List V} {ds : List D} (h : Reps K mg G vs ds) : ∀ k : Nat, Reps K mg G (List.replicate k vs).flatten (List.replicate k ds).flatten
  | 0 => .nil
  | k + 1 => by
    rw [List.replicate_succ, List.replicate_succ, List.flatten_cons, List.flatten_cons]
    exact h.append (Reps.flat h k)
theorem o_mulT : Op2 X T (binaryOp .Mult) mulT := by
  refine ⟨_, op_repT, fun G H x y dx dy d Q e t rx ry hd q => ?_⟩
  unfold mulT at hd; split at hd
  · split at hd
    · rename_i c; cases hd
      cases ry
      cases rx with
      | tup a1 a2 =>
        refine ⟨_, _, _, rfl, rfl, .inl (.inl (e _ _ a1).1), fun n => ?_, c.2.1, c.2.2.1, (by rw [a2.length]; exact c.2.2.2), fun p hp => Ext.qtup q e t (a2.flat _) hp⟩
        subst n; cases a2; exact c.1 rfl
    · cases hd
  · cases hd
theorem Reps.of_ints {K : PySem.W.Frag} {mg : Str → Option Value} {G : Hp} : ∀ {ds : List D} {ns : List Int} {vs : List V}, D.ints ds = some ns → Reps K mg G vs ds → vs = ns.map V.int
  | [], _, _, h, r => by cases h; cases r; rfl
  | .int i :: ds, ns, _, h, r => by
    unfold D.ints at h
    cases z : D.ints ds with
    | none => rw [z] at h; cases h
    | some ms =>
      rw [z] at h; cases h
      cases r with
      | cons r1 r2 => cases r1; rw [Reps.of_ints z r2]; rfl
  | .non :: ds, _, _, h, _ => by cases h
  | .bl _ :: ds, _, _, h, _ => by cases h
  | .str _ :: ds, _, _, h, _ => by cases h
  | .tup _ :: ds, _, _, h, _ => by cases h
  | .ctup _ :: ds, _, _, h, _ => by cases h
  | .lst _ :: ds, _, _, h, _ => by cases h
  | .scr _ :: ds, _, _, h, _ => by cases h
  | .dct _ :: ds, _, _, h, _ => by cases h
  | .obj _ _ :: ds, _, _, h, _ => by cases h
theorem Rep.key {K : PySem.W.Frag} {mg : Str → Option Value} {G : Hp} {v : V} {d : D} {ns : List Int} (h : Rep K mg G v d) (e : d.key = some ns) : ∃ a, v = .ref a ∧ G a = some (.tup (ns.map V.int)) := by
  cases h with
  | tup h1 h2 => exact ⟨_, rfl, by rw [← Reps.of_ints e h2]; exact h1⟩
  | _ => cases e
theorem o_ltT (hu : X.A.units + 64 < cLine) : Op2 X T (compareOp .Lt) ltD := by
  have h1 : Op2 X T (compareOp .Lt) (fun x y => match x.key, y.key with | some a, some b => some (.bl (HT.lexLt a b)) | _, _ => none) := by
    refine ⟨_, op_ltT (by omega), fun G H x y dx dy d Q e t rx ry hd q => ?_⟩
    dsimp only at hd
    split at hd
    · rename_i a b ha hb
      cases hd
      obtain ⟨p, rfl, hp⟩ := rx.key ha
      obtain ⟨p', rfl, hp'⟩ := ry.key hb
      exact ⟨p, p', a, b, rfl, rfl, .inl (.inl (e _ _ hp).1), .inl (.inl (e _ _ hp').1), Ext.q0 q e t (.bl _)⟩
    · cases hd
  refine (h1.or o_lt).le fun x y d h => ?_
  unfold ltD at h
  split at h
  · rename_i a b ha hb; simp only [ha, hb, Option.some_or]; exact h
  · rename_i hn
    have : (match x.key, y.key with | some a, some b => some (D.bl (HT.lexLt a b)) | _, _ => none) = none := by
      split
      · rename_i a b ha hb; exact absurd hb (hn a b ha)
      · rfl
    first
      | (rw [this, Option.none_or]; exact h)
      | (rw [Option.none_or]; exact h)
theorem RelV.dnon {K : PySem.W.Frag} {mg : Str → Option Value} {G : Hp} {v : V} {d : D} (h : Rep K mg G v d) : decide (v = .non) = d.isNon := by
  cases h <;> rfl
def isA1 : D → D → Option D
  | x, .non => some (.bl x.isNon)
  | _, _ => none
def isA2 : D → D → Option D
  | .bl a, .bl b => some (.bl (decide (a = b)))
  | _, _ => none
def isB1 : D → D → Option D
  | x, .non => some (.bl (!x.isNon))
  | _, _ => none
def isB2 : D → D → Option D
  | .bl a, .bl b => some (.bl (!decide (a = b)))
  | _, _ => none
theorem o_is : Op2 X T (compareOp .Is) isD := by
  have h1 : Op2 X T (compareOp .Is) isA1 := by
    refine ⟨_, op_isN, fun G H x y dx dy d Q e t rx ry hd q => ?_⟩
    unfold isA1 at hd; split at hd
    · cases hd; cases ry; exact ⟨rfl, Ext.q0 q e t (by rw [RelV.dnon rx]; exact .bl _)⟩
    · cases hd
  have h2 : Op2 X T (compareOp .Is) isA2 := by
    refine ⟨_, op_isBl, fun G H x y dx dy d Q e t rx ry hd q => ?_⟩
    unfold isA2 at hd; split at hd
    · cases hd; cases rx; cases ry; exact ⟨_, _, rfl, rfl, Ext.q0 q e t (.bl _)⟩
    · cases hd
  refine (h1.or h2).le fun x y d h => ?_
  revert h
  cases x <;> cases y <;> simp [isD, isA1, isA2]
theorem o_isNot : Op2 X T (compareOp .IsNot) isNotD := by
  have h1 : Op2 X T (compareOp .IsNot) isB1 := by
    refine ⟨_, op_notN, fun G H x y dx dy d Q e t rx ry hd q => ?_⟩
    unfold isB1 at hd; split at hd
    · cases hd; cases ry; exact ⟨rfl, Ext.q0 q e t (by rw [RelV.dnon rx]; exact .bl _)⟩
    · cases hd
  have h2 : Op2 X T (compareOp .IsNot) isB2 := by
    refine ⟨_, op_notBl, fun G H x y dx dy d Q e t rx ry hd q => ?_⟩
    unfold isB2 at hd; split at hd
    · cases hd; cases rx; cases ry; exact ⟨_, _, rfl, rfl, Ext.q0 q e t (.bl _)⟩
    · cases hd
  refine (h1.or h2).le fun x y d h => ?_
  revert h
  cases x <;> cases y <;> simp [isNotD, isB1, isB2]
end
end PV
namespace PV
open PySem PySem.Spec L2
def notO (o : Option Bool) : Option D := o.map fun b => .bl (!b)
def yesO (o : Option Bool) : Option D := o.map fun b => .bl b
def inStr : D → D → Option Bool
  | .str i, .str j => some (!(Builtin.Str.occurrences j i 0 j.length 1).isEmpty)
  | _, _ => none
def inD (x y : D) : Option D := yesO ((inStr x y).or (inSeq x y))
def notInD (x y : D) : Option D := notO ((inStr x y).or (inSeq x y))
def lenD : D → Option D
  | .str s => if s.length ≤ sizeLine then some (.int s.length) else none
  | .tup xs => some (.int xs.length)
  | .ctup xs => some (.int xs.length)
  | .lst xs => some (.int xs.length)
  | .scr ns => some (.int ns.length)
  | _ => none
def tupleD : D → Option D
  | .tup xs => some (.tup xs)
  | .lst xs => some (.tup xs)
  | _ => none
def listD : D → Option D
  | .tup xs => some (.lst xs)
  | .ctup xs => some (.lst xs)
  | .lst xs => some (.lst xs)
  | _ => none
def intD : D → Option D
  | .int i => some (.int i)
  | .bl b => some (.int (if b then 1 else 0))
  | _ => none
def strD : D → Option D
  | .int i => if i.natAbs.log2 < 1920 then some (.str (toString i)) else none
  | _ => none
def absD : D → Option D
  | .int i => some (.int (if i < 0 then -i else i))
  | _ => none
def max2D : List D → Option D
  | [.int i, .int j] => some (.int (if j > i then j else i))
  | _ => none
def min2D : List D → Option D
  | [.int i, .int j] => some (.int (if j < i then j else i))
  | _ => none
def D.bools : List D → Option (List Bool)
  | [] => some []
  | .bl b :: r => match D.bools r with | some bs => some (b :: bs) | none => none
  | _ :: _ => none
def allD : D → Option D
  | .lst xs => (D.bools xs).map fun bs => .bl (bs.all id)
  | _ => none
def anyD : D → Option D
  | .lst xs => (D.bools xs).map fun bs => .bl (bs.any id)
  | _ => none
def maxI : List Int → Int
  | [] => 0
  | [n] => n
  | n :: r => max n (maxI r)
def minI : List Int → Int
  | [] => 0
  | [n] => n
  | n :: r => min n (minI r)
def maxD : D → Option D
  | .lst xs => match D.ints xs with
    | some (n :: ns) => some (.int (maxI (n :: ns)))
    | _ => none
  | _ => none
def minD : D → Option D
  | .lst xs => match D.ints xs with
    | some (n :: ns) => some (.int (minI (n :: ns)))
    | _ => none
  | _ => none
section
variable {X : Cx} {T : Tbs}
theorem rR.dp {G H : Hp} {v : V} {d : D} {p : PyData} (r : rR X G H v d) (e : Vw G H) (h : d.py = some p) : Dp X.K H v p := by
  rcases r with r | ⟨a, rfl, _, ⟨vs, ds, rfl, h1, h2⟩ | ⟨kvs, kds, rfl, _, _⟩⟩
  · exact Rep.dp e.sm _ _ _ r h
  · unfold D.py at h
    cases z : D.pys ds with
    | none => rw [z] at h; cases h
    | some ys => rw [z] at h; cases h; exact .lst (SqL.of h1) (Reps.dp e.sm _ _ _ h2 z)
  · cases h
theorem rR.items {G H : Hp} {v : V} {d : D} {ds : List D} (r : rR X G H v d) (e : Vw G H) (h : d.items = some ds) : ∃ a vs, v = .ref a ∧ (SqL X.K H a vs ∨ SqT X.K H a vs) ∧ Reps X.K X.mg G vs ds := by
  rcases r with r | ⟨a, rfl, _, ⟨vs, ds', rfl, h1, h2⟩ | ⟨kvs, kds, rfl, _, _⟩⟩
  · obtain ⟨a, vs, rfl, q, k⟩ := r.items h
    refine ⟨a, vs, rfl, ?_, k⟩
    rcases q with q | q
    · exact .inl (e.sm.sqL q)
    · exact .inr (e.sm.sqT q)
  · cases h; exact ⟨a, vs, rfl, .inl (SqL.of h1), h2⟩
  · cases h
theorem rR.str {G H : Hp} {v : V} {s : Str} (r : rR X G H v (.str s)) : v = .str s := by
  rcases r with r | ⟨a, rfl, _, ⟨vs, ds', z, h1, h2⟩ | ⟨kvs, kds, z, _, _⟩⟩
  · cases r; rfl
  · cases z
  · cases z
theorem rR.int {G H : Hp} {v : V} {s : Int} (r : rR X G H v (.int s)) : v = .int s := by
  rcases r with r | ⟨a, rfl, _, ⟨vs, ds', z, h1, h2⟩ | ⟨kvs, kds, z, _, _⟩⟩
  · cases r; rfl
  · cases z
  · cases z
theorem rR.bl {G H : Hp} {v : V} {s : Bool} (r : rR X G H v (.bl s)) : v = .bl s := by
  rcases r with r | ⟨a, rfl, _, ⟨vs, ds', z, h1, h2⟩ | ⟨kvs, kds, z, _, _⟩⟩
  · cases r; rfl
  · cases z
  · cases z
theorem rR.tup {G H : Hp} {v : V} {ds : List D} (r : rR X G H v (.tup ds)) (e : Vw G H) : ∃ a vs, v = .ref a ∧ G a = some (.tup vs) ∧ H a = some (.tup vs) ∧ Reps X.K X.mg G vs ds := by
  rcases r with r | ⟨a, rfl, _, ⟨vs, ds', z, h1, h2⟩ | ⟨kvs, kds, z, _, _⟩⟩
  · cases r with | tup h1 h2 => exact ⟨_, _, rfl, h1, (e _ _ h1).1, h2⟩
  · cases z
  · cases z
theorem rR.ctup {G H : Hp} {v : V} {ds : List D} (r : rR X G H v (.ctup ds)) (e : Vw G H) : ∃ a vs, v = .ref a ∧ SqT X.K H a vs ∧ Reps X.K X.mg G vs ds := by
  rcases r with r | ⟨a, rfl, _, ⟨vs, ds', z, h1, h2⟩ | ⟨kvs, kds, z, _, _⟩⟩
  · cases r with | ctup h1 h2 => exact ⟨_, _, rfl, e.sm.sqT h1, h2⟩
  · cases z
  · cases z
theorem rR.lst {G H : Hp} {v : V} {ds : List D} (r : rR X G H v (.lst ds)) (e : Vw G H) : ∃ a vs, v = .ref a ∧ H a = some (.lst vs) ∧ Reps X.K X.mg G vs ds := by
  rcases r with r | ⟨a, rfl, _, ⟨vs, ds', z, h1, h2⟩ | ⟨kvs, kds, z, _, _⟩⟩
  · cases r with | lst h1 h2 => exact ⟨_, _, rfl, (e _ _ h1).1, h2⟩
  · cases z; exact ⟨a, vs, rfl, h1, h2⟩
  · cases z
theorem o_eq_r (hu : X.A.units + 64 < cLine) : Op2r X T (compareOp .Eq) eqD := by
  refine ⟨_, op_eqD hu, fun G H x y dx dy d Q e t rx ry hd q => ?_⟩
  unfold eqD at hd; split at hd
  · rename_i c; cases hd
    rw [Bool.and_eq_true] at c
    obtain ⟨a, e1, s1⟩ := D.ok_shaped c.1
    obtain ⟨b, e2, s2⟩ := D.ok_shaped c.2
    exact ⟨a, b, rx.dp e e1, ry.dp e e2, s1, s2, by rw [D.eqv_py dx dy 60 a b c.1 c.2 e1 e2]; exact Ext.q0 q e t (.bl _)⟩
  · cases hd
theorem o_ne_r (hu : X.A.units + 64 < cLine) : Op2r X T (compareOp .NotEq) neD := by
  refine ⟨_, op_neD hu, fun G H x y dx dy d Q e t rx ry hd q => ?_⟩
  unfold neD at hd; split at hd
  · rename_i c; cases hd
    rw [Bool.and_eq_true] at c
    obtain ⟨a, e1, s1⟩ := D.ok_shaped c.1
    obtain ⟨b, e2, s2⟩ := D.ok_shaped c.2
    exact ⟨a, b, rx.dp e e1, ry.dp e e2, s1, s2, by rw [D.eqv_py dx dy 60 a b c.1 c.2 e1 e2]; exact Ext.q0 q e t (.bl _)⟩
  · cases hd
/-- x in y, y a sequence: by its data -/
theorem reads_seq {pins : List (Addr × Obj)} {σ : L2.St} {H : Hp} {s : Shared} (I : Inv X pins σ H s) {a : Addr} {vs : List V} {bs : List PyData} (h : SqL X.K H a vs ∨ SqT X.K H a vs) (hp : DpAll X.K H vs bs) :
    (∃ as, Reads s.heap (.ref a) (.list bs) as) ∨ ∃ as, Reads s.heap (.ref a) (.tuple bs) as := by
  rcases h with h | h
  · exact .inl (Dp.reads I (.list bs) _ _ (.lst h hp) rfl)
  · exact .inr (Dp.reads I (.tuple bs) _ _ (.tup h hp) rfl)
theorem op_inQ (hu : X.A.units + 65 < cLine) : OpR X (compareOp .In) (fun x y H Q => ∃ a vs d bs, y = .ref a ∧ (SqL X.K H a vs ∨ SqT X.K H a vs) ∧ DpAll X.K H vs bs ∧ Dp X.K H x d ∧ SeqAt.shaped d = true ∧ SeqAt.shaped (.list bs) = true ∧ Q (.bl ((bs.any fun y => PyData.eqv y d))) H) := by
  intro pins s σ H x y v u Q I rx ry h
  obtain ⟨a, vs, d, bs, rfl, hq, hb, hd, sd, se, q⟩ := h
  obtain rfl : u = Value.ref a := ry
  obtain ⟨as, r1⟩ := Dp.reads I d x v hd rx
  rcases reads_seq I hq hb with ⟨cs, r2⟩ | ⟨cs, r2⟩
  · exact SeqAt.in_list_reads r2 r1 (SeqAt.canLay_of_shaped se) (SeqAt.canLay_of_shaped sd) (PyProof.Rows.room_in_shaped sd hu) ⟨.bl _, H, I, rfl, q⟩
  · exact SeqAt.in_tuple_reads r2 r1 (SeqAt.canLay_of_shaped se) (SeqAt.canLay_of_shaped sd) (PyProof.Rows.room_in_shaped sd hu) ⟨.bl _, H, I, rfl, q⟩
theorem op_notInQ (hu : X.A.units + 65 < cLine) : OpR X (compareOp .NotIn) (fun x y H Q => ∃ a vs d bs, y = .ref a ∧ (SqL X.K H a vs ∨ SqT X.K H a vs) ∧ DpAll X.K H vs bs ∧ Dp X.K H x d ∧ SeqAt.shaped d = true ∧ SeqAt.shaped (.list bs) = true ∧ Q (.bl (!(bs.any fun y => PyData.eqv y d))) H) := by
  intro pins s σ H x y v u Q I rx ry h
  obtain ⟨a, vs, d, bs, rfl, hq, hb, hd, sd, se, q⟩ := h
  obtain rfl : u = Value.ref a := ry
  obtain ⟨as, r1⟩ := Dp.reads I d x v hd rx
  rcases reads_seq I hq hb with ⟨cs, r2⟩ | ⟨cs, r2⟩
  · exact SeqAt.notIn_list_reads r2 r1 (SeqAt.canLay_of_shaped se) (SeqAt.canLay_of_shaped sd) (PyProof.Rows.room_in_shaped sd hu) ⟨.bl _, H, I, rfl, q⟩
  · exact SeqAt.notIn_tuple_reads r2 r1 (SeqAt.canLay_of_shaped se) (SeqAt.canLay_of_shaped sd) (PyProof.Rows.room_in_shaped sd hu) ⟨.bl _, H, I, rfl, q⟩
theorem any_py : ∀ (ys : List D) (bs : List PyData) (x : D) (a : PyData), D.ok 59 x = true → D.oks 59 ys = true → x.py = some a → D.pys ys = some bs → (bs.any fun y => PyData.eqv y a) = memD ys x
  | [], _, _, _, _, _, _, e => by cases e; rfl
  | y :: ys, bs, x, a, hx, h, ex, e => by
    unfold D.oks at h
    rw [Bool.and_eq_true] at h
    obtain ⟨q, e1, _, _⟩ := D.ok_py y 59 h.1
    obtain ⟨qs, e2, _, _⟩ := D.oks_py ys 59 h.2
    unfold D.pys at e
    rw [e1, e2] at e
    cases e
    show (PyData.eqv q a || qs.any _) = (D.eqv y x || memD ys x)
    rw [D.eqv_py y x 59 q a h.1 hx e1 ex, any_py ys qs x a hx h.2 ex e2]
theorem D.ok_up : ∀ (d : D) {m n : Nat}, m ≤ n → D.ok m d = true → ∃ p, d.py = some p ∧ p.canLay0 = true ∧ p.depth ≤ n := fun d m n l h => by
  obtain ⟨p, e, a, b⟩ := D.ok_py d m h
  exact ⟨p, e, a, Nat.le_trans b l⟩
theorem inSeq_some {x y : D} {b : Bool} (h : inSeq x y = some b) : ∃ ys a bs, y.items = some ys ∧ x.py = some a ∧ D.pys ys = some bs ∧ SeqAt.shaped a = true ∧ SeqAt.shaped (.list bs) = true ∧ b = (bs.any fun y => PyData.eqv y a) := by
  unfold inSeq at h
  split at h
  · cases h
  · rename_i ys hy
    split at h
    · rename_i c
      rw [Bool.and_eq_true] at c
      cases h
      obtain ⟨a, e1, a1, b1⟩ := D.ok_up x (m := 59) (n := 60) (by decide) c.1
      obtain ⟨bs, e2, s2⟩ := D.oks_shaped c.2
      refine ⟨ys, a, bs, hy, e1, e2, ?_, s2, (any_py ys bs x a c.1 c.2 e1 e2).symm⟩
      unfold SeqAt.shaped; rw [a1, decide_eq_true (by omega)]; rfl
    · cases h
theorem inStr_some {x y : D} {b : Bool} (h : inStr x y = some b) : ∃ i j, x = .str i ∧ y = .str j ∧ b = !(Builtin.Str.occurrences j i 0 j.length 1).isEmpty := by
  unfold inStr at h
  split at h
  · cases h; exact ⟨_, _, rfl, rfl, rfl⟩
  · cases h
theorem Option.or_some {α : Type} {a b : Option α} {x : α} (h : a.or b = some x) : a = some x ∨ (a = none ∧ b = some x) := by
  cases a with
  | some y => exact .inl h
  | none => exact .inr ⟨rfl, h⟩
theorem o_in_r (hu : X.A.units + 65 < cLine) : Op2r X T (compareOp .In) inD := by
  refine ⟨_, OpR.or (@op_in_str X) (op_inQ hu), fun G H x y dx dy d Q e t rx ry hd q => ?_⟩
  unfold inD yesO at hd
  rw [Option.map_eq_some_iff] at hd
  obtain ⟨b, hb, rfl⟩ := hd
  rcases Option.or_some hb with h | ⟨_, h⟩
  · obtain ⟨i, j, rfl, rfl, rfl⟩ := inStr_some h
    exact .inl ⟨i, j, rx.str, ry.str, Ext.q0 q e t (.bl _)⟩
  · obtain ⟨ys, a, bs, h1, h2, h3, h4, h5, rfl⟩ := inSeq_some h
    obtain ⟨p, vs, rfl, hq, hr⟩ := ry.items e h1
    exact .inr ⟨p, vs, a, bs, rfl, hq, Reps.dp e.sm _ _ _ hr h3, rx.dp e h2, h4, h5, Ext.q0 q e t (.bl _)⟩
theorem o_notIn_r (hu : X.A.units + 65 < cLine) : Op2r X T (compareOp .NotIn) notInD := by
  refine ⟨_, OpR.or (@op_notIn_str X) (op_notInQ hu), fun G H x y dx dy d Q e t rx ry hd q => ?_⟩
  unfold notInD notO at hd
  rw [Option.map_eq_some_iff] at hd
  obtain ⟨b, hb, rfl⟩ := hd
  rcases Option.or_some hb with h | ⟨_, h⟩
  · obtain ⟨i, j, rfl, rfl, rfl⟩ := inStr_some h
    refine .inl ⟨i, j, rx.str, ry.str, Ext.q0 q e t ?_⟩
    rw [Bool.not_not]; exact .bl _
  · obtain ⟨ys, a, bs, h1, h2, h3, h4, h5, rfl⟩ := inSeq_some h
    obtain ⟨p, vs, rfl, hq, hr⟩ := ry.items e h1
    exact .inr ⟨p, vs, a, bs, rfl, hq, Reps.dp e.sm _ _ _ hr h3, rx.dp e h2, h4, h5, Ext.q0 q e t (.bl _)⟩
theorem ix_q : IxR X (fun x y H Q => ∃ p xs i v, x = .ref p ∧ y = .int i ∧ (SqL X.K H p xs ∨ SqT X.K H p xs) ∧ atI xs i = some v ∧ Q v H) := by
  intro value slice pins s σ H x y v u Q I rx ry h hs
  obtain ⟨p, xs, i, z, e1, e2, hq, he, q⟩ := h
  rcases hq with hq | hq
  · exact ix_list value slice pins s σ H x y v u Q I rx ry ⟨p, xs, i, z, e1, e2, hq, he, q⟩ hs
  · exact ix_tup value slice pins s σ H x y v u Q I rx ry ⟨p, xs, i, z, e1, e2, hq, he, q⟩ hs
theorem Reps.atI {K : PySem.W.Frag} {mg : Str → Option Value} {G : Hp} {vs : List V} {ds : List D} {i : Int} {d : D} (h : Reps K mg G vs ds) (e : L2.atI ds i = some d) : ∃ v, L2.atI vs i = some v ∧ Rep K mg G v d := by
  unfold L2.atI at e ⊢
  rw [h.length]
  cases z : ixN ds.length i with
  | none => rw [z] at e; cases e
  | some j => rw [z] at e; exact h.get e
def ixD (x y : D) : Option D := (ixS x y).or (ixQ x y)
theorem o_ix_r : OpXr X T ixD := by
  refine ⟨_, IxR.or (@ix_str X) ix_q, fun G H x y dx dy d Q e t rx ry hd q => ?_⟩
  rcases Option.or_some hd with h | ⟨h0, h⟩
  · unfold ixS at h; split at h
    · split at h
      · rename_i c
        rw [Option.map_eq_some_iff] at h
        obtain ⟨k, hk, rfl⟩ := h
        exact .inl ⟨_, _, k, rx.str, ry.int, c, hk, Ext.q0 q e t (.str _)⟩
      · cases h
    · cases h
  · unfold ixQ at h; split at h
    · rename_i ds i hds
      obtain ⟨p, vs, rfl, hq, hr⟩ := rx.items e hds
      obtain ⟨v, hv, rv⟩ := hr.atI h
      exact .inr ⟨p, vs, i, v, rfl, ry.int, hq, hv, Ext.q0 q e t rv⟩
    · cases h
theorem Op1r.le {f : Value} {g g' : D → Option D} (h : Op1r X T f g) (l : ∀ x d, g' x = some d → g x = some d) : Op1r X T f g' := by
  obtain ⟨r, hr, hg⟩ := h
  exact ⟨r, hr, fun G H x dx d Q e t rx hd q => hg G H x dx d Q e t rx (l _ _ hd) q⟩
theorem o_len : Op1r X T (.builtin "len") lenD := by
  refine ⟨_, call_len, fun G H x dx d Q e t rx hd q => ?_⟩
  have hseq : ∀ ds, dx.items = some ds → d = .int ds.length → ∃ x_1 n, [x] = [x_1] ∧ LenV X.K x_1 H n ∧ Q (.int n) H := fun ds h1 h2 => by
    subst h2
    obtain ⟨a, vs, rfl, h, hr⟩ := rx.items e h1
    refine ⟨_, vs.length, rfl, ?_, by rw [hr.length]; exact Ext.q0 q e t (.int _)⟩
    rcases h with h | h
    · exact .inl ⟨_, h, rfl⟩
    · exact .inr ⟨_, h, rfl⟩
  cases dx with
  | str s =>
    have hd : (if s.length ≤ sizeLine then some (D.int s.length) else none) = some d := hd
    split at hd
    · rename_i c; cases hd; cases rx.str; exact ⟨_, _, rfl, ⟨c, rfl⟩, Ext.q0 q e t (.int _)⟩
    · cases hd
  | tup xs => cases hd; exact hseq xs rfl rfl
  | ctup xs => cases hd; exact hseq xs rfl rfl
  | lst xs => cases hd; exact hseq xs rfl rfl
  | scr xs => cases hd; exact hseq (xs.map D.int) rfl (by simp)
  | _ => cases hd
theorem o_tuple : Op1r X T (.type "tuple") tupleD := by
  refine ⟨_, call_tuple_of, fun G H x dx d Q e t rx hd q => ?_⟩
  cases dx with
  | tup xs =>
    cases hd
    rcases rx with r | ⟨a, rfl, _, ⟨vs, ds', z, h1, h2⟩ | ⟨kvs, kds, z, _, _⟩⟩
    · cases r with | tup h1 h2 => exact ⟨_, _, rfl, .inr ⟨.inl (.inl (e _ _ h1).1), Ext.q0 q e t (.tup h1 h2)⟩⟩
    · cases z
    · cases z
  | lst xs =>
    cases hd
    obtain ⟨a, vs, rfl, h1, h2⟩ := rx.lst e
    exact ⟨a, vs, rfl, .inl ⟨SqL.of h1, fun l hl => Ext.qtup q e t h2 hl⟩⟩
  | _ => cases hd
/-- list(x): a new list -/
theorem o_list : Op1r X T (.type "list") listD := by
  refine ⟨_, call_list_of, fun G H x dx d Q e t rx hd q => ?_⟩
  have hseq : ∀ ds, dx.items = some ds → d = .lst ds → ∃ p ys, [x] = [V.ref p] ∧ (SqL X.K H p ys ∨ SqT X.K H p ys) ∧ ∀ l, H l = none → Q (.ref l) (upd H l (.lst ys)) := fun ds h1 h2 => by
    subst h2
    obtain ⟨a, vs, rfl, h, hr⟩ := rx.items e h1
    exact ⟨a, vs, rfl, h, fun l hl => Ext.qlst q e t hr hl⟩
  cases dx with
  | tup xs => cases hd; exact hseq xs rfl rfl
  | ctup xs => cases hd; exact hseq xs rfl rfl
  | lst xs => cases hd; exact hseq xs rfl rfl
  | _ => cases hd
theorem o_int : Op1r X T (.type "int") intD := by
  refine ⟨_, call_int1, fun G H x dx d Q e t rx hd q => ?_⟩
  cases dx with
  | int i => cases hd; cases rx.int; exact .inl ⟨_, rfl, Ext.q0 q e t (.int _)⟩
  | bl b => cases hd; cases rx.bl; exact .inr ⟨_, rfl, Ext.q0 q e t (.int _)⟩
  | _ => cases hd
theorem o_str : Op1r X T (.type "str") strD := by
  refine ⟨_, call_str_int, fun G H x dx d Q e t rx hd q => ?_⟩
  cases dx with
  | int i =>
    have hd : (if i.natAbs.log2 < 1920 then some (D.str (toString i)) else none) = some d := hd
    split at hd
    · rename_i c; cases hd; cases rx.int; exact ⟨_, rfl, c, Ext.q0 q e t (.str _)⟩
    · cases hd
  | _ => cases hd
theorem o_abs : Op1r X T (.builtin "abs") absD := by
  refine ⟨_, call_abs, fun G H x dx d Q e t rx hd q => ?_⟩
  cases dx with
  | int i => cases hd; cases rx.int; exact ⟨_, rfl, Ext.q0 q e t (.int _)⟩
  | _ => cases hd
theorem o_max2 (hc : X.calm = true) : OpN X T (.builtin "max") max2D := by
  refine ⟨_, call_max2 hc, fun G H xs ds d Q e t rx hd q => ?_⟩
  unfold max2D at hd; split at hd
  · cases hd; cases rx with | cons r1 r2 => cases r2 with | cons r2 r3 => cases r3; cases r1; cases r2; exact ⟨_, _, rfl, Ext.q0 q e t (.int _)⟩
  · cases hd
theorem o_min2 (hc : X.calm = true) : OpN X T (.builtin "min") min2D := by
  refine ⟨_, call_min2 hc, fun G H xs ds d Q e t rx hd q => ?_⟩
  unfold min2D at hd; split at hd
  · cases hd; cases rx with | cons r1 r2 => cases r2 with | cons r2 r3 => cases r3; cases r1; cases r2; exact ⟨_, _, rfl, Ext.q0 q e t (.int _)⟩
  · cases hd
theorem Reps.of_bools {K : PySem.W.Frag} {mg : Str → Option Value} {G : Hp} : ∀ {ds : List D} {ns : List Bool} {vs : List V}, D.bools ds = some ns → Reps K mg G vs ds → vs = ns.map V.bl
  | [], _, _, h, r => by cases h; cases r; rfl
  | d :: ds, ns, _, h, r => by
    cases d with
    | bl b =>
      unfold D.bools at h
      cases z : D.bools ds with
      | none => rw [z] at h; cases h
      | some ms => rw [z] at h; cases h; cases r with | cons r1 r2 => cases r1; rw [Reps.of_bools z r2]; rfl
    | _ => cases h
theorem o_all (hc : X.calm = true) : Op1r X T (.builtin "all") allD := by
  refine ⟨_, cr_all hc, fun G H x dx d Q e t rx hd q => ?_⟩
  cases dx with
  | lst xs =>
    unfold allD at hd
    rw [Option.map_eq_some_iff] at hd
    obtain ⟨bs, hb, rfl⟩ := hd
    obtain ⟨a, vs, rfl, h1, h2⟩ := rx.lst e
    exact ⟨a, bs, rfl, by rw [← Reps.of_bools hb h2]; exact SqL.of h1, Ext.q0 q e t (.bl _)⟩
  | _ => cases hd
theorem o_any (hc : X.calm = true) : Op1r X T (.builtin "any") anyD := by
  refine ⟨_, cr_any hc, fun G H x dx d Q e t rx hd q => ?_⟩
  cases dx with
  | lst xs =>
    unfold anyD at hd
    rw [Option.map_eq_some_iff] at hd
    obtain ⟨bs, hb, rfl⟩ := hd
    obtain ⟨a, vs, rfl, h1, h2⟩ := rx.lst e
    exact ⟨a, bs, rfl, by rw [← Reps.of_bools hb h2]; exact SqL.of h1, Ext.q0 q e t (.bl _)⟩
  | _ => cases hd
theorem maxI_mem : ∀ (ns : List Int), ns ≠ [] → maxI ns ∈ ns ∧ ∀ y ∈ ns, y ≤ maxI ns
  | [], h => absurd rfl h
  | [n], _ => ⟨by simp [maxI], by simp [maxI]⟩
  | n :: m :: r, _ => by
    obtain ⟨h1, h2⟩ := maxI_mem (m :: r) (by simp)
    show max n (maxI (m :: r)) ∈ _ ∧ ∀ y ∈ _, y ≤ max n (maxI (m :: r))
    refine ⟨?_, fun y hy => ?_⟩
    · by_cases c : n ≤ maxI (m :: r)
      · rw [Int.max_eq_right c]; exact List.mem_cons_of_mem _ h1
      · rw [Int.max_eq_left (by omega)]; exact List.mem_cons_self
    · rcases List.mem_cons.mp hy with rfl | hy
      · omega
      · have := h2 y hy; omega
theorem minI_mem : ∀ (ns : List Int), ns ≠ [] → minI ns ∈ ns ∧ ∀ y ∈ ns, minI ns ≤ y
  | [], h => absurd rfl h
  | [n], _ => ⟨by simp [minI], by simp [minI]⟩
  | n :: m :: r, _ => by
    obtain ⟨h1, h2⟩ := minI_mem (m :: r) (by simp)
    show min n (minI (m :: r)) ∈ _ ∧ ∀ y ∈ _, min n (minI (m :: r)) ≤ y
    refine ⟨?_, fun y hy => ?_⟩
    · by_cases c : n ≤ minI (m :: r)
      · rw [Int.min_eq_left c]; exact List.mem_cons_self
      · rw [Int.min_eq_right (by omega)]; exact List.mem_cons_of_mem _ h1
    · rcases List.mem_cons.mp hy with rfl | hy
      · omega
      · have := h2 y hy; omega
theorem o_max (hc : X.calm = true) : Op1r X T (.builtin "max") maxD := by
  refine ⟨_, cr_max hc, fun G H x dx d Q e t rx hd q => ?_⟩
  cases dx with
  | lst xs =>
    have hd : (match D.ints xs with | some (n :: ns) => some (D.int (maxI (n :: ns))) | _ => none) = some d := hd
    split at hd
    · rename_i n ns hb
      cases hd
      obtain ⟨a, vs, rfl, h1, h2⟩ := rx.lst e
      refine ⟨a, n :: ns, rfl, by rw [← Reps.of_ints hb h2]; exact SqL.of h1, by simp, fun m hm hle => ?_⟩
      obtain ⟨z1, z2⟩ := maxI_mem (n :: ns) (by simp)
      have : m = maxI (n :: ns) := Int.le_antisymm (z2 m hm) (hle _ z1)
      subst this
      exact Ext.q0 q e t (.int _)
    · cases hd
  | _ => cases hd
theorem o_min (hc : X.calm = true) : Op1r X T (.builtin "min") minD := by
  refine ⟨_, cr_min hc, fun G H x dx d Q e t rx hd q => ?_⟩
  cases dx with
  | lst xs =>
    have hd : (match D.ints xs with | some (n :: ns) => some (D.int (minI (n :: ns))) | _ => none) = some d := hd
    split at hd
    · rename_i n ns hb
      cases hd
      obtain ⟨a, vs, rfl, h1, h2⟩ := rx.lst e
      refine ⟨a, n :: ns, rfl, by rw [← Reps.of_ints hb h2]; exact SqL.of h1, by simp, fun m hm hle => ?_⟩
      obtain ⟨z1, z2⟩ := minI_mem (n :: ns) (by simp)
      have : m = minI (n :: ns) := Int.le_antisymm (hle _ z1) (z2 m hm)
      subst this
      exact Ext.q0 q e t (.int _)
    · cases hd
  | _ => cases hd
end
end PV
namespace PV
open PySem PySem.Spec L2
section
variable {X : Cx} {T : Tbs} {W : WX} {M : List Nat} {pos : Pos} {a e : Expr} {es : List Expr} {f fa : Sl → Res D} {fs : Sl → Res (List D)}
/-! ### one's own made free -/
theorem PXf.x (h : PXf X T W M e f) : PX X T W M e f := by
  obtain ⟨t, p, q⟩ := h.run
  refine ⟨_, p, fun G0 H0 G H σ σd Q er o => q _ _ _ _ _ _ _ er ?_⟩
  refine o.imp fun d G1 H1 v _ x1 rv k => ?_
  obtain ⟨p, rfl, hp, hg, ⟨vs, ds, rfl, h1, h2⟩ | ⟨kvs, kds, rfl, h1, h2⟩⟩ := rv
  · have y := Ext.open x1.gh h1 hg (fun _ z => nomatch z)
    have z := Ext.free x1 h1 hg (fun _ z => nomatch z) hp
    exact o.elimOk (by assumption) z (.lst upd_same (Reps.mono (Sm.upd hg) _ _ h2))
  · have z := Ext.free x1 h1 hg (fun _ z => nomatch z) hp
    exact o.elimOk (by assumption) z (.dct upd_same (RepK.mono (Sm.upd hg) _ _ h2))
theorem PXf.r (h : PXf X T W M e f) : PXr X T W M e f := by
  obtain ⟨t, p, q⟩ := h.run
  refine ⟨_, p, fun G0 H0 G H σ σd Q er o => q _ _ _ _ _ _ _ er ?_⟩
  refine o.imp fun d G1 H1 v _ x1 rv k => ?_
  obtain ⟨p, rfl, hp, ho⟩ := rv
  exact o.elimOk (by assumption) x1 (.inr ⟨p, rfl, ho⟩)
/-! ### arguments -/
theorem pxs_nil : PXs X T W M [] eNil := ⟨⟨_, pa_nil, fun G0 H0 G H σ σd Q er o => Out.now (X := X) (W := W) (H0 := H0) (R := rVs X) o er.gh er.tb .nil⟩, fun σ ds h => by cases h; rfl⟩
theorem pxs_cons (ha : PX X T W M e f) (hr : PXs X T W M es fs) (hs : starEach (e :: es) X.env = (false, eval e X.env) :: starEach es X.env := by rfl) : PXs X T W M (e :: es) (eCons f fs) := by
  obtain ⟨ta, pa, qa⟩ := ha.run
  obtain ⟨⟨tb, pb, qb⟩, hl⟩ := hr
  refine ⟨⟨_, pa_cons pa pb hs, fun G0 H0 G H σ σd Q er o => ?_⟩, fun σ ds h => ?_⟩
  · refine qa _ _ _ _ _ _ _ er (o.seq fun dx G1 H1 x _ x1 rx o => ?_)
    refine qb _ _ _ _ _ _ _ (er.to x1) (o.seq fun ds G2 H2 xs _ x2 rs o => ?_)
    exact Out.now (X := X) (W := W) (H0 := H0) (R := rVs X) o x2.gh x2.tb (.cons (Rep.mono x2.gg _ _ rx) rs)
  · unfold eCons at h
    cases z : f σ with
    | ok d =>
      rw [z] at h
      cases z2 : fs σ with
      | ok ds' => rw [Res.ok_bind, z2] at h; cases h; simp [hl σ ds' z2]
      | ex c => rw [Res.ok_bind, z2] at h; cases h
      | no => rw [Res.ok_bind, z2] at h; cases h
    | ex c => rw [z] at h; cases h
    | no => rw [z] at h; cases h
def eTup (f : Sl → Res (List D)) : Sl → Res D := fun σ => (f σ).bind fun ds => .ok (.tup ds)
def eLst (f : Sl → Res (List D)) : Sl → Res D := fun σ => (f σ).bind fun ds => .ok (.lst ds)
theorem px_tup {k} (h : PXs X T W M es fs) (hn : es.length ≤ sizeLine := by decide) : PX X T W M (.Tuple es k pos) (eTup fs) := by
  obtain ⟨⟨ta, pa, qa⟩, hl⟩ := h
  refine ⟨_, pe_tup pa, fun G0 H0 G H σ σd Q er o => ?_⟩
  refine qa _ _ _ _ _ _ _ er (o.seq fun ds G1 H1 vs hf x1 rs o => ?_)
  refine ⟨by rw [rs.length, hl σd ds hf]; exact hn, fun p hp => ?_⟩
  exact Ext.qtup o x1.gh x1.tb rs hp
theorem pxf_lst (h : PXs X T W M es fs) (hn : es.length ≤ sizeLine := by decide) : PXf X T W M (.List es pos) (eLst fs) := by
  obtain ⟨⟨ta, pa, qa⟩, hl⟩ := h
  refine ⟨_, pe_lst pa, fun G0 H0 G H σ σd Q er o => ?_⟩
  refine qa _ _ _ _ _ _ _ er (o.seq fun ds G1 H1 vs hf x1 rs o => ?_)
  refine ⟨by rw [rs.length, hl σd ds hf]; exact hn, fun p hp => ?_⟩
  have o : Out X T W H0 (fun G' H' v d => ∃ a, v = V.ref a ∧ NT H a ∧ OwnAt X.K X.mg G' H' a d) (.ok (.lst ds)) G1 H1 Q := o
  exact o _ _ _ (Ext.priv x1.gh x1.tb hp) ⟨p, rfl, (NT.of hp).back x1.hh, x1.gh.none hp, .inl ⟨vs, ds, rfl, upd_same, rs⟩⟩
/-! ### calls of built-ins -/
variable {x : Str} {p : Pos} {id : String} {g : D → Option D} {gN : List D → Option D}
theorem px_b1 (ho : Op1r X T (.builtin id) g) (hg : Gl X x) (hm : X.mg x = none) (hv : bootBuiltins x = some (.builtin id)) (ha : PXr X T W M e f) (hn : x ≠ "__name__" := by decide) (hdb : (x == ("__debug__" : Str)) = false := by decide)
    (he : starEach [e] X.env = (false, eval e X.env) :: starEach [] X.env := by rfl) (hpl : (backTo pos (starEach [] X.env)).any (·.1) = false := by rfl) : PX X T W M (.Call (.Name x p) [e] [] pos) (e1 g f) := by
  obtain ⟨r, hr, hg'⟩ := ho
  obtain ⟨ta, pa, qa⟩ := ha.run
  refine ⟨_, pe_callB hr hg hm hv (pa_cons pa pa_nil he) hn hdb he hpl, fun G0 H0 G H σ σd Q er o => ?_⟩
  refine qa _ _ _ _ _ _ _ er (o.seq fun dx G1 H1 v _ x1 rx o => ?_)
  obtain ⟨d, e, q⟩ := o.of
  exact hg' G1 H1 v dx d Q x1.gh x1.tb rx e q
theorem px_t1 (ho : Op1r X T (.type id) g) (hg : Gl X x) (hm : X.mg x = none) (hv : bootBuiltins x = some (.type id)) (ha : PXr X T W M e f) (hn : x ≠ "__name__" := by decide) (hdb : (x == ("__debug__" : Str)) = false := by decide)
    (he : starEach [e] X.env = (false, eval e X.env) :: starEach [] X.env := by rfl) (hpl : (backTo pos (starEach [] X.env)).any (·.1) = false := by rfl) : PX X T W M (.Call (.Name x p) [e] [] pos) (e1 g f) := by
  obtain ⟨r, hr, hg'⟩ := ho
  obtain ⟨ta, pa, qa⟩ := ha.run
  refine ⟨_, pe_callTy hr hg hm hv (pa_cons pa pa_nil he) hn hdb he hpl, fun G0 H0 G H σ σd Q er o => ?_⟩
  refine qa _ _ _ _ _ _ _ er (o.seq fun dx G1 H1 v _ x1 rx o => ?_)
  obtain ⟨d, e, q⟩ := o.of
  exact hg' G1 H1 v dx d Q x1.gh x1.tb rx e q
theorem px_bN (ho : OpN X T (.builtin id) gN) (hg : Gl X x) (hm : X.mg x = none) (hv : bootBuiltins x = some (.builtin id)) (ha : PXs X T W M (e :: es) fs) (hn : x ≠ "__name__" := by decide) (hdb : (x == ("__debug__" : Str)) = false := by decide)
    (he : starEach (e :: es) X.env = (false, eval e X.env) :: starEach es X.env := by rfl) (hpl : (backTo pos (starEach es X.env)).any (·.1) = false := by rfl) : PX X T W M (.Call (.Name x p) (e :: es) [] pos) (eN gN fs) := by
  obtain ⟨r, hr, hg'⟩ := ho
  obtain ⟨⟨ta, pa, qa⟩, hl⟩ := ha
  refine ⟨_, pe_callB hr hg hm hv pa hn hdb he hpl, fun G0 H0 G H σ σd Q er o => ?_⟩
  refine qa _ _ _ _ _ _ _ er (o.seq fun ds G1 H1 v _ x1 rx o => ?_)
  obtain ⟨d, e, q⟩ := o.of
  exact hg' G1 H1 v ds d Q x1.gh x1.tb rx e q
/-! ### what a def of the text promises: its value is h of its arguments -/
def spR (K : PySem.W.Frag) (mg : Str → Option Value) (T : Tbs) (n : Nat) (h : List D → Res D) : Sp := fun vs H Q E => ∃ G ds, Vw G H ∧ LamX.Tabs T H ∧ Reps K mg G vs ds ∧ vs.length = n ∧
  match h ds with
  | .ok d => ∀ G' H' v, Ext T G H G' H' → Rep K mg G' v d → Q v H'
  | .ex c => ∀ C H', mg c = some (.ref C) → Sm H H' → LamX.Tabs T H' → E (.ref C) none H'
  | .no => False
def eCall (h : List D → Res D) (f : Sl → Res (List D)) : Sl → Res D := fun σ => (f σ).bind h
variable {k : Nat} {fn : Addr} {fd : FuncData} {ps : List Str} {h : List D → Res D}
theorem spR_of {H0 G H : Hp} {vs : List V} {ds : List D} {Q : VK} {n : Nat} (o : Out X T W H0 (rV X) (h ds) G H Q) (hs : Sm H0 H) (v : Vw G H) (t : LamX.Tabs T H) (r : Reps X.K X.mg G vs ds) (hn : vs.length = n) :
    spR X.K X.mg T n h vs H Q (fun cls d H => ∀ σ, W cls d σ H) := by
  refine ⟨G, ds, v, t, r, hn, ?_⟩
  revert o
  cases h ds with
  | ok d => exact id
  | ex c => exact fun o C H' hc hm ht σ' => o C H' σ' hc (hs.trans hm) ht
  | no => exact id
theorem px_call (F : FnOk X.prog X.w X.K X.mg X.base (L2.CX X.prog X.w) k fn fd ps (spR X.K X.mg T ps.length h)) (hr : Room k X.A) (hg : Gl X x) (hm : X.mg x = some (.ref fn)) (hk : PySem.W.keepIn X.K (.ref fn) = true) (hb : Binds X.K fd ps [])
    (tk : Takes X W) (ha : PXs X T W M (e :: es) fs) (hn : (e :: es).length = ps.length := by rfl) (hdb : (x == ("__debug__" : Str)) = false := by decide)
    (he : starEach (e :: es) X.env = (false, eval e X.env) :: starEach es X.env := by rfl) (hpl : (backTo pos (starEach es X.env)).any (·.1) = false := by rfl) : PX X T W M (.Call (.Name x p) (e :: es) [] pos) (eCall h fs) := by
  obtain ⟨⟨ta, pa, qa⟩, hl⟩ := ha
  refine ⟨_, pe_call F hr hg hm hk hb .nil (E := fun cls d H => ∀ σ, W cls d σ H) (passes_call tk fun cls d σ H z => z σ) pa hdb he hpl, fun G0 H0 G H σ σd Q er o => ?_⟩
  refine qa _ _ _ _ _ _ _ er (o.seq fun ds G1 H1 vs hf x1 rs o => ?_)
  show spR X.K X.mg T ps.length h (vs ++ []) H1 Q _
  rw [List.append_nil]
  exact spR_of o (er.ext.hh.trans x1.hh) x1.gh x1.tb rs (by rw [rs.length, hl σd ds hf]; exact hn)
/-! ### the def itself -/
/-- the slots at the start -/
def startD (N : List Str) (ds : List D) : EnvD := ds.map some ++ List.replicate (N.length - ds.length) none
def runF (N : List Str) (n : Nat) (g : Sl → Res Fl) (ds : List D) : Res D :=
  if ds.length = n then (g (startD N ds)).bind fun fl => match fl with
    | .rt d => .ok d
    | .nx _ => .ok .non
    | _ => .no
  else .no
theorem start_len {N : List Str} {vs : List V} (h : vs.length ≤ N.length) : (L2.start N vs).length = N.length := by
  unfold L2.start; rw [List.length_append, List.length_map, List.length_replicate]; omega
theorem Reps.start {K : PySem.W.Frag} {mg : Str → Option Value} {G : Hp} {N : List Str} {vs : List V} {ds : List D} (h : Reps K mg G vs ds) : ∀ (i : Nat) (d : D), (startD N ds)[i]? = some (some d) → ∃ v, (L2.start N vs)[i]? = some (some v) ∧ Rep K mg G v d := by
  intro i d e
  unfold startD at e
  by_cases hi : i < ds.length
  · rw [List.getElem?_append_left (by rw [List.length_map]; exact hi), List.getElem?_map] at e
    cases z : ds[i]? with
    | none => rw [z] at e; cases e
    | some d' =>
      rw [z] at e; cases e
      obtain ⟨v, q, r⟩ := h.get z
      refine ⟨v, ?_, r⟩
      unfold L2.start
      rw [List.getElem?_append_left (by rw [List.length_map, h.length]; exact hi), List.getElem?_map, q]; rfl
  · rw [List.getElem?_append_right (by rw [List.length_map]; omega), List.getElem?_replicate] at e
    split at e <;> cases e
theorem fn_pure {P : Program} {w : World} {K : PySem.W.Frag} {mg : Str → Option Value} {base : Heap} {nm qual : Str} {st : Stmt} {f : Addr} {fd : FuncData} {N ps : List Str} {k : Nat} {T : Tbs} {M : List Nat} {g : Sl → Res Fl} (F : L2.Fun K nm qual st f fd) (S : FnScope N ps (defScope st)) (hNp : ps.length ≤ N.length) (hM : ∀ i ∈ M, ps.length ≤ i)
    (hb : ∀ (cdv : Value) (A : Around) (outer : List Env) (s : Shared) (H : Hp) (E : XK) (X : Cx), X = cxOf (L2.CX P w) P w K mg base N qual (defScope st) f cdv A outer s H E → Room k X.A → Takes X (fun cls d _ H => E cls d H) → PXSs X T (fun cls d _ H => E cls d H) M (defBody st) g) :
    FnOk P w K mg base (L2.CX P w) (k + 1) f fd ps (spR K mg T ps.length (runF N ps.length g)) := by
  refine F.okX S (fun vs H Q E h => ?_) (fun cdv A outer s H vs Q E hr h => ?_)
  · obtain ⟨G, ds, _, _, _, hn, _⟩ := h; exact hn
  obtain ⟨G, ds, hv, ht, rs, hn, h⟩ := h
  obtain ⟨t, p, q⟩ := (hb cdv A outer s H E _ rfl hr (takes_of rfl rfl rfl rfl)).run
  refine ⟨t, p, q G H G H _ (startD N ds) _ ⟨Ext.refl hv ht, ?_, fun i d _ e => rs.start i d e, fun i d hi e => ?_, fun i j a hi hj ⟨d, e⟩ _ _ _ => ?_⟩ ?_⟩
  · rw [start_len (by omega)]; unfold startD; rw [List.length_append, List.length_map, List.length_replicate, ← rs.length]; omega
  · exfalso
    unfold startD at e
    have := hM i hi
    rw [List.getElem?_append_right (by rw [List.length_map, ← rs.length]; omega), List.getElem?_replicate] at e
    split at e <;> cases e
  · exfalso
    unfold startD at e
    have := hM i hi
    rw [List.getElem?_append_right (by rw [List.length_map, ← rs.length]; omega), List.getElem?_replicate] at e
    split at e <;> cases e
  · unfold runF at h
    rw [if_pos (by rw [← rs.length]; exact hn)] at h
    cases z : g (startD N ds) with
    | ok fl =>
      rw [z] at h
      cases fl with
      | nx σ' => exact fun G' H' σ _ er => h G' H' .non er.ext .non
      | rt d => exact fun G' H' v x r => h G' H' v x r
      | bk _ => exact h.elim
      | ct _ => exact h.elim
    | ex c => rw [z] at h; exact fun C H' σ' hc hs ht => h C H' hc hs ht
    | no => rw [z] at h; exact h.elim
end
end PV
namespace PV
open PySem PySem.Spec L2
def sNil : Sl → Res Fl := fun σ => .ok (.nx σ)
def sSeq (a b : Sl → Res Fl) : Sl → Res Fl := fun σ => (a σ).bind fun fl => match fl with
  | .nx σ' => b σ'
  | fl => .ok fl
def sSet (i : Nat) (f : Sl → Res D) : Sl → Res Fl := fun σ => (f σ).bind fun d => .ok (.nx (σ.set i (some d)))
def sRet (f : Sl → Res D) : Sl → Res Fl := fun σ => (f σ).bind fun d => .ok (.rt d)
def sIf (c : Sl → Res Bool) (a b : Sl → Res Fl) : Sl → Res Fl := fun σ => (c σ).bind fun k => if k = true then a σ else b σ
def sDrop (f : Sl → Res D) : Sl → Res Fl := fun σ => (f σ).bind fun _ => .ok (.nx σ)
def sRaise (c : Str) : Sl → Res Fl := fun _ => .ex c
/-- targets -/
def gtN (i : Nat) : D → Sl → Option Sl := fun d σ => some (σ.set i (some d))
def gtsNil : List D → Sl → Option Sl
  | [], σ => some σ
  | _ :: _, _ => none
def gtsCons (g : D → Sl → Option Sl) (gs : List D → Sl → Option Sl) : List D → Sl → Option Sl
  | [], _ => none
  | d :: ds, σ => (g d σ).bind fun σ' => gs ds σ'
def tupItems : D → Option (List D)
  | .tup xs => some xs
  | .ctup xs => some xs
  | _ => none
def gtT (gs : List D → Sl → Option Sl) : D → Sl → Option Sl := fun d σ => (tupItems d).bind fun ds => gs ds σ
def sAsg (f : Sl → Res D) (g : D → Sl → Option Sl) : Sl → Res Fl := fun σ => (f σ).bind fun d => (Res.of (g d σ)).bind fun σ' => .ok (.nx σ')
/-- loops -/
def forGo (g : D → Sl → Option Sl) (b : Sl → Res Fl) : List D → Sl → Res Fl
  | [], σ => .ok (.nx σ)
  | x :: xs, σ => (Res.of (g x σ)).bind fun σ1 => (b σ1).bind fun fl => match fl with
    | .nx σ2 => forGo g b xs σ2
    | .ct σ2 => forGo g b xs σ2
    | .bk σ2 => .ok (.nx σ2)
    | .rt d => .ok (.rt d)
def sFor (it : Sl → Res (List D)) (g : D → Sl → Option Sl) (b : Sl → Res Fl) : Sl → Res Fl := fun σ => (it σ).bind fun xs => forGo g b xs σ
def whileGo (c : Sl → Res Bool) (b : Sl → Res Fl) : Nat → Sl → Res Fl
  | 0, _ => .no
  | n + 1, σ => (c σ).bind fun k => if k = true then (b σ).bind fun fl => match fl with
      | .nx σ2 => whileGo c b n σ2
      | .ct σ2 => whileGo c b n σ2
      | .bk σ2 => .ok (.nx σ2)
      | .rt d => .ok (.rt d)
    else .ok (.nx σ)
def wipeD (σ : EnvD) : List Nat → EnvD
  | [] => σ
  | v :: vs => (wipeD σ vs).set v none
def lcGo (g : D → Sl → Option Sl) (c : Sl → Res Bool) (f : Sl → Res D) (σ : Sl) : List D → Res (List D)
  | [] => .ok []
  | x :: xs => (Res.of (g x σ)).bind fun σ1 => (c σ1).bind fun k => if k = true then (f σ1).bind fun y => (lcGo g c f σ xs).bind fun ys => .ok (y :: ys) else lcGo g c f σ xs
def eLc (it : Sl → Res (List D)) (g : D → Sl → Option Sl) (c : Sl → Res Bool) (f : Sl → Res D) (vs : List Nat) : Sl → Res D := fun σ =>
  (it σ).bind fun xs => (lcGo g c f (wipeD σ vs) xs).nox.bind fun ys => if ys.length ≤ sizeLine then .ok (.lst ys) else .no
section
variable {X : Cx} {T : Tbs} {M : List Nat} {G0 H0 G H : Hp} {σ : L2.St} {σd : EnvD}
theorem set_some {α : Type} {l : List α} {i j : Nat} {x y : α} (h : (l.set i x)[j]? = some y) : (j = i ∧ x = y ∧ i < l.length) ∨ (j ≠ i ∧ l[j]? = some y) := by
  by_cases e : j = i
  · subst e
    by_cases hl : j < l.length
    · rw [List.getElem?_set_self hl] at h; cases h; exact .inl ⟨rfl, rfl, hl⟩
    · rw [List.set_eq_of_length_le (by omega)] at h
      rw [List.getElem?_eq_none (by omega)] at h; cases h
  · rw [List.getElem?_set_ne (Ne.symm e)] at h; exact .inr ⟨e, h⟩
/-- a plain slot is stored -/
theorem ER.set (er : ER X T M G0 H0 G H σ σd) {i : Nat} {v : V} {d : D} (hi : i ∉ M) (r : Rep X.K X.mg G v d) : ER X T M G0 H0 G H (σ.set i (some v)) (σd.set i (some d)) := by
  refine ⟨er.ext, by rw [List.length_set, List.length_set, er.len], fun j d' hj e => ?_, fun j d' hj e => ?_, fun j k a hj hk ⟨d1, e1⟩ ⟨d2, e2⟩ q1 q2 => ?_⟩
  · rcases set_some e with ⟨rfl, e, hl⟩ | ⟨hne, e⟩
    · cases e; exact ⟨v, by rw [List.getElem?_set_self (by rw [er.len]; exact hl)], r⟩
    · obtain ⟨v', q, r'⟩ := er.imm j d' hj e; exact ⟨v', by rw [List.getElem?_set_ne (Ne.symm hne)]; exact q, r'⟩
  · rcases set_some e with ⟨rfl, e, hl⟩ | ⟨hne, e⟩
    · exact absurd hj hi
    · obtain ⟨a, q, r'⟩ := er.own j d' hj e; exact ⟨a, by rw [List.getElem?_set_ne (Ne.symm hne)]; exact q, r'⟩
  · have n1 : j ≠ i := fun z => hi (z ▸ hj)
    have n2 : k ≠ i := fun z => hi (z ▸ hk)
    rw [List.getElem?_set_ne (Ne.symm n1)] at e1 q1
    rw [List.getElem?_set_ne (Ne.symm n2)] at e2 q2
    exact er.sep j k a hj hk ⟨d1, e1⟩ ⟨d2, e2⟩ q1 q2
/-- an own slot gets a new list -/
theorem ER.setOwn (er : ER X T M G0 H0 G H σ σd) {i : Nat} {a : Addr} {d : D} {G' H' : Hp} (x : Ext T G H G' H') (hi : i ∈ M) (hn : NT H a) (o : OwnAt X.K X.mg G' H' a d) : ER X T M G0 H0 G' H' (σ.set i (some (.ref a))) (σd.set i (some d)) := by
  have er' := er.to x
  have old : ∀ j d', j ∈ M → σd[j]? = some (some d') → ∀ b, σ[j]? = some (some (.ref b)) → b ≠ a := fun j d' hj e b q z => by
    obtain ⟨b', q', _, _, h⟩ := er.own j d' hj e
    rw [q] at q'; cases q'; subst z
    rcases h with ⟨vs, ds, _, h1, _⟩ | ⟨kvs, kds, _, h1, _⟩ <;> obtain ⟨ps, z⟩ := hn _ h1 <;> cases z
  refine ⟨er'.ext, by rw [List.length_set, List.length_set, er.len], fun j d' hj e => ?_, fun j d' hj e => ?_, fun j k b hj hk ⟨d1, e1⟩ ⟨d2, e2⟩ q1 q2 => ?_⟩
  · rcases set_some e with ⟨rfl, e, hl⟩ | ⟨hne, e⟩
    · exact absurd hi hj
    · obtain ⟨v', q, r'⟩ := er'.imm j d' hj e; exact ⟨v', by rw [List.getElem?_set_ne (Ne.symm hne)]; exact q, r'⟩
  · rcases set_some e with ⟨rfl, e, hl⟩ | ⟨hne, e⟩
    · cases e
      exact ⟨a, by rw [List.getElem?_set_self (by rw [er.len]; exact hl)], hn.back er.ext.hh, o⟩
    · obtain ⟨a', q, r'⟩ := er'.own j d' hj e; exact ⟨a', by rw [List.getElem?_set_ne (Ne.symm hne)]; exact q, r'⟩
  · rcases set_some e1 with ⟨rfl, z1, l1⟩ | ⟨n1, e1'⟩
    · rcases set_some e2 with ⟨rfl, z2, l2⟩ | ⟨n2, e2'⟩
      · rfl
      · rw [List.getElem?_set_self (by rw [er.len]; exact l1)] at q1
        cases q1
        rw [List.getElem?_set_ne (Ne.symm n2)] at q2
        exact absurd rfl (old k d2 hk e2' a q2)
    · rw [List.getElem?_set_ne (Ne.symm n1)] at q1
      rcases set_some e2 with ⟨rfl, z2, l2⟩ | ⟨n2, e2'⟩
      · rw [List.getElem?_set_self (by rw [er.len]; exact l2)] at q2
        cases q2
        exact absurd rfl (old j d1 hj e1' a q1)
      · rw [List.getElem?_set_ne (Ne.symm n2)] at q2
        exact er.sep j k b hj hk ⟨d1, e1'⟩ ⟨d2, e2'⟩ q1 q2
/-- an own list is written -/
theorem ER.put (er : ER X T M G0 H0 G H σ σd) {i : Nat} {a : Addr} {d d' : D} {o o' : HO} (hi : i ∈ M) (e : σd[i]? = some (some d)) (q : σ[i]? = some (some (.ref a))) (hp : H a = some o) (ho : Mo o)
    (n : OwnAt X.K X.mg G (upd H a o') a d') : ER X T M G0 H0 G (upd H a o') σ (σd.set i (some d')) := by
  obtain ⟨a', q', h0, hg, _⟩ := er.own i d hi e
  rw [q] at q'; cases q'
  refine ⟨er.ext.put hp ho hg h0, by rw [List.length_set, er.len], fun j u hj e' => ?_, fun j u hj e' => ?_, fun j k b hj hk ⟨d1, e1⟩ ⟨d2, e2⟩ q1 q2 => ?_⟩
  · rcases set_some e' with ⟨rfl, _, _⟩ | ⟨_, e'⟩
    · exact absurd hi hj
    · exact er.imm j u hj e'
  · rcases set_some e' with ⟨rfl, z, _⟩ | ⟨hne, e'⟩
    · cases z; exact ⟨a, q, h0, n⟩
    · obtain ⟨b, q', hb, gb, h⟩ := er.own j u hj e'
      have hba : b ≠ a := fun z => hne (er.sep j i a hj hi ⟨u, e'⟩ ⟨d, e⟩ (z ▸ q') q)
      refine ⟨b, q', hb, gb, ?_⟩
      rcases h with ⟨vs, ds, h1, h2, h3⟩ | ⟨vs, ds, h1, h2, h3⟩
      · exact .inl ⟨vs, ds, h1, by rw [upd_ne hba]; exact h2, h3⟩
      · exact .inr ⟨vs, ds, h1, by rw [upd_ne hba]; exact h2, h3⟩
  · have f : ∀ j u, (σd.set i (some d'))[j]? = some (some u) → ∃ w, σd[j]? = some (some w) := fun j u z => by
      rcases set_some z with ⟨rfl, _, _⟩ | ⟨_, z⟩
      · exact ⟨d, e⟩
      · exact ⟨u, z⟩
    exact er.sep j k b hj hk (f _ _ e1) (f _ _ e2) q1 q2
/-- slots forgotten -/
theorem ER.wipe1 (er : ER X T M G0 H0 G H σ σd) (v : Nat) : ER X T M G0 H0 G H (σ.set v none) (σd.set v none) := by
  have f : ∀ j (u : D), (σd.set v none)[j]? = some (some u) → j ≠ v ∧ σd[j]? = some (some u) := fun j u z => by
    rcases set_some z with ⟨_, z, _⟩ | z
    · cases z
    · exact z
  refine ⟨er.ext, by rw [List.length_set, List.length_set, er.len], fun j d' hj e => ?_, fun j d' hj e => ?_, fun j k a hj hk ⟨d1, e1⟩ ⟨d2, e2⟩ q1 q2 => ?_⟩
  · obtain ⟨n, e⟩ := f j d' e
    rw [List.getElem?_set_ne (Ne.symm n)]; exact er.imm j d' hj e
  · obtain ⟨n, e⟩ := f j d' e
    rw [List.getElem?_set_ne (Ne.symm n)]; exact er.own j d' hj e
  · obtain ⟨n1, e1⟩ := f j d1 e1
    obtain ⟨n2, e2⟩ := f k d2 e2
    rw [List.getElem?_set_ne (Ne.symm n1)] at q1
    rw [List.getElem?_set_ne (Ne.symm n2)] at q2
    exact er.sep j k a hj hk ⟨d1, e1⟩ ⟨d2, e2⟩ q1 q2
theorem ER.wipe (er : ER X T M G0 H0 G H σ σd) : ∀ vs : List Nat, ER X T M G0 H0 G H (wipe σ vs) (wipeD σd vs)
  | [] => er
  | v :: vs => (ER.wipe er vs).wipe1 v
end
section
variable {X : Cx} {T : Tbs} {W : WX} {M : List Nat} {pos : Pos} {a e : Expr} {es : List Expr} {f fa : Sl → Res D} {fs : Sl → Res (List D)} {st : Stmt} {sts : List Stmt} {ga gb : Sl → Res Fl}
theorem OutS.up {G0 H0 G G' : Hp} {r : Res Fl} {Z : Ends} (h : OutS X T W M G0 H0 G r Z) (e : Sm G G') : OutS X T W M G0 H0 G' r Z := by
  cases r with
  | ok fl =>
    cases fl with
    | nx σd => exact fun G2 H σ s er => h G2 H σ (e.trans s) er
    | rt d => exact h
    | bk σd => exact fun G2 H σ s er => h G2 H σ (e.trans s) er
    | ct σd => exact fun G2 H σ s er => h G2 H σ (e.trans s) er
  | ex c => exact h
  | no => exact h
theorem OutS.seq {G0 H0 G H : Hp} {α β : Type} {R : Hp → Hp → β → α → Prop} {r : Res α} {k : α → Res Fl} {Z : Ends} {Q1 : β → Hp → Prop} (h : OutS X T W M G0 H0 G (r.bind k) Z) (hk : ∀ a G1 H1 v, r = .ok a → Ext T G H G1 H1 → R G1 H1 v a → OutS X T W M G0 H0 G1 (k a) Z → Q1 v H1) :
    Out X T W H0 R r G H Q1 := by
  cases r with
  | ok a => exact fun G1 H1 v x rv => hk a G1 H1 v rfl x rv (OutS.up h x.gg)
  | ex c => exact h
  | no => exact h
theorem sss_nil : PXSs X T W M [] sNil := ⟨_, pss_nil, fun G0 H0 G H σ σd Z er o => o G H σ (Sm.refl _) er⟩
theorem sss_cons (h1 : PXS X T W M st ga) (h2 : PXSs X T W M sts gb) : PXSs X T W M (st :: sts) (sSeq ga gb) := by
  obtain ⟨ta, pa, qa⟩ := h1.run
  obtain ⟨tb, pb, qb⟩ := h2.run
  refine ⟨_, pss_cons pa pb, fun G0 H0 G H σ σd Z er o => ?_⟩
  refine qa _ _ _ _ _ _ _ er ?_
  unfold sSeq at o
  revert o
  cases ga σd with
  | ok fl =>
    cases fl with
    | nx σ' => exact fun o G H σ s er => qb _ _ _ _ _ _ _ er (OutS.up (r := gb σ') o s)
    | rt d => exact id
    | bk σd => exact id
    | ct σd => exact id
  | ex c => exact id
  | no => exact id
theorem sss_one (h1 : PXS X T W M st ga) : PXSs X T W M [st] ga := by
  obtain ⟨ta, pa, qa⟩ := h1.run
  exact ⟨_, pss_one pa, qa⟩
theorem ss_set {i : Nat} {x : Str} {pos' : Pos} (hN : X.N.Nodup) (hi : X.N[i]? = some x) (hx : Loc X.env.scope x) (hM : i ∉ M) (he : PX X T W M e f) (hs : swapsWith e (some (.Name x pos')) pos.line X.env = pure false := by rfl)
    (hf : X.fn x = true ∨ X.env.scope.names.lookup x = some .local := by first | exact .inl rfl | exact .inr rfl | assumption) : PXS X T W M (.Assign [.Name x pos'] e pos) (sSet i f) := by
  obtain ⟨t, p, q⟩ := he.run
  refine ⟨_, ps_set hN hi hx p hs hf, fun G0 H0 G H σ σd Z er o => ?_⟩
  refine q _ _ _ _ _ _ _ er (OutS.seq (X := X) o fun d G1 H1 v _ x1 rv o => ?_)
  exact o _ _ _ (Sm.refl _) ((er.to x1).set hM rv)
/-- one's own list begins -/
theorem ss_own {i : Nat} {x : Str} {pos' : Pos} (hN : X.N.Nodup) (hi : X.N[i]? = some x) (hx : Loc X.env.scope x) (hM : i ∈ M) (he : PXf X T W M e f) (hs : swapsWith e (some (.Name x pos')) pos.line X.env = pure false := by rfl)
    (hf : X.fn x = true ∨ X.env.scope.names.lookup x = some .local := by first | exact .inl rfl | exact .inr rfl | assumption) : PXS X T W M (.Assign [.Name x pos'] e pos) (sSet i f) := by
  obtain ⟨t, p, q⟩ := he.run
  refine ⟨_, ps_set hN hi hx p hs hf, fun G0 H0 G H σ σd Z er o => ?_⟩
  refine q _ _ _ _ _ _ _ er (OutS.seq (X := X) o fun d G1 H1 v _ x1 ⟨a, e, hn, ho⟩ o => ?_)
  subst e
  exact o _ _ _ (Sm.refl _) (er.setOwn x1 hM hn ho)
theorem ss_ret (he : PX X T W M e f) : PXS X T W M (.Return (some e) pos) (sRet f) := by
  obtain ⟨t, p, q⟩ := he.run
  refine ⟨_, ps_ret p, fun G0 H0 G H σ σd Z er o => ?_⟩
  refine q _ _ _ _ _ _ _ er (OutS.seq (X := X) o fun d G1 H1 v _ x1 rv o => ?_)
  exact o _ _ _ (er.ext.trans x1) rv
/-- one's own list is handed back -/
theorem ss_retOwn {i : Nat} {x : Str} {pos' : Pos} (h : PE X (.Name x pos') (tVar i)) (hM : i ∈ M) : PXS X T W M (.Return (some (.Name x pos')) pos) (sRet (eV i)) := by
  refine ⟨_, ps_ret h, fun G0 H0 G H σ σd Z er o => ?_⟩
  unfold sRet eV at o
  split at o
  · rename_i d e
    obtain ⟨a, q, h0, hg, ho⟩ := er.own i d hM e
    refine ⟨_, q, ?_⟩
    have o : ∀ G H v, Ext T G0 H0 G H → Rep X.K X.mg G v d → Z.rt v H := o
    rcases ho with ⟨vs, ds, rfl, h1, h2⟩ | ⟨kvs, kds, rfl, h1, h2⟩
    · exact o _ _ _ (Ext.free er.ext h1 hg (fun _ z => nomatch z) h0) (.lst upd_same (Reps.mono (Sm.upd hg) _ _ h2))
    · exact o _ _ _ (Ext.free er.ext h1 hg (fun _ z => nomatch z) h0) (.dct upd_same (RepK.mono (Sm.upd hg) _ _ h2))
  · exact o.elim
theorem ss_if {c : Expr} {sa sb : List Stmt} {fc : Sl → Res Bool} (hc : PXt X T W M c fc) (ha : PXSs X T W M sa ga) (hb : PXSs X T W M sb gb) : PXS X T W M (.If c sa sb pos) (sIf fc ga gb) := by
  obtain ⟨tc, pc, qc⟩ := hc.run
  obtain ⟨ta, pa, qa⟩ := ha.run
  obtain ⟨tb, pb, qb⟩ := hb.run
  refine ⟨_, ps_if pc pa pb, fun G0 H0 G H σ σd Z er o => ?_⟩
  refine qc _ _ _ _ _ _ _ er (OutS.seq (X := X) o fun k G1 H1 k' _ x1 rk o => ?_)
  obtain rfl : k' = k := rk
  cases k' with
  | true => rw [if_pos rfl] at o ⊢; exact qa _ _ _ _ _ _ _ (er.to x1) o
  | false => rw [if_neg Bool.false_ne_true] at o ⊢; exact qb _ _ _ _ _ _ _ (er.to x1) o
theorem ss_drop (he : PX X T W M e f) (hs : swapsWith e none pos.line X.env = pure false := by rfl) : PXS X T W M (.Expr e pos) (sDrop f) := by
  obtain ⟨t, p, q⟩ := he.run
  refine ⟨_, ps_expr p hs, fun G0 H0 G H σ σd Z er o => ?_⟩
  refine q _ _ _ _ _ _ _ er (OutS.seq (X := X) o fun d G1 H1 v _ x1 rv o => ?_)
  exact o _ _ _ (Sm.refl _) (er.to x1)
theorem ss_pass : PXS X T W M (.Pass pos) sNil := ⟨_, ps_pass, fun G0 H0 G H σ σd Z er o => o G H σ (Sm.refl _) er⟩
def sCont : Sl → Res Fl := fun σ => .ok (.ct σ)
theorem ss_continue : PXS X T W M (.Continue pos) sCont := ⟨_, ps_continue, fun G0 H0 G H σ σd Z er o => o G H σ (Sm.refl _) er⟩
/-! ### targets -/
def Frm (ts : List Nat) (σ σ' : L2.St) : Prop := (∀ j, j ∉ ts → σ'[j]? = σ[j]?) ∧ σ'.length = σ.length
structure PGx (X : Cx) (T : Tbs) (M : List Nat) (tg : Expr) (ts : List Nat) (g : D → Sl → Option Sl) : Prop where
  run : ∃ t, PG X tg t ∧ ∀ G0 H0 G H σ σd v d Q, ER X T M G0 H0 G H σ σd → Rep X.K X.mg G v d →
    (∃ σd', g d σd = some σd' ∧ ∀ σ', ER X T M G0 H0 G H σ' σd' → Frm ts σ σ' → Q σ' H) → t v σ H Q
structure PGsx (X : Cx) (T : Tbs) (M : List Nat) (tg : List Expr) (ts : List Nat) (g : List D → Sl → Option Sl) : Prop where
  run : ∃ t, PGs X tg t ∧ ∀ G0 H0 G H σ σd vs ds Q, ER X T M G0 H0 G H σ σd → Reps X.K X.mg G vs ds →
    (∃ σd', g ds σd = some σd' ∧ ∀ σ', ER X T M G0 H0 G H σ' σd' → Frm ts σ σ' → Q σ' H) → t vs σ H Q
theorem gx_name {i : Nat} {x : Str} (h : PG X (.Name x pos) (gName i)) (hM : i ∉ M) : PGx X T M (.Name x pos) [i] (gtN i) := by
  refine ⟨_, h, fun G0 H0 G H σ σd v d Q er r ⟨σd', e, q⟩ => ?_⟩
  cases e
  exact q _ (er.set hM r) ⟨fun j hj => by rw [List.getElem?_set_ne (fun z => hj (by simp [z]))], by rw [List.length_set]⟩
theorem gsx_nil : PGsx X T M [] [] gtsNil := by
  refine ⟨_, pgs_nil, fun G0 H0 G H σ σd vs ds Q er r ⟨σd', e, q⟩ => ?_⟩
  cases ds with
  | nil => cases r; cases e; exact ⟨rfl, q _ er ⟨fun _ _ => rfl, rfl⟩⟩
  | cons _ _ => cases e
theorem gsx_cons {tg : Expr} {tgs : List Expr} {ts us : List Nat} {g : D → Sl → Option Sl} {gs : List D → Sl → Option Sl} (h1 : PGx X T M tg ts g) (h2 : PGsx X T M tgs us gs)
    (hs : (assignEach (tg :: tgs) X.env).map (·.2) = assign tg X.env :: (assignEach tgs X.env).map (·.2) := by rfl) : PGsx X T M (tg :: tgs) (ts ++ us) (gtsCons g gs) := by
  obtain ⟨ta, pa, qa⟩ := h1.run
  obtain ⟨tb, pb, qb⟩ := h2.run
  refine ⟨_, pgs_cons pa pb hs, fun G0 H0 G H σ σd vs ds Q er r ⟨σd', e, q⟩ => ?_⟩
  cases ds with
  | nil => cases e
  | cons d ds =>
    cases r with
    | cons r1 r2 =>
      refine ⟨_, _, rfl, ?_⟩
      have e : (g d σd).bind (fun σ' => gs ds σ') = some σd' := e
      cases z : g d σd with
      | some σ1 =>
        rw [z] at e
        refine qa _ _ _ _ _ _ _ _ _ er r1 ⟨σ1, z, fun σ' er' f1 => ?_⟩
        exact qb _ _ _ _ _ _ _ _ _ er' r2 ⟨σd', e, fun σ'' er'' f2 => q σ'' er'' ⟨fun j hj => (f2.1 j fun z => hj (List.mem_append_right _ z)).trans (f1.1 j fun z => hj (List.mem_append_left _ z)), f2.2.trans f1.2⟩⟩
      | none => rw [z] at e; cases e
theorem tup_items {K : PySem.W.Frag} {mg : Str → Option Value} {G : Hp} {v : V} {d : D} {ds : List D} (h : Rep K mg G v d) (e : tupItems d = some ds) : ∃ a vs, v = .ref a ∧ SqT K G a vs ∧ Reps K mg G vs ds := by
  cases h with
  | tup h1 h2 => cases e; exact ⟨_, _, rfl, .inl (.inl h1), h2⟩
  | ctup h1 h2 => cases e; exact ⟨_, _, rfl, h1, h2⟩
  | _ => cases e
theorem gx_tup {tgs : List Expr} {k : Nat} {ts : List Nat} {gs : List D → Sl → Option Sl} (hc : X.calm = true) (h : PGsx X T M tgs ts gs) (hl : ∀ ds σ σ', gs ds σ = some σ' → ds.length = tgs.length)
    (hn : (assignEach tgs X.env).length = tgs.length := by rfl) (hst : (assignEach tgs X.env).findIdx? (·.1) = none := by rfl) : PGx X T M (.Tuple tgs k pos) ts (gtT gs) := by
  obtain ⟨ta, pa, qa⟩ := h.run
  refine ⟨_, pg_tup hc pa hn hst, fun G0 H0 G H σ σd v d Q er r ⟨σd', e, q⟩ => ?_⟩
  unfold gtT at e
  cases z : tupItems d with
  | none => rw [z] at e; cases e
  | some ds =>
    rw [z] at e
    obtain ⟨a, vs, rfl, hs, rs⟩ := tup_items r z
    exact ⟨a, vs, rfl, er.gh.sm.sqT hs, by rw [rs.length]; exact hl ds σd σd' e, qa _ _ _ _ _ _ _ _ _ er rs ⟨σd', e, q⟩⟩
theorem gts_len2 {i j : Nat} : ∀ (ds : List D) (σ σ' : Sl), gtsCons (gtN i) (gtsCons (gtN j) gtsNil) ds σ = some σ' → ds.length = 2
  | [], _, _, h => by cases h
  | [_], _, _, h => by cases h
  | [_, _], _, _, _ => rfl
  | _ :: _ :: _ :: _, _, _, h => by cases h
theorem gts_len3 {i j k : Nat} : ∀ (ds : List D) (σ σ' : Sl), gtsCons (gtN i) (gtsCons (gtN j) (gtsCons (gtN k) gtsNil)) ds σ = some σ' → ds.length = 3
  | [], _, _, h => by cases h
  | [_], _, _, h => by cases h
  | [_, _], _, _, h => by cases h
  | [_, _, _], _, _, _ => rfl
  | _ :: _ :: _ :: _ :: _, _, _, h => by cases h
theorem ss_asg {tg : Expr} {ts : List Nat} {g : D → Sl → Option Sl} (he : PX X T W M e f) (hg : PGx X T M tg ts g) (hs : swapsWithSole [tg] e pos.line X.env = pure false := by rfl) (hw : swappedStores [tg] e X.env = pure none := by rfl)
    (h1 : (assignEach [tg] X.env).map (·.2) = [assign tg X.env] := by rfl) : PXS X T W M (.Assign [tg] e pos) (sAsg f g) := by
  obtain ⟨t, p, q⟩ := he.run
  obtain ⟨ta, pa, qa⟩ := hg.run
  refine ⟨_, ps_asg p pa hs hw h1, fun G0 H0 G H σ σd Z er o => ?_⟩
  refine q _ _ _ _ _ _ _ er (OutS.seq (X := X) o fun d G1 H1 v _ x1 rv o => ?_)
  cases z : g d σd with
  | some σd' =>
    rw [z] at o
    exact qa _ _ _ _ _ _ _ _ _ (er.to x1) rv ⟨σd', z, fun σ' er' _ => o _ _ _ (Sm.refl _) er'⟩
  | none => rw [z] at o; exact o.elim
end
end PV
namespace PV
open PySem PySem.Spec L2
/-- what is walked: ds, turn by turn; o: only while all that is tracked stays -/
def WalkD (X : Cx) (T : Tbs) (o : Prop) (J : It) (ds : List D) (G H : Hp) : Prop :=
  ∃ (GW : Hp → Prop) (Y : Nat → Hp → V → Hp → Prop), Walk J ds.length GW Y ∧ (∀ G' H', Sm G G' → Vw G' H' → (o → Sm H H') → GW H') ∧
    ∀ i G' H' x H'', i < ds.length → Sm G G' → Vw G' H' → LamX.Tabs T H' → (o → Sm H H') → Y i H' x H'' → ∃ G'' d, Ext T G' H' G'' H'' ∧ ds[i]? = some d ∧ Rep X.K X.mg G'' x d
structure PIg (X : Cx) (T : Tbs) (W : WX) (M : List Nat) (o : Prop) (tg it : Expr) (f : Sl → Res (List D)) : Prop where
  run : ∃ wi, PI X tg it wi ∧ ∀ G0 H0 G H σ σd (R : It → Hp → Prop), ER X T M G0 H0 G H σ σd → Out X T W H0 (fun G H J ds => WalkD X T o J ds G H) (f σd) G H R → wi σ H R
theorem WalkD.up {X : Cx} {T : Tbs} {J : It} {ds : List D} {G H : Hp} (w : WalkD X T False J ds G H) : WalkD X T True J ds G H := by
  obtain ⟨GW, Y, h1, h2, h3⟩ := w
  exact ⟨GW, Y, h1, fun G' H' a b _ => h2 G' H' a b (fun z => z.elim), fun i G' H' x H'' hi a b c _ y => h3 i G' H' x H'' hi a b c (fun z => z.elim) y⟩
def eSeq (f : Sl → Res D) : Sl → Res (List D) := fun σ => (f σ).bind fun d => .of d.items
def D.chars : D → Option (List D)
  | .str z => some (z.cps.toList.map fun c => .str ⟨#[c]⟩)
  | _ => none
def eChars (f : Sl → Res D) : Sl → Res (List D) := fun σ => (f σ).bind fun d => .of d.chars
def rng1 : List D → Option (List D)
  | [.int j] => if -(2 ^ 62) ≤ j ∧ j < 2 ^ 62 then some ((List.range j.toNat).map fun i => .int (i : Nat)) else none
  | _ => none
def rng2 : List D → Option (List D)
  | [.int i, .int j] => if -(2 ^ 62) ≤ i ∧ i < 2 ^ 62 ∧ -(2 ^ 62) ≤ j ∧ j < 2 ^ 62 then some ((List.range (j - i).toNat).map fun k => .int (i + (k : Nat))) else none
  | _ => none
def eRng1 (f : Sl → Res (List D)) : Sl → Res (List D) := fun σ => (f σ).bind fun ds => .of (rng1 ds)
def eRng2 (f : Sl → Res (List D)) : Sl → Res (List D) := fun σ => (f σ).bind fun ds => .of (rng2 ds)
def iSeq (K : PySem.W.Frag) (tl : TE) : TI := fun σ H R => tl σ H fun x H1 => ∃ a, x = .ref a ∧ (((∃ xs, SqL K H1 a xs) ∧ R (Itl K a) H1) ∨ ((∃ xs, SqT K H1 a xs) ∧ R (Itt K a) H1))
theorem pi_seq {X : Cx} {tg l : Expr} {tl : TE} (hl : PE X l tl) : PI X tg l (iSeq X.K tl) := by
  refine ⟨fun pins s σ H R I h => ?_⟩
  refine thn (hl.run pins s σ H _ I h) fun v s1 ⟨x, H1, I1, r1, q1⟩ => ?_
  obtain ⟨a, e, ⟨⟨xs, hq⟩, q⟩ | ⟨⟨xs, hq⟩, q⟩⟩ := q1
  · subst e
    cases r1
    obtain ⟨its, rv, p, hz⟩ := I1.list hq
    refine wpAny_pyIter_list p.isList ?_
    refine ⟨s1.heap.objs.size, [s1.heap.objs.size], _, _, H1, rfl, I1.kept (t' := s1.toks) fun b o e => Heap.get?_push_of_some _ e, turn_list a _, ⟨_, Heap.get?_push_size _ rfl, rfl, rfl⟩, fun b hb => ?_, q⟩
    have e : b = s1.heap.objs.size := by simpa using hb
    subst e
    exact I1.fpOk (Nat.le_refl _) (I1.hok.fresh (Nat.le_refl _))
  · subst e
    cases r1
    obtain ⟨its, rv, p, hz⟩ := I1.tuple hq
    refine wpAny_pyIter_tuple (show s1.heap.IsTuple a its.toArray from p) ?_
    refine ⟨s1.heap.objs.size, [s1.heap.objs.size], _, _, H1, rfl, I1.kept (t' := s1.toks) fun b o e => Heap.get?_push_of_some _ e, turn_tuple a _, ⟨_, Heap.get?_push_size _ rfl, rfl, rfl⟩, fun b hb => ?_, q⟩
    have e : b = s1.heap.objs.size := by simpa using hb
    subst e
    exact I1.fpOk (Nat.le_refl _) (I1.hok.fresh (Nat.le_refl _))
section
variable {X : Cx} {T : Tbs} {W : WX} {M : List Nat} {pos : Pos} {tg a e b : Expr} {es : List Expr} {f fa : Sl → Res D} {fs : Sl → Res (List D)} {st : Stmt} {sts : List Stmt}
theorem yat_walk {J : It} {vs : List V} {ds : List D} {G H : Hp} {GW : Hp → Prop} {o : Prop} (w : Walk J vs.length GW (YAt vs)) (r : Reps X.K X.mg G vs ds) (hs : ∀ G' H', Sm G G' → Vw G' H' → (o → Sm H H') → GW H') : WalkD X T o J ds G H := by
  refine ⟨GW, YAt vs, by rw [← r.length]; exact w, hs, fun i G' H' x H'' hi s v t so y => ?_⟩
  obtain ⟨rfl, hx⟩ := y
  have hi' : i < ds.length := hi
  obtain ⟨d, hd⟩ : ∃ d, ds[i]? = some d := ⟨_, List.getElem?_eq_getElem hi'⟩
  obtain ⟨x', q, rx⟩ := r.get hd
  rw [hx] at q; cases q
  exact ⟨G', d, Ext.refl v t, hd, Rep.mono s _ _ rx⟩
theorem ix_seq (h : PX X T W M e f) : PIg X T W M False tg e (eSeq f) := by
  obtain ⟨t, p, q⟩ := h.run
  refine ⟨_, pi_seq p, fun G0 H0 G H σ σd R er o => ?_⟩
  refine q _ _ _ _ _ _ _ er (o.seq fun d G1 H1 v _ x1 rv o => ?_)
  obtain ⟨ds, hd, k⟩ := o.of
  obtain ⟨a, vs, rfl, h, rs⟩ := rv.items hd
  refine ⟨a, rfl, ?_⟩
  rcases h with h | h
  · exact .inl ⟨⟨vs, x1.gh.sm.sqL h⟩, k G1 H1 _ (Ext.refl x1.gh x1.tb) (yat_walk walk_list rs fun G' H' s v _ => v.sm.sqL (s.sqL h))⟩
  · exact .inr ⟨⟨vs, x1.gh.sm.sqT h⟩, k G1 H1 _ (Ext.refl x1.gh x1.tb) (yat_walk walk_tup rs fun G' H' s v _ => v.sm.sqT (s.sqT h))⟩
/-- over one's own: nothing of it may change meanwhile -/
theorem ixr_seq (h : PXr X T W M e f) : PIg X T W M True tg e (eSeq f) := by
  obtain ⟨t, p, q⟩ := h.run
  refine ⟨_, pi_seq p, fun G0 H0 G H σ σd R er o => ?_⟩
  refine q _ _ _ _ _ _ _ er (o.seq fun d G1 H1 v _ x1 rv o => ?_)
  obtain ⟨ds, hd, k⟩ := o.of
  obtain ⟨a, vs, rfl, h, rs⟩ := rR.items rv x1.gh hd
  refine ⟨a, rfl, ?_⟩
  rcases h with h | h
  · exact .inl ⟨⟨vs, h⟩, k G1 H1 _ (Ext.refl x1.gh x1.tb) (yat_walk walk_list rs fun G' H' s v o => (o True.intro).sqL h)⟩
  · exact .inr ⟨⟨vs, h⟩, k G1 H1 _ (Ext.refl x1.gh x1.tb) (yat_walk walk_tup rs fun G' H' s v o => (o True.intro).sqT h)⟩
theorem PIg.up {it : Expr} (h : PIg X T W M False tg it fs) : PIg X T W M True tg it fs := by
  obtain ⟨t, p, q⟩ := h.run
  refine ⟨_, p, fun G0 H0 G H σ σd R er o => q _ _ _ _ _ _ _ er ?_⟩
  exact o.imp fun ds G1 H1 J e x1 w k => k G1 H1 J (Ext.refl x1.gh x1.tb) w.up
theorem ix_str (h : PX X T W M e f) : PIg X T W M False tg e (eChars f) := by
  obtain ⟨t, p, q⟩ := h.run
  refine ⟨_, pi_str p, fun G0 H0 G H σ σd R er o => ?_⟩
  refine q _ _ _ _ _ _ _ er (o.seq fun d G1 H1 v _ x1 rv o => ?_)
  obtain ⟨ds, hd, k⟩ := o.of
  cases d with
  | str z =>
    cases hd
    cases rv
    refine ⟨z, rfl, k G1 H1 _ (Ext.refl x1.gh x1.tb) ⟨_, _, by simpa using walk_str (z := z), fun _ _ _ _ _ => True.intro, fun i G' H' x H'' hi s v t _ y => ?_⟩⟩
    obtain ⟨rfl, c, hc, rfl⟩ := y
    exact ⟨G', .str ⟨#[c]⟩, Ext.refl v t, by rw [List.getElem?_map, Array.getElem?_toList, hc]; rfl, .str _⟩
  | _ => cases hd
theorem ints_walk {lo : Int} {n : Nat} {G H : Hp} {o : Prop} : WalkD X T o (Itr lo n) ((List.range n).map fun i => D.int (lo + (i : Nat))) G H := by
  refine ⟨_, _, by simpa using walk_range (lo := lo) (n := n), fun _ _ _ _ _ => True.intro, fun i G' H' x H'' hi s v t _ y => ?_⟩
  obtain ⟨rfl, rfl⟩ := y
  refine ⟨G', .int (lo + (i : Nat)), Ext.refl v t, ?_, .int _⟩
  have hi' : i < n := by simpa using hi
  rw [List.getElem?_map, List.getElem?_range hi']; rfl
theorem ix_rng1 {p : Pos} (hg : Gl X "range") (hm : X.mg "range" = none) (h : PXs X T W M [e] fs) (hs : starEach [e] X.env = [(false, eval e X.env)] := by rfl) : PIg X T W M False tg (.Call (.Name "range" p) [e] [] pos) (eRng1 fs) := by
  obtain ⟨⟨ta, pa, qa⟩, hl⟩ := h
  refine ⟨_, pi_range1 hg hm pa hs, fun G0 H0 G H σ σd R er o => ?_⟩
  refine qa _ _ _ _ _ _ _ er (o.seq fun ds G1 H1 vs _ x1 rs o => ?_)
  obtain ⟨ds', hd, k⟩ := o.of
  unfold rng1 at hd
  split at hd
  · rename_i j _
    split at hd
    · rename_i c
      cases hd
      cases rs with
      | cons r1 r2 =>
        cases r2; cases r1
        have w := ints_walk (X := X) (T := T) (lo := 0) (n := j.toNat) (G := G1) (H := H1) (o := False)
        simp only [Int.zero_add] at w
        exact ⟨j, rfl, c.1, c.2, k G1 H1 _ (Ext.refl x1.gh x1.tb) w⟩
    · cases hd
  · cases hd
theorem ix_rng2 {p : Pos} (hg : Gl X "range") (hm : X.mg "range" = none) (h : PXs X T W M [a, b] fs) (hs : starEach [a, b] X.env = [(false, eval a X.env), (false, eval b X.env)] := by rfl) (hs2 : starEach [b] X.env = [(false, eval b X.env)] := by rfl) :
    PIg X T W M False tg (.Call (.Name "range" p) [a, b] [] pos) (eRng2 fs) := by
  obtain ⟨⟨ta, pa, qa⟩, hl⟩ := h
  refine ⟨_, pi_range2 hg hm pa hs hs2, fun G0 H0 G H σ σd R er o => ?_⟩
  refine qa _ _ _ _ _ _ _ er (o.seq fun ds G1 H1 vs _ x1 rs o => ?_)
  obtain ⟨ds', hd, k⟩ := o.of
  unfold rng2 at hd
  split at hd
  · rename_i i j _
    split at hd
    · rename_i c
      cases hd
      cases rs with
      | cons r1 r2 =>
        cases r2 with
        | cons r2 r3 =>
          cases r3; cases r2; cases r1
          exact ⟨i, j, rfl, c, k G1 H1 _ (Ext.refl x1.gh x1.tb) ints_walk⟩
    · cases hd
  · cases hd
/-! ### loops -/
theorem ss_for {it : Expr} {body : List Stmt} {ts : List Nat} {g : D → Sl → Option Sl} {gb : Sl → Res Fl} (hp : PassesOwn (model X.prog X.w) X.A X.env X.xe) (hc : X.calm = true) (hi : PIg X T W M False tg it fs) (hg : PGx X T M tg ts g) (hb : PXSs X T W M body gb)
    (hs : ∀ x, foldedSetIterable it X.env x = pure x := by intro _; rfl) : PXS X T W M (.For tg it body [] pos) (sFor fs g gb) := by
  obtain ⟨wi, pw, qw⟩ := hi.run
  obtain ⟨ta, pa, qa⟩ := hg.run
  obtain ⟨tb, pb, qb⟩ := hb.run
  refine ⟨_, ps_for hp hc pw pa pb hs, fun G0 H0 G H σ σd Z er o => ?_⟩
  refine qw _ _ _ _ _ _ _ er (OutS.seq (X := X) o fun ds G1 H1 J _ x1 w o => ?_)
  obtain ⟨GW, Y, w1, w2, w3⟩ := w
  refine for_it w1 (fun i σ H => ∃ G σd, ER X T M G0 H0 G H σ σd ∧ Sm G1 G ∧ OutS X T W M G0 H0 G1 (forGo g gb (ds.drop i) σd) Z) ⟨G1, σd, er.to x1, Sm.refl _, by simpa using o⟩ (fun i σ H hi ⟨G, σd, er, s, _⟩ => w2 G H s er.gh fun z => z.elim) (fun i x σ H H' hi ⟨G, σd, er, s, o⟩ y => ?_) (fun σ H ⟨G, σd, er, s, o⟩ => ?_)
  · obtain ⟨G2, d, x2, hd, rx⟩ := w3 i G H x H' hi s er.gh er.tb (fun z => z.elim) y
    have hdr : ds.drop i = d :: ds.drop (i + 1) := by
      obtain ⟨hi', e⟩ := List.getElem?_eq_some_iff.mp hd
      rw [← e]; exact List.drop_eq_getElem_cons hi'
    rw [hdr] at o
    have o : OutS X T W M G0 H0 G1 ((Res.of (g d σd)).bind fun σ1 => (gb σ1).bind fun fl => match fl with
      | .nx σ2 => forGo g gb (ds.drop (i + 1)) σ2
      | .ct σ2 => forGo g gb (ds.drop (i + 1)) σ2
      | .bk σ2 => .ok (.nx σ2)
      | .rt d => .ok (.rt d)) Z := o
    cases z : g d σd with
    | none => rw [z] at o; exact o.elim
    | some σ1 =>
      rw [z] at o
      refine qa _ _ _ _ _ _ _ _ _ (er.to x2) rx ⟨σ1, z, fun σ' er' _ => ?_⟩
      refine qb _ _ _ _ _ _ _ er' ?_
      have o : OutS X T W M G0 H0 G1 ((gb σ1).bind fun fl => match fl with
        | .nx σ2 => forGo g gb (ds.drop (i + 1)) σ2
        | .ct σ2 => forGo g gb (ds.drop (i + 1)) σ2
        | .bk σ2 => .ok (.nx σ2)
        | .rt d => .ok (.rt d)) Z := o
      revert o
      cases gb σ1 with
      | ok fl =>
        cases fl with
        | nx σ2 => exact fun o G3 H3 σ3 s3 er3 => ⟨G3, σ2, er3, (s.trans x2.gg).trans s3, o⟩
        | ct σ2 => exact fun o G3 H3 σ3 s3 er3 => ⟨G3, σ2, er3, (s.trans x2.gg).trans s3, o⟩
        | bk σ2 => exact fun o G3 H3 σ3 s3 er3 => o G3 H3 σ3 ((s.trans x2.gg).trans s3) er3
        | rt d => exact id
      | ex c => exact id
      | no => exact id
  · rw [List.drop_length] at o
    exact o G H σ s er
theorem ss_while {c : Expr} {body : List Stmt} {fc : Sl → Res Bool} {gb : Sl → Res Fl} (n : Nat) (hp : PassesOwn (model X.prog X.w) X.A X.env X.xe) (hc : PXt X T W M c fc) (hb : PXSs X T W M body gb) : PXS X T W M (.While c body [] pos) (whileGo fc gb n) := by
  obtain ⟨tc, pc, qc⟩ := hc.run
  obtain ⟨tb, pb, qb⟩ := hb.run
  refine ⟨_, ps_while hp pc pb, fun G0 H0 G H σ σd Z er o => ?_⟩
  refine ⟨fun m σ H => ∃ G' σd, ER X T M G0 H0 G' H σ σd ∧ OutS X T W M G0 H0 G' (whileGo fc gb m σd) Z ∧ Sm G G', ⟨n, G, σd, er, o, Sm.refl _⟩, ?_⟩
  rintro m σ H ⟨G', σd, er, o, s⟩
  cases m with
  | zero => exact o.elim
  | succ m =>
    have o : OutS X T W M G0 H0 G' ((fc σd).bind fun k => if k = true then (gb σd).bind fun fl => match fl with
      | .nx σ2 => whileGo fc gb m σ2
      | .ct σ2 => whileGo fc gb m σ2
      | .bk σ2 => .ok (.nx σ2)
      | .rt d => .ok (.rt d) else .ok (.nx σd)) Z := o
    refine qc _ _ _ _ _ _ _ er (OutS.seq (X := X) o fun k G1 H1 k' _ x1 rk o => ?_)
    obtain rfl : k' = k := rk
    cases k' with
    | false =>
      rw [if_neg Bool.false_ne_true] at o ⊢
      exact o _ _ _ (Sm.refl _) (er.to x1)
    | true =>
      rw [if_pos rfl] at o ⊢
      refine ⟨fun σ H => ∃ G' σd, ER X T M G0 H0 G' H σ σd ∧ OutS X T W M G0 H0 G' (whileGo fc gb m σd) Z ∧ Sm G G', fun σ' H' q => ⟨m, Nat.lt_succ_self _, q⟩, ?_⟩
      refine qb _ _ _ _ _ _ _ (er.to x1) ?_
      revert o
      cases gb σd with
      | ok fl =>
        cases fl with
        | nx σ2 => exact fun o G3 H3 σ3 s3 er3 => ⟨G3, σ2, er3, OutS.up (r := whileGo fc gb m σ2) o s3, (s.trans x1.gg).trans s3⟩
        | ct σ2 => exact fun o G3 H3 σ3 s3 er3 => ⟨G3, σ2, er3, OutS.up (r := whileGo fc gb m σ2) o s3, (s.trans x1.gg).trans s3⟩
        | bk σ2 => exact id
        | rt d => exact id
      | ex c => exact id
      | no => exact id
end
end PV
namespace PV
open PySem PySem.Spec L2
abbrev WF : WX := fun _ _ _ _ => False
theorem ER.cx {X X' : Cx} {T : Tbs} {M : List Nat} {G0 H0 G H : Hp} {σ : L2.St} {σd : EnvD} (er : ER X T M G0 H0 G H σ σd) (h1 : X'.K = X.K) (h2 : X'.mg = X.mg) : ER X' T M G0 H0 G H σ σd :=
  ⟨er.ext, er.len, fun i d a b => by rw [h1, h2]; exact er.imm i d a b, fun i d a b => by rw [h1, h2]; exact er.own i d a b, er.sep⟩
/-- the tests of a comprehension -/
structure PXts (X : Cx) (T : Tbs) (W : WX) (M : List Nat) (es : List Expr) (f : Sl → Res Bool) : Prop where
  run : ∃ t, PTs X es t ∧ ∀ G0 H0 G H σ σd Q, ER X T M G0 H0 G H σ σd → Out X T W H0 rB (f σd) G H Q → t σ H Q
def bYes : Sl → Res Bool := fun _ => .ok true
section
variable {X : Cx} {T : Tbs} {W : WX} {M : List Nat} {pos : Pos} {tg e it : Expr} {f : Sl → Res D} {fi : Sl → Res (List D)}
theorem pxts_nil : PXts X T W M [] bYes := ⟨_, pts_nil, fun G0 H0 G H σ σd Q er o => Out.now (X := X) (W := W) (H0 := H0) (R := rB) o er.gh er.tb rfl⟩
theorem pxts_one {c : Expr} {fc : Sl → Res Bool} (h : PXt X T W M c fc) : PXts X T W M [c] fc := by
  obtain ⟨t, p, q⟩ := h.run
  exact ⟨_, pts_one p, q⟩
theorem wipe_set {σ σ' : L2.St} {vs : List Nat} (h : ∀ j, j ∉ vs → σ'[j]? = σ[j]?) (hl : σ'.length = σ.length) : wipe σ' vs = wipe σ vs := by
  apply List.ext_getElem?
  intro j
  by_cases hj : j ∈ vs
  · have : ∀ (τ : L2.St) (ws : List Nat), j ∈ ws → (wipe τ ws)[j]? = if j < τ.length then some none else none := by
      intro τ ws hm
      induction ws with
      | nil => cases hm
      | cons w ws ih =>
        unfold wipe
        by_cases e : j = w
        · subst e
          by_cases hl : j < τ.length
          · rw [List.getElem?_set_self (by rw [wipe_length]; exact hl), if_pos hl]
          · rw [List.getElem?_eq_none (by rw [List.length_set, wipe_length]; omega), if_neg hl]
        · rw [List.getElem?_set_ne (Ne.symm e)]
          exact ih ((List.mem_cons.mp hm).resolve_left e)
    rw [this σ' vs hj, this σ vs hj, hl]
  · rw [wipe_out hj, wipe_out hj]; exact h j hj
def rdG (X : Cx) (T : Tbs) (M : List Nat) (ts : List Nat) (g : D → Sl → Option Sl) : TG := fun v σ H Q => ∃ G0 H0 G σd d, ER X T M G0 H0 G H σ σd ∧ Rep X.K X.mg G v d ∧ ∃ σd', g d σd = some σd' ∧ ∀ σ', ER X T M G0 H0 G H σ' σd' → Frm ts σ σ' → Q σ' H
def rdT (X : Cx) (T : Tbs) (W : WX) (M : List Nat) (f : Sl → Res Bool) : TT := fun σ H Q => ∃ G0 H0 G σd, ER X T M G0 H0 G H σ σd ∧ Out X T W H0 rB (f σd) G H Q
def rdE (X : Cx) (T : Tbs) (W : WX) (M : List Nat) (f : Sl → Res D) : TE := fun σ H Q => ∃ G0 H0 G σd, ER X T M G0 H0 G H σ σd ∧ Out X T W H0 (rV X) (f σd) G H Q
/-- a comprehension: as a value, or stored at once -/
structure PXl (X : Cx) (T : Tbs) (W : WX) (M : List Nat) (elt tg it : Expr) (ifs : List Expr) (scope : Scope) (pos : Pos) (f : Sl → Res D) : Prop where
  run : ∃ t, PE X (.ListComp elt [⟨tg, it, ifs, 0⟩] scope pos) t ∧
    (∀ (i : Nat) (y : Str) (py spos : Pos), X.N[i]? = some y → X.env.scope.names.lookup y = some .local → swapsWith (.ListComp elt [⟨tg, it, ifs, 0⟩] scope pos) (some (.Name y py)) spos.line X.env = pure true →
      PS X (.Assign [.Name y py] (.ListComp elt [⟨tg, it, ifs, 0⟩] scope pos) spos) (tAsg t (gName i))) ∧
    ∀ G0 H0 G H σ σd Q, ER X T M G0 H0 G H σ σd → Out X T W H0 (fun G' H' v d => ∃ a, v = .ref a ∧ NT H a ∧ OwnAt X.K X.mg G' H' a d) (f σd) G H Q → t σ H Q
theorem pxl_lc {elt : Expr} {ifs : List Expr} {scope : Scope} {own : List (Str × Nat)} {ts : List Nat} {g : D → Sl → Option Sl} {fc : Sl → Res Bool} {fe : Sl → Res D} (hc : X.calm = true) (hN : X.N.Nodup) (hi : PIg X T W M True tg it fi) (ok : BlkOk X.N X.env.scope scope own)
    (hg : ∀ (s : Shared) (H : Hp) (C : Addr) (cl : List (Str × Addr)) (fp : List Addr), PGx (X.blk s H scope (compEnvC scope cl C X.env) fp) T M tg ts g)
    (ht : ∀ (s : Shared) (H : Hp) (C : Addr) (cl : List (Str × Addr)) (fp : List Addr), PXts (X.blk s H scope (compEnvC scope cl C X.env) fp) T WF M ifs fc)
    (he : ∀ (s : Shared) (H : Hp) (C : Addr) (cl : List (Str × Addr)) (fp : List Addr), PX (X.blk s H scope (compEnvC scope cl C X.env) fp) T WF M elt fe)
    (hts : ∀ i ∈ ts, i ∈ own.map (·.2)) (hs : ∀ x, foldedSetIterable it X.env x = pure x := by intro _; rfl) :
    PXl X T W M elt tg it ifs scope pos (eLc fi g fc fe (own.map (·.2))) := by
  obtain ⟨wi, pw, qw⟩ := hi.run
  have pg : ∀ (s : Shared) (H : Hp) (C : Addr) (cl : List (Str × Addr)) (fp : List Addr), PG (X.blk s H scope (compEnvC scope cl C X.env) fp) tg (rdG X T M ts g) := by
    intro s H C cl fp
    obtain ⟨t, p, q⟩ := (hg s H C cl fp).run
    refine ⟨fun pins s σ H v u Q I r ⟨G0, H0, G, σd, d, er, rv, σd', e, k⟩ => p.run pins s σ H v u Q I r (q G0 H0 G H σ σd v d Q (er.cx rfl rfl) rv ⟨σd', e, fun σ' er' f => k σ' (er'.cx rfl rfl) f⟩)⟩
  have pt : ∀ (s : Shared) (H : Hp) (C : Addr) (cl : List (Str × Addr)) (fp : List Addr), PTs (X.blk s H scope (compEnvC scope cl C X.env) fp) ifs (rdT X T WF M fc) := by
    intro s H C cl fp
    obtain ⟨t, p, q⟩ := (ht s H C cl fp).run
    exact ⟨fun pins s σ H Q I ⟨G0, H0, G, σd, er, o⟩ => p.run pins s σ H Q I (q G0 H0 G H σ σd Q (er.cx rfl rfl) o)⟩
  have pe : ∀ (s : Shared) (H : Hp) (C : Addr) (cl : List (Str × Addr)) (fp : List Addr), PE (X.blk s H scope (compEnvC scope cl C X.env) fp) elt (rdE X T WF M fe) := by
    intro s H C cl fp
    obtain ⟨t, p, q⟩ := (he s H C cl fp).run
    exact ⟨fun pins s σ H Q I ⟨G0, H0, G, σd, er, o⟩ => p.run pins s σ H Q I (q G0 H0 G H σ σd Q (er.cx rfl rfl) o)⟩
  refine ⟨_, pe_lc hc hN pw ok pg pt pe hs, fun i y py spos hy hl hsw => ps_setLc hc hN hy hl hsw pw ok pg pt pe hs, fun G0 H0 G H σ σd Q er o => ?_⟩
  refine qw _ _ _ _ _ _ _ er (o.seq fun ds G1 H1 J _ x1 w o => ?_)
  obtain ⟨GW, Y, w1, w2, w3⟩ := w
  intro Ad hD
  generalize hvs : own.map (·.2) = vs at o hts ⊢
  cases zr : lcGo g fc fe (wipeD σd vs) ds with
  | ex c => rw [zr] at o; exact o.elim
  | no => rw [zr] at o; exact o.elim
  | ok ys =>
  rw [zr] at o
  have o : Out X T W H0 (fun G' H' v d => ∃ a, v = V.ref a ∧ NT H a ∧ OwnAt X.K X.mg G' H' a d) (if ys.length ≤ sizeLine then .ok (.lst ys) else .no) G1 H1 Q := o
  rcases Nat.lt_or_ge sizeLine ys.length with hsz | hsz
  · rw [if_neg (by omega)] at o; exact o.elim
  rw [if_pos hsz] at o
  have er1 := er.to x1
  have gD : G1 Ad = none := x1.gh.none hD
  refine lc_it (g := rdG X T M ts g) (tt := rdT X T WF M fc) (te := rdE X T WF M fe) (vs := vs) (σ := σ) w1 (fun i H' => ∃ G' acc accd rest, Ext T G1 H1 G' H' ∧ G' Ad = none ∧ H' Ad = some (.lst acc) ∧ Reps X.K X.mg G' acc accd ∧ lcGo g fc fe (wipeD σd vs) (ds.drop i) = .ok rest ∧ accd ++ rest = ys)
    ⟨G1, [], [], ys, Ext.priv x1.gh x1.tb hD, gD, upd_same, .nil, by simpa using zr, rfl⟩ (fun i H' hi ⟨G', acc, accd, rest, x, _⟩ => w2 G' H' x.gg x.gh fun _ => x.hh) (fun i x H' H'' hi ⟨G', acc, accd, rest, x', g', h', rs, el, ey⟩ y => ?_) (fun H' ⟨G', acc, accd, rest, x', g', h', rs, el, ey⟩ => ?_)
  · obtain ⟨G2, d, x2, hd, rx⟩ := w3 i G' H' x H'' hi x'.gg x'.gh x'.tb (fun _ => x'.hh) y
    have hdr : ds.drop i = d :: ds.drop (i + 1) := by
      obtain ⟨hi', e⟩ := List.getElem?_eq_some_iff.mp hd
      rw [← e]; exact List.drop_eq_getElem_cons hi'
    rw [hdr] at el
    have el : (Res.of (g d (wipeD σd vs))).bind (fun σ1 => (fc σ1).bind fun k => if k = true then (fe σ1).bind fun y => (lcGo g fc fe (wipeD σd vs) (ds.drop (i + 1))).bind fun ys => .ok (y :: ys) else lcGo g fc fe (wipeD σd vs) (ds.drop (i + 1))) = .ok rest := el
    have x12 := x'.trans x2
    have hD2 : H'' Ad = some (.lst acc) := x2.hh _ _ h' (fun _ z => nomatch z)
    have gD2 : G2 Ad = none := x2.fr Ad _ g' h' (by first | exact Mo.lst | exact Mo.dct)
    have er2 : ER X T M G0 H0 G2 H'' (wipe σ vs) (wipeD σd vs) := (er1.to x12).wipe vs
    cases z : g d (wipeD σd vs) with
    | none => rw [z] at el; cases el
    | some σ1 =>
    rw [z] at el
    refine ⟨G0, H0, G2, wipeD σd vs, d, er2, rx, σ1, z, fun σ' er' fr => ⟨?_, ?_⟩⟩
    · exact wipe_set (fun j hj => (fr.1 j fun q => hj (hts j q)).trans (wipe_out hj)) (fr.2.trans (wipe_length _ _))
    · refine ⟨G0, H0, G2, σ1, er', ?_⟩
      have el : (fc σ1).bind (fun k => if k = true then (fe σ1).bind fun y => (lcGo g fc fe (wipeD σd vs) (ds.drop (i + 1))).bind fun ys => .ok (y :: ys) else lcGo g fc fe (wipeD σd vs) (ds.drop (i + 1))) = .ok rest := el
      cases zc : fc σ1 with
      | ex c => rw [zc] at el; cases el
      | no => rw [zc] at el; cases el
      | ok k =>
      rw [zc] at el
      intro G3 H3 k' x3 rk
      obtain rfl : k' = k := rk
      have hD3 : H3 Ad = some (.lst acc) := x3.hh _ _ hD2 (fun _ z => nomatch z)
      have gD3 : G3 Ad = none := x3.fr Ad _ gD2 hD2 (by first | exact Mo.lst | exact Mo.dct)
      cases k' with
      | false =>
        rw [if_neg Bool.false_ne_true]
        exact ⟨G3, acc, accd, rest, x12.trans x3, gD3, hD3, Reps.mono (x2.gg.trans x3.gg) _ _ rs, el, ey⟩
      | true =>
        rw [if_pos rfl]
        refine ⟨G0, H0, G3, σ1, er'.to x3, ?_⟩
        have el : (fe σ1).bind (fun y => (lcGo g fc fe (wipeD σd vs) (ds.drop (i + 1))).bind fun ys => .ok (y :: ys)) = .ok rest := el
        cases ze : fe σ1 with
        | ex c => rw [ze] at el; cases el
        | no => rw [ze] at el; cases el
        | ok y =>
        rw [ze] at el
        have el : (lcGo g fc fe (wipeD σd vs) (ds.drop (i + 1))).bind (fun ys => Res.ok (y :: ys)) = .ok rest := el
        cases zl : lcGo g fc fe (wipeD σd vs) (ds.drop (i + 1)) with
        | ex c => rw [zl] at el; cases el
        | no => rw [zl] at el; cases el
        | ok rest' =>
        rw [zl] at el
        have el : Res.ok (y :: rest') = .ok rest := el
        cases el
        intro G4 H4 v x4 ry
        have hD4 : H4 Ad = some (.lst acc) := x4.hh _ _ hD3 (fun _ z => nomatch z)
        have gD4 : G4 Ad = none := x4.fr Ad _ gD3 hD3 (by first | exact Mo.lst | exact Mo.dct)
        have rs4 := Reps.mono (x2.gg.trans (x3.gg.trans x4.gg)) _ _ rs
        refine ⟨acc, hD4, ?_, ?_⟩
        · have := rs.length
          have := congrArg List.length ey
          simp only [List.length_append, List.length_cons] at this
          omega
        · exact ⟨G4, acc ++ [v], accd ++ [y], rest', ((x12.trans x3).trans x4).put hD4 (.inl ⟨_, rfl⟩) gD4 (NT.of hD), gD4, upd_same, rs4.append (.cons ry .nil), by first | exact zl | exact rfl, by rw [List.append_assoc]; exact ey⟩
  · rw [List.drop_length] at el
    cases el
    rw [List.append_nil] at ey
    subst ey
    exact o G' H' _ x' ⟨Ad, rfl, (NT.of hD).back x1.hh, g', .inl ⟨acc, accd, rfl, h', rs⟩⟩
theorem PXl.fr {elt : Expr} {ifs : List Expr} {scope : Scope} (h : PXl X T W M elt tg it ifs scope pos f) : PXf X T W M (.ListComp elt [⟨tg, it, ifs, 0⟩] scope pos) f := by
  obtain ⟨t, p, _, q⟩ := h.run
  exact ⟨t, p, q⟩
theorem ss_ownLc {elt : Expr} {ifs : List Expr} {scope : Scope} {i : Nat} {y : Str} {py spos : Pos} (hy : X.N[i]? = some y) (hl : X.env.scope.names.lookup y = some .local)
    (hsw : swapsWith (.ListComp elt [⟨tg, it, ifs, 0⟩] scope pos) (some (.Name y py)) spos.line X.env = pure true) (hM : i ∈ M) (h : PXl X T W M elt tg it ifs scope pos f) :
    PXS X T W M (.Assign [.Name y py] (.ListComp elt [⟨tg, it, ifs, 0⟩] scope pos) spos) (sSet i f) := by
  obtain ⟨t, _, p, q⟩ := h.run
  refine ⟨_, p i y py spos hy hl hsw, fun G0 H0 G H σ σd Z er o => ?_⟩
  refine q _ _ _ _ _ _ _ er (OutS.seq (X := X) o fun d G1 H1 v _ x1 ⟨a, e, hn, ho⟩ o => ?_)
  subst e
  exact o _ _ _ (Sm.refl _) (er.setOwn x1 hM hn ho)
theorem ss_setLc {elt : Expr} {ifs : List Expr} {scope : Scope} {i : Nat} {y : Str} {py spos : Pos} (hy : X.N[i]? = some y) (hl : X.env.scope.names.lookup y = some .local)
    (hsw : swapsWith (.ListComp elt [⟨tg, it, ifs, 0⟩] scope pos) (some (.Name y py)) spos.line X.env = pure true) (hM : i ∉ M) (h : PXl X T W M elt tg it ifs scope pos f) :
    PXS X T W M (.Assign [.Name y py] (.ListComp elt [⟨tg, it, ifs, 0⟩] scope pos) spos) (sSet i f) := by
  obtain ⟨t, _, p, q⟩ := h.run
  refine ⟨_, p i y py spos hy hl hsw, fun G0 H0 G H σ σd Z er o => ?_⟩
  refine q _ _ _ _ _ _ _ er (OutS.seq (X := X) o fun d G1 H1 v _ x1 ⟨a, e, hn, hg, ho⟩ o => ?_)
  subst e
  rcases ho with ⟨vs, ds, rfl, h1, h2⟩ | ⟨kvs, kds, rfl, h1, h2⟩
  · have z := Ext.free x1 h1 hg (fun _ z => nomatch z) hn
    exact o _ _ _ (Sm.upd hg) ((er.to z).set hM (.lst upd_same (Reps.mono (Sm.upd hg) _ _ h2)))
  · have z := Ext.free x1 h1 hg (fun _ z => nomatch z) hn
    exact o _ _ _ (Sm.upd hg) ((er.to z).set hM (.dct upd_same (RepK.mono (Sm.upd hg) _ _ h2)))
end
end PV
namespace PV
open PySem PySem.Spec L2
/-! ### isinstance with a built-in class -/
def D.tyName : D → Option String
  | .non => some "NoneType"
  | .bl _ => some "bool"
  | .int _ => some "int"
  | .str _ => some "str"
  | .tup _ => some "tuple"
  | .lst _ => some "list"
  | _ => none
def isaB (a b : String) : Bool := a == b || (a == "bool" && b == "int")
def isiD (t : String) (d : D) : Option D := d.tyName.map fun a => .bl (isaB a t)
theorem kit_tab : ∀ a ∈ ["NoneType", "bool", "int", "str", "tuple", "list"], ∀ b ∈ ["bool", "int", "str", "tuple", "list"], kitB a b = some (isaB a b) := by decide +kernel
theorem D.tyName_mem {d : D} {a : String} (h : d.tyName = some a) : a ∈ ["NoneType", "bool", "int", "str", "tuple", "list"] := by
  cases d <;> simp [D.tyName] at h <;> subst h <;> simp
section
variable {X : Cx} {T : Tbs} {W : WX} {M : List Nat} {pos p p2 : Pos} {e : Expr} {es : List Expr} {f : Sl → Res D} {fs : Sl → Res (List D)}
theorem rR.ty {G H : Hp} {v : V} {d : D} {a : String} (r : rR X G H v d) (e : Vw G H) (h : d.tyName = some a) : TyX X.K H v (.type a) := by
  rcases r with r | ⟨p, rfl, _, ⟨vs, ds, rfl, h1, h2⟩ | ⟨kvs, kds, rfl, _, _⟩⟩
  · cases r with
    | non => cases h; exact .base .non
    | bl b => cases h; exact .base (.bl b)
    | int i => cases h; exact .base (.int i)
    | str s => cases h; exact .base (.str s)
    | tup h1 h2 => cases h; exact .base (.tup (e _ _ h1).1)
    | lst h1 h2 => cases h; exact .base (.lst (e _ _ h1).1)
    | _ => cases h
  · cases h; exact .base (.lst h1)
  · cases h
theorem px_isi {t : Str} {tn : String} (hg : Gl X "isinstance") (hm : X.mg "isinstance" = none) (he : PXr X T W M e f) (hgt : Gl X t) (hmt : X.mg t = none) (hv : bootBuiltins t = some (.type tn)) (ht : tn ∈ ["bool", "int", "str", "tuple", "list"])
    (hn : t ≠ "__name__" := by decide) (hd : (t == ("__debug__" : Str)) = false := by decide)
    (h1 : starEach [e, .Name t p2] X.env = (false, eval e X.env) :: starEach [.Name t p2] X.env := by rfl) (h2 : starEach [.Name t p2] X.env = (false, eval (.Name t p2) X.env) :: starEach [] X.env := by rfl) (hpl : (backTo pos (starEach [.Name t p2] X.env)).any (·.1) = false := by rfl) :
    PX X T W M (.Call (.Name "isinstance" p) [e, .Name t p2] [] pos) (e1 (isiD tn) f) := by
  obtain ⟨ta, pa, qa⟩ := he.run
  refine ⟨_, pe_callB call_isi hg hm PyProof.Rows.boot_isinstance (pa_cons pa (pa_cons (pe_bltn (v := .ty tn) hgt hmt hv rfl hn hd) pa_nil h2) h1) (by decide) (by decide) h1 hpl, fun G0 H0 G H σ σd Q er o => ?_⟩
  refine qa _ _ _ _ _ _ _ er (o.seq fun d G1 H1 v _ x1 rv o => ?_)
  obtain ⟨d', hd, q⟩ := o.of
  unfold isiD at hd
  rw [Option.map_eq_some_iff] at hd
  obtain ⟨a, ha, rfl⟩ := hd
  exact ⟨v, .ty tn, .type a, .type tn, isaB a tn, rfl, .ty _, rR.ty rv x1.gh ha, kit_ty (kit_tab a (D.tyName_mem ha) tn ht), Ext.q0 q x1.gh x1.tb (.bl _)⟩
/-! ### one's own list grows -/
def sApp (i : Nat) (f : Sl → Res D) : Sl → Res Fl := fun σ => match σ[i]? with
  | some (some (.lst ds)) => (f σ).bind fun d => if ds.length < sizeLine then .ok (.nx (σ.set i (some (.lst (ds ++ [d]))))) else .no
  | _ => .no
def sExt (i : Nat) (f : Sl → Res D) : Sl → Res Fl := fun σ => match σ[i]? with
  | some (some (.lst ds)) => (f σ).bind fun d => match d with
    | .lst es => if ds.length + es.length ≤ sizeLine then .ok (.nx (σ.set i (some (.lst (ds ++ es))))) else .no
    | _ => .no
  | _ => .no
theorem ss_append {i : Nat} {x : Str} {ap cp : Pos} (hv : PE X (.Name x p) (tVar i)) (hM : i ∈ M) (he : PX X T W M e f)
    (hbase : attributeBase (.Name x p) "append" X.env (eval (.Name x p) X.env) = eval (.Name x p) X.env := by rfl)
    (hfew : ((backTo cp (starEach [e] X.env)).all (fun x => !x.1) && (backToKw cp (keywordEach [] X.env)).all (fun x => x.1.isSome)
      && decide (([e] : List Expr).length + ([] : List Keyword).length + (if ([] : List Keyword).isEmpty then 0 else 1) < 30)) = true := by rfl)
    (hline : (ap.endLine == cp.line) = true := by rfl) (hs : starEach [e] X.env = (false, eval e X.env) :: starEach [] X.env := by rfl) (hplain : (backTo cp (starEach [] X.env)).any (·.1) = false := by rfl)
    (hsw : swapsWith (.Call (.Attribute (.Name x p) "append" ap) [e] [] cp) none pos.line X.env = pure false := by rfl) :
    PXS X T W M (.Expr (.Call (.Attribute (.Name x p) "append" ap) [e] [] cp) pos) (sApp i f) := by
  obtain ⟨ta, pa, qa⟩ := he.run
  refine ⟨_, ps_expr (pe_bm PySem.F.plainAttrs_list PySem.F.slot_list_append PySem.F.type_list_append mt_append hv (pa_cons pa pa_nil hs) hbase hfew hline hs hplain) hsw, fun G0 H0 G H σ σd Z er o => ?_⟩
  unfold sApp at o
  split at o
  · rename_i ds e
    obtain ⟨a, q, h0, hg, ho⟩ := er.own i _ hM e
    rcases ho with ⟨vs, ds', z, h1, h2⟩ | ⟨kvs, kds, z, h1, h2⟩
    · cases z
      refine ⟨_, q, .inl ⟨rfl, vs, SqL.of h1⟩, ?_⟩
      refine qa _ _ _ _ _ _ _ er (OutS.seq (X := X) o fun d G1 H1 v _ x1 rv o => ?_)
      have h1' : H1 a = some (.lst vs) := x1.hh _ _ h1 (fun _ z => nomatch z)
      by_cases c : ds.length < sizeLine
      · rw [if_pos c] at o
        refine ⟨a, vs, v, rfl, rfl, h1', by rw [h2.length]; exact c, ?_⟩
        exact o _ _ _ (Sm.refl _) ((er.to x1).put hM e q h1' (.inl ⟨_, rfl⟩) ⟨x1.fr a _ hg h1 (by first | exact Mo.lst | exact Mo.dct), .inl ⟨vs ++ [v], ds ++ [d], rfl, upd_same, (Reps.mono x1.gg _ _ h2).append (.cons rv .nil)⟩⟩)
      · rw [if_neg c] at o; exact o.elim
    · cases z
  · exact o.elim
theorem ss_extend {i : Nat} {x : Str} {ap cp : Pos} (hv : PE X (.Name x p) (tVar i)) (hM : i ∈ M) (he : PXf X T W M e f)
    (hbase : attributeBase (.Name x p) "extend" X.env (eval (.Name x p) X.env) = eval (.Name x p) X.env := by rfl)
    (hfew : ((backTo cp (starEach [e] X.env)).all (fun x => !x.1) && (backToKw cp (keywordEach [] X.env)).all (fun x => x.1.isSome)
      && decide (([e] : List Expr).length + ([] : List Keyword).length + (if ([] : List Keyword).isEmpty then 0 else 1) < 30)) = true := by rfl)
    (hline : (ap.endLine == cp.line) = true := by rfl) (hs : starEach [e] X.env = (false, eval e X.env) :: starEach [] X.env := by rfl) (hplain : (backTo cp (starEach [] X.env)).any (·.1) = false := by rfl)
    (hsw : swapsWith (.Call (.Attribute (.Name x p) "extend" ap) [e] [] cp) none pos.line X.env = pure false := by rfl) :
    PXS X T W M (.Expr (.Call (.Attribute (.Name x p) "extend" ap) [e] [] cp) pos) (sExt i f) := by
  obtain ⟨ta, pa, qa⟩ := he.run
  refine ⟨_, ps_expr (pe_bm PySem.F.plainAttrs_list PySem.F.slot_list_extend PySem.F.type_list_extend mt_extend hv (pa_cons pa pa_nil hs) hbase hfew hline hs hplain) hsw, fun G0 H0 G H σ σd Z er o => ?_⟩
  unfold sExt at o
  split at o
  · rename_i ds e
    obtain ⟨a, q, h0, hg, ho⟩ := er.own i _ hM e
    rcases ho with ⟨vs, ds', z, h1, h2⟩ | ⟨kvs, kds, z, h1, h2⟩
    · cases z
      refine ⟨_, q, .inl ⟨rfl, vs, SqL.of h1⟩, ?_⟩
      refine qa _ _ _ _ _ _ _ er (OutS.seq (X := X) o fun d G1 H1 v _ x1 ⟨b, eb, hb, ob⟩ o => ?_)
      subst eb
      have h1' : H1 a = some (.lst vs) := x1.hh _ _ h1 (fun _ z => nomatch z)
      obtain ⟨_, ⟨ws, es', rfl, k1, k2⟩ | ⟨kvs, kds, rfl, _, _⟩⟩ := ob
      · have o : OutS X T W M G0 H0 G1 (if ds.length + es'.length ≤ sizeLine then .ok (.nx (σd.set i (some (.lst (ds ++ es'))))) else .no) Z := o
        by_cases c : ds.length + es'.length ≤ sizeLine
        · rw [if_pos c] at o
          refine ⟨a, b, vs, ws, rfl, rfl, h1', k1, by rw [h2.length, k2.length]; exact c, ?_⟩
          exact o _ _ _ (Sm.refl _) ((er.to x1).put hM e q h1' (.inl ⟨_, rfl⟩) ⟨x1.fr a _ hg h1 (by first | exact Mo.lst | exact Mo.dct), .inl ⟨vs ++ ws, ds ++ es', rfl, upd_same, (Reps.mono x1.gg _ _ h2).append k2⟩⟩)
        · rw [if_neg c] at o; exact o.elim
      · exact o.elim
    · cases z
  · exact o.elim
/-! ### a, b = x, y -/
def sPar (i j : Nat) (f : Sl → Res (List D)) : Sl → Res Fl := fun σ => (f σ).bind fun ds => match ds with
  | [v, w] => .ok (.nx ((σ.set i (some v)).set j (some w)))
  | _ => .no
theorem ss_par {i j : Nat} {x y : Str} {a b : Expr} {px py pt : Pos} {kt k2 pt2} (hc : X.calm = true) (hN : X.N.Nodup) (hi : X.N[i]? = some x) (hj : X.N[j]? = some y) (hij : i ≠ j)
    (hx : X.env.scope.names.lookup x = some .local) (hy : X.env.scope.names.lookup y = some .local) (hMi : i ∉ M) (hMj : j ∉ M) (ha : PXs X T W M [a, b] fs)
    (hw : swappedStores [.Tuple [.Name x px, .Name y py] kt pt] (.Tuple [a, b] k2 pt2) X.env = pure (some [x, y]))
    (hs : swapsWithSole [.Tuple [.Name x px, .Name y py] kt pt] (.Tuple [a, b] k2 pt2) pos.line X.env = pure false := by rfl) :
    PXS X T W M (.Assign [.Tuple [.Name x px, .Name y py] kt pt] (.Tuple [a, b] k2 pt2) pos) (sPar i j fs) := by
  obtain ⟨⟨ta, pa, qa⟩, _⟩ := ha
  refine ⟨_, ps_par hc hN hi hj hij hx hy pa hw hs, fun G0 H0 G H σ σd Z er o => ?_⟩
  refine qa _ _ _ _ _ _ _ er (OutS.seq (X := X) o fun ds G1 H1 vs _ x1 rs o => ?_)
  split at o
  · cases rs with
    | cons r1 r2 =>
      cases r2 with
      | cons r2 r3 =>
        cases r3
        exact ⟨_, _, rfl, o _ _ _ (Sm.refl _) (((er.to x1).set hMi r1).set hMj r2)⟩
  · exact o.elim
/-! ### raise -/
theorem ss_raise {x m : Str} {C : Addr} {B newId initId : String} {bmB : List Value} {k : Nat} (hc : X.calm = true) (tk : Takes X W) (F : PySem.ExcBaseFacts B newId initId bmB) (q : PySem.W.excIn X.K C bmB newId = true) (gC : X.mg x = some (.ref C)) (kC : PySem.W.keepIn X.K (.ref C) = true) (r : Raises X (.ref C)) (hg : Gl X x)
    (hdb : (x == ("__debug__" : Str)) = false := by decide) : PXS X T W M (.Raise (some (.Call (.Name x p) [.Constant (.str m) k p2] [] pos)) none pos) (sRaise x) := by
  refine ⟨_, ps_raise hc tk (pmk_own F q gC kC r hg hdb), fun G0 H0 G H σ σd Z er o => ?_⟩
  exact o C H σ gC er.ext.hh er.tb
end
end PV
namespace PV
open PySem PySem.Spec L2
/-- a def that may be called: its name is bound to it, and it keeps its promise -/
structure Cal (P : Program) (w : World) (K : PySem.W.Frag) (mg : Str → Option Value) (base : Heap) (T : Tbs) (x : Str) (ps : List Str) (k : Nat) (h : List D → Res D) : Prop where
  ex : ∃ f fd, FnOk P w K mg base (L2.CX P w) k f fd ps (spR K mg T ps.length h) ∧ Binds K fd ps [] ∧ PySem.W.keepIn K (.ref f) = true ∧ mg x = some (.ref f) ∧ ∃ oc od osl, K.lookup f = some ⟨oc, od, .func fd, osl⟩
/-- the def as the top left it -/
structure DefAt (K : PySem.W.Frag) (mg : Str → Option Value) (x : Str) (st : Stmt) : Prop where
  ex : ∃ f fd, L2.Fun K x x st f fd ∧ mg x = some (.ref f)
theorem Cal.mono {P : Program} {w : World} {K : PySem.W.Frag} {mg : Str → Option Value} {base : Heap} {T : Tbs} {x : Str} {ps : List Str} {j k : Nat} {h : List D → Res D} (C : Cal P w K mg base T x ps j h) (l : j ≤ k) : Cal P w K mg base T x ps k h := by
  obtain ⟨f, fd, F, b, kp, m⟩ := C.ex
  exact ⟨f, fd, F.mono l, b, kp, m⟩
/-- another way to say what it is worth -/
theorem Cal.eq {P : Program} {w : World} {K : PySem.W.Frag} {mg : Str → Option Value} {base : Heap} {T : Tbs} {x : Str} {ps : List Str} {k : Nat} {h h' : List D → Res D} (C : Cal P w K mg base T x ps k h) (e : ∀ ds, h' ds ≠ .no → h ds = h' ds) : Cal P w K mg base T x ps k h' := by
  obtain ⟨f, fd, F, b, kp, m⟩ := C.ex
  refine ⟨f, fd, F.imp fun vs H Q E q => ?_, b, kp, m⟩
  obtain ⟨G, ds, a1, a2, a3, a4, a5⟩ := q
  refine ⟨G, ds, a1, a2, a3, a4, ?_⟩
  rw [e ds fun z => by rw [z] at a5; exact a5]
  exact a5
theorem fn_cal {P : Program} {w : World} {K : PySem.W.Frag} {mg : Str → Option Value} {base : Heap} {T : Tbs} {x : Str} {st : Stmt} {N ps : List Str} {M : List Nat} {g : Sl → Res Fl} (k : Nat) (F : DefAt K mg x st) (S : FnScope N ps (defScope st)) (hNp : ps.length ≤ N.length) (hM : ∀ i ∈ M, ps.length ≤ i)
    (hb : ∀ (kV doc pm : Value) (an : Option Addr) (cdv ct : Value) (us : List Value), us.length = ps.length → bindArgs (PySem.W.fnOf x x (defArgs st) (defBody st) (defScope st) .none kV doc pm an cdv ct) ⟨us, []⟩ = pure (ps.zip us))
    (hd : ∀ (f : Addr) (cdv : Value) (A : Around) (outer : List Env) (s : Shared) (H : Hp) (E : XK), Room k (cxOf (L2.CX P w) P w K mg base N x (defScope st) f cdv A outer s H E).A → Takes (cxOf (L2.CX P w) P w K mg base N x (defScope st) f cdv A outer s H E) (fun cls d _ H => E cls d H) →
      PXSs (cxOf (L2.CX P w) P w K mg base N x (defScope st) f cdv A outer s H E) T (fun cls d _ H => E cls d H) M (defBody st) g) :
    Cal P w K mg base T x ps (k + 1) (runF N ps.length g) := by
  obtain ⟨f, fd, F, m⟩ := F.ex
  have lk : ∃ oc od osl, K.lookup f = some ⟨oc, od, .func fd, osl⟩ := by
    obtain ⟨oc, od, kV, doc, pm, an, cdv, ct, osl, _, lk, _⟩ := F.ex
    exact ⟨oc, od, osl, lk⟩
  refine ⟨f, fd, fn_pure F S hNp hM fun cdv A outer s H E X hX hr tk => ?_, F.binds hb, F.kp, m, lk⟩
  subst hX
  exact hd f cdv A outer s H E hr tk
section
variable {X : Cx} {T : Tbs} {W : WX} {M : List Nat} {pos p p2 : Pos} {a b c e : Expr} {es : List Expr} {f fa fb fc : Sl → Res D} {fs : Sl → Res (List D)}
theorem px_callC {x : Str} {ps : List Str} {k : Nat} {h : List D → Res D} (C : Cal X.prog X.w X.K X.mg X.base T x ps k h) (hr : Room k X.A) (hg : Gl X x) (tk : Takes X W) (ha : PXs X T W M (e :: es) fs) (hn : (e :: es).length = ps.length := by rfl)
    (hdb : (x == ("__debug__" : Str)) = false := by decide) (he : starEach (e :: es) X.env = (false, eval e X.env) :: starEach es X.env := by rfl) (hpl : (backTo pos (starEach es X.env)).any (·.1) = false := by rfl) : PX X T W M (.Call (.Name x p) (e :: es) [] pos) (eCall h fs) := by
  obtain ⟨f, fd, F, b, kp, m, _⟩ := C.ex
  exact px_call F hr hg m kp b tk ha hn hdb he hpl
theorem pxt_chain {op op' : CmpOp} {g g' : D → D → Option D} (ho : Op2 X T (compareOp op) g) (ho' : Op2 X T (compareOp op') g') (hm : lastMarks [op, op'] [b, c] = false)
    (ha : PX X T W M a fa) (hb : PX X T W M b fb) (hc : PX X T W M c fc) : PXt X T W M (.Compare a [op, op'] [b, c] pos) (eB (eChain g g' fa fb fc)) := by
  obtain ⟨r, hr, hg⟩ := ho
  obtain ⟨r', hr', hg'⟩ := ho'
  obtain ⟨ta, pa, qa⟩ := ha.run
  obtain ⟨tb, pb, qb⟩ := hb.run
  obtain ⟨tc, pc, qc⟩ := hc.run
  refine ⟨_, pt_chain hr hr' pa pb pc hm, fun G0 H0 G H σ σd Q er o => ?_⟩
  have e0 : eB (eChain g g' fa fb fc) σd = ((fa σd).bind fun x => (fb σd).bind fun y => (Res.of (g x y)).bind fun z => z.tobool.bind fun k =>
      if k = true then ((fc σd).bind fun w => (Res.of (g' y w)).bind D.tobool) else .ok false) := by
    unfold eB eChain
    cases fa σd with
    | ok x =>
      cases fb σd with
      | ok y =>
        simp only [Res.ok_bind]
        cases g x y with
        | some z =>
          cases z with
          | bl k =>
            cases k with
            | true => simp only [Res.of, Res.ok_bind, D.tobool, if_true]; cases fc σd <;> rfl
            | false => rfl
          | _ => rfl
        | none => rfl
      | ex c => rfl
      | no => rfl
    | ex c => rfl
    | no => rfl
  rw [e0] at o
  refine qa _ _ _ _ _ _ _ er (o.seq fun dx G1 H1 x _ x1 rx o => ?_)
  refine qb _ _ _ _ _ _ _ (er.to x1) (o.seq fun dy G2 H2 y _ x2 ry o => ?_)
  have e12 := (er.to x1).to x2
  cases e : g dx dy with
  | none => rw [e] at o; exact o.elim
  | some d =>
    rw [e] at o
    have o : Out X T W H0 rB (d.tobool.bind fun k => if k = true then ((fc σd).bind fun w => (Res.of (g' dy w)).bind D.tobool) else .ok false) G2 H2 Q := o
    obtain ⟨k, rfl, o'⟩ := Out.seqb o
    refine hg G2 H2 x y dx dy _ _ x2.gh x2.tb (Rep.mono x2.gg _ _ rx) ry e fun G3 H3 v x3 rv => ?_
    cases rv
    refine ⟨k, rfl, ?_⟩
    cases k with
    | false =>
      rw [if_neg Bool.false_ne_true]
      exact ⟨false, rfl, o' G3 H3 _ x3 rfl⟩
    | true =>
      rw [if_pos rfl]
      have o' : Out X T W H0 rB ((fc σd).bind fun w => (Res.of (g' dy w)).bind D.tobool) G2 H2 Q := o'
      cases q : fc σd with
      | ex c => rw [q] at o'; exact qc _ _ _ _ _ _ _ (e12.to x3) (by rw [q]; exact o')
      | no => rw [q] at o'; exact o'.elim
      | ok w =>
        rw [q] at o'
        have o' : Out X T W H0 rB ((Res.of (g' dy w)).bind D.tobool) G2 H2 Q := o'
        refine qc _ _ _ _ _ _ _ (e12.to x3) ?_
        rw [q]
        intro G4 H4 wv x4 rw_
        cases e2 : g' dy w with
        | none => rw [e2] at o'; exact o'.elim
        | some d2 =>
          rw [e2] at o'
          obtain ⟨k2, rfl, q2⟩ := Out.tobool (d := d2) o'
          refine hg' G4 H4 y wv dy w _ _ x4.gh x4.tb (Rep.mono x4.gg _ _ (Rep.mono x3.gg _ _ ry)) rw_ e2 fun G5 H5 v x5 rv => ?_
          cases rv
          exact ⟨k2, rfl, q2 G5 H5 ((x3.trans x4).trans x5)⟩
end
/-- the built-ins' names are free -/
structure BI (mg : Str → Option Value) : Prop where
  len : mg "len" = none
  range : mg "range" = none
  tuple : mg "tuple" = none
  list : mg "list" = none
  int : mg "int" = none
  str : mg "str" = none
  bool : mg "bool" = none
  all : mg "all" = none
  any : mg "any" = none
  max : mg "max" = none
  min : mg "min" = none
  abs : mg "abs" = none
  sorted : mg "sorted" = none
  set : mg "set" = none
  dict : mg "dict" = none
  zip : mg "zip" = none
  enumerate : mg "enumerate" = none
  isinstance : mg "isinstance" = none
  repr : mg "repr" = none
/-- an own class of exceptions over ValueError without methods -/
structure ExcAt (K : PySem.W.Frag) (mg : Str → Option Value) (x : Str) : Prop where
  ex : ∃ (C : Addr) (bm : List Value) (nw : String), mg x = some (.ref C) ∧ PySem.W.keepIn K (.ref C) = true ∧ PySem.W.subIn K (.ref C) (.type "BaseException") = some true ∧ PySem.W.typeIn K (.ref C) = some (.type "type") ∧
    PySem.W.excIn K C [.type "ValueError", .type "Exception", .type "BaseException", .type "object"] "ValueError.__new__" = true
theorem ss_raiseC {X : Cx} {T : Tbs} {W : WX} {M : List Nat} {pos p p2 pr : Pos} {x m : Str} {k : Nat} (hc : X.calm = true) (tk : Takes X W) (Z : ExcAt X.K X.mg x) (hg : Gl X x) (hdb : (x == ("__debug__" : Str)) = false := by decide) :
    PXS X T W M (.Raise (some (.Call (.Name x p) [.Constant (.str m) k p2] [] pos)) none pr) (sRaise x) := by
  obtain ⟨C, bm, nw, g, kp, b, t, q⟩ := Z.ex
  refine ⟨_, ps_raise hc tk (pmk_own PySem.F.excBase_ValueError q g kp (raises_own b t) hg hdb), fun G0 H0 G H σ σd Z er o => ?_⟩
  exact o C H σ g er.ext.hh er.tb
/-- a constant of the top -/
structure CstAt (K : PySem.W.Frag) (mg : Str → Option Value) (x : Str) (d : D) : Prop where
  ex : ∃ u v, mg x = some u ∧ RelV v u ∧ ∀ G, Rep K mg G v d
theorem px_cst {X : Cx} {T : Tbs} {W : WX} {M : List Nat} {pos : Pos} {x : Str} {d : D} (C : CstAt X.K X.mg x d) (hg : Gl X x) (hd : (x == ("__debug__" : Str)) = false := by decide) : PX X T W M (.Name x pos) (eC d) := by
  obtain ⟨u, v, m, r, h⟩ := C.ex
  exact px_const (pe_glob hg m r hd) h
theorem hu5_of {A : Around} {k : Nat} (r : Room k A) : A.units + 65 < cLine := by have := r.un; omega
theorem passes_po {X : Cx} {K : Value → Shared → Prop} {E₁ : Value → Shared → Prop} (hx : X.xe = fun e s' => wpAny (model X.prog X.w) X.A (leaving X.env e) (fun _ s'' => K e s'') E₁ s') : PassesOwn (model X.prog X.w) X.A X.env X.xe := passes_of hx
end PV
namespace PV
open PySem PySem.Spec L2
/-! ### the end -/
abbrev KOf {K : PySem.W.Frag} {h : Heap} (_ : K.In h) : PySem.W.Frag := K
theorem defAt_mk {K : PySem.W.Frag} {h : Heap} {mg : Str → Option Value} (X : K.In h) (G : h.Ns mainGlobals mg) {x : Str} {st : Stmt} {f : Addr} {od an : Option Addr} {sl : Array (Option Value)} {oc kV dc pm cd ct : Value}
    (a : PySem.W.nsIn K mainGlobals x = some (some (.ref f))) (l : K.lookup f = some ⟨oc, od, .func (PySem.W.fnOf x x (defArgs st) (defBody st) (defScope st) .none kV dc pm an cd ct), sl⟩) (c : PySem.W.codeIn K cd x = true) (k : PySem.W.keepIn K (.ref f) = true) : DefAt K mg x st :=
  ⟨f, _, fun_mk l c k, PySem.W.mg_of X G a⟩
theorem excAt_mk {K : PySem.W.Frag} {h : Heap} {mg : Str → Option Value} (X : K.In h) (G : h.Ns mainGlobals mg) {x : Str} {C : Addr}
    (a : PySem.W.nsIn K mainGlobals x = some (some (.ref C))) (q : PySem.W.excIn K C [.type "ValueError", .type "Exception", .type "BaseException", .type "object"] "ValueError.__new__" = true) (k : PySem.W.keepIn K (.ref C) = true)
    (b : PySem.W.subIn K (.ref C) (.type "BaseException") = some true) (t : PySem.W.typeIn K (.ref C) = some (.type "type")) : ExcAt K mg x := ⟨C, [], "", PySem.W.mg_of X G a, k, b, t, q⟩
theorem cst_str {K : PySem.W.Frag} {h : Heap} {mg : Str → Option Value} (X : K.In h) (G : h.Ns mainGlobals mg) {x s : Str} {t : Tok} (a : PySem.W.nsIn K mainGlobals x = some (some (.str s t))) : CstAt K mg x (.str s) :=
  ⟨_, .str s, PySem.W.mg_of X G a, ⟨t, rfl⟩, fun _ => .str s⟩
theorem cst_int {K : PySem.W.Frag} {h : Heap} {mg : Str → Option Value} (X : K.In h) (G : h.Ns mainGlobals mg) {x : Str} {i : Int} {t : Tok} (a : PySem.W.nsIn K mainGlobals x = some (some (.int i t))) : CstAt K mg x (.int i) :=
  ⟨_, .int i, PySem.W.mg_of X G a, ⟨t, rfl⟩, fun _ => .int i⟩
/-- a value of the written part -/
inductive KRep (K : PySem.W.Frag) : Value → D → Prop
  | str {s : Str} {t : Tok} : KRep K (.str s t) (.str s)
  | int {i : Int} {t : Tok} : KRep K (.int i t) (.int i)
  | nil {a : Addr} {dd : Option Addr} {n : Nat} {sl : Array (Option Value)} : K.lookup a = some ⟨.type "tuple", dd, .seq #[] n, sl⟩ → KRep K (.ref a) (.ctup [])
  | tup {a : Addr} {dd : Option Addr} {n : Nat} {sl : Array (Option Value)} {us : List Value} {ds : List D} : K.lookup a = some ⟨.type "tuple", dd, .seq us.toArray n, sl⟩ → us.length ≤ 100 → Paired (KRep K) us ds → KRep K (.ref a) (.ctup ds)
section
variable {K : PySem.W.Frag} {mg : Str → Option Value} {G : Hp}
mutual
theorem KRep.rep' : ∀ (d : D) (u : Value), KRep K u d → ∃ v, RelV v u ∧ Rep K mg G v d
  | .str s, _, h => by cases h; exact ⟨.str s, ⟨_, rfl⟩, .str s⟩
  | .int s, _, h => by cases h; exact ⟨.int s, ⟨_, rfl⟩, .int s⟩
  | .ctup ds, _, h => by
    cases h with
    | nil l => exact ⟨.ref _, rfl, .ctup (vs := []) (.inr ⟨_, #[], _, l, rfl, rfl, by decide, .nil⟩) .nil⟩
    | tup l hn p =>
      obtain ⟨vs, r, q⟩ := KRep.reps' ds _ p
      refine ⟨.ref _, rfl, .ctup (.inr ⟨_, _, _, l, rfl, rfl, ?_, by simpa using r⟩) q⟩
      rw [List.size_toArray, PySem.sizeLine]
      omega
  | .non, _, h => by cases h
  | .bl _, _, h => by cases h
  | .tup _, _, h => by cases h
  | .lst _, _, h => by cases h
  | .scr _, _, h => by cases h
  | .dct _, _, h => by cases h
  | .obj _ _, _, h => by cases h
theorem KRep.reps' : ∀ (ds : List D) (us : List Value), Paired (KRep K) us ds → ∃ vs, Vals vs us ∧ Reps K mg G vs ds
  | [], _, p => by cases p; exact ⟨[], .nil, .nil⟩
  | d :: ds, _, p => by
    cases p with
    | cons p1 p2 =>
      obtain ⟨v, r, q⟩ := KRep.rep' d _ p1
      obtain ⟨vs, rs, qs⟩ := KRep.reps' ds _ p2
      exact ⟨v :: vs, .cons r rs, .cons q qs⟩
end
end
theorem KRep.rep {K : PySem.W.Frag} {mg : Str → Option Value} {G : Hp} {u : Value} {d : D} (h : KRep K u d) : ∃ v, RelV v u ∧ Rep K mg G v d := KRep.rep' d u h
theorem cst_rep {K : PySem.W.Frag} {h : Heap} {mg : Str → Option Value} (X : K.In h) (G : h.Ns mainGlobals mg) {x : Str} {u : Value} {d : D} (a : PySem.W.nsIn K mainGlobals x = some (some u)) (r : KRep K u d) : CstAt K mg x d := by
  obtain ⟨v, rv, _⟩ := r.rep (mg := mg) (G := fun _ => none)
  refine ⟨u, v, PySem.W.mg_of X G a, rv, fun G' => ?_⟩
  obtain ⟨v', rv', q⟩ := r.rep (mg := mg) (G := G')
  rw [rv.inj rv']; exact q
def spLaw (K : PySem.W.Frag) : Sp := fun vs H Q _ => ∃ (a : Addr) (ns : List Int), vs = [.ref a] ∧ SqL K H a (ns.map V.int) ∧ ns.length ≤ 63 ∧ Only H ∧ ∀ H', Q (.bl true) H'
theorem law_fn {P : Program} {w : World} {K : PySem.W.Frag} {mg : Str → Option Value} {st : Stmt} {k : Nat} {x : Str} {h : List D → Res D} {fa : Addr} (F : DefAt K mg "law" st) (hfa : mg "law" = some (.ref fa))
    (hb : ∀ (kV doc pm : Value) (an : Option Addr) (cdv ct u : Value), bindArgs (PySem.W.fnOf "law" "law" (defArgs st) (defBody st) (defScope st) .none kV doc pm an cdv ct) ⟨[u], []⟩ = pure [(x, u)])
    {I : Heap → Prop} (C : ∀ base, I base → Cal P w K mg base [] "law" [x] k h) (hl : ∀ ns : List Int, ns.length ≤ 63 → h [.scr ns] = .ok (.bl true)) :
    ∃ fd : FuncData, (∀ (s : Shared) (u : Value), BindsTo s fd ⟨[u], []⟩ [(x, u)]) ∧ ∀ base, I base → FnOk P w K mg base (L2.CX P w) k fa fd [x] (spLaw K) := by
  obtain ⟨f, fd, F, m⟩ := F.ex
  rw [hfa] at m
  cases m
  obtain ⟨oc, od, kV, doc, pm, an, cdv, ct, osl, rfl, lk, _⟩ := F.ex
  refine ⟨_, fun s u => .of_eq (hb kV doc pm an cdv ct u), fun base i => ?_⟩
  obtain ⟨f, fd, G, b, _, m, oc', od', osl', lk'⟩ := (C base i).ex
  rw [hfa] at m
  cases m
  rw [lk] at lk'
  cases lk'
  refine G.imp fun vs H Q E ⟨a, ns, hv, hs, hn, ht, q⟩ => ?_
  subst hv
  refine ⟨H, [.scr ns], fun c o e => ⟨e, fun ps z => ?_⟩, (fun _ z => nomatch z), .cons (.scr hs) .nil, rfl, ?_⟩
  · subst z
    rcases ht c with q | ⟨_, _, q⟩ <;> rw [e] at q <;> cases q
  · rw [hl ns hn]
    intro G' H' v x r
    cases r
    exact q H'
theorem law_walk {l : PySem.W.OpenLaw} {k : Nat} {q : Program} {loose : List Str} {XP : (Str → Option Value) → Heap → Prop} {YP : World → Heap → Prop} {d : DefRec} {K : Params → PySem.W.Frag} {x : Str}
    (hn : l.most = some 63) (hdf : d.params.defaults = []) (hr : Room k callerA) (hY : ∀ (w : World) (h : Heap), YP w h → (K w.params).In h)
    (F : ∀ (w : World) (mg : Str → Option Value) (fa : Addr) (h : Heap), (K w.params).In h → h.Ns mainGlobals mg → mg d.name = some (.ref fa) →
      ∃ fd : FuncData, (∀ (s : Shared) (u : Value), BindsTo s fd ⟨[u], []⟩ [(x, u)]) ∧
        ∀ base : Heap, (K w.params).In base → base.Ns mainGlobals mg → FnOk l.prog w (K w.params) mg base (L2.CX l.prog w) k fa fd [x] (spLaw (K w.params))) :
    PySem.W.WalkO q loose XP YP l.row.toRowW d [] (fun f vs => PySem.call f vs) :=
  L2.walk_of (n := 63) (k := k) (x := x) (CX := fun w => L2.CX l.prog w) (sp := fun w => spLaw (K w.params)) hn (by decide) hdf hr hY F
    (fun _ _ a ns hl ho hS => ⟨a, ns, rfl, hS, hl, ho, fun _ => rfl⟩) fun _ _ _ _ _ z => by
      obtain ⟨_, _, _, _, _, _, _, _, _, _, _, _, z⟩ := z
      exact z
end PV
namespace HT
open PySem PySem.Spec PyProof.Rows
section
variable {prog : Program} {w : World} {A : Around} {E : Value → Shared → Prop} {s : Shared}
theorem adjust_rev (n : Nat) : Builtin.Slice.sliceAdjust none none (-1) (n : Int) = ((n : Int) - 1, -1) := by
  first
    | rfl
    | simp [Builtin.Slice.sliceAdjust]
theorem places_rev (n : Nat) : Builtin.Slice.slicePlaces ((n : Int) - 1) (-1) (-1) = n := by
  unfold Builtin.Slice.slicePlaces
  simp
  try omega
theorem sliceApplied_rev {sl : Addr} {t : Tok} {n : Nat} {Q : Int × Int × Nat → Shared → Prop} (hs : s.heap.IsSliceOf sl .none .none (.int (-1) t))
    (h : Q ((n : Int) - 1, -1, n) s) : wpAny (model prog w) A (Builtin.Slice.sliceApplied (.ref sl) (pure (n : Int))) Q E s := by
  obtain ⟨os, hos, hcs, hds⟩ := id hs
  unfold Builtin.Slice.sliceApplied Builtin.Slice.sliceFields
  refine wpAny_bind (wpAny_bind (wpAny_field hos hds (x := .none) rfl (wpAny_bind (wpAny_field hos hds (x := .none) rfl (wpAny_bind (wpAny_field hos hds (x := .int (-1) t) rfl (wpAny_pure ?_)))))))
  refine wpAny_bind (slicePart_ (.int (-1) t) ?_)
  show wpAny _ _ (if ((-1 : Int) == 0) = true then _ else _) _ _ s
  rw [if_neg (by decide)]
  refine wpAny_bind (slicePart_ .none (wpAny_bind (slicePart_ .none (wpAny_bind (wpAny_pure ?_)))))
  show wpAny _ _ (match Builtin.Slice.sliceAdjust none none (-1) (n : Int) with | (lo, hi) => pure (lo, (-1 : Int), Builtin.Slice.slicePlaces lo hi (-1))) _ _ s
  rw [adjust_rev n]
  show wpAny _ _ (pure ((n : Int) - 1, (-1 : Int), Builtin.Slice.slicePlaces ((n : Int) - 1) (-1) (-1))) _ _ s
  rw [places_rev]
  exact wpAny_pure h
theorem fm_congr {α β : Type} {f g : α → Option β} : ∀ {l : List α}, (∀ m ∈ l, f m = g m) → l.filterMap f = l.filterMap g
  | [], _ => rfl
  | a :: l, h => by
    rw [List.filterMap_cons, List.filterMap_cons, h a List.mem_cons_self, fm_congr fun m hm => h m (List.mem_cons_of_mem _ hm)]
theorem pick_rev (xs : Array Value) : ((List.range xs.size).filterMap fun (m : Nat) => xs[(((xs.size : Nat) : Int) - 1 + (m : Int) * (-1)).toNat]?).toArray = xs.toList.reverse.toArray := by
  congr 1
  have e : (List.range xs.size).filterMap (fun (m : Nat) => xs[(((xs.size : Nat) : Int) - 1 + (m : Int) * (-1)).toNat]?) = (List.range xs.size).filterMap (fun m => xs[xs.size - 1 - m]?) := by
    apply fm_congr
    intro m hm
    have := List.mem_range.mp hm
    congr 1
    omega
  rw [e]
  have h := PySem.W.krv_range xs.size
  have h2 : (List.range xs.size).filterMap (fun m => xs[xs.size - 1 - m]?) = ((List.range xs.size).map (fun k => xs.size - 1 - k)).filterMap (xs[·]?) := by
    rw [List.filterMap_map]; rfl
  rw [h2, h, List.filterMap_reverse, PySem.W.krv_all]
theorem getItem_tuple_rev {t sl : Addr} {k : Tok} {items : Array Value} {Q : Value → Shared → Prop} (ht : IsTup s.heap t items) (hs : s.heap.IsSliceOf sl .none .none (.int (-1) k))
    (h : Q (.ref s.heap.objs.size) { s with heap := s.heap.push { cls := .type "tuple", data := .seq items.toList.reverse.toArray } })
    (hsz : items.size ≤ sizeLine) : wpAny (model prog w) A (getItem (.ref t) (.ref sl)) Q E s := by
  have htake : sizeOk (.seq items.toList.reverse.toArray) := by
    show items.toList.reverse.toArray.size ≤ sizeLine
    rw [List.size_toArray, List.length_reverse, Array.length_toList]
    omega
  obtain ⟨os, hos, hcs, hds⟩ := id hs
  have hTs : s.TypeIs (.ref sl) "slice" := ⟨os, hos, hcs⟩
  unfold getItem
  try with_reducible refine wpAny_holding ?_
  first | refine wpAny_bind (wpAny_pure ?_) | skip
  refine wpAny_bind (wpAny_sequenceKey ht.typeIs (by decide) ?_)
  refine wpAny_bind (wpAny_callSpecial?_slot (name := Str.ofString "__getitem__") ht.typeIs PyProof.Rows.slot_tuple_getitem
    (wpAny_call_entry PyProof.Rows.slot_tuple_getitem ht.typeIs entry_tuple_getitem ?_ (args_tuple_getitem _ _)))
  show wpAny _ _ (Builtin.Tuple.tupleItemsOf (.ref t) >>= _) _ _ s
  refine wpAny_bind (tupleItemsOf_ ht ?_)
  refine wpAny_bind (wpAny_typeOf hTs ?_)
  rw [if_pos (by decide)]
  refine wpAny_bind (sliceApplied_rev hs ?_)
  have hno : ¬ ((((items.size : Nat) : Int) - 1 == 0 && (-1 : Int) == 1 && items.size == items.size) = true) := by
    intro q
    rw [Bool.and_eq_true, Bool.and_eq_true] at q
    exact absurd (eq_of_beq q.1.2) (by decide)
  show wpAny _ _ (if (((items.size : Nat) : Int) - 1 == 0 && (-1 : Int) == 1 && items.size == items.size) = true then _ else _) _ _ s
  rw [if_neg hno, pick_rev]
  first
    | exact wpAny_bind (m := Builtin.Tuple.tupleExact _) (wpAny_newObj_type (wpAny_pure ⟨_, rfl, wpAny_pure h⟩) htake)
    | exact wpAny_bind (m := Builtin.Tuple.tupleExact _) (wpAny_newObj_type (wpAny_bind (wpAny_pure (wpAny_pure ⟨_, rfl, wpAny_pure h⟩))) htake)
    | exact wpAny_bind (wpAny_bind (m := Builtin.Tuple.tupleExact _) (wpAny_newObj_type (wpAny_pure (wpAny_pure ⟨_, rfl, wpAny_pure h⟩)) htake))
    | exact wpAny_bind (wpAny_bind (m := Builtin.Tuple.tupleExact _) (wpAny_newObj_type (wpAny_pure ⟨_, rfl, wpAny_pure h⟩) htake))
theorem str_rev (z : Str) : ((Builtin.Str.strSliceIndices none none (-1) z.length).filterMap (z.cps[·]?)).toArray = z.cps.toList.reverse.toArray := by
  congr 1
  have e : Builtin.Str.strSliceIndices none none (-1) z.length = (List.range z.length).map fun k => z.length - 1 - k := by
    have := PySem.W.krv_sliceRange z.length
    rw [← this]
    rfl
  rw [e, PySem.W.krv_range, List.filterMap_reverse]
  exact congrArg List.reverse (PySem.W.krv_all z.cps)
end
end HT
namespace L2
open PySem PySem.Spec PyProof.Rows
variable {X : Cx}
def tRev (K : PySem.W.Frag) (te : TE) : TE := fun σ H Q => te σ H fun x H1 => (∃ a xs, x = .ref a ∧ SqL K H1 a xs ∧ ∀ p, H1 p = none → Q (.ref p) (upd H1 p (.lst xs.reverse))) ∨
  (∃ a xs, x = .ref a ∧ SqT K H1 a xs ∧ ∀ p, H1 p = none → Q (.ref p) (upd H1 p (.tup xs.reverse))) ∨ (∃ z : Str, x = .str z ∧ z.length ≤ sizeLine ∧ Q (.str ⟨z.cps.toList.reverse.toArray⟩) H1)
theorem pe_rev {e : Expr} {te : TE} {k : Nat} {p1 p2 p3 pos : Pos} (he : PE X e te) : PE X (.Subscript e (.Slice none none (some (.UnaryOp .USub (.Constant (.int 1) k p1) p2)) p3) pos) (tRev X.K te) := by
  refine ⟨fun pins s σ H Q I h => ?_⟩
  refine Subscript_ (thn (he.run pins s σ H _ I h) fun v s1 ⟨x, H1, I1, r1, q1⟩ => ?_)
  have hst : PO X (some (.UnaryOp .USub (.Constant (.int 1) k p1) p2)) (tPart (tUn (rU fun i => .int (-i)) (tC (.int 1)))) := po_some (pe_un un_neg pe_int)
  refine wpAny_Slice (thn (po_none.run pins s1 σ H1 (fun o H2 => o = none ∧ H2 = H1) I1 ⟨rfl, rfl⟩) fun vl s2 ⟨l, H2, I2, pl, el, e2⟩ => ?_)
  subst el e2
  refine thn (po_none.run pins s2 σ H2 (fun o H3 => o = none ∧ H3 = H2) I2 ⟨rfl, rfl⟩) fun vu s3 ⟨u, H3, I3, pu, eu, e3⟩ => ?_
  subst eu e3
  refine thn (hst.run pins s3 σ H3 (fun o H4 => o = some (-1) ∧ H4 = H3) I3 ⟨1, rfl, -1, rfl, rfl, rfl⟩) fun vs s4 ⟨o, H4, I4, ps, eo, e4⟩ => ?_
  subst eo e4
  have I5 : Inv X pins σ H4 { s4 with heap := s4.heap.push { cls := .type "slice", data := .fields #[vl, vu, vs] } } := I4.kept (t' := s4.toks) fun b ob q => Heap.get?_push_of_some _ q
  rcases q1 with ⟨a, xs, rfl, hx, q⟩ | ⟨a, xs, rfl, hx, q⟩ | ⟨z, rfl, hz, q⟩
  · cases r1
    obtain ⟨its, r, ht, hz⟩ := I5.list hx
    have hlen := r.length
    show wpAny (model X.prog X.w) X.A (subscriptTail e (.Slice none none (some (.UnaryOp .USub (.Constant (.int 1) k p1) p2)) p3) (.ref a) (.ref s4.heap.objs.size)) (EP X pins σ Q) X.xe { s4 with heap := s4.heap.push { cls := .type "slice", data := .fields #[vl, vu, vs] } }
    refine tail_any (ops := [.ref a, .ref s4.heap.objs.size]) ht.isList.typeIs (PySem.slot_list_getitem.lookup) ?_ (by with_unfolding_all rfl)
    refine wpAny_getItem_list_slice ht.isList (Heap.IsSliceOf.new _ vl vu vs) pl pu ps (by decide) ?_ (by rw [List.size_toArray]; omega)
    rw [PySem.W.krv_pick]
    refine ⟨.ref _, _, I5.laid (t' := s4.toks) (o := .lst xs.reverse) (fun b ob q => Heap.get?_push_of_some _ q) (Nat.le_refl _) ?_, rfl, q _ (I5.hok.fresh (Nat.le_refl _))⟩
    exact ⟨by rw [List.length_reverse]; exact hz, _, 0, r.reverse, Heap.get?_push_size _ rfl⟩
  · cases r1
    obtain ⟨its, r, ht, hz⟩ := I5.tuple hx
    have hlen := r.length
    show wpAny (model X.prog X.w) X.A (subscriptTail e (.Slice none none (some (.UnaryOp .USub (.Constant (.int 1) k p1) p2)) p3) (.ref a) (.ref s4.heap.objs.size)) (EP X pins σ Q) X.xe { s4 with heap := s4.heap.push { cls := .type "slice", data := .fields #[vl, vu, vs] } }
    refine tail_any (ops := [.ref a, .ref s4.heap.objs.size]) ht.typeIs (PyProof.Rows.slot_tuple_getitem.lookup) ?_ (by with_unfolding_all rfl)
    cases pl; cases pu
    cases ps with
    | int i t =>
      refine HT.getItem_tuple_rev ht (Heap.IsSliceOf.new _ _ _ _) ?_ (by rw [List.size_toArray]; omega)
      refine ⟨.ref _, _, I5.laid (t' := s4.toks) (o := .tup xs.reverse) (fun b ob q => Heap.get?_push_of_some _ q) (Nat.le_refl _) ?_, rfl, q _ (I5.hok.fresh (Nat.le_refl _))⟩
      exact ⟨by rw [List.length_reverse]; exact hz, _, r.reverse, ⟨_, Heap.get?_push_size _ rfl, rfl, _, rfl⟩⟩
  · obtain ⟨t, rfl⟩ := r1
    show wpAny (model X.prog X.w) X.A (subscriptTail e (.Slice none none (some (.UnaryOp .USub (.Constant (.int 1) k p1) p2)) p3) (.str z t) (.ref s4.heap.objs.size)) (EP X pins σ Q) X.xe { s4 with heap := s4.heap.push { cls := .type "slice", data := .fields #[vl, vu, vs] } }
    refine tail_any (ops := [.ref s4.heap.objs.size, .str z t]) (typeIs_str _ _ _) (F.slot_str_getitem.lookup) ?_ (by with_unfolding_all rfl)
    cases pl; cases pu
    cases ps with
    | int i tt =>
      refine wpAny_getItem_str_slice (l := none) (u := none) (st := some (-1, tt)) ⟨_, Heap.get?_push_size _ rfl, rfl, rfl⟩ (by rfl) ?_
      have hl : (⟨z.cps.toList.reverse.toArray⟩ : Str).length ≤ sizeLine := by
        show z.cps.toList.reverse.toArray.size ≤ sizeLine
        rw [List.size_toArray, List.length_reverse, Array.length_toList]; exact hz
      have em : sliceMade z t none none (some (-1, tt)) = Made.str ⟨z.cps.toList.reverse.toArray⟩ := by
        unfold sliceMade
        rw [if_neg (by simp)]
        unfold slicePicked
        congr 2
        exact HT.str_rev z
      rw [em]
      exact ⟨hl, .str _, H4, I5.tok _, ⟨_, rfl⟩, q⟩
end L2
namespace PV
open PySem PySem.Spec L2
/-! ### slices -/
def cut {α : Type} (xs : List α) (lo hi : Option Int) : List α := (xs.drop (HT.sIx xs.length 0 lo)).take (HT.sIx xs.length xs.length hi - HT.sIx xs.length 0 lo)
def sliceD (d : D) (lo hi : Option Int) : Option D := match d with
  | .tup xs => some (.tup (cut xs lo hi))
  | .str z => if z.length ≤ sizeLine then some (.str (cutS z lo hi)) else none
  | .lst xs => some (.lst (cut xs lo hi))
  | _ => none
def revD : D → Option D
  | .tup xs => some (.tup xs.reverse)
  | .str z => if z.length ≤ sizeLine then some (.str ⟨z.cps.toList.reverse.toArray⟩) else none
  | .lst xs => some (.lst xs.reverse)
  | _ => none
def D.toint : D → Res (Option Int)
  | .int i => .ok (some i)
  | _ => .no
def pNo : Sl → Res (Option Int) := fun _ => .ok none
def pSo (f : Sl → Res D) : Sl → Res (Option Int) := fun σ => (f σ).bind D.toint
def eSl (f : Sl → Res D) (lo hi : Sl → Res (Option Int)) : Sl → Res D := fun σ => (f σ).bind fun d => (lo σ).bind fun l => (hi σ).bind fun h => .of (sliceD d l h)
structure PXo (X : Cx) (T : Tbs) (W : WX) (M : List Nat) (e : Option Expr) (f : Sl → Res (Option Int)) : Prop where
  run : ∃ t, PO X e t ∧ ∀ G0 H0 G H σ σd Q, ER X T M G0 H0 G H σ σd → Out X T W H0 (fun _ _ a b => a = b) (f σd) G H Q → t σ H Q
section
variable {X : Cx} {T : Tbs} {W : WX} {M : List Nat} {pos p2 : Pos} {e : Expr} {lo hi : Option Expr} {f : Sl → Res D} {fl fh : Sl → Res (Option Int)}
theorem pxo_none : PXo X T W M none pNo := ⟨_, po_none, fun G0 H0 G H σ σd Q er o => Out.now (X := X) (W := W) (H0 := H0) (R := fun _ _ a b => a = b) o er.gh er.tb rfl⟩
theorem pxo_some (h : PX X T W M e f) : PXo X T W M (some e) (pSo f) := by
  obtain ⟨t, p, q⟩ := h.run
  refine ⟨_, po_some p, fun G0 H0 G H σ σd Q er o => ?_⟩
  refine q _ _ _ _ _ _ _ er (o.seq fun d G1 H1 v _ x1 rv o => ?_)
  cases d with
  | int i => cases rv; exact ⟨i, rfl, Out.now (X := X) (W := W) (H0 := H0) (R := fun _ _ a b => a = b) (a := some i) o x1.gh x1.tb rfl⟩
  | _ => exact o.elim
theorem Reps.cut {K : PySem.W.Frag} {mg : Str → Option Value} {G : Hp} {vs : List V} {ds : List D} (h : Reps K mg G vs ds) (lo hi : Option Int) : Reps K mg G (cutV vs lo hi) (PV.cut ds lo hi) := by
  unfold cutV PV.cut
  rw [h.length]
  exact (h.drop _).take _
theorem px_slice (he : PXr X T W M e f) (hl : PXo X T W M lo fl) (hh : PXo X T W M hi fh) : PX X T W M (.Subscript e (.Slice lo hi none p2) pos) (eSl f fl fh) := by
  obtain ⟨t, p, q⟩ := he.run
  obtain ⟨tl, pl, ql⟩ := hl.run
  obtain ⟨th, ph, qh⟩ := hh.run
  refine ⟨_, pe_slice (SlR.or sl_tupA (SlR.or sl_str sl_list)) p pl ph, fun G0 H0 G H σ σd Q er o => ?_⟩
  refine q _ _ _ _ _ _ _ er (o.seq fun d G1 H1 v _ x1 rv o => ?_)
  refine ql _ _ _ _ _ _ _ (er.to x1) (o.seq fun l G2 H2 l' _ x2 el o => ?_)
  obtain rfl : l' = l := el
  refine qh _ _ _ _ _ _ _ ((er.to x1).to x2) (o.seq fun h G3 H3 h' _ x3 eh o => ?_)
  obtain rfl : h' = h := eh
  obtain ⟨d', hd, k⟩ := o.of
  have rv3 := rR.mono (rR.mono rv x2) x3
  cases d with
  | tup xs =>
    cases hd
    obtain ⟨a, vs, rfl, g1, h1, rs⟩ := rR.tup rv3 x3.gh
    refine .inl ⟨a, vs, rfl, .inl (.inl h1), fun c => ?_, fun c p hp => Ext.qtup k x3.gh x3.tb (rs.cut _ _) hp⟩
    have e : PV.cut xs l' h' = xs := by
      unfold PV.cut
      rw [← rs.length, c.1, c.2, List.drop_zero, Nat.sub_zero, rs.length, List.take_length]
    rw [e] at k
    exact Ext.q0 k x3.gh x3.tb (.tup g1 rs)
  | str z =>
    have hd : (if z.length ≤ sizeLine then some (D.str (cutS z l' h')) else none) = some d' := hd
    split at hd
    · rename_i c; cases hd; cases rv3.str; exact .inr (.inl ⟨z, rfl, c, Ext.q0 k x3.gh x3.tb (.str _)⟩)
    · cases hd
  | lst xs =>
    cases hd
    obtain ⟨a, vs, rfl, h1, rs⟩ := rR.lst rv3 x3.gh
    exact .inr (.inr ⟨a, vs, rfl, SqL.of h1, fun p hp => Ext.qlst k x3.gh x3.tb (rs.cut _ _) hp⟩)
  | _ => cases hd
theorem px_rev {k : Nat} {p1 p3 p4 : Pos} (he : PXr X T W M e f) : PX X T W M (.Subscript e (.Slice none none (some (.UnaryOp .USub (.Constant (.int 1) k p1) p3)) p4) pos) (e1 revD f) := by
  obtain ⟨t, p, q⟩ := he.run
  refine ⟨_, pe_rev p, fun G0 H0 G H σ σd Q er o => ?_⟩
  refine q _ _ _ _ _ _ _ er (o.seq fun d G1 H1 v _ x1 rv o => ?_)
  obtain ⟨d', hd, k⟩ := o.of
  cases d with
  | tup xs =>
    cases hd
    obtain ⟨a, vs, rfl, g1, h1, rs⟩ := rR.tup rv x1.gh
    exact .inr (.inl ⟨a, vs, rfl, .inl (.inl h1), fun p hp => Ext.qtup k x1.gh x1.tb rs.reverse hp⟩)
  | str z =>
    have hd : (if z.length ≤ sizeLine then some (D.str ⟨z.cps.toList.reverse.toArray⟩) else none) = some d' := hd
    split at hd
    · rename_i c; cases hd; cases rR.str rv; exact .inr (.inr ⟨z, rfl, c, Ext.q0 k x1.gh x1.tb (.str _)⟩)
    · cases hd
  | lst xs =>
    cases hd
    obtain ⟨a, vs, rfl, h1, rs⟩ := rR.lst rv x1.gh
    exact .inl ⟨a, vs, rfl, SqL.of h1, fun p hp => Ext.qlst k x1.gh x1.tb rs.reverse hp⟩
  | _ => cases hd
end
end PV
namespace HT
open PySem PySem.Spec PyProof.Rows L2
section
variable {prog : Program} {w : World} {A : Around} {E : Value → Shared → Prop} {s : Shared}
/-- a value's items are read off: what is behind it -/
def Coll (prog : Program) (w : World) (A : Around) (s : Shared) (v : Value) (vs : List Value) : Prop :=
  ∀ (E : Value → Shared → Prop) (Q : List Value → Shared → Prop), (∀ (h' : Heap) (tk : Nat), s.heap.objs.size ≤ h'.objs.size → (∀ b o, s.heap.get? b = some o → h'.get? b = some o) → Q vs { s with heap := h', toks := tk }) → wpAny (model prog w) A (collect v) Q E s
theorem coll_list {l : Addr} {vs : List Value} (hl : s.heap.IsList l vs.toArray) (hz : vs.length ≤ sizeLine) : Coll prog w A s (.ref l) vs := by
  intro E Q h
  refine collect_list hl ?_ hz
  refine h _ s.toks (by rw [Heap.size_update, size_push']; omega) fun b o q => ?_
  rw [Heap.get?_update_ne _ _ _ _ (Nat.ne_of_lt (Heap.lt_size q))]
  exact Heap.get?_push_of_some _ q
theorem coll_tuple {l : Addr} {vs : List Value} (hl : IsTup s.heap l vs.toArray) (hz : vs.length ≤ sizeLine) : Coll prog w A s (.ref l) vs := by
  intro E Q h
  obtain ⟨o, ho, hc, n, hd⟩ := id hl
  unfold collect
  refine wpAny_bind (wpAny_runValue (codeAny_builtin entry_proto_collect' ?_))
  show wpAny _ _ (do again (.builtin "list.__iadd__" ⟨[← newList [], .ref l], []⟩)) _ _ s
  refine wpAny_bind (wpAny_newList (wpAny_pure ⟨Code.quiet_builtin _ (by decide +kernel), codeAny_builtin entry_list_iadd' ?_⟩))
  show wpAny _ _ (Builtin.List.listExtendWith (.ref s.heap.objs.size) (.ref l) (.ref s.heap.objs.size)) _ _ { s with heap := s.heap.push (seqObj "list" #[] 0) }
  unfold Builtin.List.listExtendWith
  have ho' : (s.heap.push (seqObj "list" #[] 0)).get? l = some o := Heap.get?_push_of_some _ ho
  refine wpAny_bind (wpAny_typeOf (T := "tuple") ⟨o, ho', hc⟩ ?_)
  have ht : (Value.type "tuple" == Value.type "tuple") = true := by rfl
  rw [if_pos (by rw [ht]; simp)]
  refine wpAny_bind (listItems_at ho' hd ?_)
  refine wpAny_bind (listItems_at (xs := #[]) (n := 0) (Heap.get?_push_size _ rfl) rfl ?_)
  rw [if_neg (by simp)]
  refine wpAny_bind (listUpdate_at (xs := #[]) (n := 0) (Heap.get?_push_size _ rfl) rfl ?_ (Nat.zero_le _) (by show (#[] ++ vs.toArray).size ≤ sizeLine + 1; simp only [Array.size_append, List.size_toArray, List.length_nil]; omega))
  refine wpAny_pure ?_
  show wpAny (model prog w) A (do
      let o ← load s.heap.objs.size
      match o.data with
      | .seq xs _ => pure xs.toList
      | _ => unsupported "internal:collect") Q E { s with heap := (s.heap.push (seqObj "list" #[] 0)).update s.heap.objs.size (Obj.mapSeq (· ++ vs.toArray)) }
  refine wpAny_bind (wpAny_load (get?_update_seq (Heap.get?_push_size _ rfl) _) ?_)
  show wpAny _ _ (pure ((#[] : Array Value) ++ vs.toArray).toList) Q E _
  rw [show ((#[] : Array Value) ++ vs.toArray).toList = vs by simp]
  refine wpAny_pure (h _ s.toks (by rw [Heap.size_update, size_push']; omega) fun b o q => ?_)
  rw [Heap.get?_update_ne _ _ _ _ (Nat.ne_of_lt (Heap.lt_size q))]
  exact Heap.get?_push_of_some _ q
theorem coll_kdl {T : String} {r d : Addr} {n : Nat} {P : Nat → Value → Prop} {OK : Heap → Prop} (K : PySem.W.KdlSrc prog w T r d n P OK) (hh : A.handled = none) (hok : OK s.heap) (hn : n ≤ sizeLine) {vs : List Value}
    (hv : ∀ acc : Array Value, ItemsOf P acc n → acc.toList = vs) : Coll prog w A s (.ref r) vs := by
  intro E Q hQ
  have hlt := K.there _ hok
  unfold collect
  refine wpAny_bind (wpAny_runValue (codeAny_builtin F.entry_proto_collect ?_))
  rw [Around.under_plainId F.plain_proto_collect _]
  show wpAny _ A.in1 (newList [] >>= fun l => again (.builtin "list.__iadd__" ⟨[l, .ref r], []⟩)) _ _ s
  refine wpAny_bind (wpAny_newObj_type ?_)
  refine wpAny_pure ⟨plainId_quiet F.plain_list_iadd _, codeAny_builtin F.entry_list_iadd ?_⟩
  rw [Around.under_plainId F.plain_list_iadd _]
  have hS : (s.heap.push { cls := .type "list", data := .seq ([] : List Value).toArray }).get? s.heap.objs.size = some { cls := .type "list", data := .seq #[] 0 } := Heap.get?_push_size _ rfl
  show wpAny _ A.in1 (Builtin.List.listExtendWith (.ref s.heap.objs.size) (.ref r) (.ref s.heap.objs.size)) _ _ _
  refine wpAny_mono (PySem.W.kdl_extend (A := A) (R := fun rr s' => rr = .ok (.ret (.ref s.heap.objs.size)) ∧ ∃ (h' : Heap) (tk : Nat) (acc : Array Value) (c' : Nat), s' = { s with heap := h', toks := tk } ∧
      (∀ b o, s.heap.get? b = some o → h'.get? b = some o) ∧ h'.get? s.heap.objs.size = some { cls := .type "list", dict := none, data := .seq acc c', slots := #[] } ∧ ItemsOf P acc n)
    (s := { s with heap := s.heap.push { cls := .type "list", data := .seq ([] : List Value).toArray } }) K hh (K.keep _ _ hok fun b _ o e => Heap.get?_push_of_some _ e) _ (Nat.ne_of_gt hlt.1) (Nat.ne_of_gt hlt.2) _ 0 hS
    (fun h' tk acc c' hk e hi => ⟨rfl, h', tk, acc, c', rfl, fun b o q => hk b o (Nat.ne_of_lt (Heap.lt_size q)) (Heap.get?_push_of_some _ q), e, hi⟩) hn) (fun fin s' h => ?_) (fun e s' h => ?_)
  · cases fin with
    | done f =>
      obtain ⟨e, h', tk, acc, c', rfl, hk, hS', hi⟩ := h
      cases e
      show wpAny _ A (load s.heap.objs.size >>= _) _ _ _
      refine wpAny_bind (wpAny_load hS' (wpAny_pure ?_))
      show Q acc.toList _
      rw [hv acc hi]
      exact hQ h' tk (Nat.le_of_lt (Heap.lt_size hS')) hk
    | again c' =>
      refine ⟨h.1, codeAny_mono h.2 fun rr s'' hr' => ?_⟩
      obtain ⟨rfl, h', tk, acc, c', rfl, hk, hS', hi⟩ := hr'
      show wpAny _ A (load s.heap.objs.size >>= _) _ _ _
      refine wpAny_bind (wpAny_load hS' (wpAny_pure ?_))
      show Q acc.toList _
      rw [hv acc hi]
      exact hQ h' tk (Nat.le_of_lt (Heap.lt_size hS')) hk
  · exact absurd h.1 (by simp)
open SrtO in
/-- sorted of what can be read off -/
theorem sorted_coll {v : Value} {vs : List Value} {ltv : Value → Value → Bool} {Q : Value → Shared → Prop} (O : Swo ltv) (hz : vs.length ≤ sizeLine) (hc : Coll prog w A.in1 s v vs)
    (hS : 2 ≤ vs.length → ∀ (h₁ : Heap) (tk : Nat) (a : Addr), (∀ o, h₁.get? a = some o → o.cls ≠ .type "tuple") → (∀ b o, s.heap.get? b = some o → h₁.get? b = some o) → SortableO prog w A.in1.in1 { s with heap := h₁, toks := tk } a vs ltv)
    (h : ∀ (h' : Heap) (tk : Nat) (d : Addr) (out : List Value), Srtd ltv out → Stb ltv out vs → (∀ b o, s.heap.get? b = some o → h'.get? b = some o) → s.heap.objs.size ≤ d → (∃ n, h'.get? d = some (seqObj "list" out.toArray n)) → Q (.ref d) { s with heap := h', toks := tk }) :
    wpAny (model prog w) A (call (.builtin "sorted") [v]) Q E s := by
  refine Calls.call_function_entry kind_sorted plain_sorted entry_sorted (args_sorted1 _) ?_
  unfold Builtin.«sorted»
  refine wpAny_bind (m := checkCount "sorted" 1 1 _) (wpAny_pure ?_)
  refine wpAny_bind (hc _ _ fun h1 tk le1 k1 => ?_)
  refine wpAny_bind (wpAny_newList ?_ hz)
  have hoL : (h1.push (seqObj "list" vs.toArray 0)).get? h1.objs.size = some (seqObj "list" vs.toArray 0) := Heap.get?_push_size _ rfl
  have keep : ∀ b o, s.heap.get? b = some o → (h1.push (seqObj "list" vs.toArray 0)).get? b = some o := fun b o q => Heap.get?_push_of_some _ (k1 b o q)
  show wpAny _ _ _ _ _ { s with heap := h1.push (seqObj "list" vs.toArray 0), toks := tk }
  refine wpAny_bind (wpAny_holding (wpAny_call_entry slot_list_sort ⟨_, hoL, rfl⟩ entry_list_sort (list_sort_ord O hoL hz (fun h2 => hS h2 _ tk _ (fun o e => by
    rw [hoL] at e; cases e; intro c; exact absurd (Value.type.inj c) (by decide)) keep) fun out hs hb => ⟨_, rfl, ?_⟩) (args_list_sort _)))
  refine wpAny_pure ⟨_, rfl, h (sortedHeap (h1.push (seqObj "list" vs.toArray 0)) h1.objs.size vs out.toArray) tk h1.objs.size out hs hb (fun b o q => ?_) le1 (sortedHeap_at hoL)⟩
  have hlt := Heap.lt_size (k1 b o q)
  rw [sortedHeap_old (Nat.ne_of_lt hlt) (by rw [size_push']; exact Nat.lt_succ_of_lt hlt)]
  exact keep b o q
end
end HT
namespace L2
open PySem PySem.Spec PyProof.Rows SrtO
def SrtEnd (H : Hp) (Q : VK) (xs : List V) : Prop :=
  (∃ ns : List Int, xs = ns.map V.int ∧ ∀ (ns' : List Int) (p : Addr), ns'.Perm ns → ns'.Pairwise (· ≤ ·) → H p = none → Q (.ref p) (upd H p (.lst (ns'.map V.int)))) ∨
  (∃ k : V → Int × Int, (∀ x ∈ xs, ∃ t, x = V.ref t ∧ H t = some (.tup [.int (k x).1, .int (k x).2])) ∧ ∀ ys p, Srtd (ltP k) ys → Stb (ltP k) ys xs → H p = none → Q (.ref p) (upd H p (.lst ys)))
/-- sorted of a list, a tuple, a dict with tuple keys: of ints, or of pairs of ints -/
def rSrt (K : PySem.W.Frag) : List V → Hp → VK → Prop := fun vs H Q => (∃ (a : Addr) (xs : List V), vs = [V.ref a] ∧ (SqL K H a xs ∨ SqT K H a xs) ∧ SrtEnd H Q xs) ∨
  (∃ (d : Addr) (kvs : List (List Key × V)), vs = [V.ref d] ∧ Rd H d (.dT kvs) ∧ ∀ bs, IsKeys H kvs bs → SrtEnd H Q (bs.map V.ref))
section
variable {X : Cx}
theorem srt_end {pins : List (Addr × Obj)} {s : Shared} {σ : St} {H : Hp} {Q : VK} {v : Value} {xs : List V} {its : List Value} (I : Inv X pins σ H s) (rv : Vals xs its) (hz : xs.length ≤ sizeLine) (hc : HT.Coll X.prog X.w X.A.in1 s v its) (q : SrtEnd H Q xs) :
    wpAny (model X.prog X.w) X.A (call (.builtin "sorted") [v]) (EP X pins σ Q) X.xe s := by
  rcases q with ⟨ns, rfl, q⟩ | ⟨k, hx, q⟩
  · have hi := rv.ints
    refine HT.sorted_coll swo_int (by rw [← rv.length]; exact hz) hc (fun h2 h1 tk a _ _ => ints_sortable hi h2) fun h' tk d out h1 h2 kp hd hn => ?_
    obtain ⟨k1, k2, k3⟩ := ints_out hi h1 h2
    have hlen : ((out.map iv).map V.int).length ≤ sizeLine := by
      rw [List.length_map, k2.length_eq]
      rw [List.length_map] at hz
      exact hz
    obtain ⟨n, hn⟩ := hn
    exact ⟨.ref d, upd H d (.lst ((out.map iv).map V.int)), I.laid (t' := tk) kp hd ⟨hlen, out, n, vals_of_ints k1, hn⟩, rfl, q _ d k2 k3 (I.hok.fresh hd)⟩
  · obtain ⟨e1, e2⟩ := refs_back rv fun x m => by
      obtain ⟨t, e, _⟩ := hx x m
      exact ⟨t, e⟩
    have hp : ∀ v ∈ its, Srt.IsPair s.heap v (k (backV v)).1 (k (backV v)).2 := fun v hv => by
      obtain ⟨t, rfl⟩ := e2 v hv
      have hm : V.ref t ∈ xs := by rw [e1]; exact List.mem_map.mpr ⟨_, hv, rfl⟩
      obtain ⟨t', e, ht⟩ := hx _ hm
      cases e
      obtain ⟨_, its2, r2, o, ho, hc, n, hd⟩ := I.hok _ _ ht
      obtain ⟨u1, u2, rfl, ri, rj⟩ := vals2 r2
      obtain ⟨t1, rfl⟩ := ri
      obtain ⟨t2, rfl⟩ := rj
      exact ⟨t, o, t1, t2, n, rfl, ho, hc, hd⟩
    refine HT.sorted_coll (swo_lex fun u => k (backV u)) (by rw [← rv.length]; exact hz) hc (fun h2 h1 tk a na kk => pairs_sortableO (by omega) (fun v hm => (hp v hm).keeps fun b o e _ => kk b o e) fun o e => na o e) fun h' tk d out h1 h2 kp hd hn => ?_
    have h3 : ∀ u ∈ out, ∃ a, u = Value.ref a := fun u hu => e2 u (h2.perm.mem_iff.mp hu)
    obtain ⟨n, hn⟩ := hn
    have hb : Stb (ltP k) (out.map backV) xs := by
      rw [e1]
      exact Stb.map (ltP_swo k) backV h2
    refine ⟨.ref d, upd H d (.lst (out.map backV)), I.laid (t' := tk) kp hd ⟨?_, out, n, vals_back h3, hn⟩, rfl, q _ d (srtd_map h1) hb (I.hok.fresh hd)⟩
    rw [hb.len]
    exact hz
theorem cr_srt (hcalm : X.calm = true) : CallR X (.builtin "sorted") (rSrt X.K) := by
  intro pins s σ H vs us Q I r h
  rcases h with ⟨a, xs, rfl, hs, q⟩ | ⟨d, kvs, rfl, hd, q⟩
  · rw [Vals.ref1 r]
    rcases hs with hs | hs
    · obtain ⟨its, rv, hl, hz⟩ := I.list hs
      exact srt_end I rv hz (HT.coll_list hl.isList (by rw [← rv.length]; exact hz)) q
    · obtain ⟨its, rv, hl, hz⟩ := I.tuple hs
      exact srt_end I rv hz (HT.coll_tuple hl (by rw [← rv.length]; exact hz)) q
  · rw [Vals.ref1 r]
    obtain ⟨z, hs, ks, pr, o, es, ep, ho, hx, hdt, he, hn⟩ := (show ObjOk X.prog X.w H s.heap d (.dT kvs) from hd.ok I.hok)
    have l1 : es.size = ks.length := size_of_entries he
    have l2 : kvs.length = ks.length := Paired.length pr
    have rv : Vals ((ks.map fun x => x.2.1).map V.ref) ((ks.map fun x => x.2.1).map Value.ref) := vals_refs _
    refine srt_end I rv (by rw [List.length_map, List.length_map]; omega) (HT.coll_kdl (A := X.A.in1) (kdl_raw hs hx hdt) (show X.A.in1.handled = none from I.ok.hd hcalm) ho (by omega) fun acc it => ?_) (q _ (isKeys_of pr))
    rw [List.map_map]
    have hl : acc.toList.length = ks.length := by rw [Array.length_toList, it.1]; exact l1
    apply List.ext_getElem?
    intro j
    rw [List.getElem?_map]
    cases hj : acc.toList[j]? with
    | none =>
      have h1 := List.getElem?_eq_none_iff.mp hj
      rw [List.getElem?_eq_none (by omega)]
      all_goals rfl
    | some v =>
      obtain ⟨en, hen, hv⟩ := it.2 j v (by rw [← Array.getElem?_toList]; exact hj)
      have qe := entry_at he j
      rw [hen] at qe
      cases hb : ks[j]? with
      | none =>
        rw [hb] at qe
        exact nomatch (show some en = none from qe)
      | some b =>
        rw [hb] at qe
        have e2 : en = entryOfKey (tupleKind (mixKind X.prog X.w)) b := Option.some.inj qe
        rw [hv, e2]
        all_goals rfl
end
end L2
namespace PV
open PySem PySem.Spec L2
/-! ### sorted -/
open SrtO in
theorem lexB_tr (a b c : Int × Int) (h : lexB b a = false) (g : lexB c b = false) : lexB c a = false := by rw [lexB_no] at *; omega
open SrtO in
theorem lexB_as (a b : Int × Int) (h : lexB a b = true) : lexB b a = false := by rw [lexB_no]; rw [lexB_iff] at h; omega
open SrtO in
theorem lexB_an (a b : Int × Int) (h : lexB a b = false) (g : lexB b a = false) : a = b := by
  rw [lexB_no] at *
  exact Prod.ext (by omega) (by omega)
def D.pair : D → Option (Int × Int)
  | .tup [.int i, .int j] => some (i, j)
  | _ => none
def D.pairs : List D → Option (List (Int × Int))
  | [] => some []
  | d :: r => match d.pair, D.pairs r with
    | some p, some ps => some (p :: ps)
    | _, _ => none
def pairD (p : Int × Int) : D := .tup [.int p.1, .int p.2]
def sortDs (xs : List D) : Option D := match D.ints xs with
  | some ns => some (.lst ((isort ltZ ns).map .int))
  | none => match D.pairs xs with
    | some ps => some (.lst ((isort SrtO.lexB ps).map pairD))
    | none => none
def sortD : D → Option D
  | .lst xs => sortDs xs
  | .tup xs => sortDs xs
  | .dct kds => match D.pairs (kds.map fun p => .tup (p.1.map .int)) with
    | some ps => some (.lst ((isort SrtO.lexB ps).map pairD))
    | none => none
  | _ => none
section
variable {X : Cx} {T : Tbs}
theorem D.pair_some {d : D} {p : Int × Int} (h : d.pair = some p) : d = pairD p := by
  unfold D.pair at h
  split at h
  · cases h; rfl
  · cases h
def kOf (H : Hp) : V → Int × Int
  | .ref a => match H a with
    | some (.tup [.int i, .int j]) => (i, j)
    | _ => (0, 0)
  | _ => (0, 0)
theorem kOf_at {H : Hp} {a : Addr} {p : Int × Int} (h : H a = some (.tup [.int p.1, .int p.2])) : kOf H (.ref a) = p := by
  show (match H a with
    | some (.tup [.int i, .int j]) => (i, j)
    | _ => (0, 0)) = p
  rw [h]
theorem Reps.pairs {K : PySem.W.Frag} {mg : Str → Option Value} {G H : Hp} (e : Vw G H) : ∀ {ds : List D} {ps : List (Int × Int)} {vs : List V}, D.pairs ds = some ps → Reps K mg G vs ds →
    (∀ x ∈ vs, ∃ t, x = V.ref t ∧ G t = some (.tup [.int (kOf H x).1, .int (kOf H x).2])) ∧ vs.map (kOf H) = ps
  | [], ps, _, h, r => by
    cases h; cases r
    exact ⟨fun x hx => absurd hx List.not_mem_nil, rfl⟩
  | d :: ds, ps, _, h, r => by
    cases r with
    | @cons v vs _ _ r1 r2 =>
    unfold D.pairs at h
    split at h
    · rename_i p qs e1 e2
      cases h
      cases D.pair_some e1
      unfold pairD at r1
      cases r1 with
      | @tup a us _ g1 g2 =>
      cases g2 with
      | cons k1 k2 =>
      cases k1
      cases k2 with
      | cons k1 k2 =>
      cases k1
      cases k2
      obtain ⟨i1, i2⟩ := Reps.pairs e e2 r2
      have ek : kOf H (.ref a) = p := kOf_at (e _ _ g1).1
      refine ⟨fun x hx => ?_, by rw [List.map_cons, i2, ek]⟩
      rcases List.mem_cons.mp hx with z | z
      · rw [z]; exact ⟨a, rfl, by rw [ek]; exact g1⟩
      · exact i1 x z
    · cases h
theorem Reps.of_pairs {K : PySem.W.Frag} {mg : Str → Option Value} {G : Hp} {k : V → Int × Int} : ∀ {vs : List V}, (∀ x ∈ vs, ∃ t, x = V.ref t ∧ G t = some (.tup [.int (k x).1, .int (k x).2])) → Reps K mg G vs ((vs.map k).map pairD)
  | [], _ => .nil
  | v :: vs, h => by
    obtain ⟨t, e, g⟩ := h v List.mem_cons_self
    refine .cons ?_ (Reps.of_pairs fun x hx => h x (List.mem_cons_of_mem _ hx))
    rw [e] at g ⊢
    exact .tup g (.cons (.int _) (.cons (.int _) .nil))
theorem srtEnd_pairs {G H : Hp} {Q : VK} {vs : List V} {ps : List (Int × Int)} (e : Vw G H) (t : LamX.Tabs T H) (h1 : ∀ x ∈ vs, ∃ t, x = V.ref t ∧ G t = some (.tup [.int (kOf H x).1, .int (kOf H x).2])) (h2 : vs.map (kOf H) = ps)
    (q : ∀ ys p, Reps X.K X.mg G ys ((isort SrtO.lexB ps).map pairD) → H p = none → Q (.ref p) (upd H p (.lst ys))) : SrtEnd H Q vs := by
  refine .inr ⟨kOf H, fun x hx => ?_, fun ys p hs hb hp => q ys p ?_ hp⟩
  · obtain ⟨t, a, b⟩ := h1 x hx
    exact ⟨t, a, (e _ _ b).1⟩
  · have hr := Reps.of_pairs (K := X.K) (mg := X.mg) (G := G) (k := kOf H) (vs := ys) fun x hx => h1 x (hb.perm.mem_iff.mp hx)
    have : ys.map (kOf H) = isort SrtO.lexB ps := by
      refine sd_uniq (lt := SrtO.lexB) lexB_an ?_ (isort_sd lexB_tr lexB_as _) ?_
      · unfold Sd
        rw [List.pairwise_map]
        exact hs
      · rw [← h2]
        exact (hb.perm.map _).trans (isort_perm _ _).symm
    rw [← this]
    exact hr
theorem srtEnd_ints {G H : Hp} {Q : VK} {ns : List Int} (q : ∀ ys p, Reps X.K X.mg G ys ((isort ltZ ns).map .int) → H p = none → Q (.ref p) (upd H p (.lst ys))) : SrtEnd H Q (ns.map V.int) := by
  refine .inl ⟨ns, rfl, fun ns' p hp hs hn => q _ p ?_ hn⟩
  have : ns' = isort ltZ ns := sd_uniq (lt := ltZ) ltZ_an (hs.imp fun {a b} h => by unfold ltZ; rw [decide_eq_false_iff_not]; omega) (isort_sd ltZ_tr ltZ_as _) (hp.trans (isort_perm _ _).symm)
  rw [this]
  exact Reps.ints _
theorem srt_any {G H : Hp} {Q : VK} {vs : List V} {ds : List D} {d : D} (e : Vw G H) (t : LamX.Tabs T H) (r : Reps X.K X.mg G vs ds) (hd : sortDs ds = some d)
    (q : ∀ ys es p, d = .lst es → Reps X.K X.mg G ys es → H p = none → Q (.ref p) (upd H p (.lst ys))) : SrtEnd H Q vs := by
  unfold sortDs at hd
  split at hd
  · rename_i ns en
    cases hd
    rw [Reps.of_ints en r]
    exact srtEnd_ints (X := X) (G := G) fun ys p k hp => q ys _ p rfl k hp
  · split at hd
    · rename_i ps ep
      cases hd
      obtain ⟨h1, h2⟩ := Reps.pairs e ep r
      exact srtEnd_pairs (X := X) e t h1 h2 fun ys p k hp => q ys _ p rfl k hp
    · cases hd
theorem keys_pairs {K : PySem.W.Frag} {mg : Str → Option Value} {G H : Hp} : ∀ {kvs : List (List Key × V)} {kds : List (List Int × D)} {ps : List (Int × Int)} {bs : List Addr}, RepK K mg G kvs kds → D.pairs (kds.map fun p => .tup (p.1.map .int)) = some ps → IsKeys H kvs bs →
    (∀ x ∈ bs.map V.ref, ∃ t, x = V.ref t ∧ H t = some (.tup [.int (kOf H x).1, .int (kOf H x).2])) ∧ (bs.map V.ref).map (kOf H) = ps
  | _, [], ps, _, r, h, p => by
    cases r; cases h; cases p
    exact ⟨fun x hx => absurd hx List.not_mem_nil, rfl⟩
  | _, (k, d) :: kds, ps, _, r, h, p => by
    cases r with
    | @cons _ v rr _ _ r1 r2 =>
    cases p with
    | @cons _ b _ bs p1 p2 =>
    rw [List.map_cons] at h
    unfold D.pairs at h
    split at h
    · rename_i q qs e1 e2
      cases h
      have e1 := D.pair_some e1
      unfold pairD at e1
      have e3 : k = [q.1, q.2] := by
        match k, e1 with
        | [], e => simp at e
        | [_], e => simp at e
        | [i, j], e => simp at e; rw [e.1, e.2]
        | _ :: _ :: _ :: _, e => simp at e
      subst e3
      obtain ⟨i1, i2⟩ := keys_pairs r2 e2 p2
      have ek : kOf H (.ref b) = q := kOf_at p1
      refine ⟨fun x hx => ?_, by rw [List.map_cons, List.map_cons, i2, ek]⟩
      rcases List.mem_cons.mp hx with z | z
      · rw [z]; exact ⟨b, rfl, by rw [ek]; exact p1⟩
      · exact i1 x z
    · cases h
theorem rR.dct {G H : Hp} {v : V} {kds : List (List Int × D)} (r : rR X G H v (.dct kds)) (e : Vw G H) : ∃ a kvs, v = .ref a ∧ H a = some (.dT kvs) ∧ RepK X.K X.mg G kvs kds := by
  rcases r with r | ⟨a, rfl, _, ⟨vs, ds', z, h1, h2⟩ | ⟨kvs, kds', z, h1, h2⟩⟩
  · cases r with | dct h1 h2 => exact ⟨_, _, rfl, (e _ _ h1).1, h2⟩
  · cases z
  · cases z; exact ⟨a, kvs, rfl, h1, h2⟩
theorem o_sorted (hc : X.calm = true) : Op1r X T (.builtin "sorted") sortD := by
  refine ⟨_, cr_srt hc, fun G H x dx d Q e t rx hd q => ?_⟩
  cases dx with
  | lst xs =>
    obtain ⟨a, vs, rfl, h1, h2⟩ := rx.lst e
    exact .inl ⟨a, vs, rfl, .inl (.inl (.inl h1)), srt_any e t h2 hd fun ys es p z k hp => by subst z; exact Ext.qlst q e t k hp⟩
  | tup xs =>
    obtain ⟨a, vs, rfl, g1, h1, h2⟩ := rx.tup e
    exact .inl ⟨a, vs, rfl, .inr (.inl (.inl h1)), srt_any e t h2 hd fun ys es p z k hp => by subst z; exact Ext.qlst q e t k hp⟩
  | dct kds =>
    obtain ⟨a, kvs, rfl, h1, h2⟩ := rR.dct rx e
    refine .inr ⟨a, kvs, rfl, .inl h1, fun bs hk => ?_⟩
    have hd : (match D.pairs (kds.map fun p => .tup (p.1.map .int)) with | some ps => some (D.lst ((isort SrtO.lexB ps).map pairD)) | none => none) = some d := hd
    split at hd
    · rename_i ps ep
      cases hd
      obtain ⟨i1, i2⟩ := keys_pairs (H := H) h2 ep hk
      have x0 := Ext.tups e t
      refine srtEnd_pairs (X := X) (G := tupsOf G H) x0.gh t (fun x hx => ?_) i2 fun ys p k hp => Ext.qlst (X := X) (T := T) (G := tupsOf G H) (fun G' H' v x1 => q G' H' v (x0.trans x1)) x0.gh t k hp
      obtain ⟨u, e1, e2⟩ := i1 x hx
      exact ⟨u, e1, tupsOf_at (T := T) e e2⟩
    · cases hd
  | _ => cases hd
end
end PV
namespace HT
open PySem PySem.Spec PyProof.Rows
set_option maxHeartbeats 1000000 in
theorem meets_enum1 {v : Value} {o : Obj} {H : Heap → Prop} (B : Begins v o H) :
    Meets (Builtin.«enumerate.__new__» ⟨[.type "enumerate", v], []⟩) (fun _ R s => H s.heap ∧
      R (.ok (.ret (.ref (s.heap.push o).objs.size))) { s with heap := (s.heap.push o).push { cls := .type "enumerate", data := .fields #[.none, .bool false, .ref s.heap.objs.size, rawInt 0, .none, .none] } }) :=
  .of_wp fun prog w A R s h => by
    obtain ⟨hp, g, d, tk, os⟩ := s; obtain ⟨h1, h⟩ := h
    have hsub := sub_enumerate
    have q1 : ∀ {A' : Around} {E : Value → Shared → Prop} {Q : Value → Shared → Prop}, Q (.ref hp.objs.size) ⟨hp.push o, g, d, tk, os⟩ → wpAny (model prog w) A' (pyIter v) Q E ⟨hp, g, d, tk, os⟩ :=
      fun q => B.iter prog w _ _ ⟨hp, g, d, tk, os⟩ _ h1 q
    wp_walk using q1
    refine wpAny_stack_any fun st => wpAny_pure ?_
    split
    · rename_i c _ _ _ _ _
      cases (c == Value.type "enumerate")
      · wp_walk using q1
        exact ⟨_, rfl, h⟩
      · wp_walk using q1
        exact ⟨_, rfl, h⟩
    · wp_walk using q1
      exact ⟨_, rfl, h⟩
section
variable {prog : Program} {w : World} {A : Around} {E : Value → Shared → Prop} {s : Shared}
theorem enum_begins1 {v : Value} {o : Obj} {H : Heap → Prop} {Q : Value → Shared → Prop} (B : Begins v o H) (h1 : H s.heap)
    (h : ∀ h', IsEnum h' (s.heap.objs.size + 1) s.heap.objs.size 0 .none → h'.get? s.heap.objs.size = some o → h'.objs.size = s.heap.objs.size + 2 →
      (∀ b o, s.heap.get? b = some o → h'.get? b = some o) → Q (.ref (s.heap.objs.size + 1)) { s with heap := h' }) :
    wpAny (model prog w) A (call (.type "enumerate") [v]) Q E s := by
  refine callType_new F.called_enumerate (by decide) (F.typeCall_enumerate_1 _) (F.newCall_enumerate_1 _) (fun obj => F.args_object_init_2 obj _) F.entry_enumerate_new
    (meets_enum1 B) ⟨h1, ?_⟩
  have hz : (s.heap.push o).objs.size = s.heap.objs.size + 1 := Heap.size_push ..
  show _ ∧ _
  rw [hz]
  have he : IsEnum ((s.heap.push o).push { cls := .type "enumerate", data := .fields #[.none, .bool false, .ref s.heap.objs.size, rawInt 0, .none, .none] }) (s.heap.objs.size + 1) s.heap.objs.size 0 .none := by
    have := Heap.get?_push_size (s.heap.push o) (o := { cls := .type "enumerate", data := .fields #[.none, .bool false, .ref s.heap.objs.size, rawInt 0, .none, .none] }) rfl
    rw [hz] at this; exact this
  refine ⟨⟨_, he, rfl⟩, h _ he (Heap.get?_push_of_some _ (Heap.get?_push_size _ B.free)) (by rw [Heap.size_push, hz]) fun b o x => Heap.get?_push_of_some _ (Heap.get?_push_of_some _ x)⟩
end
end HT
namespace L2
open PySem PySem.Spec PyProof.Rows
/-- enumerate over a tuple, over a text -/
def Itet (K : PySem.W.Frag) (a : Addr) : It :=
  ⟨fun i H => ∃ (xs : List V) (x : V), SqT K H a xs ∧ xs[i]? = some x, fun i H v H' => ∃ T x, v = .ref T ∧ H T = none ∧ H' = upd H T (.tup [.int (i : Nat), x]) ∧ ∀ xs, SqT K H a xs → xs[i]? = some x, fun i H => ∃ xs : List V, SqT K H a xs ∧ xs.length ≤ i⟩
def Ites (z : Str) : It :=
  ⟨fun i H => i < z.cps.size, fun i H v H' => ∃ T c, v = .ref T ∧ H T = none ∧ H' = upd H T (.tup [.int (i : Nat), .str ⟨#[c]⟩]) ∧ z.cps[i]? = some c, fun i H => z.cps.size ≤ i⟩
theorem turn_enumT {P : Program} {w : World} {K : PySem.W.Frag} {elts : List Expr} {kk : Nat} {tpos : Pos} (a e it : Addr) :
    Turn P w K (.Tuple elts kk tpos) (Itet K a) [e, it] e (fun i h => (∃ old, IsEnum h e it ((i : Nat) : Int) old) ∧ h.IsTupleIter it a i ∧ e ≠ it) where
  mem := by simp
  obj := fun i h st b hb => by
    obtain ⟨⟨old, he⟩, ⟨o, ho, hc, hd⟩, _⟩ := st
    have e' : b = e ∨ b = it := by simpa using hb
    rcases e' with z | z
    · rw [z]; exact ⟨_, he, fun v q => nomatch q⟩
    · rw [z]; exact ⟨o, ho, fun v q => by rw [hd] at q; cases q⟩
  keep := fun i h h' st k => let ⟨⟨old, he⟩, hi, hne⟩ := st; ⟨⟨old, k e (by simp) _ he⟩, hi.at fun o q => k it (by simp) o q, hne⟩
  item := by
    intro X hP hw hK hc i pins s σ H E I hf st hg
    subst hP hw hK
    obtain ⟨⟨old, he⟩, hit, hne⟩ := st
    obtain ⟨xs, x, hq, hx⟩ := hg
    obtain ⟨its, rv, p, hz⟩ := I.tuple hq
    obtain ⟨u, hu, ru⟩ := rv.get hx
    have hel : e < s.heap.objs.size := Heap.lt_size he
    have hil : it < s.heap.objs.size := by obtain ⟨_, q, _⟩ := hit; exact Heap.lt_size q
    have hai : a ≠ it := fun z => by
      obtain ⟨o1, q1, c1, _⟩ := id p
      obtain ⟨o2, q2, c2, _⟩ := hit
      subst z; rw [q1] at q2; cases q2; rw [c1] at c2; exact absurd (Value.type.inj c2) (by decide)
    have hea : e ≠ a := fun z => by
      obtain ⟨o1, q1, c1, _⟩ := id p
      subst z; rw [he] at q1; cases q1; exact absurd (Value.type.inj c1) (by decide)
    have D := Draws.tuple (prog := X.prog) (w := X.w) (A := X.A.in1) (show X.A.in1.handled = none from I.ok.hd hc) it a hai its.toArray
    have hlt : i < its.toArray.size := by
      have := (List.getElem?_eq_some_iff.mp hu).1
      simpa using this
    refine wpAny_pyNext_enum_itemD D he ⟨hit, p⟩ hlt hne (by simp [hne, hea]) fun y h' tk hy ho hst hT hsz hk => ?_
    have ey : y = u := by
      have : its.toArray[i]? = some u := by simpa using hu
      rw [this] at hy; cases hy; rfl
    subst ey
    refine ⟨_, rfl, wpAny_letOwnedTupleGo_enum (s := { s with heap := h', toks := tk + 1 }) ho fun h'' he' sb => ?_⟩
    have hT2 : h''.get? s.heap.objs.size = some { cls := .type "tuple", data := .seq #[.int i tk, y] } := (sb.2 _ (Nat.ne_of_gt hel)).trans hT
    have new : ObjOk X.prog X.w (upd H s.heap.objs.size (.tup [.int (i : Nat), x])) h'' s.heap.objs.size (.tup [.int (i : Nat), x]) :=
      ⟨by show 2 ≤ sizeLine; decide, [.int i tk, y], .cons ⟨_, rfl⟩ (.cons ru .nil), ⟨_, hT2, rfl, _, rfl⟩⟩
    have I1 : Inv X pins σ (upd H s.heap.objs.size (.tup [.int (i : Nat), x])) { s with heap := h'', toks := tk + 1 } :=
      I.turnedNew (ch := [e, it]) (fun b ob hb q => (sb.2 b (fun z => hb (by simp [z]))).trans (hk b ob (fun z => hb (by simp [z])) (fun z => hb (by simp [z])) q)) hf (Nat.le_refl _) new
    refine ⟨.ref s.heap.objs.size, _, I1, rfl, ⟨_, x, rfl, I.hok.fresh (Nat.le_refl _), rfl, fun ys hy => by rw [I.tuple_inj hy hq]; exact hx⟩, ⟨⟨y, ?_⟩, hst.1.at fun o q => (sb.2 it (Ne.symm hne)).trans q, hne⟩, fun b hb => ?_⟩
    · have e1 : ((i + 1 : Nat) : Int) = (i : Int) + 1 := by omega
      rw [e1]; exact he'
    · have hb' : b < s.heap.objs.size := by
        have e' : b = e ∨ b = it := by simpa using hb
        rcases e' with z | z
        · rw [z]; exact hel
        · rw [z]; exact hil
      rw [upd_ne (Nat.ne_of_lt hb')]
      exact (hf b hb).1
  done := by
    intro X hP hw hK hc i pins s σ H E I hf st hg
    subst hP hw hK
    obtain ⟨⟨old, he⟩, hit, hne⟩ := st
    obtain ⟨xs, hq, hx⟩ := hg
    obtain ⟨its, rv, p, hz⟩ := I.tuple hq
    obtain ⟨f0, f1, f2, f3, f4, f5⟩ := hf it (by simp)
    have hl := rv.length
    have hT : s.TypeIs (.ref e) "enumerate" := ⟨_, he, rfl⟩
    unfold pyNext
    refine wpAny_bind (wpAny_attempt (wpAny_callSpecial?_slot (name := Str.ofString "__next__") hT F.slot_enumerate_next
      (wpAny_call_entry F.slot_enumerate_next hT F.entry_enumerate_next ?_ (F.args_enumerate_next_1 _))))
    show wpAny _ _ (field (.ref e) 2 >>= _) _ _ _
    refine wpAny_bind (wpAny_field he rfl (x := .ref it) rfl ?_)
    refine wpAny_bind (wpAny_nextOf_tuple_end (show X.A.in1.handled = none from I.ok.hd hc) hit p (by simp; omega) fun h' x he' hx' => ?_)
    obtain ⟨o, ho, hc⟩ := hx'
    refine wpAny_bind (wpAny_isInstance (T := "StopIteration") (b := true) ⟨o, ho, hc⟩ isSubtype_stop ?_)
    exact wpAny_pure ⟨rfl, I.turned (t' := s.toks) (fun b o hb q => he' b o hb q) f0 f1 f3 f4 f5⟩
  self := fun A i s Q E st h => let ⟨⟨_, he⟩, _⟩ := st; wpAny_pyIter_enum he h
theorem turn_enumS {P : Program} {w : World} {K : PySem.W.Frag} {elts : List Expr} {kk : Nat} {tpos : Pos} (z : Str) (t : Tok) (e it : Addr) :
    Turn P w K (.Tuple elts kk tpos) (Ites z) [e, it] e (fun i h => (∃ old, IsEnum h e it ((i : Nat) : Int) old) ∧ h.IsStrIter it (strIterType z) z t i ∧ e ≠ it) where
  mem := by simp
  obj := fun i h st b hb => by
    obtain ⟨⟨old, he⟩, ⟨o, ho, hc, hd⟩, _⟩ := st
    have e' : b = e ∨ b = it := by simpa using hb
    rcases e' with z | z
    · rw [z]; exact ⟨_, he, fun v q => nomatch q⟩
    · rw [z]; exact ⟨o, ho, fun v q => by rw [hd] at q; cases q⟩
  keep := fun i h h' st k => let ⟨⟨old, he⟩, ⟨o, ho, r⟩, hne⟩ := st; ⟨⟨old, k e (by simp) _ he⟩, ⟨o, k it (by simp) o ho, r⟩, hne⟩
  item := by
    intro X hP hw hK hc i pins s σ H E I hf st hg
    subst hP hw hK
    obtain ⟨⟨old, he⟩, hit, hne⟩ := st
    have hel : e < s.heap.objs.size := Heap.lt_size he
    have hil : it < s.heap.objs.size := by obtain ⟨_, q, _⟩ := hit; exact Heap.lt_size q
    have D := Draws.text (prog := X.prog) (w := X.w) (A := X.A.in1) (show X.A.in1.handled = none from I.ok.hd hc) it z t
    refine wpAny_pyNext_enum_itemD D he hit hg hne (by simp [hne]) fun y h' tk hy ho hst hT hsz hk => ?_
    obtain ⟨c, u, hcx, rfl⟩ := hy
    refine ⟨_, rfl, wpAny_letOwnedTupleGo_enum (s := { s with heap := h', toks := tk + 1 }) ho fun h'' he' sb => ?_⟩
    have hT2 : h''.get? s.heap.objs.size = some { cls := .type "tuple", data := .seq #[.int i tk, .str ⟨#[c]⟩ u] } := (sb.2 _ (Nat.ne_of_gt hel)).trans hT
    have new : ObjOk X.prog X.w (upd H s.heap.objs.size (.tup [.int (i : Nat), .str ⟨#[c]⟩])) h'' s.heap.objs.size (.tup [.int (i : Nat), .str ⟨#[c]⟩]) :=
      ⟨by show 2 ≤ sizeLine; decide, [.int i tk, .str ⟨#[c]⟩ u], .cons ⟨_, rfl⟩ (.cons ⟨_, rfl⟩ .nil), ⟨_, hT2, rfl, _, rfl⟩⟩
    have I1 : Inv X pins σ (upd H s.heap.objs.size (.tup [.int (i : Nat), .str ⟨#[c]⟩])) { s with heap := h'', toks := tk + 1 } :=
      I.turnedNew (ch := [e, it]) (fun b ob hb q => (sb.2 b (fun z => hb (by simp [z]))).trans (hk b ob (fun z => hb (by simp [z])) (fun z => hb (by simp [z])) q)) hf (Nat.le_refl _) new
    have hst' : h'.IsStrIter it (strIterType z) z t (i + 1) := hst
    refine ⟨.ref s.heap.objs.size, _, I1, rfl, ⟨_, c, rfl, I.hok.fresh (Nat.le_refl _), rfl, hcx⟩, ⟨⟨.str ⟨#[c]⟩ u, ?_⟩, ?_, hne⟩, fun b hb => ?_⟩
    · have e1 : ((i + 1 : Nat) : Int) = (i : Int) + 1 := by omega
      rw [e1]; exact he'
    · obtain ⟨o, ho, r⟩ := hst'
      exact ⟨o, (sb.2 it (Ne.symm hne)).trans ho, r⟩
    · have hb' : b < s.heap.objs.size := by
        have e' : b = e ∨ b = it := by simpa using hb
        rcases e' with z | z
        · rw [z]; exact hel
        · rw [z]; exact hil
      rw [upd_ne (Nat.ne_of_lt hb')]
      exact (hf b hb).1
  done := by
    intro X hP hw hK hc i pins s σ H E I hf st hg
    subst hP hw hK
    obtain ⟨⟨old, he⟩, hit, hne⟩ := st
    obtain ⟨f0, f1, f2, f3, f4, f5⟩ := hf it (by simp)
    have hT : s.TypeIs (.ref e) "enumerate" := ⟨_, he, rfl⟩
    have hno : z.cps[i]? = none := Array.getElem?_eq_none hg
    unfold pyNext
    refine wpAny_bind (wpAny_attempt (wpAny_callSpecial?_slot (name := Str.ofString "__next__") hT F.slot_enumerate_next
      (wpAny_call_entry F.slot_enumerate_next hT F.entry_enumerate_next ?_ (F.args_enumerate_next_1 _))))
    show wpAny _ _ (field (.ref e) 2 >>= _) _ _ _
    refine wpAny_bind (wpAny_field he rfl (x := .ref it) rfl ?_)
    have go : ∀ (E' : Value → Shared → Prop) (Q' : Value → Shared → Prop), (∀ h' x, Heap.ExtBut it s.heap h' → (∃ o, h'.get? x = some o ∧ o.cls = .type "StopIteration") → E' (.ref x) { s with heap := h' }) → wpAny (model X.prog X.w) X.A.in1 (Builtin.SmallTypes.nextOf (.ref it)) Q' E' s := by
      intro E' Q' hE
      cases ha : z.cps.all (· < 128)
      · simp only [strIterType, ha, Bool.false_eq_true, if_false] at hit
        exact wpAny_nextOf_wide_end (show X.A.in1.handled = none from I.ok.hd hc) hit hno hE
      · simp only [strIterType, ha, if_true] at hit
        exact wpAny_nextOf_ascii_end (show X.A.in1.handled = none from I.ok.hd hc) hit hno hE
    refine wpAny_bind (go _ _ fun h' x he' hx' => ?_)
    obtain ⟨o, ho, hc⟩ := hx'
    refine wpAny_bind (wpAny_isInstance (T := "StopIteration") (b := true) ⟨o, ho, hc⟩ isSubtype_stop ?_)
    exact wpAny_pure ⟨rfl, I.turned (t' := s.toks) (fun b o hb q => he' b o hb q) f0 f1 f3 f4 f5⟩
  self := fun A i s Q E st h => let ⟨⟨_, he⟩, _⟩ := st; wpAny_pyIter_enum he h
def iEnumA (K : PySem.W.Frag) (ta : TA) : TI := fun σ H R => ta σ H fun vs H1 => (∃ a xs, vs = [.ref a] ∧ SqL K H1 a xs ∧ R (Ite K a) H1) ∨ (∃ a xs, vs = [.ref a] ∧ SqT K H1 a xs ∧ R (Itet K a) H1) ∨ (∃ z, vs = [.str z] ∧ R (Ites z) H1)
theorem pi_enumA {X : Cx} {e : Expr} {ta : TA} {p pos tpos : Pos} {elts : List Expr} {kk : Nat} (hg : Gl X "enumerate") (hm : X.mg "enumerate" = none) (ha : PA X [e] ta) (hs : starEach [e] X.env = [(false, eval e X.env)] := by rfl) :
    PI X (.Tuple elts kk tpos) (.Call (.Name "enumerate" p) [e] [] pos) (iEnumA X.K ta) := by
  refine ⟨fun pins s σ H R I h => ?_⟩
  refine Call_ (ld_blt I hg hm boot_enumerate (PyProof.Rows.callWith_type1 (thn (ha.run pos pins s σ H _ I h) fun us s1 ⟨vs, H1, I1, r1, q1⟩ => ?_) hs rfl))
  have foot : ∀ b ∈ [s1.heap.objs.size + 1, s1.heap.objs.size], FpOk X pins H1 b := fun b hb => by
    have e' : b = s1.heap.objs.size + 1 ∨ b = s1.heap.objs.size := by simpa using hb
    have hle : s1.heap.objs.size ≤ b := by
      rcases e' with z | z
      · rw [z]; exact Nat.le_add_right _ _
      · rw [z]; exact Nat.le_refl _
    exact I1.fpOk hle (I1.hok.fresh hle)
  rcases q1 with ⟨a, xs, ex, hq, q⟩ | ⟨a, xs, ex, hq, q⟩ | ⟨z, ex, q⟩
  · subst ex
    cases r1 with
    | cons r rr =>
      cases rr
      cases r
      obtain ⟨its, rv, p', hz⟩ := I1.list hq
      refine call_enumerate_list p'.isList fun h' he hit hsz hk => wpAny_pyIter_enum he ?_
      have I2 : Inv X pins σ H1 { s1 with heap := h' } := I1.kept (t' := s1.toks) hk
      exact ⟨s1.heap.objs.size + 1, [s1.heap.objs.size + 1, s1.heap.objs.size], _, _, H1, rfl, I2, turn_enum a (s1.heap.objs.size + 1) s1.heap.objs.size, ⟨⟨.none, he⟩, hit, Nat.succ_ne_self _⟩, foot, q⟩
  · subst ex
    cases r1 with
    | cons r rr =>
      cases rr
      cases r
      obtain ⟨its, rv, p', hz⟩ := I1.tuple hq
      refine HT.enum_begins1 (begins_tuple a its.toArray) p' fun h' he hit hsz hk => wpAny_pyIter_enum he ?_
      have I2 : Inv X pins σ H1 { s1 with heap := h' } := I1.kept (t' := s1.toks) hk
      exact ⟨s1.heap.objs.size + 1, [s1.heap.objs.size + 1, s1.heap.objs.size], _, _, H1, rfl, I2, turn_enumT a (s1.heap.objs.size + 1) s1.heap.objs.size, ⟨⟨.none, he⟩, ⟨_, hit, rfl, rfl⟩, Nat.succ_ne_self _⟩, foot, q⟩
  · subst ex
    cases r1 with
    | cons r rr =>
      cases rr
      obtain ⟨t, rfl⟩ := r
      refine HT.enum_begins1 (begins_text z t) trivial fun h' he hit hsz hk => wpAny_pyIter_enum he ?_
      have I2 : Inv X pins σ H1 { s1 with heap := h' } := I1.kept (t' := s1.toks) hk
      exact ⟨s1.heap.objs.size + 1, [s1.heap.objs.size + 1, s1.heap.objs.size], _, _, H1, rfl, I2, turn_enumS z t (s1.heap.objs.size + 1) s1.heap.objs.size, ⟨⟨.none, he⟩, ⟨_, hit, rfl, rfl⟩, Nat.succ_ne_self _⟩, foot, q⟩
section
variable {K : PySem.W.Frag} {a b : Addr} {xs ys : List V} {z : Str}
theorem walk_enumT : Walk (Itet K a) xs.length (fun H => SqT K H a xs) (YPair (fun i => some (.int (i : Nat))) (fun i => xs[i]?)) := by
  refine ⟨fun i _ hi q => ⟨xs, xs[i], q, by simp [hi]⟩, fun _ q => ⟨xs, q, Nat.le_refl _⟩, fun i H v H' _ q y => ?_⟩
  obtain ⟨T, x, h1, h2, h3, h4⟩ := y
  exact ⟨T, .int (i : Nat), x, h1, h2, h3, rfl, h4 xs q⟩
theorem walk_enumS : Walk (Ites z) z.cps.size (fun H => True) (YPair (fun i => some (.int (i : Nat))) (fun i => z.cps[i]?.map fun c => .str ⟨#[c]⟩)) := by
  refine ⟨fun i _ hi q => hi, fun _ q => Nat.le_refl _, fun i H v H' _ q y => ?_⟩
  obtain ⟨T, c, h1, h2, h3, h4⟩ := y
  exact ⟨T, .int (i : Nat), .str ⟨#[c]⟩, h1, h2, h3, rfl, by show z.cps[i]?.map _ = _; rw [h4]; rfl⟩
theorem walk_zipT {n : Nat} (hn : n = min xs.length ys.length) : Walk (RZ.ItzT K a b) n (fun H => SqT K H a xs ∧ SqT K H b ys) (YPair (fun i => xs[i]?) (fun i => ys[i]?)) := by
  subst hn
  refine ⟨fun i _ hi q => ?_, fun _ q => ⟨xs, ys, q.1, q.2, by omega⟩, fun i H v H' _ q y => ?_⟩
  · have h1 : i < xs.length := by omega
    have h2 : i < ys.length := by omega
    exact ⟨xs, ys, xs[i], ys[i], q.1, q.2, by simp [h1], by simp [h2]⟩
  · obtain ⟨T, x, z, h1, h2, h3, h4, h5⟩ := y
    exact ⟨T, x, z, h1, h2, h3, h4 xs q.1, h5 ys q.2⟩
end
end L2
namespace PV
open PySem PySem.Spec L2
/-! ### enumerate, zip -/
def enumL (ds : List D) : List D := ds.zipIdx.map fun p => .tup [.int (p.2 : Nat), p.1]
def D.seen : D → Option (List D)
  | .str z => some (z.cps.toList.map fun c => .str ⟨#[c]⟩)
  | d => d.items
def eEnum (f : Sl → Res D) : Sl → Res (List D) := fun σ => (f σ).bind fun d => .of (d.seen.map enumL)
def zipL (xs ys : List D) : List D := List.zipWith (fun a b => .tup [a, b]) xs ys
def zipD : List D → Option (List D)
  | [.lst xs, .lst ys] => some (zipL xs ys)
  | [.tup xs, .tup ys] => some (zipL xs ys)
  | _ => none
def eZip (f : Sl → Res (List D)) : Sl → Res (List D) := fun σ => (f σ).bind fun ds => .of (zipD ds)
section
variable {X : Cx} {T : Tbs} {W : WX} {M : List Nat} {pos tpos p : Pos} {e e' : Expr} {es elts : List Expr} {kk : Nat} {f : Sl → Res D} {fs : Sl → Res (List D)}
theorem pair_walk {J : It} {n : Nat} {ds : List D} {G H : Hp} {GW : Hp → Prop} {o : Prop} {va vb : Nat → Option V} (w : Walk J n GW (YPair va vb)) (hn : n = ds.length)
    (r : ∀ (i : Nat) (x y : V), i < ds.length → va i = some x → vb i = some y → ∃ a b, ds[i]? = some (.tup [a, b]) ∧ Rep X.K X.mg G x a ∧ Rep X.K X.mg G y b)
    (hs : ∀ G' H', Sm G G' → Vw G' H' → (o → Sm H H') → GW H') : WalkD X T o J ds G H := by
  subst hn
  refine ⟨GW, YPair va vb, w, hs, fun i G' H' x H'' hi s v t so y => ?_⟩
  obtain ⟨P, x1, x2, rfl, hp, rfl, ha, hb⟩ := y
  obtain ⟨a, b, hd, ra, rb⟩ := r i x1 x2 hi ha hb
  refine ⟨upd G' P (.tup [x1, x2]), .tup [a, b], Ext.new v t hp (fun _ z => nomatch z), hd, .tup upd_same (.cons ?_ (.cons ?_ .nil))⟩
  · exact Rep.mono (Sm.upd (v.none hp)) _ _ (Rep.mono s _ _ ra)
  · exact Rep.mono (Sm.upd (v.none hp)) _ _ (Rep.mono s _ _ rb)
theorem enumL_get {ds : List D} {i : Nat} {d : D} (h : ds[i]? = some d) : (enumL ds)[i]? = some (.tup [.int (i : Nat), d]) := by
  unfold enumL
  rw [List.getElem?_map, List.getElem?_zipIdx, h]
  simp
theorem enumL_len (ds : List D) : (enumL ds).length = ds.length := by unfold enumL; simp
theorem enum_rep {G : Hp} {vs : List V} {ds : List D} (r : Reps X.K X.mg G vs ds) : ∀ (i : Nat) (x y : V), i < (enumL ds).length → some (V.int (i : Nat)) = some x → vs[i]? = some y → ∃ a b, (enumL ds)[i]? = some (.tup [a, b]) ∧ Rep X.K X.mg G x a ∧ Rep X.K X.mg G y b := by
  intro i x y hi hx hy
  cases hx
  rw [enumL_len] at hi
  obtain ⟨d, hd⟩ : ∃ d, ds[i]? = some d := ⟨_, List.getElem?_eq_getElem hi⟩
  obtain ⟨y', q, ry⟩ := r.get hd
  rw [hy] at q; cases q
  exact ⟨_, _, enumL_get hd, .int _, ry⟩
theorem enum_str {G : Hp} {z : Str} : ∀ (i : Nat) (x y : V), i < (enumL (z.cps.toList.map fun c => D.str ⟨#[c]⟩)).length → some (V.int (i : Nat)) = some x → (z.cps[i]?.map fun c => V.str ⟨#[c]⟩) = some y →
    ∃ a b, (enumL (z.cps.toList.map fun c => D.str ⟨#[c]⟩))[i]? = some (.tup [a, b]) ∧ Rep X.K X.mg G x a ∧ Rep X.K X.mg G y b := by
  intro i x y hi hx hy
  cases hx
  cases hc : z.cps[i]? with
  | none => rw [hc] at hy; cases hy
  | some c =>
    rw [hc] at hy; cases hy
    refine ⟨_, .str ⟨#[c]⟩, enumL_get (d := .str ⟨#[c]⟩) ?_, .int _, .str _⟩
    rw [List.getElem?_map, Array.getElem?_toList, hc]; rfl
theorem ix_enum (hg : Gl X "enumerate") (hm : X.mg "enumerate" = none) (h : PX X T W M e f) (he : starEach [e] X.env = (false, eval e X.env) :: starEach [] X.env := by rfl) (hs : starEach [e] X.env = [(false, eval e X.env)] := by rfl) :
    PIg X T W M False (.Tuple elts kk tpos) (.Call (.Name "enumerate" p) [e] [] pos) (eEnum f) := by
  obtain ⟨ta, pa, qa⟩ := h.run
  refine ⟨_, pi_enumA hg hm (pa_cons pa pa_nil he) hs, fun G0 H0 G H σ σd R er o => ?_⟩
  refine qa _ _ _ _ _ _ _ er (o.seq fun d G1 H1 v _ x1 rv o => ?_)
  obtain ⟨ds', hd, k⟩ := o.of
  have seq : ∀ ds, d.items = some ds → ds' = enumL ds → (∃ a xs, [v] = [V.ref a] ∧ SqL X.K H1 a xs ∧ R (Ite X.K a) H1) ∨ (∃ a xs, [v] = [V.ref a] ∧ SqT X.K H1 a xs ∧ R (Itet X.K a) H1) ∨ (∃ z, [v] = [V.str z] ∧ R (Ites z) H1) := by
    intro ds h1 h2
    subst h2
    obtain ⟨a, vs, rfl, h, rs⟩ := rv.items h1
    rcases h with h | h
    · exact .inl ⟨a, vs, rfl, x1.gh.sm.sqL h, k G1 H1 _ (Ext.refl x1.gh x1.tb) (pair_walk walk_enum (by rw [enumL_len, rs.length]) (enum_rep rs) fun G' H' s v _ => v.sm.sqL (s.sqL h))⟩
    · exact .inr (.inl ⟨a, vs, rfl, x1.gh.sm.sqT h, k G1 H1 _ (Ext.refl x1.gh x1.tb) (pair_walk walk_enumT (by rw [enumL_len, rs.length]) (enum_rep rs) fun G' H' s v _ => v.sm.sqT (s.sqT h))⟩)
  cases d with
  | str z =>
    cases hd
    cases rv
    exact .inr (.inr ⟨z, rfl, k G1 H1 _ (Ext.refl x1.gh x1.tb) (pair_walk walk_enumS (by rw [enumL_len, List.length_map, Array.length_toList]) enum_str fun _ _ _ _ _ => trivial)⟩)
  | tup xs => cases hd; exact seq _ rfl rfl
  | ctup xs => cases hd; exact seq _ rfl rfl
  | lst xs => cases hd; exact seq _ rfl rfl
  | scr xs => cases hd; exact seq _ rfl rfl
  | _ => cases hd
theorem ixr_enum (hg : Gl X "enumerate") (hm : X.mg "enumerate" = none) (h : PXr X T W M e f) (he : starEach [e] X.env = (false, eval e X.env) :: starEach [] X.env := by rfl) (hs : starEach [e] X.env = [(false, eval e X.env)] := by rfl) :
    PIg X T W M True (.Tuple elts kk tpos) (.Call (.Name "enumerate" p) [e] [] pos) (eEnum f) := by
  obtain ⟨ta, pa, qa⟩ := h.run
  refine ⟨_, pi_enumA hg hm (pa_cons pa pa_nil he) hs, fun G0 H0 G H σ σd R er o => ?_⟩
  refine qa _ _ _ _ _ _ _ er (o.seq fun d G1 H1 v _ x1 rv o => ?_)
  obtain ⟨ds', hd, k⟩ := o.of
  have seq : ∀ ds, d.items = some ds → ds' = enumL ds → (∃ a xs, [v] = [V.ref a] ∧ SqL X.K H1 a xs ∧ R (Ite X.K a) H1) ∨ (∃ a xs, [v] = [V.ref a] ∧ SqT X.K H1 a xs ∧ R (Itet X.K a) H1) ∨ (∃ z, [v] = [V.str z] ∧ R (Ites z) H1) := by
    intro ds h1 h2
    subst h2
    obtain ⟨a, vs, rfl, h, rs⟩ := rR.items rv x1.gh h1
    rcases h with h | h
    · exact .inl ⟨a, vs, rfl, h, k G1 H1 _ (Ext.refl x1.gh x1.tb) (pair_walk walk_enum (by rw [enumL_len, rs.length]) (enum_rep rs) fun G' H' s v o => (o True.intro).sqL h)⟩
    · exact .inr (.inl ⟨a, vs, rfl, h, k G1 H1 _ (Ext.refl x1.gh x1.tb) (pair_walk walk_enumT (by rw [enumL_len, rs.length]) (enum_rep rs) fun G' H' s v o => (o True.intro).sqT h)⟩)
  cases d with
  | str z =>
    cases hd
    cases rR.str rv
    exact .inr (.inr ⟨z, rfl, k G1 H1 _ (Ext.refl x1.gh x1.tb) (pair_walk walk_enumS (by rw [enumL_len, List.length_map, Array.length_toList]) enum_str fun _ _ _ _ _ => trivial)⟩)
  | tup xs => cases hd; exact seq _ rfl rfl
  | ctup xs => cases hd; exact seq _ rfl rfl
  | lst xs => cases hd; exact seq _ rfl rfl
  | scr xs => cases hd; exact seq _ rfl rfl
  | _ => cases hd
theorem zip_rep {G : Hp} {vs ws : List V} {ds es : List D} (r : Reps X.K X.mg G vs ds) (r' : Reps X.K X.mg G ws es) : ∀ (i : Nat) (x y : V), i < (zipL ds es).length → vs[i]? = some x → ws[i]? = some y → ∃ a b, (zipL ds es)[i]? = some (.tup [a, b]) ∧ Rep X.K X.mg G x a ∧ Rep X.K X.mg G y b := by
  intro i x y hi hx hy
  unfold zipL at hi
  rw [List.length_zipWith] at hi
  obtain ⟨d, hd⟩ : ∃ d, ds[i]? = some d := ⟨_, List.getElem?_eq_getElem (by omega)⟩
  obtain ⟨e, he⟩ : ∃ e, es[i]? = some e := ⟨_, List.getElem?_eq_getElem (by omega)⟩
  obtain ⟨x', q, rx⟩ := r.get hd
  rw [hx] at q; cases q
  obtain ⟨y', q, ry⟩ := r'.get he
  rw [hy] at q; cases q
  refine ⟨d, e, ?_, rx, ry⟩
  unfold zipL
  rw [List.getElem?_zipWith, hd, he]
theorem ix_zip (hg : Gl X "zip") (hm : X.mg "zip" = none) (h : PXs X T W M [e, e'] fs) (hs : starEach [e, e'] X.env = (false, eval e X.env) :: starEach [e'] X.env := by rfl) (hpl : (backTo pos (starEach [e'] X.env)).any (·.1) = false := by rfl) :
    PIg X T W M False (.Tuple elts kk tpos) (.Call (.Name "zip" p) [e, e'] [] pos) (eZip fs) := by
  obtain ⟨⟨ta, pa, qa⟩, hl⟩ := h
  refine ⟨_, RZ.pi_zipA hg hm pa hs hpl, fun G0 H0 G H σ σd R er o => ?_⟩
  refine qa _ _ _ _ _ _ _ er (o.seq fun ds G1 H1 vs _ x1 rs o => ?_)
  obtain ⟨ds', hd, k⟩ := o.of
  unfold zipD at hd
  split at hd
  · rename_i xs ys
    cases hd
    cases rs with
    | cons r1 rs =>
    cases rs with
    | cons r2 rs =>
    cases rs
    cases r1 with
    | @lst a va _ g1 k1 =>
    cases r2 with
    | @lst b vb _ g2 k2 =>
    refine ⟨a, b, va, vb, rfl, .inl ⟨.inl (.inl (x1.gh _ _ g1).1), .inl (.inl (x1.gh _ _ g2).1), k G1 H1 _ (Ext.refl x1.gh x1.tb) (pair_walk (walk_zip (xs := va) (ys := vb) rfl) (by unfold zipL; rw [List.length_zipWith, k1.length, k2.length]) (zip_rep k1 k2) fun G' H' s v _ => ?_)⟩⟩
    exact ⟨v.sm.sqL (s.sqL (.inl (.inl g1))), v.sm.sqL (s.sqL (.inl (.inl g2)))⟩
  · rename_i xs ys
    cases hd
    cases rs with
    | cons r1 rs =>
    cases rs with
    | cons r2 rs =>
    cases rs
    cases r1 with
    | @tup a va _ g1 k1 =>
    cases r2 with
    | @tup b vb _ g2 k2 =>
    refine ⟨a, b, va, vb, rfl, .inr ⟨.inl (.inl (x1.gh _ _ g1).1), .inl (.inl (x1.gh _ _ g2).1), k G1 H1 _ (Ext.refl x1.gh x1.tb) (pair_walk (walk_zipT (xs := va) (ys := vb) rfl) (by unfold zipL; rw [List.length_zipWith, k1.length, k2.length]) (zip_rep k1 k2) fun G' H' s v _ => ?_)⟩⟩
    exact ⟨v.sm.sqT (s.sqT (.inl (.inl g1))), v.sm.sqT (s.sqT (.inl (.inl g2)))⟩
  · cases hd
end
end PV
namespace L2
open PySem PySem.Spec PyProof.Rows
section
variable {X : Cx}
def rListS : List V → Hp → VK → Prop := fun vs H Q => ∃ z : Str, vs = [V.str z] ∧ z.length ≤ sizeLine ∧ ∀ p, H p = none → Q (.ref p) (upd H p (.lst (z.cps.toList.map fun c => V.str ⟨#[c]⟩)))
theorem vals_signs {z : Str} {vs : List Value} (h : vs.length = z.cps.size) (f : ∀ (j : Nat) (v : Value), vs[j]? = some v → ∃ c u, z.cps[j]? = some c ∧ v = .str ⟨#[c]⟩ u) : Vals (z.cps.toList.map fun c => V.str ⟨#[c]⟩) vs := by
  refine vals_of_at (by rw [List.length_map, Array.length_toList, h]) fun j x u h1 h2 => ?_
  obtain ⟨c, t, hc, rfl⟩ := f j u h2
  rw [List.getElem?_map, Array.getElem?_toList, hc] at h1
  cases h1
  exact ⟨t, rfl⟩
theorem cr_listS (hcalm : X.calm = true) : CallR X (.type "list") rListS := by
  intro pins s σ H vs us Q I r h
  obtain ⟨z, rfl, hz, q⟩ := h
  obtain ⟨u, rfl, ru⟩ := vals1 r
  obtain ⟨t, rfl⟩ := ru
  refine call_list_str (I.ok.hd hcalm) z t (hn := hz) fun h' tk acc' c' hk hS' hacc => ?_
  have rv : Vals (z.cps.toList.map fun c => V.str ⟨#[c]⟩) acc'.toList := vals_signs (by rw [Array.length_toList]; exact hacc.1) fun j v hv => hacc.2 j v (by rw [← Array.getElem?_toList]; exact hv)
  refine ⟨.ref s.heap.objs.size, upd H s.heap.objs.size (.lst (z.cps.toList.map fun c => V.str ⟨#[c]⟩)), I.laid (t' := tk) hk (Nat.le_refl _) ⟨?_, acc'.toList, c', rv, by rw [Array.toArray_toList]; exact hS'⟩, rfl, q _ (I.hok.fresh (Nat.le_refl _))⟩
  rw [List.length_map, Array.length_toList]; exact hz
end
end L2
namespace PV
open PySem PySem.Spec L2
/-! ### what makes a new list -/
def OpL (X : Cx) (T : Tbs) (f : Value) (g : D → Option D) : Prop :=
  ∃ r : List V → Hp → VK → Prop, CallR X f r ∧ ∀ G H x dx d Q, Vw G H → LamX.Tabs T H → rR X G H x dx → g dx = some d →
    (∀ G' p ys es, Ext T G H G' H → d = .lst es → Reps X.K X.mg G' ys es → H p = none → Q (.ref p) (upd H p (.lst ys))) → r [x] H Q
def list2D (d : D) : Option D := match d with
  | .str z => if z.length ≤ sizeLine then some (.lst (z.cps.toList.map fun c => .str ⟨#[c]⟩)) else none
  | d => d.items.map .lst
section
variable {X : Cx} {T : Tbs} {W : WX} {M : List Nat} {pos p p2 : Pos} {e : Expr} {es : List Expr} {f : Sl → Res D} {fs : Sl → Res (List D)} {x : Str} {id : String} {g : D → Option D}
theorem Reps.signs {K : PySem.W.Frag} {mg : Str → Option Value} {G : Hp} : ∀ l : List Nat, Reps K mg G (l.map fun c => V.str ⟨#[c]⟩) (l.map fun c => D.str ⟨#[c]⟩)
  | [] => .nil
  | c :: l => .cons (.str _) (Reps.signs l)
theorem ol_list (hc : X.calm = true) : OpL X T (.type "list") list2D := by
  refine ⟨_, CallR.or (cr_listS hc) call_list_of, fun G H x dx d Q e t rx hd q => ?_⟩
  have seq : ∀ ds, dx.items = some ds → d = .lst ds → ∃ p ys, [x] = [V.ref p] ∧ (SqL X.K H p ys ∨ SqT X.K H p ys) ∧ ∀ l, H l = none → Q (.ref l) (upd H l (.lst ys)) := fun ds h1 h2 => by
    subst h2
    obtain ⟨a, vs, rfl, h, hr⟩ := rx.items e h1
    exact ⟨a, vs, rfl, h, fun l hl => q G l vs ds (Ext.refl e t) rfl hr hl⟩
  cases dx with
  | str z =>
    have hd : (if z.length ≤ sizeLine then some (D.lst (z.cps.toList.map fun c => .str ⟨#[c]⟩)) else none) = some d := hd
    split at hd
    · rename_i c
      cases hd
      cases rR.str rx
      exact .inl ⟨z, rfl, c, fun p hp => q G p _ _ (Ext.refl e t) rfl (Reps.signs _) hp⟩
    · cases hd
  | tup xs => cases hd; exact .inr (seq xs rfl rfl)
  | ctup xs => cases hd; exact .inr (seq xs rfl rfl)
  | lst xs => cases hd; exact .inr (seq xs rfl rfl)
  | scr ns => cases hd; exact .inr (seq _ rfl rfl)
  | _ => cases hd
theorem ol_sorted (hc : X.calm = true) : OpL X T (.builtin "sorted") sortD := by
  refine ⟨_, cr_srt hc, fun G H x dx d Q e t rx hd q => ?_⟩
  cases dx with
  | lst xs =>
    obtain ⟨a, vs, rfl, h1, h2⟩ := rx.lst e
    exact .inl ⟨a, vs, rfl, .inl (.inl (.inl h1)), srt_any e t h2 hd fun ys es p z k hp => q G p ys es (Ext.refl e t) z k hp⟩
  | tup xs =>
    obtain ⟨a, vs, rfl, g1, h1, h2⟩ := rx.tup e
    exact .inl ⟨a, vs, rfl, .inr (.inl (.inl h1)), srt_any e t h2 hd fun ys es p z k hp => q G p ys es (Ext.refl e t) z k hp⟩
  | dct kds =>
    obtain ⟨a, kvs, rfl, h1, h2⟩ := rR.dct rx e
    refine .inr ⟨a, kvs, rfl, .inl h1, fun bs hk => ?_⟩
    have hd : (match D.pairs (kds.map fun p => .tup (p.1.map .int)) with | some ps => some (D.lst ((isort SrtO.lexB ps).map pairD)) | none => none) = some d := hd
    split at hd
    · rename_i ps ep
      cases hd
      obtain ⟨i1, i2⟩ := keys_pairs (H := H) h2 ep hk
      have x0 := Ext.tups e t
      refine srtEnd_pairs (X := X) (G := tupsOf G H) x0.gh t (fun x hx => ?_) i2 fun ys p k hp => q (tupsOf G H) p ys _ x0 rfl k hp
      obtain ⟨u, e1, e2⟩ := i1 x hx
      exact ⟨u, e1, tupsOf_at (T := T) e e2⟩
    · cases hd
  | _ => cases hd
theorem pxf_b1 (ho : OpL X T (.builtin id) g) (hg : Gl X x) (hm : X.mg x = none) (hv : bootBuiltins x = some (.builtin id)) (ha : PXr X T W M e f) (hn : x ≠ "__name__" := by decide) (hdb : (x == ("__debug__" : Str)) = false := by decide)
    (he : starEach [e] X.env = (false, eval e X.env) :: starEach [] X.env := by rfl) (hpl : (backTo pos (starEach [] X.env)).any (·.1) = false := by rfl) : PXf X T W M (.Call (.Name x p) [e] [] pos) (e1 g f) := by
  obtain ⟨r, hr, hg'⟩ := ho
  obtain ⟨ta, pa, qa⟩ := ha.run
  refine ⟨_, pe_callB hr hg hm hv (pa_cons pa pa_nil he) hn hdb he hpl, fun G0 H0 G H σ σd Q er o => ?_⟩
  refine qa _ _ _ _ _ _ _ er (o.seq fun dx G1 H1 v _ x1 rx o => ?_)
  obtain ⟨d, e, q⟩ := o.of
  refine hg' G1 H1 v dx d Q x1.gh x1.tb rx e fun G' p ys es x2 ed rs hp => ?_
  subst ed
  exact q _ _ _ (x2.trans (Ext.priv x2.gh x2.tb hp)) ⟨p, rfl, (NT.of hp).back x1.hh, x2.gh.none hp, .inl ⟨ys, es, rfl, upd_same, rs⟩⟩
theorem pxf_t1 (ho : OpL X T (.type id) g) (hg : Gl X x) (hm : X.mg x = none) (hv : bootBuiltins x = some (.type id)) (ha : PXr X T W M e f) (hn : x ≠ "__name__" := by decide) (hdb : (x == ("__debug__" : Str)) = false := by decide)
    (he : starEach [e] X.env = (false, eval e X.env) :: starEach [] X.env := by rfl) (hpl : (backTo pos (starEach [] X.env)).any (·.1) = false := by rfl) : PXf X T W M (.Call (.Name x p) [e] [] pos) (e1 g f) := by
  obtain ⟨r, hr, hg'⟩ := ho
  obtain ⟨ta, pa, qa⟩ := ha.run
  refine ⟨_, pe_callTy hr hg hm hv (pa_cons pa pa_nil he) hn hdb he hpl, fun G0 H0 G H σ σd Q er o => ?_⟩
  refine qa _ _ _ _ _ _ _ er (o.seq fun dx G1 H1 v _ x1 rx o => ?_)
  obtain ⟨d, e, q⟩ := o.of
  refine hg' G1 H1 v dx d Q x1.gh x1.tb rx e fun G' p ys es x2 ed rs hp => ?_
  subst ed
  exact q _ _ _ (x2.trans (Ext.priv x2.gh x2.tb hp)) ⟨p, rfl, (NT.of hp).back x1.hh, x2.gh.none hp, .inl ⟨ys, es, rfl, upd_same, rs⟩⟩
/-! ### what was one's own is so no more -/
def noNx (g : Sl → Res Fl) : Sl → Res Fl := fun σ => (g σ).bind fun fl => match fl with
  | .rt d => .ok (.rt d)
  | _ => .no
variable {sts : List Stmt} {gb : Sl → Res Fl}
theorem sss_frz (i : Nat) (M' : List Nat) (hi : i ∈ M) (h1 : ∀ j ∈ M', j ∈ M ∧ j ≠ i) (h2 : ∀ j ∈ M, j = i ∨ j ∈ M') (h : PXSs X T W M' sts gb) : PXSs X T W M sts (noNx gb) := by
  obtain ⟨t, p, q⟩ := h.run
  refine ⟨t, p, fun G0 H0 G H σ σd Z er o => ?_⟩
  have ends : ∀ G1, OutS X T W M' G0 H0 G1 (gb σd) Z := by
    intro G1
    unfold noNx at o
    revert o
    cases gb σd with
    | ok fl => cases fl with
      | nx _ => exact fun z => z.elim
      | rt d => exact id
      | bk _ => exact fun z => z.elim
      | ct _ => exact fun z => z.elim
    | ex c => exact id
    | no => exact id
  by_cases hd : ∃ d, σd[i]? = some (some d)
  · obtain ⟨d, hd⟩ := hd
    obtain ⟨a, hq, h0, hg, ho⟩ := er.own i d hi hd
    have key : ∀ o : HO, H a = some o → (∀ ps, o ≠ .tbl ps) → Rep X.K X.mg (upd G a o) (.ref a) d → ER X T M' G0 H0 (upd G a o) H σ σd := by
      intro o h3 no rp
      refine ⟨Ext.free er.ext h3 hg no h0, er.len, fun j dj hj e => ?_, fun j dj hj e => ?_, fun j k b hj hk e1 e2 e3 e4 => er.sep j k b (h1 j hj).1 (h1 k hk).1 e1 e2 e3 e4⟩
      · by_cases hji : j = i
        · subst hji
          rw [hd] at e; cases e
          exact ⟨_, hq, rp⟩
        · obtain ⟨v, e1, e2⟩ := er.imm j dj (fun z => (h2 j z).elim hji hj) e
          exact ⟨v, e1, Rep.mono (Sm.upd hg) _ _ e2⟩
      · obtain ⟨b, e1, e2, e3, e4⟩ := er.own j dj (h1 j hj).1 e
        have hne : b ≠ a := fun z => (h1 j hj).2 (er.sep j i a (h1 j hj).1 hi ⟨_, e⟩ ⟨_, hd⟩ (by rw [← z]; exact e1) hq)
        refine ⟨b, e1, e2, by rw [upd_ne hne]; exact e3, ?_⟩
        rcases e4 with ⟨vs, ds, e5, e6, e7⟩ | ⟨kvs, kds, e5, e6, e7⟩
        · exact .inl ⟨vs, ds, e5, e6, Reps.mono (Sm.upd hg) _ _ e7⟩
        · exact .inr ⟨kvs, kds, e5, e6, RepK.mono (Sm.upd hg) _ _ e7⟩
    rcases ho with ⟨vs, ds, rfl, h3, h4⟩ | ⟨kvs, kds, rfl, h3, h4⟩
    · exact q _ _ _ _ _ _ _ (key _ h3 (fun _ z => nomatch z) (.lst upd_same (Reps.mono (Sm.upd hg) _ _ h4))) (ends _)
    · exact q _ _ _ _ _ _ _ (key _ h3 (fun _ z => nomatch z) (.dct upd_same (RepK.mono (Sm.upd hg) _ _ h4))) (ends _)
  · refine q _ _ _ _ _ _ _ ⟨er.ext, er.len, fun j dj hj e => ?_, fun j dj hj e => er.own j dj (h1 j hj).1 e, fun j k b hj hk e1 e2 e3 e4 => er.sep j k b (h1 j hj).1 (h1 k hk).1 e1 e2 e3 e4⟩ (ends _)
    by_cases hji : j = i
    · subst hji; exact absurd ⟨dj, e⟩ hd
    · exact er.imm j dj (fun z => (h2 j z).elim hji hj) e
end
end PV
namespace PV
open PySem PySem.Spec L2
/-! ### names for the items of a list -/
def lstItems : D → Option (List D)
  | .lst xs => some xs
  | _ => none
def gtU (gs : List D → Sl → Option Sl) : D → Sl → Option Sl := fun d σ => (lstItems d).bind fun ds => gs ds σ
theorem gx_lst {X : Cx} {T : Tbs} {M : List Nat} {pos : Pos} {tgs : List Expr} {k : Nat} {ts : List Nat} {gs : List D → Sl → Option Sl} (hc : X.calm = true) (h : PGsx X T M tgs ts gs) (hl : ∀ ds σ σ', gs ds σ = some σ' → ds.length = tgs.length)
    (hn : (assignEach tgs X.env).length = tgs.length := by rfl) (hst : (assignEach tgs X.env).findIdx? (·.1) = none := by rfl) : PGx X T M (.Tuple tgs k pos) ts (gtU gs) := by
  obtain ⟨ta, pa, qa⟩ := h.run
  refine ⟨_, pg_unl hc pa hn hst, fun G0 H0 G H σ σd v d Q er r ⟨σd', e, q⟩ => ?_⟩
  unfold gtU at e
  cases d with
  | lst ds =>
    have e : gs ds σd = some σd' := e
    cases r with
    | @lst a vs _ h1 rs =>
    exact ⟨a, vs, rfl, .inl (.inl (er.gh _ _ h1).1), by rw [rs.length]; exact hl ds σd σd' e, qa _ _ _ _ _ _ _ _ _ er rs ⟨σd', e, q⟩⟩
  | _ => cases e
end PV
namespace L2
open PySem PySem.Spec PyProof.Rows
/-! dict(xs) of a list of pairs whose keys are tuples -/
abbrev QT := Addr × Addr × List Key × V
def mergeT (kvs : List (List Key × V)) (more : List QT) : List (List Key × V) := more.foldl (fun acc x => putK acc x.2.2.1 x.2.2.2) kvs
theorem mergeT_len : ∀ (more : List QT) (kvs : List (List Key × V)), (mergeT kvs more).length ≤ kvs.length + more.length
  | [], kvs => Nat.le_refl _
  | x :: more, kvs => by
    have h1 := mergeT_len more (putK kvs x.2.2.1 x.2.2.2)
    have h2 := length_putK kvs x.2.2.1 x.2.2.2
    show (mergeT (putK kvs x.2.2.1 x.2.2.2) more).length ≤ _
    rw [List.length_cons]; omega
theorem KT.merge {H : Hp} : ∀ {l : List QT} {ps : List (List Key × Addr × Value)} {kvs : List (List Key × V)} {xs : List (List Key × Addr × Value)},
    Paired (fun x p => p.1 = x.2.2.1 ∧ p.2.1 = x.2.1 ∧ H x.2.1 = some (.tup (x.2.2.1.map kV)) ∧ RelV x.2.2.2 p.2.2) l ps → KT H kvs xs → KT H (mergeT kvs l) (storedAllH xs ps)
  | _, _, kvs, xs, .nil, r => r
  | _, _, kvs, xs, .cons (a := x) (b := p) h t, r => by
    obtain ⟨h1, h2, h3, h4⟩ := h
    have := KT.put r x.2.2.1 h3 h4
    obtain ⟨pk, pa, pv⟩ := p
    dsimp only at h1 h2 h4
    subst h1 h2
    have ih := KT.merge t this
    exact ih
section
variable {X : Cx}
theorem qt_of {pins : List (Addr × Obj)} {σ : St} {H : Hp} {s : Shared} (I : Inv X pins σ H s) : ∀ {l : List QT}, (∀ x ∈ l, SqT X.K H x.1 [.ref x.2.1, x.2.2.2] ∧ H x.2.1 = some (.tup (x.2.2.1.map kV))) →
    ∃ ps : List (List Key × Addr × Value), Paired (fun x p => p.1 = x.2.2.1 ∧ p.2.1 = x.2.1 ∧ H x.2.1 = some (.tup (x.2.2.1.map kV)) ∧ RelV x.2.2.2 p.2.2) l ps ∧
      (∀ (j : Nat) (x : QT), l[j]? = some x → ∃ y, ps[j]? = some (x.2.2.1, x.2.1, y) ∧ IsTup s.heap x.1 #[.ref x.2.1, y]) ∧ ∀ p ∈ ps, (tupleKind (mixKind X.prog X.w)).is s.heap p.1 p.2.1
  | [], _ => ⟨[], .nil, fun j x e => by simp at e, fun _ h => nomatch h⟩
  | x :: l, h => by
    obtain ⟨ps, r, hj, hk⟩ := qt_of I fun y hy => h y (List.mem_cons_of_mem _ hy)
    obtain ⟨h1, h2⟩ := h x List.mem_cons_self
    obtain ⟨its, rv, ht, _⟩ := I.tuple h1
    obtain ⟨u, y, ei, ru, ry⟩ := vals2 rv
    subst ei
    cases (show u = Value.ref x.2.1 from ru)
    refine ⟨(x.2.2.1, x.2.1, y) :: ps, .cons ⟨rfl, rfl, h2, ry⟩ r, fun j z e => ?_, fun p hp => ?_⟩
    · cases j with
      | zero =>
        have e' : x = z := Option.some.inj e
        subst e'
        exact ⟨y, rfl, ht⟩
      | succ j =>
        obtain ⟨y', e1, e2⟩ := hj j z (by simpa using e)
        exact ⟨y', by simpa using e1, e2⟩
    · rcases List.mem_cons.mp hp with rfl | hp
      · exact key_of I.hok h2
      · exact hk p hp
def rDictT (K : PySem.W.Frag) : List V → Hp → VK → Prop := fun xs H Q => ∃ (a : Addr) (l : List QT), xs = [.ref a] ∧ SqL K H a (l.map fun x => V.ref x.1) ∧ (∀ x ∈ l, SqT K H x.1 [.ref x.2.1, x.2.2.2] ∧ H x.2.1 = some (.tup (x.2.2.1.map kV))) ∧
    ∀ p, H p = none → Q (.ref p) (upd H p (.dT (mergeT [] l)))
theorem call_dictT (hcalm : X.calm = true) (hu : X.A.units + 2 < cLine) : CallR X (.type "dict") (rDictT X.K) := by
  intro pins s σ H xs us Q I r q
  obtain ⟨a, l, ex, hq, hp, q⟩ := q
  subst ex
  obtain ⟨u, eu, rx⟩ := vals1 r
  subst eu
  cases rx
  obtain ⟨its, rv, pl, hz⟩ := I.list hq
  have ei := refs_at (ps := l.map (·.1)) (by rw [List.map_map]; exact rv)
  subst ei
  rw [List.length_map] at hz
  obtain ⟨ps, rel, hpr, hk⟩ := qt_of I hp
  have hlen : ps.length = l.length := rel.length.symm
  obtain ⟨o, n, ho, hc, hd, hdat⟩ := pl
  have P := PairArg.list (prog := X.prog) (w := X.w) a ((l.map (·.1)).map Value.ref).toArray (fun j => ((l[j]?).map (·.1)).getD 0) (ps.map fun p => (Value.ref p.2.1, p.2.2))
  refine call_dict_pairsH (knd := tupleKind (mixKind X.prog X.w)) (ps := ps) P (I.ok.hd hcalm) (show X.A.units + 2 < cLine from hu) ⟨⟨o, n, ho, hc, hd, hdat⟩, ?_, ?_⟩ ⟨?_, ?_⟩ ?_ ?_ fun h' tk hd' hkp => ?_
  · simp [hlen]
  · intro j k v e
    rw [List.getElem?_map] at e
    have hj : j < l.length := by
      cases z : ps[j]? with
      | none => rw [z] at e; cases e
      | some p => have := (List.getElem?_eq_some_iff.mp z).1; omega
    obtain ⟨x, hx⟩ : ∃ x, l[j]? = some x := ⟨_, List.getElem?_eq_getElem hj⟩
    obtain ⟨y, e1, e2⟩ := hpr j x hx
    rw [e1] at e
    cases e
    have eT : (fun j => ((l[j]?).map (·.1)).getD 0) j = x.1 := by simp [hx]
    rw [eT]
    refine ⟨?_, .inl e2⟩
    simp [hx]
  · simp
  · intro i key v e
    have e : (ps.map fun p => (Value.ref p.2.1, p.2.2))[i]? = some (key, v) := e
    rw [List.getElem?_map] at e
    cases z : ps[i]? with
    | none => rw [z] at e; cases e
    | some p => rw [z] at e; cases e; exact ⟨p.1, p.2.1, rfl, rfl⟩
  · intro h' hk' x hx
    obtain ⟨o', its', n', h1, h2⟩ := (hk x hx : (tupleKind (mixKind X.prog X.w)).is s.heap x.1 x.2.1)
    exact ⟨o', its', n', hk' _ _ (Nat.ne_of_lt (Heap.lt_size h1)) (fun z => nomatch z) h1, h2⟩
  · rw [List.length_map, hlen]; exact hz
  · have hm : (s.heap.objs.size == sysModules) = false := beq_eq_false_iff_ne.mpr (Nat.ne_of_gt I.big)
    have hl2 : (mergeT [] l).length ≤ sizeLine := by
      have := mergeT_len l []
      rw [List.length_nil, Nat.zero_add] at this
      omega
    obtain ⟨o', es, ep, g1, g2, g3, g4, _, g5⟩ := hd'
    have hnone := I.hok.fresh (Nat.le_refl s.heap.objs.size)
    have rel' : KT (upd H s.heap.objs.size (.dT (mergeT [] l))) (mergeT [] l) (storedAllH [] ps) :=
      (KT.merge rel .nil).keeps fun b ys eb => by rw [upd_ne (ne_of_none eb hnone)]; exact eb
    exact ⟨.ref s.heap.objs.size, upd H s.heap.objs.size (.dT (mergeT [] l)), I.laid (t' := tk) (fun b o e => hkp b o (fun z => nomatch z) e) (Nat.le_refl _) (show ObjOk X.prog X.w _ _ _ (.dT (mergeT [] l)) from ⟨hl2, hm, _, rel', o', es, ep, g1, g2, g3, g4, g5⟩), rfl, q _ hnone⟩
end
end L2
namespace PV
open PySem PySem.Spec L2
/-! ### dicts -/
def putD (kds : List (List Int × D)) (k : List Int) (d : D) : List (List Int × D) :=
  if (kds.any fun p => decide (p.1 = k)) = true then kds.map (fun p => if p.1 = k then (p.1, d) else p) else kds ++ [(k, d)]
def findD (kds : List (List Int × D)) (k : List Int) : Option D := (kds.find? fun p => decide (p.1 = k)).map (·.2)
/-- the pairs of a list of pairs -/
def D.kvs : List D → Option (List (List Int × D))
  | [] => some []
  | .tup [k, v] :: r => match k.key, D.kvs r with
    | some k, some s => some ((k, v) :: s)
    | _, _ => none
  | _ :: _ => none
def dictD : D → Option D
  | .lst xs => (D.kvs xs).map fun l => .dct (l.foldl (fun acc p => putD acc p.1 p.2) [])
  | _ => none
def dgetD : D → D → Option D
  | .dct kds, k => k.key.bind fun k => findD kds k
  | _, _ => none
def dinD : D → D → Option D
  | k, .dct kds => k.key.map fun k => .bl (findD kds k).isSome
  | _, _ => none
def dninD : D → D → Option D
  | k, .dct kds => k.key.map fun k => .bl (!(findD kds k).isSome)
  | _, _ => none
def sPut (i : Nat) (fk fv : Sl → Res D) : Sl → Res Fl := fun σ => match σ[i]? with
  | some (some (.dct kds)) => (fv σ).bind fun v => (fk σ).bind fun k => match k.key with
    | some k => if kds.length < sizeLine then .ok (.nx (σ.set i (some (.dct (putD kds k v))))) else .no
    | none => .no
  | _ => .no
theorem inl_inj {k l : List Int} : k.map (Sum.inl : Int → Key) = l.map Sum.inl ↔ k = l :=
  ⟨fun h => (List.map_inj_right (fun a b e => Sum.inl.inj e)).mp h, fun h => by rw [h]⟩
section
variable {K : PySem.W.Frag} {mg : Str → Option Value} {G : Hp}
theorem RepK.length : ∀ {kvs : List (List Key × V)} {kds : List (List Int × D)}, RepK K mg G kvs kds → kvs.length = kds.length
  | _, [], h => by cases h; rfl
  | _, _ :: _, h => by cases h with | cons _ h2 => simp [RepK.length h2]
theorem RepK.append : ∀ {kvs kvs' : List (List Key × V)} {kds kds' : List (List Int × D)}, RepK K mg G kvs kds → RepK K mg G kvs' kds' → RepK K mg G (kvs ++ kvs') (kds ++ kds')
  | _, _, [], _, h, k => by cases h; exact k
  | _, _, (_, _) :: _, _, h, k => by cases h with | cons h1 h2 => exact .cons h1 (RepK.append h2 k)
theorem RepK.any (k : List Int) : ∀ {kvs : List (List Key × V)} {kds : List (List Int × D)}, RepK K mg G kvs kds → (kvs.any fun kv => decide (kv.1 = k.map Sum.inl)) = kds.any fun p => decide (p.1 = k)
  | _, [], h => by cases h; rfl
  | _, (l, _) :: _, h => by
    cases h with
    | cons _ h2 =>
      rw [List.any_cons, List.any_cons, RepK.any k h2]
      congr 1
      simp only [inl_inj]
theorem RepK.repl (k : List Int) {v : V} {d : D} (r : Rep K mg G v d) : ∀ {kvs : List (List Key × V)} {kds : List (List Int × D)}, RepK K mg G kvs kds →
    RepK K mg G (kvs.map fun kv => if kv.1 = k.map Sum.inl then (kv.1, v) else kv) (kds.map fun p => if p.1 = k then (p.1, d) else p)
  | _, [], h => by cases h; exact .nil
  | _, (l, _) :: _, h => by
    cases h with
    | cons h1 h2 =>
      rw [List.map_cons, List.map_cons]
      have ih := RepK.repl k r h2
      by_cases e : l = k
      · rw [if_pos (by rw [inl_inj]; exact e), if_pos e]; exact .cons r ih
      · rw [if_neg (by rw [inl_inj]; exact e), if_neg e]; exact .cons h1 ih
theorem RepK.put {kvs : List (List Key × V)} {kds : List (List Int × D)} (h : RepK K mg G kvs kds) (k : List Int) {v : V} {d : D} (r : Rep K mg G v d) : RepK K mg G (putK kvs (k.map Sum.inl) v) (putD kds k d) := by
  unfold putK putD
  rw [RepK.any k h]
  split
  · exact RepK.repl k r h
  · exact h.append (.cons r .nil)
theorem RepK.find (k : List Int) : ∀ {kvs : List (List Key × V)} {kds : List (List Int × D)}, RepK K mg G kvs kds → match findD kds k with
    | some d => ∃ v, valV kvs (k.map Sum.inl) = some v ∧ Rep K mg G v d
    | none => valV kvs (k.map Sum.inl) = none
  | _, [], h => by cases h; rfl
  | _, (l, d) :: kds, h => by
    cases h with
    | @cons _ v kvs _ _ h1 h2 =>
      have ih := RepK.find k h2
      by_cases e : l = k
      · have e1 : findD ((l, d) :: kds) k = some d := by unfold findD; simp [List.find?_cons, e]
        rw [e1]
        exact ⟨_, valV_pos (by rw [inl_inj]; exact e), h1⟩
      · have e1 : findD ((l, d) :: kds) k = findD kds k := by unfold findD; simp [List.find?_cons, e]
        rw [e1, valV_neg (p := (l.map Sum.inl, v)) (by rw [inl_inj]; exact e)]
        exact ih
theorem kV_ints (ns : List Int) : (ns.map (Sum.inl : Int → Key)).map kV = ns.map V.int := by
  rw [List.map_map]; rfl
end
section
variable {X : Cx} {T : Tbs} {W : WX} {M : List Nat} {pos p p2 : Pos} {e e' : Expr} {es : List Expr} {f fa fb : Sl → Res D} {fs : Sl → Res (List D)} {x : Str} {id : String} {g : D → Option D}
/-- what makes a new dict -/
def OpK (X : Cx) (T : Tbs) (f : Value) (g : D → Option D) : Prop :=
  ∃ r : List V → Hp → VK → Prop, CallR X f r ∧ ∀ G H x dx d Q, Vw G H → LamX.Tabs T H → rR X G H x dx → g dx = some d →
    (∀ G' p ys es, Ext T G H G' H → d = .dct es → RepK X.K X.mg G' ys es → H p = none → Q (.ref p) (upd H p (.dT ys))) → r [x] H Q
theorem kvs_qt {G H : Hp} (e : Vw G H) : ∀ {ds : List D} {l : List (List Int × D)} {vs : List V}, D.kvs ds = some l → Reps X.K X.mg G vs ds →
    ∃ q : List QT, vs = q.map (fun x => V.ref x.1) ∧ (∀ x ∈ q, SqT X.K H x.1 [.ref x.2.1, x.2.2.2] ∧ H x.2.1 = some (.tup (x.2.2.1.map kV))) ∧ RepK X.K X.mg G (q.map fun x => (x.2.2.1, x.2.2.2)) l
  | [], l, _, h, r => by cases h; cases r; exact ⟨[], rfl, fun _ h => (nomatch h), .nil⟩
  | d :: ds, l, _, h, r => by
    unfold D.kvs at h
    split at h
    · cases ‹_ = []›
    · rename_i k v r' e0
      cases e0
      split at h
      · rename_i kn s hk hs
        cases h
        cases r with
        | cons r1 r2 =>
        cases r1 with
        | @tup a us _ g1 g2 =>
        cases g2 with
        | @cons v1 _ _ _ k1 k2 =>
        cases k2 with
        | @cons v2 _ _ _ k3 k4 =>
        cases k4
        obtain ⟨b, rfl, hb⟩ := k1.key hk
        obtain ⟨q, e1, e2, e3⟩ := kvs_qt e hs r2
        refine ⟨(a, b, kn.map Sum.inl, v2) :: q, by rw [e1]; rfl, fun x hx => ?_, .cons k3 e3⟩
        rcases List.mem_cons.mp hx with rfl | hx
        · exact ⟨.inl (.inl (e _ _ g1).1), by rw [kV_ints]; exact (e _ _ hb).1⟩
        · exact e2 x hx
      · cases h
    · cases h
theorem merge_rep {G : Hp} : ∀ {q : List QT} {l : List (List Int × D)} {kvs : List (List Key × V)} {kds : List (List Int × D)}, RepK X.K X.mg G (q.map fun x => (x.2.2.1, x.2.2.2)) l → RepK X.K X.mg G kvs kds →
    RepK X.K X.mg G (mergeT kvs q) (l.foldl (fun acc p => putD acc p.1 p.2) kds)
  | [], l, kvs, kds, h, r => by cases h; exact r
  | x :: q, l, kvs, kds, h, r => by
    obtain ⟨a, b, k, v⟩ := x
    cases h with
    | @cons kn _ _ d _ h1 h2 =>
      have ih := merge_rep h2 (r.put kn h1)
      exact ih
theorem ok_dict (hc : X.calm = true) (hu : X.A.units + 2 < cLine) : OpK X T (.type "dict") dictD := by
  refine ⟨_, call_dictT hc hu, fun G H x dx d Q e t rx hd q => ?_⟩
  unfold dictD at hd
  split at hd
  · rename_i xs
    rw [Option.map_eq_some_iff] at hd
    obtain ⟨l, hl, rfl⟩ := hd
    obtain ⟨a, vs, rfl, h1, h2⟩ := rx.lst e
    obtain ⟨qs, e1, e2, e3⟩ := kvs_qt e hl h2
    subst e1
    exact ⟨a, qs, rfl, SqL.of h1, e2, fun p hp => q G p _ _ (Ext.refl e t) rfl (merge_rep e3 .nil) hp⟩
  · cases hd
theorem pxf_k1 (ho : OpK X T (.type id) g) (hg : Gl X x) (hm : X.mg x = none) (hv : bootBuiltins x = some (.type id)) (ha : PXr X T W M e f) (hn : x ≠ "__name__" := by decide) (hdb : (x == ("__debug__" : Str)) = false := by decide)
    (he : starEach [e] X.env = (false, eval e X.env) :: starEach [] X.env := by rfl) (hpl : (backTo pos (starEach [] X.env)).any (·.1) = false := by rfl) : PXf X T W M (.Call (.Name x p) [e] [] pos) (e1 g f) := by
  obtain ⟨r, hr, hg'⟩ := ho
  obtain ⟨ta, pa, qa⟩ := ha.run
  refine ⟨_, pe_callTy hr hg hm hv (pa_cons pa pa_nil he) hn hdb he hpl, fun G0 H0 G H σ σd Q er o => ?_⟩
  refine qa _ _ _ _ _ _ _ er (o.seq fun dx G1 H1 v _ x1 rx o => ?_)
  obtain ⟨d, e, q⟩ := o.of
  refine hg' G1 H1 v dx d Q x1.gh x1.tb rx e fun G' p ys es x2 ed rs hp => ?_
  subst ed
  exact q _ _ _ (x2.trans (Ext.priv x2.gh x2.tb hp)) ⟨p, rfl, (NT.of hp).back x1.hh, x2.gh.none hp, .inr ⟨ys, es, rfl, upd_same, rs⟩⟩
/-- {} -/
theorem pxf_dnew : PXf X T W M (.Dict [] [] pos) (eC (.dct [])) := by
  refine ⟨_, pe_dnewT, fun G0 H0 G H σ σd Q er o => ?_⟩
  intro p hp
  exact o _ _ _ (Ext.priv er.gh er.tb hp) ⟨p, rfl, NT.of hp, er.gh.none hp, .inr ⟨[], [], rfl, upd_same, .nil⟩⟩
theorem rR.dctT {G H : Hp} {v : V} {kds : List (List Int × D)} (r : rR X G H v (.dct kds)) (e : Vw G H) : ∃ a kvs, v = .ref a ∧ H a = some (.dT kvs) ∧ RepK X.K X.mg G kvs kds := by
  rcases r with r | ⟨a, rfl, _, ⟨vs, ds', z, h1, h2⟩ | ⟨kvs, kds', z, h1, h2⟩⟩
  · cases r with | dct h1 h2 => exact ⟨_, _, rfl, (e _ _ h1).1, h2⟩
  · cases z
  · cases z; exact ⟨a, kvs, rfl, h1, h2⟩
theorem rR.key {G H : Hp} {v : V} {d : D} {ns : List Int} (r : rR X G H v d) (e : Vw G H) (h : d.key = some ns) : ∃ b, v = .ref b ∧ H b = some (.tup ((ns.map (Sum.inl : Int → Key)).map kV)) := by
  rcases r with r | ⟨a, rfl, _, ⟨vs, ds', rfl, h1, h2⟩ | ⟨kvs, kds', rfl, h1, h2⟩⟩
  · obtain ⟨b, e1, hb⟩ := r.key h
    exact ⟨b, e1, by rw [kV_ints]; exact (e _ _ hb).1⟩
  · cases h
  · cases h
/-- d[k] -/
theorem px_dget (hu : X.A.units + 1 < cLine) (ha : PXr X T W M e fa) (hb : PX X T W M e' fb) (hs : NoSl e') : PX X T W M (.Subscript e e' pos) (e2 dgetD fa fb) := by
  obtain ⟨ta, pa, qa⟩ := ha.run
  obtain ⟨tb, pb, qb⟩ := hb.run
  refine ⟨_, pe_dget hu pa pb hs, fun G0 H0 G H σ σd Q er o => ?_⟩
  refine qa _ _ _ _ _ _ _ er (o.seq fun dx G1 H1 x _ x1 rx o => ?_)
  refine qb _ _ _ _ _ _ _ (er.to x1) (o.seq fun dy G2 H2 y _ x2 ry o => ?_)
  obtain ⟨d, hd, q⟩ := o.of
  unfold dgetD at hd
  split at hd
  · rename_i kds k
    rw [Option.bind_eq_some_iff] at hd
    obtain ⟨kn, hk, hd⟩ := hd
    obtain ⟨a, kvs, rfl, h1, h2⟩ := rR.dctT (rR.mono rx x2) x2.gh
    obtain ⟨b, rfl, hb⟩ := rR.key (.inl ry) x2.gh hk
    have := RepK.find kn h2
    rw [hd] at this
    obtain ⟨v, e1, rv⟩ := this
    exact ⟨a, v, rfl, by rw [← e1]; exact DGet.t h1 hb, Ext.q0 q x2.gh x2.tb rv⟩
  · cases hd
theorem din_aux {G H : Hp} {kds : List (List Int × D)} {kn : List Int} {kvs : List (List Key × V)} (h2 : RepK X.K X.mg G kvs kds) : (valV kvs (kn.map Sum.inl)).isSome = (findD kds kn).isSome := by
  have := RepK.find kn h2
  cases z : findD kds kn with
  | none => rw [z] at this; rw [this]; rfl
  | some d => rw [z] at this; obtain ⟨v, e, _⟩ := this; rw [e]; rfl
theorem px_din (hu : X.A.units + 1 < cLine) (ha : PX X T W M e fa) (hb : PXr X T W M e' fb) (hm : behindInMarks .In e' = false) : PX X T W M (.Compare e [.In] [e'] pos) (e2 dinD fa fb) := by
  obtain ⟨ta, pa, qa⟩ := ha.run
  obtain ⟨tb, pb, qb⟩ := hb.run
  refine ⟨_, pe_cmp (pc_din hu pa pb) hm, fun G0 H0 G H σ σd Q er o => ?_⟩
  refine qa _ _ _ _ _ _ _ er (o.seq fun dx G1 H1 x _ x1 rx o => ?_)
  refine qb _ _ _ _ _ _ _ (er.to x1) (o.seq fun dy G2 H2 y _ x2 ry o => ?_)
  obtain ⟨d, hd, q⟩ := o.of
  unfold dinD at hd
  split at hd
  · rename_i k kds
    rw [Option.map_eq_some_iff] at hd
    obtain ⟨kn, hk, rfl⟩ := hd
    obtain ⟨a, kvs, rfl, h1, h2⟩ := rR.dctT ry x2.gh
    obtain ⟨b, rfl, hb⟩ := rR.key (.inl (Rep.mono x2.gg _ _ rx)) x2.gh hk
    refine ⟨a, _, rfl, DGet.t h1 hb, ?_⟩
    rw [din_aux (X := X) (H := H2) h2]
    exact Ext.q0 q x2.gh x2.tb (.bl _)
  · cases hd
theorem px_dnotin (hu : X.A.units + 1 < cLine) (ha : PX X T W M e fa) (hb : PXr X T W M e' fb) (hm : behindInMarks .NotIn e' = false) : PX X T W M (.Compare e [.NotIn] [e'] pos) (e2 dninD fa fb) := by
  obtain ⟨ta, pa, qa⟩ := ha.run
  obtain ⟨tb, pb, qb⟩ := hb.run
  refine ⟨_, pe_cmp (pc_dnotin hu pa pb) hm, fun G0 H0 G H σ σd Q er o => ?_⟩
  refine qa _ _ _ _ _ _ _ er (o.seq fun dx G1 H1 x _ x1 rx o => ?_)
  refine qb _ _ _ _ _ _ _ (er.to x1) (o.seq fun dy G2 H2 y _ x2 ry o => ?_)
  obtain ⟨d, hd, q⟩ := o.of
  unfold dninD at hd
  split at hd
  · rename_i k kds
    rw [Option.map_eq_some_iff] at hd
    obtain ⟨kn, hk, rfl⟩ := hd
    obtain ⟨a, kvs, rfl, h1, h2⟩ := rR.dctT ry x2.gh
    obtain ⟨b, rfl, hb⟩ := rR.key (.inl (Rep.mono x2.gg _ _ rx)) x2.gh hk
    refine ⟨a, _, rfl, DGet.t h1 hb, ?_⟩
    rw [din_aux (X := X) (H := H2) h2]
    exact Ext.q0 q x2.gh x2.tb (.bl _)
  · cases hd
/-- d[k] = v, d one's own -/
theorem ss_dput {i : Nat} {p' : Pos} (hu : X.A.units + 1 < cLine) (hv : PE X (.Name x p) (tVar i)) (hM : i ∈ M) (hk : PX X T W M e fa) (he : PX X T W M e' fb) (hs : swapsWith e' (some (.Subscript (.Name x p) e p')) pos.line X.env = pure false := by rfl) :
    PXS X T W M (.Assign [.Subscript (.Name x p) e p'] e' pos) (sPut i fa fb) := by
  obtain ⟨ta, pa, qa⟩ := hk.run
  obtain ⟨tb, pb, qb⟩ := he.run
  refine ⟨_, ps_dput hu hv pa pb hs, fun G0 H0 G H σ σd Z er o => ?_⟩
  unfold sPut at o
  split at o
  · rename_i kds e0
    refine qb _ _ _ _ _ _ _ er (OutS.seq (X := X) o fun dv G1 H1 v _ x1 rv o => ?_)
    have er1 := er.to x1
    obtain ⟨a, q, h0, hg, ho⟩ := er1.own i _ hM e0
    refine ⟨_, q, ?_⟩
    refine qa _ _ _ _ _ _ _ er1 (OutS.seq (X := X) o fun dk G2 H2 y _ x2 ry o => ?_)
    have er2 := er1.to x2
    obtain ⟨a', q', h0', hg', ho'⟩ := er2.own i _ hM e0
    rw [q] at q'; cases q'
    rcases ho' with ⟨vs, ds', z, h1, h2⟩ | ⟨kvs, kds', z, h1, h2⟩
    · cases z
    · cases z
      cases hk : dk.key with
      | none => rw [hk] at o; exact o.elim
      | some kn =>
        rw [hk] at o
        have o : OutS X T W M G0 H0 G2 (if kds.length < sizeLine then .ok (.nx (σd.set i (some (.dct (putD kds kn dv))))) else .no) Z := o
        by_cases c : kds.length < sizeLine
        · rw [if_pos c] at o
          obtain ⟨b, rfl, hb⟩ := rR.key (.inl ry) x2.gh hk
          refine ⟨a, _, rfl, DPut.t h1 hb (by rw [h2.length]; exact c), ?_⟩
          exact o _ _ _ (Sm.refl _) (er2.put hM e0 q h1 Mo.dct ⟨hg', .inr ⟨_, _, rfl, upd_same, h2.put kn (Rep.mono x2.gg _ _ rv)⟩⟩)
        · rw [if_neg c] at o; exact o.elim
  · exact o.elim
end
end PV
namespace PV
theorem hu2_of {a b : Nat} (h : a + 65 < b) : a + 2 < b := by omega
end PV
namespace PV
open PySem PySem.Spec L2
/-! ### told: a lambda asked under try -/
section
variable {X : Cx}
/-- list.count(True) of truth values -/
def rCntB (K : PySem.W.Frag) : V → List V → Hp → VK → Prop := fun x xs H Q => ∃ (p : Addr) (bs : List Bool), x = .ref p ∧ xs = [.bl true] ∧ SqL K H p (bs.map V.bl) ∧ Q (.int (bs.count true : Nat)) H
theorem flat_bls (bs : List Bool) : (bs.map V.bl).all flatV = true := by
  rw [List.all_eq_true]
  intro v hv
  obtain ⟨b, _, rfl⟩ := List.mem_map.mp hv
  rfl
theorem cnt_bls : ∀ {bs : List Bool} {its : List Value}, Vals (bs.map V.bl) its → its.countP (eqU (.bl true)) = bs.count true
  | [], _, h => by cases h; rfl
  | b :: bs, _, h => by
    cases h with
    | @cons _ u _ us r t =>
      have ih := cnt_bls t
      cases r
      rw [List.countP_cons, ih, List.count_cons]
      cases b <;> rfl
theorem mt_bcount : MtR X "list.count" (rCntB X.K) := by
  intro pins s σ H x xs v us Q I rx rxs h
  obtain ⟨p, bs, rfl, rfl, hs, q⟩ := h
  cases rx
  obtain ⟨u, rfl, ru⟩ := rxs.one
  obtain ⟨its, rv, ⟨⟨cls, dd, data, sl⟩, n, ho, hc, hdn, hd⟩, hlen⟩ := I.list hs
  simp only at hc hd
  subst hc hd
  refine call_meets PySem.F.slot_list_count ⟨_, ho, rfl⟩ PySem.F.entry_list_count (PySem.F.args_list_count_2 _ _)
    (SeqAt.list_countAt p its.toArray n dd sl u (eqU (.bl true))) ⟨ho, fun y hy => (mem_eqAt ru rfl rv (flat_bls bs) y (by simpa using hy)), ?_⟩
  refine ⟨.int (bs.count true : Nat), H, I.tok _, ⟨s.toks, ?_⟩, q⟩
  show Value.int ((its.toArray.toList.countP (eqU (.bl true)) : Nat) : Int) s.toks = Value.int ((bs.count true : Nat) : Int) s.toks
  rw [show its.toArray.toList = its from rfl, cnt_bls rv]
end
/-- what a caught class must say -/
structure ToldC (K : PySem.W.Frag) (C0 : Addr) (cs : List Addr) (c : Addr) (k : Nat) : Prop where
  e : ExcC K c
  m : PySem.W.exmOne K (.ref c) (.ref C0) = some true
  v : PySem.W.kitOne K (.ref c) (.type "ValueError") = some true
  i : ∀ (j : Nat) (d : Addr), cs[j]? = some d → PySem.W.kitOne K (.ref c) (.ref d) = some (decide (j = k))
def toldNames : List Str := ["NoCell", "TooMany", "NoWay", "NoDeed", "NoText"]
structure ToldX (K : PySem.W.Frag) (mg : Str → Option Value) (C0 c0 c1 c2 c3 c4 : Addr) : Prop where
  g : mg "LookError" = some (.ref C0)
  g0 : mg "NoCell" = some (.ref c0)
  g1 : mg "TooMany" = some (.ref c1)
  g2 : mg "NoWay" = some (.ref c2)
  g3 : mg "NoDeed" = some (.ref c3)
  g4 : mg "NoText" = some (.ref c4)
  k0 : ToldC K C0 [c0, c1, c2, c3, c4] c0 0
  k1 : ToldC K C0 [c0, c1, c2, c3, c4] c1 1
  k2 : ToldC K C0 [c0, c1, c2, c3, c4] c2 2
  k3 : ToldC K C0 [c0, c1, c2, c3, c4] c3 3
  k4 : ToldC K C0 [c0, c1, c2, c3, c4] c4 4
/-- the suite: the list of truths -/
def bits5 (k : Nat) : List Bool := [decide (0 = k), decide (1 = k), decide (2 = k), decide (3 = k), decide (4 = k)]
section
variable {X : Cx} {C0 c0 c1 c2 c3 c4 : Addr}
theorem isi_e {Y : Cx} {a D : Addr} {oe : Obj} {pn : List (Addr × Obj)} {C : Addr} {c : Str} {p1 p2 p3 pos : Pos} (eY : Y = X.suite a ((a, oe) :: pn)) (hc : ExcC X.K D) (hz : Zc (.ref D) none oe) (hf : ∃ vs, oe.data = .fields vs) (he : Y.N[2]? = some ("e" : Str)) (hv : Vis Y.env.scope "e")
    (hg : Gl Y "isinstance") (hm : Y.mg "isinstance" = none) (hgc : Gl Y c) (hmc : Y.mg c = some (.ref C)) (hdc : (c == ("__debug__" : Str)) = false) :
    PE Y (.Call (.Name "isinstance" p1) [.Name "e" p2, .Name c p3] [] pos) (tCB (rIsE X.K D a) (tCons (tVar 2) (tCons (tC (.ref C)) tNil))) := by
  subst eY
  exact pe_callB (call_isE hc hz hf) hg hm PyProof.Rows.boot_isinstance (pa_cons (pv 2 he hv) (pa_cons (pe_glob hgc hmc rfl hdc) pa_nil (by rfl)) (by rfl)) (by decide) (by decide) (by rfl) (by rfl)
theorem isi_v {Y : Cx} {a D : Addr} {oe : Obj} {pn : List (Addr × Obj)} {p1 p2 p3 pos : Pos} (eY : Y = X.suite a ((a, oe) :: pn)) (hc : ExcC X.K D) (hz : Zc (.ref D) none oe) (hf : ∃ vs, oe.data = .fields vs) (he : Y.N[2]? = some ("e" : Str)) (hv : Vis Y.env.scope "e")
    (hg : Gl Y "isinstance") (hm : Y.mg "isinstance" = none) (hgc : Gl Y "ValueError") (hmc : Y.mg "ValueError" = none) :
    PE Y (.Call (.Name "isinstance" p1) [.Name "e" p2, .Name "ValueError" p3] [] pos) (tCB (rIsE X.K D a) (tCons (tVar 2) (tCons (tC (.ty "ValueError")) tNil))) := by
  subst eY
  exact pe_callB (call_isE hc hz hf) hg hm PyProof.Rows.boot_isinstance (pa_cons (pv 2 he hv) (pa_cons (pe_bltn (v := .ty "ValueError") hgc hmc (by decide +kernel) rfl (by decide) (by decide)) pa_nil (by rfl)) (by rfl)) (by decide) (by decide) (by rfl) (by rfl)
/-- the names of told's scope -/
structure ToldS (sc : Scope) : Prop where
  f : sc.names.lookup ("_law_found" : Str) = some NameKind.local
  d : sc.names.lookup ("_law_deed" : Str) = some NameKind.local
  e : sc.names.lookup ("e" : Str) = some NameKind.local
  k : sc.names.lookup ("_law_kinds" : Str) = some NameKind.local
  i : sc.names.lookup ("isinstance" : Str) = some NameKind.globalImplicit
  v : sc.names.lookup ("ValueError" : Str) = some NameKind.globalImplicit
  l : sc.names.lookup ("LookError" : Str) = some NameKind.globalImplicit
  c0 : sc.names.lookup ("NoCell" : Str) = some NameKind.globalImplicit
  c1 : sc.names.lookup ("TooMany" : Str) = some NameKind.globalImplicit
  c2 : sc.names.lookup ("NoWay" : Str) = some NameKind.globalImplicit
  c3 : sc.names.lookup ("NoDeed" : Str) = some NameKind.globalImplicit
  c4 : sc.names.lookup ("NoText" : Str) = some NameKind.globalImplicit
abbrev NT5 : List Str := ["_law_deed", "_law_found", "e", "_law_kinds"]
theorem told_suite {a D : Addr} {oe : Obj} {pn : List (Addr × Obj)} {k : Nat} (S : ToldS X.env.scope) (hN : X.N = NT5) (hm : X.mg "isinstance" = none) (hmv : X.mg "ValueError" = none) (T : ToldX X.K X.mg C0 c0 c1 c2 c3 c4) (hk : ToldC X.K C0 [c0, c1, c2, c3, c4] D k) (hk5 : k < 5)
    (hz : Zc (.ref D) none oe) (hf : ∃ vs, oe.data = .fields vs) {q1 q2 q3 q4 q5 q6 q7 q8 q9 q10 q11 q12 q13 q14 q15 q16 q17 q18 q19 q20 q21 q22 q23 q24 q25 q26 q27 q28 q29 q30 q31 q32 q33 q34 q35 q36 q37 q38 q39 q40 q41 q42 q43 q44 q45 q46 q47 q48 q49 q50 q51 q52 q53 : Pos} (h21 : (q21.endLine == q26.line) = true) (h39 : (q39.endLine == q41.line) = true) (h48 : (q48.endLine == q50.line) = true) :
    ∃ t, PSs (X.suite a ((a, oe) :: pn)) [
      .Assign [.Name "_law_kinds" q1] (.List [.Call (.Name "isinstance" q2) [.Name "e" q3, .Name "NoCell" q4] [] q5, .Call (.Name "isinstance" q6) [.Name "e" q7, .Name "TooMany" q8] [] q9, .Call (.Name "isinstance" q10) [.Name "e" q11, .Name "NoWay" q12] [] q13, .Call (.Name "isinstance" q14) [.Name "e" q15, .Name "NoDeed" q16] [] q17] q18) q19,
      .Expr (.Call (.Attribute (.Name "_law_kinds" q20) "append" q21) [.Call (.Name "isinstance" q22) [.Name "e" q23, .Name "NoText" q24] [] q25] [] q26) q27,
      .Assign [.Name "_law_found" q28] (.Tuple [.Constant (.str "refused") 0 q29, .UnaryOp .USub (.Constant (.int 1) 0 q30) q31] 0 q32) q33,
      .If (.BoolOp .And [.Call (.Name "isinstance" q34) [.Name "e" q35, .Name "ValueError" q36] [] q37, .Compare (.Call (.Attribute (.Name "_law_kinds" q38) "count" q39) [.Constant (.bool true) 0 q40] [] q41) [.Eq] [.Constant (.int 1) 0 q42] q43] q44)
        [.Assign [.Name "_law_found" q45] (.Tuple [.Constant (.str "refused") 0 q46, .Call (.Attribute (.Name "_law_kinds" q47) "index" q48) [.Constant (.bool true) 0 q49] [] q50] 0 q51) q52] [] q53] t ∧
      ∀ (σ : St) (H : Hp) (Z : Ends), σ.length = 4 → σ[2]? = some (some (.ref a)) → H a = none → (∀ σ' H' p, σ'.length = 4 → (∀ b o, H b = some o → H' b = some o) → σ'[1]? = some (some (.ref p)) → H p = none → H' p = some (.tup [.str "refused", .int k]) → Z.nx σ' H') → t Z σ H := by
  have nd : (X.suite a ((a, oe) :: pn)).N.Nodup := by show X.N.Nodup; rw [hN]; decide +kernel
  have n1 : (X.suite a ((a, oe) :: pn)).N[1]? = some ("_law_found" : Str) := by show X.N[1]? = _; rw [hN]; rfl
  have n2 : (X.suite a ((a, oe) :: pn)).N[2]? = some ("e" : Str) := by show X.N[2]? = _; rw [hN]; rfl
  have n3 : (X.suite a ((a, oe) :: pn)).N[3]? = some ("_law_kinds" : Str) := by show X.N[3]? = _; rw [hN]; rfl
  have ve : Vis (X.suite a ((a, oe) :: pn)).env.scope "e" := .inl S.e
  have vk : Vis (X.suite a ((a, oe) :: pn)).env.scope "_law_kinds" := .inl S.k
  have i0 := fun {p1 p2 p3 pos} => isi_e (Y := X.suite a ((a, oe) :: pn)) (p1 := p1) (p2 := p2) (p3 := p3) (pos := pos) rfl hk.e hz hf n2 ve S.i hm S.c0 T.g0 (by decide)
  have i1 := fun {p1 p2 p3 pos} => isi_e (Y := X.suite a ((a, oe) :: pn)) (p1 := p1) (p2 := p2) (p3 := p3) (pos := pos) rfl hk.e hz hf n2 ve S.i hm S.c1 T.g1 (by decide)
  have i2 := fun {p1 p2 p3 pos} => isi_e (Y := X.suite a ((a, oe) :: pn)) (p1 := p1) (p2 := p2) (p3 := p3) (pos := pos) rfl hk.e hz hf n2 ve S.i hm S.c2 T.g2 (by decide)
  have i3 := fun {p1 p2 p3 pos} => isi_e (Y := X.suite a ((a, oe) :: pn)) (p1 := p1) (p2 := p2) (p3 := p3) (pos := pos) rfl hk.e hz hf n2 ve S.i hm S.c3 T.g3 (by decide)
  have i4 := fun {p1 p2 p3 pos} => isi_e (Y := X.suite a ((a, oe) :: pn)) (p1 := p1) (p2 := p2) (p3 := p3) (pos := pos) rfl hk.e hz hf n2 ve S.i hm S.c4 T.g4 (by decide)
  have iv := fun {p1 p2 p3 pos} => isi_v (Y := X.suite a ((a, oe) :: pn)) (p1 := p1) (p2 := p2) (p3 := p3) (pos := pos) rfl hk.e hz hf n2 ve S.i hm S.v hmv
  have bC := pe_bm (X := X.suite a ((a, oe) :: pn)) (apos := q39) (cpos := q41) PySem.F.plainAttrs_list PySem.F.slot_list_count PySem.F.type_list_count mt_bcount (pv (pos := q38) 3 n3 vk) (pa_cons (pe_bl (b := true) (pos := q40) (j := 0)) pa_nil (by rfl)) (by rfl) (by rfl) h39
  refine ⟨_, pss_cons (ps_set (i := 3) nd n3 (.inl S.k) (pe_lst (pa_cons i0 (pa_cons i1 (pa_cons i2 (pa_cons i3 pa_nil))))) (by rfl) (.inr S.k))
    (pss_cons (ps_expr (pe_bm PySem.F.plainAttrs_list PySem.F.slot_list_append PySem.F.type_list_append mt_append (pv 3 n3 vk) (pa_cons i4 pa_nil) (by rfl) (by rfl) h21))
    (pss_cons (ps_set (i := 1) nd n1 (.inl S.f) (pe_tup (pa_cons pe_str (pa_cons (pe_un un_neg pe_int) pa_nil))) (by rfl) (.inr S.f))
    (pss_one (ps_if (PW.pt (pw_and (pt_val iv) (pw_and1 (pt_cmpR op_eq bC pe_int (nomark _)))))
      (pss_one (ps_set (i := 1) nd n1 (.inl S.f) (pe_tup (pa_cons pe_str (pa_cons (pe_bm PySem.F.plainAttrs_list PySem.F.slot_list_index PySem.F.type_list_index mt_index (pv 3 n3 vk) (pa_cons pe_bl pa_nil) (by rfl) (by rfl) h48) pa_nil))) (by rfl) (.inr S.f)))
      pss_nil)))), fun σ H Z hl he ha hq => ?_⟩
  have cv : ∀ (c : Addr) (u : Value), RelV (.ref c) u → u = .ref c := fun c u r => by cases r; rfl
  refine ⟨.ref a, he, .ref c0, .ref c0, decide (0 = k), rfl, cv _, hk.i 0 c0 rfl, ?_⟩
  refine ⟨.ref a, he, .ref c1, .ref c1, decide (1 = k), rfl, cv _, hk.i 1 c1 rfl, ?_⟩
  refine ⟨.ref a, he, .ref c2, .ref c2, decide (2 = k), rfl, cv _, hk.i 2 c2 rfl, ?_⟩
  refine ⟨.ref a, he, .ref c3, .ref c3, decide (3 = k), rfl, cv _, hk.i 3 c3 rfl, ?_⟩
  refine ⟨by show 4 ≤ sizeLine; decide, fun p hp => ?_⟩
  have s3 : (σ.set 3 (some (V.ref p)))[3]? = some (some (.ref p)) := by rw [List.getElem?_set_self (by omega)]
  have s2 : (σ.set 3 (some (V.ref p)))[2]? = some (some (.ref a)) := by rw [List.getElem?_set_ne (by decide)]; exact he
  have l3 : (σ.set 3 (some (V.ref p))).length = 4 := by rw [List.length_set]; exact hl
  show tSeq _ _ _ (σ.set 3 (some (V.ref p))) _
  generalize σ.set 3 (some (V.ref p)) = σ1 at s2 s3 l3
  refine ⟨.ref p, s3, .inl ⟨rfl, _, SqL.of upd_same⟩, .ref a, s2, .ref c4, .ref c4, decide (4 = k), rfl, cv _, hk.i 4 c4 rfl, p, _, _, rfl, rfl, upd_same, by show 4 < sizeLine; decide, ?_⟩
  rw [upd_upd]
  show tSeq _ _ _ σ1 (upd H p (.lst ((bits5 k).map V.bl)))
  have hcnt : (bits5 k).count true = 1 := by
    match k, hk5 with
    | 0, _ => rfl
    | 1, _ => rfl
    | 2, _ => rfl
    | 3, _ => rfl
    | 4, _ => rfl
  have hix : ∃ z, ((bits5 k).map V.bl)[k]? = some z ∧ eqV z (.bl true) = true ∧ ∀ (m : Nat) (z' : V), m < k → ((bits5 k).map V.bl)[m]? = some z' → eqV z' (.bl true) = false := by
    refine ⟨.bl true, ?_, rfl, fun m z' hm h => ?_⟩
    · match k, hk5 with
      | 0, _ => rfl
      | 1, _ => rfl
      | 2, _ => rfl
      | 3, _ => rfl
      | 4, _ => rfl
    · rw [List.getElem?_map] at h
      have : (bits5 k)[m]? = some false := by
        match k, hk5, m, hm with
        | 1, _, 0, _ => rfl
        | 2, _, 0, _ => rfl
        | 2, _, 1, _ => rfl
        | 3, _, 0, _ => rfl
        | 3, _, 1, _ => rfl
        | 3, _, 2, _ => rfl
        | 4, _, 0, _ => rfl
        | 4, _, 1, _ => rfl
        | 4, _, 2, _ => rfl
        | 4, _, 3, _ => rfl
      rw [this] at h
      cases h
      rfl
  obtain ⟨z, hz1, hz2, hz3⟩ := hix
  generalize hb : bits5 k = bs at *
  refine ⟨1, rfl, by show 2 ≤ sizeLine; decide, fun T1 hT1 => ?_⟩
  have hp1 : upd (upd H p (HO.lst (bs.map V.bl))) T1 (.tup [.str "refused", .int (-1)]) p = some (.lst (bs.map V.bl)) := by rw [upd_ne (fun e => by rw [← e, upd_same] at hT1; cases hT1)]; exact upd_same
  have s3' : (σ1.set 1 (some (V.ref T1)))[3]? = some (some (.ref p)) := by rw [List.getElem?_set_ne (by decide)]; exact s3
  have s2' : (σ1.set 1 (some (V.ref T1)))[2]? = some (some (.ref a)) := by rw [List.getElem?_set_ne (by decide)]; exact s2
  have l3' : (σ1.set 1 (some (V.ref T1))).length = 4 := by rw [List.length_set]; exact l3
  dsimp only [gName]
  have hH2 : ∀ b o, H b = some o → upd (upd H p (HO.lst (bs.map V.bl))) T1 (.tup [.str "refused", .int (-1)]) b = some o := fun b o e => by
    have n1 : b ≠ p := fun z => by rw [z, hp] at e; cases e
    rw [upd_ne, upd_ne n1]
    · exact e
    · intro z; rw [← z, upd_ne n1, e] at hT1; cases hT1
  generalize σ1.set 1 (some (V.ref T1)) = σ2 at s3' s2' l3'
  generalize upd (upd H p (HO.lst (bs.map V.bl))) T1 (.tup [.str "refused", .int (-1)]) = H2 at hp1 hH2
  refine ⟨.ref a, s2', .ty "ValueError", .type "ValueError", true, rfl, fun u r => by cases r; rfl, hk.v, true, rfl, ?_⟩
  dsimp only
  rw [if_pos rfl]
  refine ⟨.ref p, s3', .inl ⟨rfl, _, SqL.of hp1⟩, p, bs, rfl, rfl, SqL.of hp1, rfl, _, rfl, ?_⟩
  rw [hcnt]
  refine (show ∀ (G : Prop) (B : Bool), B = true → (B = true → G) → G from fun G B h g => g h) _ _ rfl fun _ => ?_
  refine ⟨.ref p, s3', .inl ⟨rfl, _, SqL.of hp1⟩, p, _, _, k, z, rfl, rfl, SqL.of hp1, rfl, flat_bls bs, hz1, hz2, hz3, by show 2 ≤ sizeLine; decide, fun T2 hT2 => ?_⟩
  refine hq _ _ T2 (by rw [List.length_set]; exact l3') (fun b o e => ?_) (List.getElem?_set_self (by omega)) ?_ upd_same
  · rw [upd_ne (fun z => by rw [← z, hH2 b o e] at hT2; cases hT2)]; exact hH2 b o e
  · cases e : H T2 with
    | none => rfl
    | some o => rw [hH2 _ _ e] at hT2; cases hT2
theorem pe_imp {e : Expr} {t : TE} (h : PE X e t) : PE X e (fun σ H Q => ∃ Q0 : VK, t σ H Q0 ∧ ∀ v H1, Q0 v H1 → Q v H1) := by
  refine ⟨fun pins s σ H Q I h' => ?_⟩
  obtain ⟨Q0, h1, h2⟩ := h'
  exact wpAny_mono (h.run pins s σ H Q0 I h1) (fun u s1 ⟨v, H1, I1, r1, q1⟩ => ⟨v, H1, I1, r1, h2 v H1 q1⟩) fun e s1 q => q
/-- what told makes of what it asks -/
def TTold5 (K : PySem.W.Frag) (C0 : Addr) (cs : List Addr) : (XK → Hp → VK → Prop) → Hp → VK → Prop := fun tl H Q =>
  tl (fun cls d H' => ∃ (D : Addr) (k : Nat), cls = .ref D ∧ d = none ∧ k < 5 ∧ ToldC K C0 cs D k ∧ ∀ H'' p, (∀ b o, H' b = some o → H'' b = some o) → H' p = none → H'' p = some (.tup [.str "refused", .int k]) → Q (.ref p) H'') H
    (fun v H' => ∀ p, H' p = none → Q (.ref p) (upd H' p (.tup [.str "told", v])))
theorem told_gives5 {sg : Scope} {g : Addr} {cdg : Value} {q : Str} (S : ToldS sg) (hm : X.mg "isinstance" = none) (hmv : X.mg "ValueError" = none) (T : ToldX X.K X.mg C0 c0 c1 c2 c3 c4)
    {q1 q2 q3 q4 q5 q6 q7 q8 q9 q10 q11 q12 q13 q14 q15 q16 q17 q18 q19 q20 q21 q22 q23 q24 q25 q26 q27 q28 q29 q30 q31 q32 q33 q34 q35 q36 q37 q38 q39 q40 q41 q42 q43 q44 q45 q46 q47 q48 q49 q50 q51 q52 q53 r1 r2 r3 r4 r5 r6 r7 r8 r9 r10 r11 : Pos} (h21 : (q21.endLine == q26.line) = true) (h39 : (q39.endLine == q41.line) = true) (h48 : (q48.endLine == q50.line) = true) :
    LamX.GivesTo X NT5 "_law_told" sg g cdg [
      .Try [.Assign [.Name "_law_found" r1] (.Tuple [.Constant (.str "told") 0 r2, .Call (.Name "_law_deed" r3) [] [] r4] 0 r5) r6]
        [.ExceptHandler (some (.Name "LookError" r7)) (some "e") [
      .Assign [.Name "_law_kinds" q1] (.List [.Call (.Name "isinstance" q2) [.Name "e" q3, .Name "NoCell" q4] [] q5, .Call (.Name "isinstance" q6) [.Name "e" q7, .Name "TooMany" q8] [] q9, .Call (.Name "isinstance" q10) [.Name "e" q11, .Name "NoWay" q12] [] q13, .Call (.Name "isinstance" q14) [.Name "e" q15, .Name "NoDeed" q16] [] q17] q18) q19,
      .Expr (.Call (.Attribute (.Name "_law_kinds" q20) "append" q21) [.Call (.Name "isinstance" q22) [.Name "e" q23, .Name "NoText" q24] [] q25] [] q26) q27,
      .Assign [.Name "_law_found" q28] (.Tuple [.Constant (.str "refused") 0 q29, .UnaryOp .USub (.Constant (.int 1) 0 q30) q31] 0 q32) q33,
      .If (.BoolOp .And [.Call (.Name "isinstance" q34) [.Name "e" q35, .Name "ValueError" q36] [] q37, .Compare (.Call (.Attribute (.Name "_law_kinds" q38) "count" q39) [.Constant (.bool true) 0 q40] [] q41) [.Eq] [.Constant (.int 1) 0 q42] q43] q44)
        [.Assign [.Name "_law_found" q45] (.Tuple [.Constant (.str "refused") 0 q46, .Call (.Attribute (.Name "_law_kinds" q47) "index" q48) [.Constant (.bool true) 0 q49] [] q50] 0 q51) q52] [] q53] r8] [] [] r9,
      .Return (some (.Name "_law_found" r10)) r11] "_law_deed" q (TTold5 X.K C0 [c0, c1, c2, c3, c4]) := by
  intro f c' s H Q tl act hc h
  generalize eZ : (cxOf C8.CX0 X.prog X.w X.K X.mg X.base NT5 "_law_told" sg g cdg X.A X.stack s H C8.E0) = Z at act ⊢
  have zN : Z.N = NT5 := by subst eZ; rfl
  have zK : Z.K = X.K := by subst eZ; rfl
  have zm : Z.mg = X.mg := by subst eZ; rfl
  have zs : Z.env.scope = sg := by subst eZ; rfl
  have z1 : Z.stack = Z.env :: Z.outer := by subst eZ; rfl
  have z2 : Z.env.frame = some Z.env.locals := by subst eZ; rfl
  have z3 : Z.env.kindOf "e" = some .local := by subst eZ; exact S.e
  have nd : Z.nox.N.Nodup := by show Z.N.Nodup; rw [zN]; decide +kernel
  have n1 : Z.nox.N[1]? = some ("_law_found" : Str) := by show Z.N[1]? = _; rw [zN]; rfl
  have n2 : Z.nox.N[2]? = some ("e" : Str) := by show Z.N[2]? = _; rw [zN]; rfl
  have S' : ToldS Z.nox.env.scope := by show ToldS Z.env.scope; rw [zs]; exact S
  refine ⟨_, pss_cons (ps_try_as (X := Z.nox) (i := 2) (c := .ref C0)
      (tb := fun W D σ H => ∃ Ech : XK, (∀ cls d σ' H', σ'.length = 4 → Ech cls d H' → W cls d σ' H') ∧ σ[0]? = some (some (.ref f)) ∧ σ.length = 4 ∧ H c' = some (LamX.CodeO c' q) ∧ ∃ Q0 : VK, tl Ech H Q0 ∧ ∀ v H1, Q0 v H1 → ∀ p, H1 p = none → D.nx (σ.set 1 (some (.ref p))) (upd H1 p (.tup [.str "told", v])))
      (ts := fun a cls d Dn σ H => ∃ (D : Addr) (k : Nat), cls = .ref D ∧ d = none ∧ k < 5 ∧ ToldC X.K C0 [c0, c1, c2, c3, c4] D k ∧ σ.length = 4 ∧ σ[2]? = some (some (.ref a)) ∧ H a = none ∧
        (∀ σ' H' p, σ'.length = 4 → (∀ b o, H b = some o → H' b = some o) → σ'[1]? = some (some (.ref p)) → H p = none → H' p = some (.tup [.str "refused", .int k]) → Dn.nx σ' H'))
      z1 z2 nd n2 z3 ⟨S'.l, by decide, .inl (by show Z.mg "LookError" = _; rw [zm]; exact T.g)⟩ LamX.takes0 (fun W pn xe tk _ => ?_) (fun a oe cls d pn hz hf => ?_))
    (pss_one (ps_ret (pv 1 n1 (.inl S'.f)))), ?_⟩
  · refine ⟨fun pins s' σ H' D I h' => ?_⟩
    obtain ⟨Ech, hW, h1, h2, h3, Q0, h4, h5⟩ := h'
    have tk' : Takes (Z.tr pn xe) (fun cls d σ H => σ.length = 4 → W cls d σ H) := fun u s' ⟨a, B, sI, pins, σ, H, cls, d, e, I, nb, up, sky, na, os, ag, w⟩ =>
      tk u s' ⟨a, B, sI, pins, σ, H, cls, d, e, I, nb, up, sky, na, os, ag, w (by rw [I.len]; show Z.N.length = 4; rw [zN]; rfl)⟩
    have hp := act (fun cls d σ H => σ.length = 4 → W cls d σ H) pn xe Ech r3 r4 tk' (fun cls d σ' H' e hl => hW cls d σ' H' hl e)
    have hq := pss_one (ps_set (X := Z.nox.tr pn xe) (pos' := r1) (pos := r6) (i := 1) nd n1 (.inl S'.f) (pe_tup (x1 := 0) (pos := r5) (pa_cons (pe_str (x := "told") (j := 0) (pos := r2)) (pa_cons (pe_imp hp) pa_nil))) (by rfl) (.inr S'.f))
    exact hq.run pins s' σ H' D I ⟨Q0, ⟨h1, h3, h4⟩, fun v H1 k1 => ⟨by show 2 ≤ sizeLine; decide, fun p hp => h5 v H1 k1 p hp⟩⟩
  · refine ⟨fun pins s' σ H' Dn I h' => ?_⟩
    obtain ⟨D, k, rfl, rfl, hk5, hk, hl, he, ha, hq⟩ := h'
    obtain ⟨t, p, r⟩ := told_suite (X := Z.nox) (a := a) (oe := oe) (pn := pn) S' zN (by show Z.mg _ = _; rw [zm]; exact hm) (by show Z.mg _ = _; rw [zm]; exact hmv) (by show ToldX Z.K Z.mg C0 c0 c1 c2 c3 c4; rw [zK, zm]; exact T) (by show ToldC Z.K C0 _ D k; rw [zK]; exact hk) hk5 hz hf h21 h39 h48
    exact p.run pins s' σ H' Dn I (r σ H' Dn hl he ha hq)
  · refine ⟨_, fun cls d σ' H' hl e => ?_, rfl, rfl, hc, _, h, fun v H1 k1 p hp => ?_⟩
    · obtain ⟨D, k, rfl, rfl, hk5, hk, r⟩ := e
      refine ⟨true, by show PySem.W.exmOne Z.K _ _ = _; rw [zK]; exact hk.m, fun _ a ha => ?_, fun z => nomatch z⟩
      refine ⟨D, k, rfl, rfl, hk5, hk, by rw [List.length_set]; exact hl, List.getElem?_set_self (by omega), ha, fun σ2 H2 p l2 e2 p2 n2 t2 => ?_⟩
      refine ⟨.ref p, ?_, r H2 p e2 n2 t2⟩
      rw [List.getElem?_set_ne (by decide)]; exact p2
    · refine ⟨.ref p, List.getElem?_set_self (by show 1 < 4; decide), k1 p hp⟩
end
/-! ### a def of which the code object is known -/
theorem fn_pureC {P : Program} {w : World} {K : PySem.W.Frag} {mg : Str → Option Value} {base : Heap} {nm qual : Str} {st : Stmt} {f : Addr} {kV doc pm : Value} {an od : Option Addr} {cdv ct oc : Value} {osl : Array (Option Value)} {N ps : List Str} {k : Nat} {T : Tbs} {M : List Nat} {g : Sl → Res Fl}
    (lk : K.lookup f = some ⟨oc, od, .func (PySem.W.fnOf nm qual (defArgs st) (defBody st) (defScope st) .none kV doc pm an cdv ct), osl⟩) (hcd : PySem.W.codeIn K cdv qual = true) (S : FnScope N ps (defScope st)) (hNp : ps.length ≤ N.length) (hM : ∀ i ∈ M, ps.length ≤ i)
    (hb : ∀ (A : Around) (outer : List Env) (s : Shared) (H : Hp) (E : XK) (X : Cx), X = cxOf (L2.CX P w) P w K mg base N qual (defScope st) f cdv A outer s H E → Room k X.A → Takes X (fun cls d _ H => E cls d H) → PXSs X T (fun cls d _ H => E cls d H) M (defBody st) g) :
    FnOk P w K mg base (L2.CX P w) (k + 1) f (PySem.W.fnOf nm qual (defArgs st) (defBody st) (defScope st) .none kV doc pm an cdv ct) ps (spR K mg T ps.length (runF N ps.length g)) := by
  refine fn_of lk hcd S (fun vs H Q E h => ?_) (fun A outer s H vs Q E hr h => ?_)
  · obtain ⟨G, ds, _, _, _, hn, _⟩ := h; exact hn
  obtain ⟨G, ds, hv, ht, rs, hn, h⟩ := h
  obtain ⟨t, p, q⟩ := (hb A outer s H E _ rfl hr (takes_of rfl rfl rfl rfl)).run
  refine ⟨t, p, q G H G H _ (startD N ds) _ ⟨Ext.refl hv ht, ?_, fun i d _ e => rs.start i d e, fun i d hi e => ?_, fun i j a hi hj ⟨d, e⟩ _ _ _ => ?_⟩ ?_⟩
  · rw [start_len (by omega)]; unfold startD; rw [List.length_append, List.length_map, List.length_replicate, ← rs.length]; omega
  · exfalso
    unfold startD at e
    have := hM i hi
    rw [List.getElem?_append_right (by rw [List.length_map, ← rs.length]; omega), List.getElem?_replicate] at e
    split at e <;> cases e
  · exfalso
    unfold startD at e
    have := hM i hi
    rw [List.getElem?_append_right (by rw [List.length_map, ← rs.length]; omega), List.getElem?_replicate] at e
    split at e <;> cases e
  · unfold runF at h
    rw [if_pos (by rw [← rs.length]; exact hn)] at h
    cases z : g (startD N ds) with
    | ok fl =>
      rw [z] at h
      cases fl with
      | nx σ' => exact fun G' H' σ _ er => h G' H' .non er.ext .non
      | rt d => exact fun G' H' v x r => h G' H' v x r
      | bk _ => exact h.elim
      | ct _ => exact h.elim
    | ex c => rw [z] at h; exact fun C H' σ' hc hs ht => h C H' hc hs ht
    | no => rw [z] at h; exact h.elim
structure DefAtC (K : PySem.W.Frag) (mg : Str → Option Value) (x : Str) (st : Stmt) (c : Addr) : Prop where
  ex : ∃ (f : Addr) (oc : Value) (od : Option Addr) (kV doc pm : Value) (an : Option Addr) (ct : Value) (osl : Array (Option Value)), mg x = some (.ref f) ∧ PySem.W.keepIn K (.ref f) = true ∧
    K.lookup f = some ⟨oc, od, .func (PySem.W.fnOf x x (defArgs st) (defBody st) (defScope st) .none kV doc pm an (.ref c) ct), osl⟩ ∧ PySem.W.codeIn K (.ref c) x = true
theorem fn_calC {P : Program} {w : World} {K : PySem.W.Frag} {mg : Str → Option Value} {base : Heap} {T : Tbs} {x : Str} {st : Stmt} {c : Addr} {N ps : List Str} {M : List Nat} {g : Sl → Res Fl} (k : Nat) (F : DefAtC K mg x st c) (S : FnScope N ps (defScope st)) (hNp : ps.length ≤ N.length) (hM : ∀ i ∈ M, ps.length ≤ i)
    (hb : ∀ (kV doc pm : Value) (an : Option Addr) (cdv ct : Value) (us : List Value), us.length = ps.length → bindArgs (PySem.W.fnOf x x (defArgs st) (defBody st) (defScope st) .none kV doc pm an cdv ct) ⟨us, []⟩ = pure (ps.zip us))
    (hd : ∀ (f : Addr) (A : Around) (outer : List Env) (s : Shared) (H : Hp) (E : XK), Room k (cxOf (L2.CX P w) P w K mg base N x (defScope st) f (.ref c) A outer s H E).A → Takes (cxOf (L2.CX P w) P w K mg base N x (defScope st) f (.ref c) A outer s H E) (fun cls d _ H => E cls d H) →
      PXSs (cxOf (L2.CX P w) P w K mg base N x (defScope st) f (.ref c) A outer s H E) T (fun cls d _ H => E cls d H) M (defBody st) g) :
    Cal P w K mg base T x ps (k + 1) (runF N ps.length g) := by
  obtain ⟨f, oc, od, kV, doc, pm, an, ct, osl, m, kp, lk, hcd⟩ := F.ex
  refine ⟨f, _, fn_pureC lk hcd S hNp hM fun A outer s H E X hX hr tk => ?_, (Fun.mk ⟨oc, od, kV, doc, pm, an, .ref c, ct, osl, rfl, lk, hcd⟩ kp : L2.Fun K x x st f _).binds hb, kp, m, ⟨oc, od, osl, lk⟩⟩
  subst hX
  exact hd f A outer s H E hr tk
/-! ### the call -/
/-- told's def -/
structure ToldDef (st : Stmt) : Prop where
  b : ∀ (kV doc pm : Value) (an : Option Addr) (cdv ct : Value) (us : List Value), us.length = 1 → bindArgs (PySem.W.fnOf "_law_told" "_law_told" (defArgs st) (defBody st) (defScope st) .none kV doc pm an cdv ct) ⟨us, []⟩ = pure ((["_law_deed"] : List Str).zip us)
  s : FnScope NT5 ["_law_deed"] (defScope st)
  n : ToldS (defScope st)
  g : ∀ (X : Cx) (C0 c0 c1 c2 c3 c4 g : Addr) (cdg : Value) (q : Str), X.mg "isinstance" = none → X.mg "ValueError" = none → ToldX X.K X.mg C0 c0 c1 c2 c3 c4 → LamX.GivesTo X NT5 "_law_told" (defScope st) g cdg (defBody st) "_law_deed" q (TTold5 X.K C0 [c0, c1, c2, c3, c4])
structure ToldK (K : PySem.W.Frag) (mg : Str → Option Value) (st : Stmt) : Prop where
  d : DefAt K mg "_law_told" st
  t : ToldDef st
  x : ∃ C0 c0 c1 c2 c3 c4, ToldX K mg C0 c0 c1 c2 c3 c4
  i : mg "isinstance" = none
  v : mg "ValueError" = none
def toldD : Res D → Res D
  | .ok d => .ok (.tup [.str "told", d])
  | .ex c => match toldIx c with
    | some k => .ok (.tup [.str "refused", .int k])
    | none => .no
  | .no => .no
/-- one's own names left out -/
def hide (M : List Nat) (σ : Sl) : Sl := M.foldl (fun s i => s.set i none) σ
def eTold (M : List Nat) (f : Sl → Res D) : Sl → Res D := fun σ => toldD (f (hide M σ))
theorem hide_len (M : List Nat) : ∀ σ : Sl, (hide M σ).length = σ.length := by
  unfold hide
  induction M with
  | nil => intro σ; rfl
  | cons i M ih => intro σ; rw [List.foldl_cons, ih, List.length_set]
theorem hide_at (M : List Nat) : ∀ (σ : Sl) (j : Nat) (d : D), (hide M σ)[j]? = some (some d) → j ∉ M ∧ σ[j]? = some (some d) := by
  unfold hide
  induction M with
  | nil => exact fun σ j d h => ⟨List.not_mem_nil, h⟩
  | cons i M ih =>
    intro σ j d h
    rw [List.foldl_cons] at h
    obtain ⟨h1, h2⟩ := ih _ _ _ h
    by_cases e : j = i
    · subst e
      rw [List.getElem?_set] at h2
      split at h2
      · split at h2 <;> cases h2
      · rename_i z; exact absurd rfl z
    · rw [List.getElem?_set_ne (fun z => e z.symm)] at h2
      exact ⟨fun hm => (List.mem_cons.mp hm).elim e h1, h2⟩
theorem toldX_cls {K : PySem.W.Frag} {mg : Str → Option Value} {C0 c0 c1 c2 c3 c4 C : Addr} {c : Str} {k : Nat} (T : ToldX K mg C0 c0 c1 c2 c3 c4) (h : toldIx c = some k) (hm : mg c = some (.ref C)) : k < 5 ∧ ToldC K C0 [c0, c1, c2, c3, c4] C k := by
  unfold toldIx at h
  split at h
  · rename_i e; subst e; cases h; rw [T.g0] at hm; cases hm; exact ⟨by decide, T.k0⟩
  · split at h
    · rename_i e; subst e; cases h; rw [T.g1] at hm; cases hm; exact ⟨by decide, T.k1⟩
    · split at h
      · rename_i e; subst e; cases h; rw [T.g2] at hm; cases hm; exact ⟨by decide, T.k2⟩
      · split at h
        · rename_i e; subst e; cases h; rw [T.g3] at hm; cases hm; exact ⟨by decide, T.k3⟩
        · split at h
          · rename_i e; subst e; cases h; rw [T.g4] at hm; cases hm; exact ⟨by decide, T.k4⟩
          · cases h
theorem Ext.tbl {T : Tbs} {G H H1 : Hp} (h : Vw G H) (e : LamX.ExtN H H1) (t : LamX.Tabs T H1) : Ext T G H G H1 :=
  ⟨fun b o q n => e b o q n, Sm.refl _, h.to fun b o q n => e b o q n, fun _ _ h _ _ => h, t⟩
theorem px_told {X : Cx} {T : Tbs} {W : WX} {M : List Nat} {st : Stmt} {c P : Addr} {k : Nat} {p lpos pos : Pos} {params : Arguments} {body : Expr} {scope : Scope} {f : Sl → Res D} (TK : ToldK X.K X.mg st) (hg : Gl X "_law_told")
    (TB : LamX.TabB X.base X.mg c P) (hcode : X.env.code = .ref c) (hmT : (P, X.env.qual ++ "<lambda>") ∈ T) (hu : ∀ p ∈ T, p.1 = P → p.2 = X.env.qual ++ "<lambda>") (hr : Room (k + 2) X.A) (L : LamX.LamS X.env.scope scope) (hdef : defaultsOf params X.env = ([], []))
    (hbind : ∀ (q : Str) (cl : List (Str × Addr)) (pm cv ctv : Value), bindArgs (PySem.W.kla_fn "<lambda>" q params body scope cl pm cv ctv) ⟨[], []⟩ = pure [])
    (hbody : ∀ (A : Around) (outer : List Env) (s : Shared) (H : Hp) (E : XK) (f' c' : Addr), Room k (A.deeper (LamX.lamEnv X scope s.heap.objs.size f' c')) → Takes (LamX.lamCx X A outer s H E scope f' c') (fun cls d _ H => E cls d H) → PX (LamX.lamCx X A outer s H E scope f' c') T (fun cls d _ H => E cls d H) [] body f) :
    PX X T W M (.Call (.Name "_law_told" p) [.Lambda params body scope lpos] [] pos) (eTold M f) := by
  obtain ⟨C0, c0, c1, c2, c3, c4, TX⟩ := TK.x
  obtain ⟨g, fd, F, m⟩ := TK.d.ex
  obtain ⟨oc, od, kV, doc, pm, an, cdv, ct, osl, rfl, lk, hcd⟩ := F.ex
  have hPE : ∀ (A : Around) (outer : List Env) (s : Shared) (H : Hp) (E : XK) (f' c' : Addr), Room k (A.deeper (LamX.lamEnv X scope s.heap.objs.size f' c')) →
      PE (LamX.lamCx X A outer s H E scope f' c') body ((fun E σ H Q => ∃ G0 H0 G σd, ER X T [] G0 H0 G H σ σd ∧ Out X T (fun cls d _ H => E cls d H) H0 (rV X) (f σd) G H Q : XK → TE) E) := fun A outer s H E f' c' hr' => by
    obtain ⟨t, pt, qt⟩ := (hbody A outer s H E f' c' hr' (takes_of rfl rfl rfl rfl)).run
    exact ⟨fun pins s σ H Q I h => by
      obtain ⟨G0, H0, G, σd, er, o⟩ := h
      exact pt.run pins s σ H Q I (qt G0 H0 G H σ σd Q ⟨er.ext, er.len, er.imm, er.own, er.sep⟩ o)⟩
  refine ⟨_, LamX.pe_lamcall (T := T) (TT := TTold5 X.K C0 [c0, c1, c2, c3, c4]) hg m F.kp lk hcd (F.binds TK.t.b) TK.t.s rfl (.inl TK.t.n.d) (TK.t.g X C0 c0 c1 c2 c3 c4 g cdv _ TK.i TK.v TX) TB hcode hmT hu hr L hdef hbind hPE, fun G0 H0 G H σ σd Q er o => ?_⟩
  refine ⟨er.ext.tb, fun H1 eN T1 => ?_⟩
  have x1 : Ext T G H G H1 := Ext.tbl er.ext.gh eN T1
  refine ⟨G, H1, G, hide M σd, ⟨Ext.refl x1.gh T1, by rw [hide_len]; exact er.len, fun i d _ e => ?_, fun i d hi => absurd hi List.not_mem_nil, fun i j a hi => absurd hi List.not_mem_nil⟩, ?_⟩
  · obtain ⟨h1, h2⟩ := hide_at M σd i d e
    exact er.imm i d h1 h2
  · have o : Out X T W H0 (rV X) (toldD (f (hide M σd))) G H Q := o
    cases e : f (hide M σd) with
    | no => rw [e] at o; exact o.elim
    | ok d =>
      rw [e] at o
      intro G' H' v x r p hp
      exact o _ _ _ (x1.trans (x.trans (Ext.new x.gh x.tb hp fun _ z => nomatch z))) (.tup upd_same (.cons (.str _) (.cons (Rep.mono (Sm.upd (x.gh.none hp)) _ _ r) .nil)))
    | ex c' =>
      rw [e] at o
      intro C H' σ' hm sm tb
      have o : Out X T W H0 (rV X) (match toldIx c' with | some k => Res.ok (.tup [.str "refused", .int k]) | none => .no) G H Q := o
      cases ei : toldIx c' with
      | none => rw [ei] at o; exact o.elim
      | some k =>
        rw [ei] at o
        obtain ⟨hk5, hk⟩ := toldX_cls TX ei hm
        refine ⟨C, k, rfl, rfl, hk5, hk, fun H'' p e2 hp et => ?_⟩
        have gp : G p = none := (x1.gh.to sm).none hp
        have sm2 : Sm H H'' := fun b ob q n => e2 b ob (sm b ob (x1.hh b ob q n) n)
        refine o (upd G p (.tup [.str "refused", .int k])) H'' (.ref p) ⟨sm2, Sm.upd gp, fun b ob q => ?_, fun a ob h1 h2 mo => ?_, tb.ext e2⟩ (.tup upd_same (.cons (.str _) (.cons (.int _) .nil)))
        · by_cases eb : b = p
          · subst eb; rw [upd_same] at q; cases q; exact ⟨et, fun _ z => nomatch z⟩
          · rw [upd_ne eb] at q; exact (er.ext.gh.to sm2) b ob q
        · have : a ≠ p := fun z => by
            have := sm a ob (x1.hh a ob h2 mo.nt) mo.nt
            rw [z, hp] at this; cases this
          rw [upd_ne this]; exact h1
end PV
namespace PV
open PySem PySem.Spec L2 PyProof.Rows
/-! ### the end, for texts with lambdas -/
/-- H without its tables -/
def noTb (H : Hp) : Hp := fun a => match H a with
  | some (.tbl _) => none
  | o => o
theorem noTb_vw (H : Hp) : Vw (noTb H) H := fun b o q => by
  unfold noTb at q
  split at q
  · cases q
  · rename_i h; refine ⟨q, fun ps z => ?_⟩; subst z; exact h ps q
theorem noTb_at {H : Hp} {a : Addr} {o : HO} (h : H a = some o) (n : ∀ ps, o ≠ .tbl ps) : noTb H a = some o := by
  unfold noTb
  split
  · rename_i ps q; rw [h] at q; cases q; exact absurd rfl (n ps)
  · exact h
theorem noTb_sq {K : PySem.W.Frag} {H : Hp} {a : Addr} {xs : List V} (h : SqL K H a xs) : SqL K (noTb H) a xs := by
  rcases h with (h | ⟨o, h⟩) | h
  · exact .inl (.inl (noTb_at h fun _ z => nomatch z))
  · exact .inl (.inr ⟨o, noTb_at h fun _ z => nomatch z⟩)
  · exact .inr h
def lamQ (x : Str) : Str := x ++ ".<locals>." ++ "<lambda>"
/-- the tables, named -/
def tbsOf (l : List (Str × Addr × Addr)) : Tbs := l.map fun p => (p.2.2, lamQ p.1)
def csOf (l : List (Str × Addr × Addr)) : List (Addr × Addr) := l.map fun p => p.2
def spLawT (K : PySem.W.Frag) (T : Tbs) : Sp := fun vs H Q _ => ∃ (a : Addr) (ns : List Int), vs = [.ref a] ∧ SqL K H a (ns.map V.int) ∧ ns.length ≤ 63 ∧ LamX.Tabs T H ∧ ∀ H', Q (.bl true) H'
theorem law_fnT {P : Program} {w : World} {K : PySem.W.Frag} {mg : Str → Option Value} {st : Stmt} {k : Nat} {x : Str} {h : List D → Res D} {fa : Addr} {T : Tbs} (F : DefAt K mg "law" st) (hfa : mg "law" = some (.ref fa))
    (hb : ∀ (kV doc pm : Value) (an : Option Addr) (cdv ct u : Value), bindArgs (PySem.W.fnOf "law" "law" (defArgs st) (defBody st) (defScope st) .none kV doc pm an cdv ct) ⟨[u], []⟩ = pure [(x, u)])
    {I : Heap → Prop} (C : ∀ base, I base → Cal P w K mg base T "law" [x] k h) (hl : ∀ ns : List Int, ns.length ≤ 63 → h [.scr ns] = .ok (.bl true)) :
    ∃ fd : FuncData, (∀ (s : Shared) (u : Value), BindsTo s fd ⟨[u], []⟩ [(x, u)]) ∧ ∀ base, I base → FnOk P w K mg base (L2.CX P w) k fa fd [x] (spLawT K T) := by
  obtain ⟨f, fd, F, m⟩ := F.ex
  rw [hfa] at m
  cases m
  obtain ⟨oc, od, kV, doc, pm, an, cdv, ct, osl, rfl, lk, _⟩ := F.ex
  refine ⟨_, fun s u => .of_eq (hb kV doc pm an cdv ct u), fun base i => ?_⟩
  obtain ⟨f, fd, G, b, _, m, oc', od', osl', lk'⟩ := (C base i).ex
  rw [hfa] at m
  cases m
  rw [lk] at lk'
  cases lk'
  refine G.imp fun vs H Q E ⟨a, ns, hv, hs, hn, ht, q⟩ => ?_
  subst hv
  refine ⟨noTb H, [.scr ns], noTb_vw H, ht, .cons (.scr (noTb_sq hs)) .nil, rfl, ?_⟩
  rw [hl ns hn]
  intro G' H' v x r
  cases r
  exact q H'
/-- what is found of a def that holds a lambda -/
structure TabK (K : PySem.W.Frag) (q : Program) (x : Str) (c P : Addr) : Prop where
  r : ((PyProof.Rows.recsOf q).find? fun e => e.name == x).isSome = true
  t : PySem.W.tabIn K x = some (c, P)
  n : K.lookup P = none
theorem TabK.of {K : PySem.W.Frag} {q : Program} {x : Str} {f c P : Addr} {oc : Value} {od : Option Addr} {fd : FuncData} {sl : Array (Option Value)} {oc2 : Value} {od2 : Option Addr} {vs : Array Value} {sl2 : Array (Option Value)} (r : ((recsOf q).find? fun e => e.name == x).isSome = true)
    (a : PySem.W.nsIn K mainGlobals x = some (some (.ref f))) (l : K.lookup f = some ⟨oc, od, .func fd, sl⟩) (lc : fd.code = .ref c) (l2 : K.lookup c = some ⟨oc2, od2, .fields vs, sl2⟩) (h : (vs[11]? : Option Value) = some (.ref P)) (n : K.lookup P = none) : TabK K q x c P :=
  ⟨r, by unfold PySem.W.tabIn; rw [a]; dsimp only; rw [l]; dsimp only; rw [lc]; dsimp only; rw [l2]; dsimp only; rw [h], n⟩
theorem law_walkT {l : PySem.W.OpenLaw} {k : Nat} {q : Program} {loose : List Str} {XP : (Str → Option Value) → Heap → Prop} {YP : World → Heap → Prop} {d : DefRec} {K : Params → PySem.W.Frag} {x : Str} (tl : List (Str × Addr × Addr))
    (hn : l.most = some 63) (hdf : d.params.defaults = []) (hr : Room k callerA) (hY : ∀ (w : World) (h : Heap), YP w h → (K w.params).In h)
    (hT : ∀ (w : World), ∀ p ∈ tl, TabK (K w.params) q p.1 p.2.1 p.2.2)
    (F : ∀ (w : World) (mg : Str → Option Value) (fa : Addr) (h : Heap), (K w.params).In h → h.Ns mainGlobals mg → mg d.name = some (.ref fa) →
      ∃ fd : FuncData, (∀ (s : Shared) (u : Value), BindsTo s fd ⟨[u], []⟩ [(x, u)]) ∧
        ∀ base : Heap, ((K w.params).In base ∧ base.Ns mainGlobals mg ∧ ∀ p ∈ csOf tl, LamX.TabB base mg p.1 p.2) → FnOk l.prog w (K w.params) mg base (L2.CX l.prog w) k fa fd [x] (spLawT (K w.params) (tbsOf tl))) :
    PySem.W.WalkO q loose XP YP l.row.toRowW d [] (fun f vs => PySem.call f vs) := by
  refine Att.attach_callB hn hdf fun w s₀ s₁ mg mb fa o pm cd doc a vs ns G Y ho hd hcd hmg hobj hints hlen hbits hg => ?_
  have KX := hY w _ Y
  obtain ⟨fd, hb, hF⟩ := F w mg fa _ KX G.T.g hmg
  have tab : ∀ p ∈ csOf tl, PySem.W.CodeHd s₁.heap p.1 p.2 ∧ s₁.heap.get? p.2 = some (PySem.W.tabObj #[]) := fun p hp => by
    obtain ⟨e, he, rfl⟩ := List.mem_map.mp hp
    have t := hT w e he
    obtain ⟨d, hd⟩ := Option.isSome_iff_exists.mp t.r
    exact PySem.W.tab_of G.T KX hd t.t
  refine LamX.law_callTs (cs := csOf tl) KX G.T.g G.T.b G.T.builtins G.T.nolimit hg (fun p hp => (tab p hp).2) (fun p hp => ?_) (fun p hp => (tab p hp).1) G.T.bmain hobj hints (Nat.le_trans hlen (by decide)) hr (fun base h1 h2 h3 => hF base ⟨h1, h2, h3⟩) hb (fun H hH hS => ?_) fun H e s' z => ?_
  · obtain ⟨e, he, rfl⟩ := List.mem_map.mp hp
    exact (hT w e he).n
  · refine ⟨a, ns, rfl, hS, hlen, fun p hp => ?_, fun _ => rfl⟩
    obtain ⟨e, he, rfl⟩ := List.mem_map.mp hp
    exact .nil (hH e.2 (List.mem_map_of_mem he))
  · obtain ⟨_, _, _, _, _, _, _, _, _, _, _, _, z⟩ := z
    exact z
theorem defAtC_mk {K : PySem.W.Frag} {h : Heap} {mg : Str → Option Value} (X : K.In h) (G : h.Ns mainGlobals mg) {x : Str} {st : Stmt} {f c : Addr} {od an : Option Addr} {sl : Array (Option Value)} {oc kV dc pm ct : Value}
    (a : PySem.W.nsIn K mainGlobals x = some (some (.ref f))) (l : K.lookup f = some ⟨oc, od, .func (PySem.W.fnOf x x (defArgs st) (defBody st) (defScope st) .none kV dc pm an (.ref c) ct), sl⟩) (cd : PySem.W.codeIn K (.ref c) x = true) (k : PySem.W.keepIn K (.ref f) = true) : DefAtC K mg x st c :=
  ⟨⟨f, oc, od, kV, dc, pm, an, ct, sl, PySem.W.mg_of X G a, k, l, cd⟩⟩
theorem DefAtC.at {K : PySem.W.Frag} {mg : Str → Option Value} {x : Str} {st : Stmt} {c : Addr} (F : DefAtC K mg x st c) : DefAt K mg x st := by
  obtain ⟨f, oc, od, kV, doc, pm, an, ct, osl, m, kp, lk, hcd⟩ := F.ex
  exact ⟨⟨f, _, ⟨⟨oc, od, kV, doc, pm, an, .ref c, ct, osl, rfl, lk, hcd⟩, kp⟩, m⟩⟩
end PV
namespace PV
open PySem PySem.Spec L2
theorem csOf_hd {base : Heap} {mg : Str → Option Value} {x : Str} {c P : Addr} {tl : List (Str × Addr × Addr)} (h : ∀ p ∈ csOf ((x, c, P) :: tl), LamX.TabB base mg p.1 p.2) : LamX.TabB base mg c P := h (c, P) List.mem_cons_self
theorem csOf_tl {base : Heap} {mg : Str → Option Value} {e : Str × Addr × Addr} {tl : List (Str × Addr × Addr)} (h : ∀ p ∈ csOf (e :: tl), LamX.TabB base mg p.1 p.2) : ∀ p ∈ csOf tl, LamX.TabB base mg p.1 p.2 := fun p hp => h p (List.mem_cons_of_mem _ hp)
theorem tbs_hd {x : Str} {c P : Addr} {tl : List (Str × Addr × Addr)} : (P, lamQ x) ∈ tbsOf ((x, c, P) :: tl) := List.mem_cons_self
theorem tbs_tl {q : Addr × Str} {e : Str × Addr × Addr} {tl : List (Str × Addr × Addr)} (h : q ∈ tbsOf tl) : q ∈ tbsOf (e :: tl) := List.mem_cons_of_mem _ h
theorem toldC_mk {K : PySem.W.Frag} {h : Heap} (_ : K.In h) {C0 c0 c1 c2 c3 c4 c : Addr} {k : Nat} (hg : PySem.W.findIn K (.ref c) "__getattribute__" = some (some (.builtin "BaseException.__getattribute__"))) (hk : PySem.W.findIn K (.ref c) "__getattr__" = some none)
    (hs : PySem.W.subIn K (.ref c) (.type "BaseException") = some true) (hd : PySem.W.hasDictIn K c = true) (ha : PySem.W.findIn K (.ref c) "__class__" = some (some (.builtin "object.__class__")))
    (hn : PySem.W.specialIn K (.builtin "object.__class__") "__get__" = some (some (.builtin "getset_descriptor.__get__"))) (ht : PySem.W.takesIn K (.builtin "object.__class__") = some true) (hm : PySem.W.mroIn K c (.type "object") = some true)
    (m : PySem.W.exmOne K (.ref c) (.ref C0) = some true) (v : PySem.W.kitOne K (.ref c) (.type "ValueError") = some true)
    (i0 : PySem.W.kitOne K (.ref c) (.ref c0) = some (decide (0 = k))) (i1 : PySem.W.kitOne K (.ref c) (.ref c1) = some (decide (1 = k))) (i2 : PySem.W.kitOne K (.ref c) (.ref c2) = some (decide (2 = k))) (i3 : PySem.W.kitOne K (.ref c) (.ref c3) = some (decide (3 = k))) (i4 : PySem.W.kitOne K (.ref c) (.ref c4) = some (decide (4 = k))) :
    ToldC K C0 [c0, c1, c2, c3, c4] c k := ⟨⟨hg, hk, hs, hd, ha, hn, ht, hm⟩, m, v, fun j d h => by
  match j with
  | 0 => cases h; exact i0
  | 1 => cases h; exact i1
  | 2 => cases h; exact i2
  | 3 => cases h; exact i3
  | 4 => cases h; exact i4
  | j + 5 => cases h⟩
end PV
namespace L2
open PySem PySem.Spec PyProof.Rows
/-! ### sets of tuples of ints, of long lists and of tuples, while few are distinct -/
section
variable {P : Program} {w : World} {A : Around} {E : Value → Shared → Prop} {s : Shared}
/-- few are distinct -/
def Few (ks : List (Addr × List Int)) : Prop := ∀ L : List (Addr × List Int), (∀ p ∈ L, p ∈ ks) → (L.map (·.2)).Nodup → L.length < 63
theorem set_update_few {I : Addr} {fp wr : List Addr} {G : Array GenState → Array GenState → Prop} {n : Nat} {Pv : Nat → Value → Prop} {St : Nat → Shared → Prop} {R : Result → Shared → Prop}
    (W : WalksS P w A.in1 I fp wr G n Pv St) (S : Addr) (hSf : S ∉ fp) (ks : List (Addr × List Int)) (hn : n = ks.length) (hfew : Few ks) (hval : ∀ i v, Pv i v → ∃ p, ks[i]? = some p ∧ v = .ref p.1)
    (h0 : Heap) (hk : ∀ p ∈ ks, IsT P w h0 p.2 p.1) (hS0 : h0.get? S = none) (hw0 : ∀ b ∈ wr, h0.get? b = none) (hu : A.in1.units < cLine) :
    ∀ (k i : Nat) (s : Shared), n - i = k → i ≤ n → St i s → (∀ b o, h0.get? b = some o → s.heap.get? b = some o) → (∃ L es ep t, SetTR P w s.heap S L es ep t ∧ Got ks i L) →
      (∀ s' L es ep t, Moved (S :: wr) G s s' → SetTR P w s'.heap S L es ep t → Got ks n L → (∀ b o, h0.get? b = some o → s'.heap.get? b = some o) → R (.ok (.ret .none)) s') →
      codeAny (model P w) A (.builtin "set.update.loop" ⟨[.ref S, .ref I], []⟩) R s := by
  have hSw : S ∉ wr := fun h => hSf (W.sub _ h)
  have hsub : ∀ b ∈ wr, b ∈ S :: wr := fun b hb => List.mem_cons_of_mem _ hb
  have keepM : ∀ {s s' : Shared}, Moved wr G s s' → (∀ b o, h0.get? b = some o → s.heap.get? b = some o) → ∀ b o, h0.get? b = some o → s'.heap.get? b = some o := fun hm hkp b o e =>
    hm.heap b o (fun hb => by rw [hw0 b hb] at e; cases e) (hkp b o e)
  intro k
  induction k with
  | zero =>
    intro i s hk' hi hst hkp ⟨L, es, ep, t, hS, g⟩ hR
    obtain rfl : i = n := by omega
    refine codeAny_builtin F.entry_set_update_loop ?_
    rw [Around.under_plainId F.plain_set_update_loop _]
    show wpAny _ A.in1 (pyNext (.ref I) >>= _) _ _ s
    refine wpAny_bind (W.done s _ _ hst fun s' hm => ?_)
    show wpAny _ A.in1 (ret Value.none) _ _ s'
    have hkp' := keepM hm hkp
    exact wpAny_pure (hR s' L es ep t (hm.mono hsub) (hS.keep (fun o e => hm.heap S o hSw e) fun p hp => isT_keep (hk p (List.mem_of_mem_take (g.sub p hp))) hkp') g hkp')
  | succ k ih =>
    intro i s hk' hi hst hkp ⟨L, es, ep, t, hS, g⟩ hR
    have hlt : i < n := by omega
    refine codeAny_builtin F.entry_set_update_loop ?_
    rw [Around.under_plainId F.plain_set_update_loop _]
    show wpAny _ A.in1 (pyNext (.ref I) >>= _) _ _ s
    refine wpAny_bind (W.item i s _ _ hlt hst fun v s' hP hst' hm => ?_)
    obtain ⟨p, hp, rfl⟩ := hval i v hP
    have hkp' := keepM hm hkp
    have sub : ∀ p ∈ L, p ∈ ks := fun p hp => List.mem_of_mem_take (g.sub p hp)
    have hS' : SetTR P w s'.heap S L es ep t := hS.keep (fun o e => hm.heap S o hSw e) fun q hq => isT_keep (hk q (sub q hq)) hkp'
    have hx : IsT P w s'.heap p.2 p.1 := isT_keep (hk p (List.mem_of_getElem? hp)) hkp'
    have hL := hfew L sub hS.nd
    show wpAny _ A.in1 (holding [Value.ref p.1] (setAdd S (.ref p.1)) >>= _) _ _ s'
    refine wpAny_bind (wpAny_holding ?_)
    unfold setAdd
    refine wpAny_holding ?_
    refine wpAny_bind (wpAny_pyHash_tuple hu hx ?_)
    refine add_at (s := { s' with toks := s'.toks + (p.2.length + 1) }) hS' hx hu (by omega) fun b h' L' es' ep' t' hsb hS2 c1 c2 => ?_
    have g' : Got ks (i + 1) L' := by
      rcases Classical.em (p.2 ∈ L.map (·.2)) with c | c
      · rw [c1 c]; exact g.same hp c
      · exact g.more hp (c2 c)
    have hkp2 : ∀ b o, h0.get? b = some o → h'.get? b = some o := fun b o e => (hsb.2 b (fun z => by rw [z, hS0] at e; cases e)).trans (hkp' b o e)
    refine wpAny_pure ⟨plainId_quiet F.plain_set_update_loop _, ih (i + 1) _ (by omega) hlt (W.frame _ s' _ _ hst' (Nat.le_add_right _ _) fun b hb o e => ?_) hkp2 ⟨L', es', ep', t', hS2, g'⟩ fun s'' L2 es2 ep2 t2 hm'' hS'' g'' hkp'' => ?_⟩
    · rw [hsb.2 b (fun h : b = S => hSf (by rw [← h]; exact hb))]; exact e
    · refine hR s'' L2 es2 ep2 t2 (Moved.trans W.gtrans ((hm.mono hsub).then_heap (Nat.le_add_right _ _) fun b o hb e => ?_) hm'') hS'' g'' hkp''
      rw [hsb.2 b (fun h : b = S => hb (by rw [h]; exact List.mem_cons_self))]; exact e
set_option maxRecDepth 100000 in
set_option maxHeartbeats 3200000 in
/-- set(xs) -/
theorem call_set_fewL {l : Addr} {items : Array Value} (ks : List (Addr × List Int)) {Q : Value → Shared → Prop} (hh : A.handled = none) (hl : s.heap.IsList l items) (hit : items.toList = ks.map fun p => Value.ref p.1)
    (hk : ∀ p ∈ ks, IsT P w s.heap p.2 p.1) (hfew : Few ks) (hu : A.units + 3 < cLine)
    (h : ∀ (h' : Heap) (tk : Nat) L es ep t, SetTR P w h' s.heap.objs.size L es ep t → Got ks ks.length L → (∀ b o, s.heap.get? b = some o → h'.get? b = some o) → Q (.ref s.heap.objs.size) { s with heap := h', toks := tk }) :
    wpAny (model P w) A (call (.type "set") [.ref l]) Q E s := by
  have hisz : items.size = ks.length := by
    have q := congrArg List.length hit
    rw [Array.length_toList, List.length_map] at q
    exact q
  obtain ⟨c, tl, hmro⟩ := F.called_set.mro
  have hmade := F.called_set.made
  have hsub := F.called_set.sub
  refine wpAny_call (codeAny_of_tree ?_)
  show wpAny _ _ (callAny (.type "set") _) _ _ _
  refine wpAny_pure ⟨Code.quiet_builtin _ (by decide +kernel), codeAny_builtin F.entry_type_call ?_⟩
  rw [Around.under_plain (weight_type_call_type "set" [.ref l] []) rfl]
  have h1 := F.called_set.notType
  have h2 := F.called_set.canCreate
  have hct := F.typeCall_set_1 (.ref l)
  repeat (any_goals (first | assumption | wp_step))
  refine codeAny_mono (code_set_led1 (.ref l) (E := E) (Q₁ := fun obj s₁ => obj = .ref s.heap.objs.size ∧ s₁ = { s with heap := s.heap.push { cls := .type "set", dict := none, data := .set #[] 0 (.fresh 0 0 (!w.params.followText "set-order")) } }) ⟨rfl, rfl⟩) fun r s₁ hr => ?_
  cases r with
  | error e => exact hr
  | ok fl =>
    cases fl with
    | ret obj =>
      obtain ⟨rfl, rfl⟩ := hr
      have hS : (s.heap.push { cls := .type "set", dict := none, data := .set #[] 0 (.fresh 0 0 (!w.params.followText "set-order")) }).get? s.heap.objs.size = some { cls := .type "set", dict := none, data := .set #[] 0 (.fresh 0 0 (!w.params.followText "set-order")) } := Heap.get?_push_size _ rfl
      have hT : Shared.TypeIs { s with heap := s.heap.push { cls := .type "set", dict := none, data := .set #[] 0 (.fresh 0 0 (!w.params.followText "set-order")) } } (.ref s.heap.objs.size) "set" := ⟨_, hS, rfl⟩
      have hli := F.called_set.init.lookup
      have hbi := F.called_set.init.bind (.ref s.heap.objs.size)
      repeat (any_goals (first | assumption | wp_step))
      refine codeAny_mono (codeAny_call_builtin (R := wants (fun r s₂ => r = .none ∧ ∃ h' tk L es ep t, s₂ = { s with heap := h', toks := tk } ∧ SetTR P w h' s.heap.objs.size L es ep t ∧ Got ks ks.length L ∧
          (∀ b o, s.heap.get? b = some o → h'.get? b = some o)) E) F.called_set.init.plain F.entry_set_init (check_set_init_1 hT ?_)) fun r₂ s₂ hr₂ => ?_
      · obtain ⟨ol, hol, hcl, nl, hdl⟩ := hl
        obtain ⟨ocls, odict, odata, oslots⟩ := ol
        simp only at hcl hdl
        subst hcl; subst hdl
        have hol' : (s.heap.push { cls := .type "set", dict := none, data := .set #[] 0 (.fresh 0 0 (!w.params.followText "set-order")) }).get? l = some { cls := .type "list", dict := odict, data := .seq items nl, slots := oslots } := Heap.get?_push_of_some _ hol
        have hsls := F.sub_list_set
        have hslf := F.sub_list_frozenset
        have hne : (Value.type "list" == Value.type "dict") = false := by decide
        have hl1 : (s.heap.push { cls := .type "set", dict := none, data := .set #[] 0 (.fresh 0 0 (!w.params.followText "set-order")) }).IsList l items := ⟨_, hol', rfl, nl, rfl⟩
        unfold Builtin.«set.__init__» noKeywords Builtin.Frozenset.updateFrom
        generalize hPI : pyIter = PI
        wp_walk
        subst hPI
        refine wpAny_pyIter_list hl1 ?_
        refine wpAny_bind (wpAny_runValue ?_)
        have hlS : l < s.heap.objs.size := Heap.lt_size hol
        have hh3 : A.in1.in1.in1.handled = none := by simp [hh]
        have hneI : l ≠ (s.heap.push { cls := .type "set", dict := none, data := .set #[] 0 (.fresh 0 0 (!w.params.followText "set-order")) }).objs.size := by
          rw [Heap.size_push]; exact Nat.ne_of_lt (Nat.lt_succ_of_lt hlS)
        have hSf : s.heap.objs.size ∉ [(s.heap.push { cls := .type "set", dict := none, data := .set #[] 0 (.fresh 0 0 (!w.params.followText "set-order")) }).objs.size, l] := by
          rw [Heap.size_push]; simp only [List.mem_cons, List.mem_singleton, List.not_mem_nil, or_false, not_or]
          exact ⟨Nat.ne_of_lt (Nat.lt_succ_self _), Nat.ne_of_gt hlS⟩
        have hval : ∀ (i : Nat) (v : Value), items[i]? = some v → ∃ p, ks[i]? = some p ∧ v = .ref p.1 := fun i v hv => by
          have q : items.toList[i]? = some v := by rw [Array.getElem?_toList]; exact hv
          rw [hit, List.getElem?_map] at q
          cases hq : ks[i]? with
          | none => rw [hq] at q; cases q
          | some p =>
            rw [hq] at q
            exact ⟨p, rfl, (Option.some.inj q).symm⟩
        have none_of : ∀ b, s.heap.objs.size ≤ b → s.heap.get? b = none := fun b hb => by
          cases q : s.heap.get? b with
          | none => rfl
          | some o => exact absurd (Nat.lt_of_lt_of_le (Heap.lt_size q) hb) (Nat.lt_irrefl _)
        refine set_update_few ((Walks.list hh3 _ l hneI items).toS) s.heap.objs.size
          hSf ks hisz hfew hval s.heap hk (none_of _ (Nat.le_refl _)) (fun b hb => none_of b (by
            rw [List.mem_singleton.mp hb, Heap.size_push]
            exact Nat.le_succ _)) hu (items.size - 0) 0 _ (by omega) (Nat.zero_le _)
          ⟨⟨_, Heap.get?_push_size _ rfl, rfl, rfl⟩, (hl1.push _)⟩ (fun b o e => Heap.get?_push_of_some _ (Heap.get?_push_of_some _ e)) ?hS0 ?hR
        case hS0 =>
          exact ⟨[], #[], 0, _, setTR_fresh (Heap.get?_push_of_some _ hS), Got.zero ks⟩
        case hR =>
          intro s' L es ep t hm hS' g' hkp
          obtain ⟨h', g2, d', tk', os'⟩ := s'
          have eg : g2 = s.gens := hm.gens
          have ed : d' = s.drawn := hm.drawn
          have eo : os' = s.os := hm.os
          subst eg; subst ed; subst eo
          show wpAny _ _ _ _ _ _
          refine wpAny_pure ?_
          show wpAny _ _ (ret Value.none) _ _ _
          rw [hisz] at g'
          exact wpAny_pure ⟨rfl, h', tk', L, es, ep, t, rfl, hS', g', hkp⟩
      · cases r₂ with
        | error e => exact hr₂
        | ok fl₂ =>
          cases fl₂ with
          | ret r =>
            obtain ⟨rfl, h', tk, L, es, ep, t, rfl, hS', g', hk'⟩ := hr₂
            repeat (any_goals (first | assumption | wp_step))
            exact h _ _ _ _ _ _ hS' g' hk'
          | _ => exact hr₂.elim
    | _ => exact hr.elim
set_option maxRecDepth 100000 in
set_option maxHeartbeats 3200000 in
/-- set(xs) -/
theorem call_set_fewT {l : Addr} {items : Array Value} (ks : List (Addr × List Int)) {Q : Value → Shared → Prop} (hh : A.handled = none) (hl : s.heap.IsTuple l items) (hit : items.toList = ks.map fun p => Value.ref p.1)
    (hk : ∀ p ∈ ks, IsT P w s.heap p.2 p.1) (hfew : Few ks) (hu : A.units + 3 < cLine)
    (h : ∀ (h' : Heap) (tk : Nat) L es ep t, SetTR P w h' s.heap.objs.size L es ep t → Got ks ks.length L → (∀ b o, s.heap.get? b = some o → h'.get? b = some o) → Q (.ref s.heap.objs.size) { s with heap := h', toks := tk }) :
    wpAny (model P w) A (call (.type "set") [.ref l]) Q E s := by
  have hisz : items.size = ks.length := by
    have q := congrArg List.length hit
    rw [Array.length_toList, List.length_map] at q
    exact q
  obtain ⟨c, tl, hmro⟩ := F.called_set.mro
  have hmade := F.called_set.made
  have hsub := F.called_set.sub
  refine wpAny_call (codeAny_of_tree ?_)
  show wpAny _ _ (callAny (.type "set") _) _ _ _
  refine wpAny_pure ⟨Code.quiet_builtin _ (by decide +kernel), codeAny_builtin F.entry_type_call ?_⟩
  rw [Around.under_plain (weight_type_call_type "set" [.ref l] []) rfl]
  have h1 := F.called_set.notType
  have h2 := F.called_set.canCreate
  have hct := F.typeCall_set_1 (.ref l)
  repeat (any_goals (first | assumption | wp_step))
  refine codeAny_mono (code_set_led1 (.ref l) (E := E) (Q₁ := fun obj s₁ => obj = .ref s.heap.objs.size ∧ s₁ = { s with heap := s.heap.push { cls := .type "set", dict := none, data := .set #[] 0 (.fresh 0 0 (!w.params.followText "set-order")) } }) ⟨rfl, rfl⟩) fun r s₁ hr => ?_
  cases r with
  | error e => exact hr
  | ok fl =>
    cases fl with
    | ret obj =>
      obtain ⟨rfl, rfl⟩ := hr
      have hS : (s.heap.push { cls := .type "set", dict := none, data := .set #[] 0 (.fresh 0 0 (!w.params.followText "set-order")) }).get? s.heap.objs.size = some { cls := .type "set", dict := none, data := .set #[] 0 (.fresh 0 0 (!w.params.followText "set-order")) } := Heap.get?_push_size _ rfl
      have hT : Shared.TypeIs { s with heap := s.heap.push { cls := .type "set", dict := none, data := .set #[] 0 (.fresh 0 0 (!w.params.followText "set-order")) } } (.ref s.heap.objs.size) "set" := ⟨_, hS, rfl⟩
      have hli := F.called_set.init.lookup
      have hbi := F.called_set.init.bind (.ref s.heap.objs.size)
      repeat (any_goals (first | assumption | wp_step))
      refine codeAny_mono (codeAny_call_builtin (R := wants (fun r s₂ => r = .none ∧ ∃ h' tk L es ep t, s₂ = { s with heap := h', toks := tk } ∧ SetTR P w h' s.heap.objs.size L es ep t ∧ Got ks ks.length L ∧
          (∀ b o, s.heap.get? b = some o → h'.get? b = some o)) E) F.called_set.init.plain F.entry_set_init (check_set_init_1 hT ?_)) fun r₂ s₂ hr₂ => ?_
      · obtain ⟨ol, hol, hcl, nl, hdl⟩ := hl
        obtain ⟨ocls, odict, odata, oslots⟩ := ol
        simp only at hcl hdl
        subst hcl; subst hdl
        have hol' : (s.heap.push { cls := .type "set", dict := none, data := .set #[] 0 (.fresh 0 0 (!w.params.followText "set-order")) }).get? l = some { cls := .type "tuple", dict := odict, data := .seq items nl, slots := oslots } := Heap.get?_push_of_some _ hol
        have hsls := F.sub_tuple_set
        have hslf := F.sub_tuple_frozenset
        have hne : (Value.type "tuple" == Value.type "dict") = false := by decide
        have hl1 : (s.heap.push { cls := .type "set", dict := none, data := .set #[] 0 (.fresh 0 0 (!w.params.followText "set-order")) }).IsTuple l items := ⟨_, hol', rfl, nl, rfl⟩
        unfold Builtin.«set.__init__» noKeywords Builtin.Frozenset.updateFrom
        generalize hPI : pyIter = PI
        wp_walk
        subst hPI
        refine wpAny_pyIter_tuple hl1 ?_
        refine wpAny_bind (wpAny_runValue ?_)
        have hlS : l < s.heap.objs.size := Heap.lt_size hol
        have hh3 : A.in1.in1.in1.handled = none := by simp [hh]
        have hneI : l ≠ (s.heap.push { cls := .type "set", dict := none, data := .set #[] 0 (.fresh 0 0 (!w.params.followText "set-order")) }).objs.size := by
          rw [Heap.size_push]; exact Nat.ne_of_lt (Nat.lt_succ_of_lt hlS)
        have hSf : s.heap.objs.size ∉ [(s.heap.push { cls := .type "set", dict := none, data := .set #[] 0 (.fresh 0 0 (!w.params.followText "set-order")) }).objs.size, l] := by
          rw [Heap.size_push]; simp only [List.mem_cons, List.mem_singleton, List.not_mem_nil, or_false, not_or]
          exact ⟨Nat.ne_of_lt (Nat.lt_succ_self _), Nat.ne_of_gt hlS⟩
        have hval : ∀ (i : Nat) (v : Value), items[i]? = some v → ∃ p, ks[i]? = some p ∧ v = .ref p.1 := fun i v hv => by
          have q : items.toList[i]? = some v := by rw [Array.getElem?_toList]; exact hv
          rw [hit, List.getElem?_map] at q
          cases hq : ks[i]? with
          | none => rw [hq] at q; cases q
          | some p =>
            rw [hq] at q
            exact ⟨p, rfl, (Option.some.inj q).symm⟩
        have none_of : ∀ b, s.heap.objs.size ≤ b → s.heap.get? b = none := fun b hb => by
          cases q : s.heap.get? b with
          | none => rfl
          | some o => exact absurd (Nat.lt_of_lt_of_le (Heap.lt_size q) hb) (Nat.lt_irrefl _)
        refine set_update_few ((Walks.tuple hh3 _ l hneI items).toS) s.heap.objs.size
          hSf ks hisz hfew hval s.heap hk (none_of _ (Nat.le_refl _)) (fun b hb => none_of b (by
            rw [List.mem_singleton.mp hb, Heap.size_push]
            exact Nat.le_succ _)) hu (items.size - 0) 0 _ (by omega) (Nat.zero_le _)
          ⟨⟨_, Heap.get?_push_size _ rfl, rfl, rfl⟩, (hl1.push _)⟩ (fun b o e => Heap.get?_push_of_some _ (Heap.get?_push_of_some _ e)) ?hS0 ?hR
        case hS0 =>
          exact ⟨[], #[], 0, _, setTR_fresh (Heap.get?_push_of_some _ hS), Got.zero ks⟩
        case hR =>
          intro s' L es ep t hm hS' g' hkp
          obtain ⟨h', g2, d', tk', os'⟩ := s'
          have eg : g2 = s.gens := hm.gens
          have ed : d' = s.drawn := hm.drawn
          have eo : os' = s.os := hm.os
          subst eg; subst ed; subst eo
          show wpAny _ _ _ _ _ _
          refine wpAny_pure ?_
          show wpAny _ _ (ret Value.none) _ _ _
          rw [hisz] at g'
          exact wpAny_pure ⟨rfl, h', tk', L, es, ep, t, rfl, hS', g', hkp⟩
      · cases r₂ with
        | error e => exact hr₂
        | ok fl₂ =>
          cases fl₂ with
          | ret r =>
            obtain ⟨rfl, h', tk, L, es, ep, t, rfl, hS', g', hk'⟩ := hr₂
            repeat (any_goals (first | assumption | wp_step))
            exact h _ _ _ _ _ _ hS' g' hk'
          | _ => exact hr₂.elim
    | _ => exact hr.elim
end
end L2
namespace L2
open PySem PySem.Spec PyProof.Rows
section
variable {X : Cx}
/-- set(xs), xs a list or a tuple of tuples of ints -/
def rSetFew (K : PySem.W.Frag) (P : Program) (w : World) : List V → Hp → VK → Prop := fun xs H Q => ∃ (l : Addr) (ks : List (Addr × List Int)), xs = [V.ref l] ∧ (SqL K H l (ks.map fun p => V.ref p.1) ∨ SqT K H l (ks.map fun p => V.ref p.1)) ∧ (∀ p ∈ ks, SqT K H p.1 (p.2.map V.int)) ∧ Few ks ∧
  ∀ a L, H a = none → (∀ p ∈ L, p ∈ ks) → (∀ p ∈ ks, p.2 ∈ L.map (·.2)) → (L.map (·.2)).Nodup → Q (.ref a) (upd H a (SetTO P w a L))
theorem cr_setFew (hc : X.calm = true) (hu : X.A.units + 64 < cLine) : CallR X (.type "set") (rSetFew X.K X.prog X.w) := by
  intro pins s σ H xs us Q I r h
  obtain ⟨l, ks, rfl, hl, hk, hf, q⟩ := h
  rw [Vals.ref1 r]
  have hn : H s.heap.objs.size = none := I.hok.fresh (Nat.le_refl _)
  have fin : ∀ (h' : Heap) (tk : Nat) L es ep t, SetTR X.prog X.w h' s.heap.objs.size L es ep t → Got ks ks.length L → (∀ b o, s.heap.get? b = some o → h'.get? b = some o) → EP X pins σ Q (.ref s.heap.objs.size) { s with heap := h', toks := tk } := fun h' tk L es ep t R g k =>
    ⟨.ref s.heap.objs.size, upd H s.heap.objs.size (SetTO X.prog X.w s.heap.objs.size L), I.laid (t' := tk) k (Nat.le_refl _) (setTO_new R.t0), rfl,
      q _ L hn (fun p hp => List.mem_of_mem_take (g.sub p hp)) (fun p hp => g.all p (by rw [List.take_length]; exact hp)) R.nd⟩
  rcases hl with hl | hl
  · obtain ⟨its, rv, pl, hz⟩ := I.list hl
    exact call_set_fewL (P := X.prog) (w := X.w) ks (I.ok.hd hc) pl.isList (by simpa using refs_of_vals rv) (fun p hp => I.isT (hk p hp)) hf (by omega) fin
  · obtain ⟨its, rv, pl, hz⟩ := I.tuple hl
    exact call_set_fewT (P := X.prog) (w := X.w) ks (I.ok.hd hc) pl (by simpa using refs_of_vals rv) (fun p hp => I.isT (hk p hp)) hf (by omega) fin
/-- len(set) -/
def rLenSetT (P : Program) (w : World) : List V → Hp → VK → Prop := fun vs H Q => ∃ (a : Addr) (L : List (Addr × List Int)), vs = [V.ref a] ∧ H a = some (SetTO P w a L) ∧ Q (.int L.length) H
theorem cr_lenSetT : CallR X (.builtin "len") (rLenSetT X.prog X.w) := by
  intro pins s σ H vs us Q I r h
  obtain ⟨a, L, rfl, ha, q⟩ := h
  have R0 : SetT0 X.prog X.w s.heap a L := (I.hok a _ ha).1
  obtain ⟨es, ep, t, ⟨o, ho, hex, hd⟩, hr, ht, _, _, _, hm, hl⟩ := R0.ex
  rw [Vals.ref1 r]
  have hsz : es.size = L.length := by
    have z := congrArg List.length hr
    unfold rowsOf at z
    rw [Array.length_toList, List.length_map] at z
    exact z
  have hf : t.fits es.size = true := by
    have R : t.place.size = es.size := by rw [ht.sz, List.length_map, hsz]
    unfold SetTable.fits SetTable.fill
    rw [ht.dm, Bool.and_eq_true, beq_iff_eq, decide_eq_true_eq]
    show t.place.size = es.size ∧ t.place.size + 0 ≤ t.mask
    omega
  exact call_len_set ho hex hd hf (by omega) ⟨.int L.length, H, I.tok _, ⟨_, by rw [hsz]⟩, q⟩
end
end L2
namespace PV
open PySem PySem.Spec L2
/-! ### sorted(set(xs)), len(set(xs)) of pairs -/
def dedP : List (Int × Int) → List (Int × Int)
  | [] => []
  | p :: l => if p ∈ dedP l then dedP l else p :: dedP l
theorem mem_dedP {p : Int × Int} : ∀ {l : List (Int × Int)}, p ∈ dedP l ↔ p ∈ l
  | [] => Iff.rfl
  | q :: l => by
    unfold dedP
    split
    · rename_i h
      rw [mem_dedP, List.mem_cons]
      exact ⟨.inr, fun z => z.elim (fun e => e ▸ mem_dedP.mp h) id⟩
    · rw [List.mem_cons, List.mem_cons, mem_dedP]
theorem nodup_dedP : ∀ l : List (Int × Int), (dedP l).Nodup
  | [] => .nil
  | q :: l => by
    unfold dedP
    split
    · exact nodup_dedP l
    · rename_i h
      exact List.nodup_cons.mpr ⟨h, nodup_dedP l⟩
/-- pigeons -/
theorem nodup_le {α : Type} [DecidableEq α] : ∀ (l m : List α), l.Nodup → (∀ x ∈ l, x ∈ m) → l.length ≤ m.length
  | [], _, _, _ => Nat.zero_le _
  | x :: l, m, hn, hs => by
    obtain ⟨h1, h2⟩ := List.nodup_cons.mp hn
    have hx : x ∈ m := hs x List.mem_cons_self
    have ih := nodup_le l (m.erase x) h2 fun y hy => (List.mem_erase_of_ne (fun e : y = x => h1 (by rw [← e]; exact hy))).2 (hs y (List.mem_cons_of_mem _ hy))
    have e := List.length_erase_of_mem hx
    have hp : 0 < m.length := List.length_pos_of_mem hx
    rw [List.length_cons]
    omega
def inP (p : Int × Int) : Bool := decide (0 ≤ p.1 ∧ p.1 < 64 ∧ 0 ≤ p.2 ∧ p.2 < 64)
def setP (ps : List (Int × Int)) : Option (List (Int × Int)) := if ps.all inP = true ∧ (dedP ps).length < 63 then some (dedP ps) else none
def setOfD (d : D) : Option (List (Int × Int)) := d.items.bind fun ds => (D.pairs ds).bind setP
def setSortD (d : D) : Option D := (setOfD d).map fun l => .lst ((isort SrtO.lexB l).map pairD)
def setLenD (d : D) : Option D := (setOfD d).map fun l => .int l.length
def adr : V → Addr
  | .ref a => a
  | _ => 0
def prL (l : List Int) : Int × Int := (l.getD 0 0, l.getD 1 0)
section
variable {X : Cx} {T : Tbs} {W : WX} {M : List Nat} {pos p p2 q : Pos} {e : Expr} {f : Sl → Res D}
/-- the set's making -/
theorem set_mk {G H : Hp} {x : V} {dx : D} {l : List (Int × Int)} {Q : VK} (e : Vw G H) (t : LamX.Tabs T H) (rx : rR X G H x dx) (hd : setOfD dx = some l)
    (q : ∀ a L, H a = none → (∀ p ∈ L, p.2 = [(prL p.2).1, (prL p.2).2] ∧ inP (prL p.2) = true ∧ G p.1 = some (.tup [.int (prL p.2).1, .int (prL p.2).2])) → (L.map fun p => prL p.2).Perm l → (L.map (·.2)).Nodup → Q (.ref a) (upd H a (SetTO X.prog X.w a L))) :
    rSetFew X.K X.prog X.w [x] H Q := by
  unfold setOfD at hd
  obtain ⟨ds, h1, h2⟩ := Option.bind_eq_some_iff.mp hd
  obtain ⟨ps, h3, h4⟩ := Option.bind_eq_some_iff.mp h2
  unfold setP at h4
  split at h4
  · rename_i hc
    cases h4
    obtain ⟨a, vs, rfl, hs, rs⟩ := rx.items e h1
    obtain ⟨k1, k2⟩ := Reps.pairs e h3 rs
    have hm : ∀ v ∈ vs, V.ref (adr v) = v := fun v hv => by
      obtain ⟨t, rfl, _⟩ := k1 v hv; rfl
    have evs : (vs.map fun v => (adr v, [(kOf H v).1, (kOf H v).2])).map (fun p => V.ref p.1) = vs := by
      rw [List.map_map]
      conv => rhs; rw [← List.map_id vs]
      exact List.map_congr_left fun v hv => hm v hv
    have mem : ∀ p ∈ (vs.map fun v => (adr v, [(kOf H v).1, (kOf H v).2])), p.2 = [(prL p.2).1, (prL p.2).2] ∧ inP (prL p.2) = true ∧ G p.1 = some (.tup [.int (prL p.2).1, .int (prL p.2).2]) ∧ prL p.2 ∈ ps := fun p hp => by
      obtain ⟨v, hv, rfl⟩ := List.mem_map.mp hp
      obtain ⟨t, rfl, hg⟩ := k1 v hv
      have hps : kOf H (.ref t) ∈ ps := by rw [← k2]; exact List.mem_map_of_mem hv
      exact ⟨rfl, List.all_eq_true.mp hc.1 _ hps, hg, hps⟩
    have two : ∀ p q : Addr × List Int, p ∈ (vs.map fun v => (adr v, [(kOf H v).1, (kOf H v).2])) → q ∈ (vs.map fun v => (adr v, [(kOf H v).1, (kOf H v).2])) → prL p.2 = prL q.2 → p.2 = q.2 := fun p q hp hq z => by
      rw [(mem p hp).1, (mem q hq).1, z]
    have nd : ∀ L : List (Addr × List Int), (∀ p ∈ L, p ∈ (vs.map fun v => (adr v, [(kOf H v).1, (kOf H v).2]))) → (L.map (·.2)).Nodup → (L.map fun p => prL p.2).Nodup := fun L hL hn => by
      have hn' := List.pairwise_map.mp hn
      refine List.pairwise_map.mpr (hn'.imp_of_mem fun {p q} hp hq h z => h (two p q (hL p hp) (hL q hq) z))
    refine ⟨a, vs.map fun v => (adr v, [(kOf H v).1, (kOf H v).2]), rfl, by rw [evs]; exact hs, fun p hp => ?_, fun L hL hn => ?_, fun a' L ha hL hall hn => q a' L ha (fun p hp => ?_) ?_ hn⟩
    · obtain ⟨m1, m2, m3, _⟩ := mem p hp
      rw [m1]
      exact .inl (.inl (e _ _ m3).1)
    · have := nodup_le (L.map fun p => prL p.2) (dedP ps) (nd L hL hn) fun y hy => by
        obtain ⟨p, hp, rfl⟩ := List.mem_map.mp hy
        exact mem_dedP.mpr (mem p (hL p hp)).2.2.2
      rw [List.length_map] at this
      omega
    · obtain ⟨m1, m2, m3, _⟩ := mem p (hL p hp)
      exact ⟨m1, m2, m3⟩
    · refine (List.perm_ext_iff_of_nodup (nd L hL hn) (nodup_dedP ps)).mpr fun y => ?_
      rw [mem_dedP]
      constructor
      · intro hy
        obtain ⟨p, hp, rfl⟩ := List.mem_map.mp hy
        exact (mem p (hL p hp)).2.2.2
      · intro hy
        rw [← k2] at hy
        obtain ⟨v, hv, rfl⟩ := List.mem_map.mp hy
        have h5 := hall _ (List.mem_map_of_mem hv)
        obtain ⟨p, hp, e5⟩ := List.mem_map.mp h5
        exact List.mem_map.mpr ⟨p, hp, by rw [e5]; rfl⟩
  · cases h4
theorem inP_b {p : Int × Int} (h : inP p = true) : (0 ≤ p.1 ∧ p.1 < 64) ∧ (0 ≤ p.2 ∧ p.2 < 64) := by
  unfold inP at h
  rw [decide_eq_true_eq] at h
  omega
theorem pxf_sset (hc : X.calm = true) (hu : X.A.units + 64 < cLine) (hg : Gl X "sorted") (hm : X.mg "sorted" = none) (hg2 : Gl X "set") (hm2 : X.mg "set" = none) (ha : PXr X T W M e f)
    (he : starEach [e] X.env = (false, eval e X.env) :: starEach [] X.env := by rfl) (he2 : starEach [.Call (.Name "set" p2) [e] [] q] X.env = (false, eval (.Call (.Name "set" p2) [e] [] q) X.env) :: starEach [] X.env := by rfl)
    (hpl : (backTo pos (starEach [] X.env)).any (·.1) = false := by rfl) (hpl2 : (backTo q (starEach [] X.env)).any (·.1) = false := by rfl) :
    PXf X T W M (.Call (.Name "sorted" p) [.Call (.Name "set" p2) [e] [] q] [] pos) (e1 setSortD f) := by
  obtain ⟨ta, pa, qa⟩ := ha.run
  refine ⟨_, pe_callB (cr_sortedT hc) hg hm (by decide +kernel) (pa_cons (pe_callTy (cr_setFew hc hu) hg2 hm2 (by decide +kernel) (pa_cons pa pa_nil he) (by decide) (by decide) he hpl2) pa_nil he2) (by decide) (by decide) he2 hpl, fun G0 H0 G H σ σd Q er o => ?_⟩
  refine qa _ _ _ _ _ _ _ er (o.seq fun dx G1 H1 v _ x1 rx o => ?_)
  obtain ⟨d, ed, qq⟩ := o.of
  unfold setSortD at ed
  rw [Option.map_eq_some_iff] at ed
  obtain ⟨l, hd, rfl⟩ := ed
  show rSetFew X.K X.prog X.w [v] H1 (fun x H1 => rSortedT X.K X.prog X.w [x] H1 Q)
  refine set_mk x1.gh x1.tb rx hd fun a L ha' hL hp hn => ?_
  have x2 : Ext T G1 H1 G1 (upd H1 a (SetTO X.prog X.w a L)) := Ext.priv x1.gh x1.tb ha'
  refine ⟨a, L, 2, 64, rfl, upd_same, fun p hp' => ?_, by decide, fun p hp' => ?_, fun L' p0 pm _ _ pw hp0 => ?_⟩
  · rw [(hL p hp').1]
    exact .inl (.inl (x2.gh _ _ (hL p hp').2.2).1)
  · obtain ⟨m1, m2, m3⟩ := hL p hp'
    obtain ⟨⟨b1, b2⟩, b3, b4⟩ := inP_b m2
    rw [m1]
    refine ⟨rfl, ?_⟩
    intro z hz
    simp only [List.mem_cons, List.not_mem_nil, or_false] at hz
    rcases hz with rfl | rfl
    · exact ⟨b1, b2⟩
    · exact ⟨b3, b4⟩
  · have hL' : ∀ p ∈ L', p ∈ L := fun p h => pm.mem_iff.mp h
    have nd : (L'.map (·.2)).Nodup := (pm.map (·.2)).nodup_iff.mpr hn
    have eqs : (L'.map fun p => prL p.2) = isort SrtO.lexB l := by
      refine sd_uniq (lt := SrtO.lexB) lexB_an ?_ (isort_sd lexB_tr lexB_as _) (((pm.map fun p => prL p.2).trans hp).trans (isort_perm _ _).symm)
      unfold Sd
      rw [List.pairwise_map]
      refine (pw.and (List.pairwise_map.mp nd)).imp_of_mem fun {p q} hp1 hq1 h => ?_
      obtain ⟨m1, m2, m3⟩ := hL p (hL' p hp1)
      obtain ⟨k1, k2, k3⟩ := hL q (hL' q hq1)
      have hh : TS.code 64 [(prL p.2).1, (prL p.2).2] ≤ TS.code 64 [(prL q.2).1, (prL q.2).2] := by rw [← m1, ← k1]; exact h.1
      have hne : ([(prL p.2).1, (prL p.2).2] : List Int) ≠ [(prL q.2).1, (prL q.2).2] := by rw [← m1, ← k1]; exact h.2
      have r := pair_lt hh hne (inP_b m2).1 (inP_b m2).2 (inP_b k2).1 (inP_b k2).2
      rw [SrtO.lexB_no]
      omega
    have reps : Reps X.K X.mg G1 (L'.map fun p => V.ref p.1) ((isort SrtO.lexB l).map pairD) := by
      rw [← eqs, List.map_map]
      have gen : ∀ m : List (Addr × List Int), (∀ p ∈ m, p ∈ L) → Reps X.K X.mg G1 (m.map fun p => V.ref p.1) (m.map (pairD ∘ fun p => prL p.2)) := by
        intro m
        induction m with
        | nil => exact fun _ => .nil
        | cons p m ih =>
          intro h
          obtain ⟨m1, m2, m3⟩ := hL p (h p List.mem_cons_self)
          exact .cons (.tup m3 (.cons (.int _) (.cons (.int _) .nil))) (ih fun q hq => h q (List.mem_cons_of_mem _ hq))
      exact gen L' hL'
    have x3 := x2.trans (Ext.priv (o := .lst (L'.map fun p => V.ref p.1)) x2.gh x2.tb hp0)
    exact qq G1 _ (.ref p0) x3 ⟨p0, rfl, (NT.of hp0).back (x1.hh.trans x2.hh), x2.gh.none hp0, .inl ⟨_, _, rfl, upd_same, reps⟩⟩
theorem px_lenset (hc : X.calm = true) (hu : X.A.units + 64 < cLine) (hg : Gl X "len") (hm : X.mg "len" = none) (hg2 : Gl X "set") (hm2 : X.mg "set" = none) (ha : PXr X T W M e f)
    (he : starEach [e] X.env = (false, eval e X.env) :: starEach [] X.env := by rfl) (he2 : starEach [.Call (.Name "set" p2) [e] [] q] X.env = (false, eval (.Call (.Name "set" p2) [e] [] q) X.env) :: starEach [] X.env := by rfl)
    (hpl : (backTo pos (starEach [] X.env)).any (·.1) = false := by rfl) (hpl2 : (backTo q (starEach [] X.env)).any (·.1) = false := by rfl) :
    PX X T W M (.Call (.Name "len" p) [.Call (.Name "set" p2) [e] [] q] [] pos) (e1 setLenD f) := by
  obtain ⟨ta, pa, qa⟩ := ha.run
  refine ⟨_, pe_callB cr_lenSetT hg hm PySem.boot_len (pa_cons (pe_callTy (cr_setFew hc hu) hg2 hm2 (by decide +kernel) (pa_cons pa pa_nil he) (by decide) (by decide) he hpl2) pa_nil he2) (by decide) (by decide) he2 hpl, fun G0 H0 G H σ σd Q er o => ?_⟩
  refine qa _ _ _ _ _ _ _ er (o.seq fun dx G1 H1 v _ x1 rx o => ?_)
  obtain ⟨d, ed, qq⟩ := o.of
  unfold setLenD at ed
  rw [Option.map_eq_some_iff] at ed
  obtain ⟨l, hd, rfl⟩ := ed
  show rSetFew X.K X.prog X.w [v] H1 (fun x H1 => rLenSetT X.prog X.w [x] H1 Q)
  refine set_mk x1.gh x1.tb rx hd fun a L ha' hL hp hn => ?_
  have x2 : Ext T G1 H1 G1 (upd H1 a (SetTO X.prog X.w a L)) := Ext.priv x1.gh x1.tb ha'
  refine ⟨a, L, rfl, upd_same, ?_⟩
  have hlen : L.length = l.length := by rw [← hp.length_eq, List.length_map]
  rw [hlen]
  exact qq G1 _ _ x2 (.int _)
end
end PV
namespace PV
theorem hu64_of {a b : Nat} (h : a + 65 < b) : a + 64 < b := by omega
end PV
set_option maxHeartbeats 4000000
/-! PV24: tuple * int, text * int, of any small int -/
namespace L2
open PySem PySem.Spec PyProof.Rows
theorem tuple_mulSame (l : Addr) (items : Array Value) (n : Nat) (dd : Option Addr) (sl : Array (Option Value)) (x : Int) (u : Tok) (c0 : (decide (x < -(2 ^ 63)) || decide (x ≥ 2 ^ 63)) = false) (c1 : (items.isEmpty || x == 1) = true) :
    Meets (Builtin.«tuple.__mul__» ⟨[.ref l, .int x u], []⟩) (fun _ R s => s.heap.get? l = some { cls := .type "tuple", dict := dd, data := .seq items n, slots := sl } ∧
      R (.ok (.ret (Value.ref l))) s) :=
  .of_wp fun prog w A R s h => by
    obtain ⟨hp, g, d, tk, os⟩ := s
    obtain ⟨hl, h⟩ := h
    have f1 := AutoSeq1.idx_int
    wp_walk using wpAny_loadPart' hl
    repeat (first
      | (refine wpAny_ite_false (decide_eq_false (by rw [c0]; exact Bool.false_ne_true)) ?_; wp_walk using wpAny_loadPart' hl)
      | (refine wpAny_ite_true (decide_eq_true c1) ?_; wp_walk using wpAny_loadPart' hl))
    exact ⟨_, rfl, h⟩
theorem tuple_mul0 (l : Addr) (items : Array Value) (n : Nat) (dd : Option Addr) (sl : Array (Option Value)) (x : Int) (u : Tok) (c0 : (decide (x < -(2 ^ 63)) || decide (x ≥ 2 ^ 63)) = false) (c1 : (items.isEmpty || x == 1) = false) (c2 : (decide (x ≤ 0) || items.isEmpty) = true) :
    Meets (Builtin.«tuple.__mul__» ⟨[.ref l, .int x u], []⟩) (fun _ R s => s.heap.get? l = some { cls := .type "tuple", dict := dd, data := .seq items n, slots := sl } ∧
      R (.ok (.ret (Value.ref s.heap.objs.size))) { s with heap := s.heap.push { cls := Value.type "tuple", data := Data.seq #[] }, toks := s.toks }) :=
  .of_wp fun prog w A R s h => by
    obtain ⟨hp, g, d, tk, os⟩ := s
    obtain ⟨hl, h⟩ := h
    have f1 := AutoSeq1.idx_int
    wp_walk using wpAny_loadPart' hl
    repeat (first
      | (refine wpAny_ite_false (decide_eq_false (by rw [c0]; exact Bool.false_ne_true)) ?_; wp_walk using wpAny_loadPart' hl)
      | (refine wpAny_ite_false (decide_eq_false (by rw [c1]; exact Bool.false_ne_true)) ?_; wp_walk using wpAny_loadPart' hl)
      | (refine wpAny_ite_true (decide_eq_true c2) ?_; wp_walk using wpAny_loadPart' hl))
    exact ⟨_, rfl, h⟩
end L2
namespace L2
open PySem PySem.Spec PyProof.Rows
def rRepT2 (K : PySem.W.Frag) : R2 := fun x y H Q => ∃ l k xs, x = .ref l ∧ y = .int k ∧ SqT K H l xs ∧ k ≤ 1 ∧ -1000 ≤ k ∧ (k = 1 → Q (.ref l) H) ∧ (k ≤ 0 → xs ≠ [] → ∀ p, H p = none → Q (.ref p) (upd H p (.tup []))) ∧ (xs = [] → Q (.ref l) H)
section
variable {X : Cx}
theorem op_repT2 : OpR X (binaryOp .Mult) (rRepT2 X.K) := by
  intro pins s σ H x y v u Q I rx ry h
  obtain ⟨l, k, xs, rfl, rfl, hT, h1, h2, q1, q0, qe⟩ := h
  cases rx
  obtain ⟨t, rfl⟩ := ry
  obtain ⟨its, r, ⟨⟨cls, dd, data, sl⟩, ho, hc, n, hd⟩, hs⟩ := I.tuple hT
  simp only at hc hd
  subst hc hd
  have hle : its.length = xs.length := r.length.symm
  have c0 : (decide (k < -(2 ^ 63)) || decide (k ≥ 2 ^ 63)) = false := by
    rw [decide_eq_false (by omega), decide_eq_false (by omega)] <;> rfl
  by_cases c1 : (its.toArray.isEmpty || k == 1) = true
  · refine wpAny_binaryOp_repeat_ref (T := "tuple") (U := "int") (by decide) ⟨_, ho, rfl⟩ (fun s' => typeIs_int s' k t) noFill_tuple_mul F.fills_int_mul F.slot_int_rmul repeat_tuple F.slot_int_index.lookup
      (call_meets F.slot_int_rmul (typeIs_int s k t) F.entry_int_rmul (F.args_int_rmul_2 _ _) (int_rmul_tuple k t l its.toArray n dd sl)
        ⟨ho, rfl, ⟨_, ho, rfl⟩, call_meets F.slot_tuple_mul ⟨_, ho, rfl⟩ F.entry_tuple_mul (F.args_tuple_mul_2 _ _) (tuple_mulSame l its.toArray n dd sl k t c0 c1) ⟨ho, ?_⟩⟩)
    refine ⟨.ref l, H, I.tok _, rfl, ?_⟩
    rw [Bool.or_eq_true] at c1
    rcases c1 with c1 | c1
    · refine qe ?_
      have : its = [] := by
        cases its with
        | nil => rfl
        | cons a b => cases c1
      rw [this] at hle
      exact List.eq_nil_of_length_eq_zero hle.symm
    · exact q1 (by simpa using c1)
  · have c1 : (its.toArray.isEmpty || k == 1) = false := by simpa using c1
    have k0 : k ≤ 0 := by
      rw [Bool.or_eq_false_iff] at c1
      have := beq_eq_false_iff_ne.mp c1.2
      omega
    have c2 : (decide (k ≤ 0) || its.toArray.isEmpty) = true := by rw [decide_eq_true k0]; rfl
    refine wpAny_binaryOp_repeat_ref (T := "tuple") (U := "int") (by decide) ⟨_, ho, rfl⟩ (fun s' => typeIs_int s' k t) noFill_tuple_mul F.fills_int_mul F.slot_int_rmul repeat_tuple F.slot_int_index.lookup
      (call_meets F.slot_int_rmul (typeIs_int s k t) F.entry_int_rmul (F.args_int_rmul_2 _ _) (int_rmul_tuple k t l its.toArray n dd sl)
        ⟨ho, rfl, ⟨_, ho, rfl⟩, call_meets F.slot_tuple_mul ⟨_, ho, rfl⟩ F.entry_tuple_mul (F.args_tuple_mul_2 _ _) (tuple_mul0 l its.toArray n dd sl k t c0 c1 c2) ⟨ho, ?_⟩⟩)
    refine ⟨.ref s.heap.objs.size, _, I.laid (t' := s.toks) (o := .tup []) (fun b ob q => Heap.get?_push_of_some _ q) (Nat.le_refl _) ?_, rfl, q0 k0 (fun e => ?_) _ (I.hok.fresh (Nat.le_refl _))⟩
    · exact ⟨Nat.zero_le _, [], .nil, IsTup.new _ _⟩
    · subst e
      have : its = [] := List.eq_nil_of_length_eq_zero hle
      subst this
      cases c1
def repS (z : Str) (k : Int) : Str := ⟨(List.replicate k.toNat z.cps.toList).flatten.toArray⟩
theorem repS_0 (z : Str) {k : Int} (h : k < 1) : repS z k = Str.empty := by
  unfold repS
  rw [show k.toNat = 0 by omega]; rfl
theorem repS_1 (z : Str) {k : Int} (h : k = 1) : repS z k = z := by
  unfold repS
  rw [show k.toNat = 1 by omega]
  cases z; simp
theorem repS_e (z : Str) (k : Int) (h : z.length = 0) : repS z k = z := by
  have e : z.cps = #[] := Array.eq_empty_of_size_eq_zero h
  unfold repS
  cases z with
  | mk c =>
    dsimp only at e
    subst e
    congr 1
    simp
theorem fold_rep (c : Array Nat) (m : Nat) : (List.replicate m c).foldl (fun x1 x2 => x1 ++ x2) #[] = (List.replicate m c.toList).flatten.toArray := by
  have := size_rep' c m
  exact this
where size_rep' (c : Array Nat) : ∀ m, (List.replicate m c).foldl (fun x1 x2 => x1 ++ x2) #[] = (List.replicate m c.toList).flatten.toArray := fun m => by
        have g : ∀ (m : Nat) (a : Array Nat), (List.replicate m c).foldl (fun x1 x2 => x1 ++ x2) a = a ++ (List.replicate m c.toList).flatten.toArray := by
          intro m
          induction m with
          | zero => intro a; simp
          | succ m ih => intro a; rw [List.replicate_succ, List.foldl_cons, ih, List.replicate_succ, List.flatten_cons]; apply Array.ext'; simp
        rw [g]; simp
def rRepS : R2 := fun x y H Q => ∃ z k, x = .str z ∧ y = .int k ∧ -1000 ≤ k ∧ k ≤ 1000 ∧ z.length ≤ 1000 ∧ Q (.str (repS z k)) H
theorem op_repS : OpR X (binaryOp .Mult) rRepS := by
  intro pins s σ H x y v u Q I rx ry h
  obtain ⟨z, k, rfl, rfl, h1, h2, hz, q⟩ := h
  obtain ⟨t, rfl⟩ := rx
  obtain ⟨t2, rfl⟩ := ry
  refine P.mul_str (by rw [decide_eq_false (by omega), decide_eq_false (by omega)]; rfl) (fun h3 _ => ?_) (fun h3 _ => ?_) ?_
  · have : (1000 : Int) ≤ (2 ^ 63 - 1) / k := Int.le_ediv_of_mul_le (by omega) (by omega)
    omega
  · unfold Builtin.Str.tooLong
    have : z.length * k.toNat ≤ 1000 * 1000 := Nat.mul_le_mul hz (by omega)
    exact decide_eq_false (by rw [sizeLine_eq]; omega)
  · by_cases c : k < 1
    · rw [if_pos c]
      refine ⟨?_, .str Str.empty, H, I.tok _, ⟨_, rfl⟩, by rw [← repS_0 z c]; exact q⟩
      decide
    · rw [if_neg c]
      by_cases c2 : (k == 1 || z.length == 0) = true
      · rw [if_pos c2]
        refine ⟨.str z, H, I, ⟨_, rfl⟩, ?_⟩
        rw [Bool.or_eq_true, beq_iff_eq, beq_iff_eq] at c2
        rcases c2 with c2 | c2
        · rw [← repS_1 z c2]; rw [repS_1 z c2]; rw [repS_1 z c2] at q; exact q
        · rw [repS_e z k c2] at q; exact q
      · rw [if_neg c2]
        refine ⟨?_, .str (repS z k), H, I.tok _, ⟨s.toks, ?_⟩, q⟩
        · show (List.foldl (fun x1 x2 => x1 ++ x2) #[] (List.replicate k.toNat z.cps)).size ≤ sizeLine
          rw [fold_rep, List.size_toArray, PyProof.Rows.lm_len_rep_flat, sizeLine_eq, Array.length_toList]
          have : k.toNat * z.cps.size ≤ 1000 * 1000 := Nat.mul_le_mul (by omega) hz
          omega
        · unfold repS; rw [fold_rep]
end
end L2
namespace PV
open PySem PySem.Spec L2
section
variable {X : Cx} {T : Tbs}
def mulT1 : D → D → Option D
  | .tup xs, .int k => if -1000 ≤ k ∧ k ≤ 1 then some (.tup (List.replicate k.toNat xs).flatten) else none
  | _, _ => none
def mulT2 : D → D → Option D := fun x y => (mulT x y).or (mulT1 x y)
def mulS : D → D → Option D
  | .str z, .int k => if -1000 ≤ k ∧ k ≤ 1000 ∧ z.length ≤ 1000 then some (.str (repS z k)) else none
  | _, _ => none
theorem o_mulT1 : Op2 X T (binaryOp .Mult) mulT1 := by
  refine ⟨_, op_repT2, fun G H x y dx dy d Q e t rx ry hd q => ?_⟩
  unfold mulT1 at hd; split at hd
  · split at hd
    · rename_i c; cases hd
      cases ry
      cases rx with
      | tup a1 a2 =>
        refine ⟨_, _, _, rfl, rfl, .inl (.inl (e _ _ a1).1), c.2, c.1, fun h => ?_, fun h n p hp => ?_, fun h => ?_⟩
        · subst h
          exact Ext.q0 q e t (.tup a1 (by simpa using a2))
        · rename_i xs k _ _
          rw [show k.toNat = 0 by omega] at q
          exact Ext.qtup q e t .nil hp
        · subst h
          cases a2
          refine Ext.q0 q e t (.tup a1 ?_)
          rw [List.flatten_replicate_nil]; exact .nil
    · cases hd
  · cases hd
theorem o_mulT2 : Op2 X T (binaryOp .Mult) mulT2 := o_mulT.or o_mulT1
theorem o_mulS : Op2 X T (binaryOp .Mult) mulS := by
  refine ⟨_, op_repS, fun G H x y dx dy d Q e t rx ry hd q => ?_⟩
  unfold mulS at hd; split at hd
  · split at hd
    · rename_i c; cases hd
      cases ry
      cases rx
      exact ⟨_, _, rfl, rfl, c.1, c.2.1, c.2.2, Ext.q0 q e t (.str _)⟩
    · cases hd
  · cases hd
end
end PV
/-! PV25: order of data of any depth; min of a list of such -/
namespace PV
open PySem PySem.Spec L2
def notNone : PyData → Bool
  | .none => false
  | _ => true
def cmpPy (x y : D) : Option (PyData × PyData) := match x.py, y.py with
  | some a, some b => if (PySem.W.alike a b && notNone a && decide (a.depth ≤ 60)) = true then some (a, b) else none
  | _, _ => none
def ltG (x y : D) : Option D := (cmpPy x y).map fun p => .bl (PySem.W.dataLt p.1 p.2)
def gtG (x y : D) : Option D := (cmpPy x y).map fun p => .bl (PySem.W.dataLt p.2 p.1)
def leG (x y : D) : Option D := (cmpPy x y).map fun p => .bl (!PySem.W.dataLt p.2 p.1)
def geG (x y : D) : Option D := (cmpPy x y).map fun p => .bl (!PySem.W.dataLt p.1 p.2)
theorem cmpPy_of {x y : D} {p : PyData × PyData} (h : cmpPy x y = some p) : x.py = some p.1 ∧ y.py = some p.2 ∧ PySem.W.alike p.1 p.2 = true ∧ p.1 ≠ .none ∧ p.1.depth ≤ 60 := by
  unfold cmpPy at h
  split at h
  · rename_i a b ea eb
    split at h
    · rename_i c
      cases h
      rw [Bool.and_eq_true, Bool.and_eq_true, decide_eq_true_eq] at c
      refine ⟨ea, eb, c.1.1, fun e => ?_, c.2⟩
      have := c.1.2
      dsimp only at e
      rw [e] at this
      cases this
    · cases h
  · cases h
section
variable {X : Cx} {T : Tbs}
def rCmpG (K : PySem.W.Frag) (g : PyData → PyData → Bool) : R2 := fun x y H Q => ∃ a b, Dp K H x a ∧ Dp K H y b ∧ PySem.W.alike a b = true ∧ a ≠ .none ∧ a.depth ≤ 60 ∧ Q (.bl (g a b)) H
theorem op_cmpG (hu : X.A.units + 64 < cLine) {op : CmpOp} {g : PyData → PyData → Bool} (he : compareOp op = richCompare op)
    (hg : ∀ (a b : PyData) (A : Around) (s : Shared) (v u : Value) (as bs : List Addr), Reads s.heap v a as → Reads s.heap u b bs → PySem.W.alike a b = true → a ≠ .none → A.units + min a.depth b.depth < cLine → PySem.SeqAt.RcOp op A s v u (g a b)) : OpR X (compareOp op) (rCmpG X.K g) := by
  intro pins s σ H x y v u Q I rx ry h
  obtain ⟨a, b, ha, hb, h1, h2, h3, q⟩ := h
  obtain ⟨as, r1⟩ := Dp.reads I a x v ha rx
  obtain ⟨bs, r2⟩ := Dp.reads I b y u hb ry
  rw [he]
  refine hg a b X.A s v u as bs r1 r2 h1 h2 ?_ _ _ _ _ ⟨.bl _, H, I, rfl, q⟩
  have := Nat.min_le_left a.depth b.depth
  omega
theorem o_cmpG (hu : X.A.units + 65 < cLine) {op : CmpOp} {g : PyData → PyData → Bool} (he : compareOp op = richCompare op)
    (hg : ∀ (a b : PyData) (A : Around) (s : Shared) (v u : Value) (as bs : List Addr), Reads s.heap v a as → Reads s.heap u b bs → PySem.W.alike a b = true → a ≠ .none → A.units + min a.depth b.depth < cLine → PySem.SeqAt.RcOp op A s v u (g a b)) : Op2r X T (compareOp op) (fun x y => (cmpPy x y).map fun p => .bl (g p.1 p.2)) := by
  refine ⟨_, op_cmpG (by omega) he hg, fun G H x y dx dy d Q e t rx ry hd q => ?_⟩
  rw [Option.map_eq_some_iff] at hd
  obtain ⟨p, hp, rfl⟩ := hd
  obtain ⟨e1, e2, h1, h2, h3⟩ := cmpPy_of hp
  exact ⟨p.1, p.2, rx.dp e e1, ry.dp e e2, h1, h2, h3, Ext.q0 q e t (.bl _)⟩
theorem o_ltG (hu : X.A.units + 65 < cLine) : Op2r X T (compareOp .Lt) ltG := o_cmpG hu rfl fun a b A s v u as bs h1 h2 h3 h4 h5 => PySem.W.rcLt_alike a b A s v u as bs h1 h2 h3 h4 h5
theorem o_gtG (hu : X.A.units + 65 < cLine) : Op2r X T (compareOp .Gt) gtG := o_cmpG (g := fun a b => PySem.W.dataLt b a) hu rfl fun a b A s v u as bs h1 h2 h3 h4 h5 => PySem.W.rcGt_alike a b A s v u as bs h1 h2 h3 h4 h5
theorem o_leG (hu : X.A.units + 65 < cLine) : Op2r X T (compareOp .LtE) leG := o_cmpG (g := fun a b => !PySem.W.dataLt b a) hu rfl fun a b A s v u as bs h1 h2 h3 h4 h5 => PySem.W.rcLe_alike a b A s v u as bs h1 h2 h3 h4 h5
theorem o_geG (hu : X.A.units + 65 < cLine) : Op2r X T (compareOp .GtE) geG := o_cmpG (g := fun a b => !PySem.W.dataLt a b) hu rfl fun a b A s v u as bs h1 h2 h3 h4 h5 => PySem.W.rcGe_alike a b A s v u as bs h1 h2 h3 h4 h5
def ltP (a b : D) : Bool := match a.py, b.py with
  | some p, some q => PySem.W.dataLt p q
  | _, _ => false
def minGo (x : D) (l : List D) : D := l.foldl (fun a y => if ltP y a then y else a) x
def alikeB (ps : List PyData) : Bool := (ps.all fun x => ps.all fun y => PySem.W.alike x y) && ps.all notNone
def minOkB (ps : List PyData) : Bool := alikeB ps && decide (PyData.depthAll ps ≤ 60)
def minG (d : D) : Option D := match d.items with
  | some (x :: l) => match D.pys (x :: l) with
    | some ps => if minOkB ps = true then some (minGo x l) else none
    | none => none
  | _ => none
theorem alikeB_all {ps : List PyData} (h : alikeB ps = true) : PySem.W.AlikeAll ps := by
  unfold alikeB at h
  rw [Bool.and_eq_true] at h
  refine ⟨fun x hx y hy => List.all_eq_true.mp (List.all_eq_true.mp h.1 x hx) y hy, fun x hx e => ?_⟩
  have := List.all_eq_true.mp h.2 x hx
  rw [e] at this; cases this
def rMinG (K : PySem.W.Frag) : List V → Hp → VK → Prop := fun vs H Q => ∃ (l : Addr) (xs : List V) (ps : List PyData), vs = [V.ref l] ∧ (SqL K H l xs ∨ SqT K H l xs) ∧ DpAll K H xs ps ∧ ps ≠ [] ∧ PySem.W.AlikeAll ps ∧ PyData.depthAll ps ≤ 60 ∧
  ∀ v, xs[argBest (fun i j => PySem.W.dataLt (ps.getD i .none) (ps.getD j .none)) (ps.length - 1)]? = some v → Q v H
theorem cr_minG (hc : X.calm = true) (hu : X.A.units + 65 < cLine) : CallR X (.builtin "min") (rMinG X.K) := by
  intro pins s σ H vs us Q I r h
  obtain ⟨l, xs, ps, rfl, hs, hd, hne, hal, hdp, q⟩ := h
  rw [Vals.ref1 r]
  have fin : ∀ (its : List Value) (v : Value) (h' : Heap) (tk : Nat), Vals xs its → its.length = ps.length → its.toArray[argBest (fun i j => PySem.W.dataLt (ps.getD i .none) (ps.getD j .none)) (its.toArray.size - 1)]? = some v → (∀ b o, s.heap.get? b = some o → h'.get? b = some o) → EP X pins σ Q v { s with heap := h', toks := tk } := by
    intro its v h' tk rv hl hP hk
    rw [List.size_toArray, hl, List.getElem?_toArray] at hP
    cases e : xs[argBest (fun i j => PySem.W.dataLt (ps.getD i .none) (ps.getD j .none)) (ps.length - 1)]? with
    | none => rw [rv.none_of e] at hP; cases hP
    | some x =>
      obtain ⟨u, e1, e2⟩ := rv.get e
      rw [hP] at e1
      cases e1
      exact ⟨x, H, I.kept hk, e2, q x e⟩
  have hh := I.ok.hd hc
  rcases hs with hs | hs
  · obtain ⟨its, rv, hl, _⟩ := I.list hs
    obtain ⟨as, hr⟩ := Dp.readsAll I ps xs its hd rv
    have hlen : its.length = ps.length := SeqAt.ReadsAll.length ps its as hr
    have hr' : ReadsAll s.heap its.toArray.toList ps as := hr
    have hpos : 0 < its.toArray.size := by
      rw [List.size_toArray, hlen]
      exact List.length_pos_iff.mpr hne
    refine PySem.call_min_walkH (PySem.W.iter_listW (A := X.A.in1) hh hl.isList fun s₂ e W st hfp hw hk => ?_)
    refine ⟨_, _, _, _, _, _, _, s.heap, _, rfl, W, st, hfp, hpos, hw, hk, PySem.W.cmpIn_lt (A := X.A.in1) hr' hal (by show X.A.units + 1 + _ < _; omega), fun v s' hP m => ?_⟩
    obtain ⟨h', tk, rfl, hk'⟩ := PySem.W.moved_old e rfl m
    exact fin its v h' tk rv hlen hP hk'
  · obtain ⟨its, rv, hl, _⟩ := I.tuple hs
    obtain ⟨as, hr⟩ := Dp.readsAll I ps xs its hd rv
    have hlen : its.length = ps.length := SeqAt.ReadsAll.length ps its as hr
    have hr' : ReadsAll s.heap its.toArray.toList ps as := hr
    have hpos : 0 < its.toArray.size := by
      rw [List.size_toArray, hlen]
      exact List.length_pos_iff.mpr hne
    refine PySem.call_min_walkH (PySem.W.iter_tupleW (A := X.A.in1) hh hl fun s₂ e W st hfp hw hk => ?_)
    refine ⟨_, _, _, _, _, _, _, s.heap, _, rfl, W, st, hfp, hpos, hw, hk, PySem.W.cmpIn_lt (A := X.A.in1) hr' hal (by show X.A.units + 1 + _ < _; omega), fun v s' hP m => ?_⟩
    obtain ⟨h', tk, rfl, hk'⟩ := PySem.W.moved_old e rfl m
    exact fin its v h' tk rv hlen hP hk'
theorem pys_getD : ∀ {ds : List D} {ps : List PyData}, D.pys ds = some ps → ∀ i, i < ds.length → (ds.getD i .non).py = some (ps.getD i .none)
  | [], _, _, _, hi => absurd hi (Nat.not_lt_zero _)
  | d :: ds, ps, h, i, hi => by
    unfold D.pys at h
    cases e1 : d.py with
    | none => rw [e1] at h; cases e2 : D.pys ds <;> rw [e2] at h <;> cases h
    | some p =>
      cases e2 : D.pys ds with
      | none => rw [e1, e2] at h; cases h
      | some qs =>
        rw [e1, e2] at h
        cases h
        cases i with
        | zero => exact e1
        | succ i => exact pys_getD e2 i (by simpa using hi)
theorem pys_len : ∀ {ds : List D} {ps : List PyData}, D.pys ds = some ps → ps.length = ds.length
  | [], _, h => by cases h; rfl
  | d :: ds, ps, h => by
    unfold D.pys at h
    cases e1 : d.py with
    | none => rw [e1] at h; cases e2 : D.pys ds <;> rw [e2] at h <;> cases h
    | some p =>
      cases e2 : D.pys ds with
      | none => rw [e1, e2] at h; cases h
      | some qs => rw [e1, e2] at h; cases h; simp [pys_len e2]
theorem argBest_congr {f g : Nat → Nat → Bool} : ∀ {n : Nat}, (∀ i j, i ≤ n → j ≤ n → f i j = g i j) → argBest f n = argBest g n ∧ argBest f n ≤ n
  | 0, _ => ⟨rfl, Nat.le_refl _⟩
  | n + 1, h => by
    obtain ⟨e, l⟩ := argBest_congr (n := n) fun i j hi hj => h i j (Nat.le_succ_of_le hi) (Nat.le_succ_of_le hj)
    have e2 := h (n + 1) (argBest f n) (Nat.le_refl _) (Nat.le_succ_of_le l)
    unfold argBest
    rw [← e, ← e2]
    refine ⟨rfl, ?_⟩
    split
    · exact Nat.le_refl _
    · exact Nat.le_succ_of_le l
theorem o_minG (hc : X.calm = true) (hu : X.A.units + 65 < cLine) : Op1r X T (.builtin "min") minG := by
  refine ⟨_, cr_minG hc hu, fun G H x dx d Q e t rx hd q => ?_⟩
  unfold minG at hd
  split at hd
  · rename_i d0 l hi
    split at hd
    · rename_i ps hp
      split at hd
      · rename_i c
        cases hd
        unfold minOkB at c
        rw [Bool.and_eq_true, decide_eq_true_eq] at c
        obtain ⟨a, vs, rfl, hs, rs⟩ := rx.items e hi
        have hlen := pys_len hp
        refine ⟨a, vs, ps, rfl, hs, Reps.dp e.sm _ _ _ rs hp, fun z => (by rw [z] at hlen; cases hlen), alikeB_all c.1, c.2, fun v hv => ?_⟩
        have key := (PySem.W.argBest_fold ltP D.non d0 l l.length (Nat.le_refl _)).2
        rw [List.take_length] at key
        have eb : argBest (fun i j => PySem.W.dataLt (ps.getD i .none) (ps.getD j .none)) (ps.length - 1) = argBest (fun i j => ltP ((d0 :: l).getD i .non) ((d0 :: l).getD j .non)) l.length := by
          rw [hlen]
          refine (argBest_congr fun i j hi hj => ?_).1
          have hi : i < (d0 :: l).length := Nat.lt_succ_of_le hi
          have hj : j < (d0 :: l).length := Nat.lt_succ_of_le hj
          unfold ltP
          rw [pys_getD hp i hi, pys_getD hp j hj]
        rw [eb] at hv
        have hlt := (PySem.W.argBest_fold ltP D.non d0 l l.length (Nat.le_refl _)).1
        generalize argBest (fun i j => ltP ((d0 :: l).getD i .non) ((d0 :: l).getD j .non)) l.length = k at hv key hlt
        have hk : k < (d0 :: l).length := Nat.lt_succ_of_le hlt
        have hg : (d0 :: l)[k]? = some (minGo d0 l) := by
          rw [List.getD_eq_getElem?_getD, List.getElem?_eq_getElem hk] at key
          rw [List.getElem?_eq_getElem hk]
          exact congrArg some key
        obtain ⟨v', e1, e2⟩ := rs.get hg
        rw [hv] at e1
        cases e1
        exact Ext.q0 q e t e2
      · cases hd
    · cases hd
  · cases hd
end
end PV
/-! PV26: {k: v} with a tuple of ints as key; expressions that change what is one's own -/
namespace L2
open PySem PySem.Spec PyProof.Rows
def tDisp1 (tk tv : TE) : TE := fun σ H Q => ∀ p, H p = none → tk σ (upd H p (.dT [])) fun x H1 => tv σ H1 fun y H2 => H2 p = some (.dT []) ∧ ∃ (b : Addr) (kn : List Key), x = .ref b ∧ H2 b = some (.tup (kn.map kV)) ∧ Q (.ref p) (upd H2 p (.dT (putK [] kn y)))
theorem pe_disp1 {X : Cx} {pos : Pos} {k v : Expr} {tk tv : TE} (hu : X.A.units + 2 < cLine) (hk : PE X k tk) (hv : PE X v tv) : PE X (.Dict [some k] [v] pos) (tDisp1 tk tv) := by
  refine ⟨fun pins s σ H Q I q => ?_⟩
  have hn := I.hok.fresh (Nat.le_refl s.heap.objs.size)
  have I1 := I.laid (a := s.heap.objs.size) (o := .dT []) (h' := s.heap.push { cls := .type "dict", data := .dict #[] }) (t' := s.toks) (fun _ _ q => Heap.get?_push_of_some _ q) (Nat.le_refl _) (dt_empty s.heap I.big)
  have hlen : (pairTrees [some k] [v] X.env pos).length = 1 := pairTrees_length _ _ _ _ rfl rfl
  rw [arm_eval_Dict, show ((evalEachOpt [some k] X.env).zip ((evalEach [v] X.env).map fun v => do let x ← v; standAt pos; pure x)) = (pairTrees [some k] [v] X.env pos).map fun p => (some p.1, p.2) from zip_pairTrees _ _ _ _ rfl rfl, dictDisplay_pairs _ (fun z => by have := hlen; rw [z] at this; cases this) (by rw [hlen]; decide)]
  refine wpAny_bind (wpAny_standAt (wpAny_bind ?_))
  unfold subDict
  refine wpAny_bind (wpAny_alloc (wpAny_bind (wpAny_holding ?_)))
  rw [if_pos (by rw [hlen]; decide)]
  refine wpAny_bind ?_
  refine pairTrees_cons_walk (thn (hk.run pins _ σ _ _ I1 (q _ hn)) fun u s1 ⟨x, H1, I2, rx, q1⟩ => thn (hv.run pins s1 σ H1 _ I2 q1) fun w2 s2 ⟨y, H2, I3, ry, e, b, kn, ex, eb, q2⟩ => pairTrees_nil_walk ?_)
  subst ex
  cases (show u = Value.ref b from rx)
  refine wpAny_holding ?_
  rw [List.forIn_cons]
  obtain ⟨z, hd, xs, rel, dd⟩ := dt_of I3.hok e
  have hz : xs.length ≤ sizeLine := by rw [← Paired.length rel]; exact z
  have hl : (putK [] kn y).length ≤ sizeLine := by have := length_putK [] kn y; rw [List.length_nil] at this; rw [sizeLine_eq]; omega
  refine wpAny_bind (wpAny_bind (wpAny_bind (wpAny_dictSet_heap (hsz := hz) (show (tupleKind (mixKind X.prog X.w)).room X.A from (show X.A.units < cLine by omega)) (key_of I3.hok eb) dd fun h' dd' hs => wpAny_pure ?_)))
  show wpAny _ _ (forIn [] PUnit.unit _) _ _ _
  rw [List.forIn_nil]
  refine wpAny_pure (wpAny_pure (wpAny_pure (wpAny_pure ?_)))
  obtain ⟨q', es, ep, hq, h2, h3, h4, _, h5⟩ := dd'
  refine ⟨.ref s.heap.objs.size, upd H2 s.heap.objs.size (.dT (putK [] kn y)), d_write I3 (by rw [e]; exact True.intro) hs ⟨q', hq⟩ ⟨hl, hd, _, (rel.put kn eb ry).keeps fun c ys ec => ?_, q', es, ep, hq, h2, h3, h4, h5⟩, rfl, q2⟩
  rw [upd_ne (ne_of ec e (fun z => nomatch z))]
  exact ec
end L2
namespace PV
open PySem PySem.Spec L2
def eD1 (fk fv : Sl → Res D) : Sl → Res D := fun σ => (fk σ).bind fun k => (fv σ).bind fun v => match k.key with
  | some kn => .ok (.dct [(kn, v)])
  | none => .no
section
variable {X : Cx} {T : Tbs} {W : WX} {M : List Nat} {pos p : Pos} {x : Str} {e e' : Expr} {es : List Expr} {f fa fb : Sl → Res D}
theorem pxf_d1 (hu : X.A.units + 65 < cLine) (hk : PX X T W M e fa) (hv : PX X T W M e' fb) : PXf X T W M (.Dict [some e] [e'] pos) (eD1 fa fb) := by
  obtain ⟨ta, pa, qa⟩ := hk.run
  obtain ⟨tb, pb, qb⟩ := hv.run
  refine ⟨_, pe_disp1 (by omega) pa pb, fun G0 H0 G H σ σd Q er o => ?_⟩
  intro p hp
  have x0 : Ext T G H G (upd H p (.dT [])) := Ext.priv er.gh er.tb hp
  have er0 := er.to x0
  unfold eD1 at o
  refine qa _ _ _ _ _ _ _ er0 ?_
  revert o
  cases fa σd with
  | ex c => exact id
  | no => exact id
  | ok dk =>
  intro o G1 H1 k x1 rk
  refine qb _ _ _ _ _ _ _ (er0.to x1) ?_
  revert o
  rw [Res.ok_bind]
  cases fb σd with
  | ex c => exact id
  | no => exact id
  | ok dv =>
  intro o G2 H2 v x2 rv
  have h1 : H1 p = some (.dT []) := x1.hh _ _ upd_same (fun _ z => nomatch z)
  have h2 : H2 p = some (.dT []) := x2.hh _ _ h1 (fun _ z => nomatch z)
  have g1 : G1 p = none := x1.fr p _ (er.gh.none hp) upd_same Mo.dct
  have g2 : G2 p = none := x2.fr p _ g1 h1 Mo.dct
  rw [Res.ok_bind] at o
  cases hk : dk.key with
  | none => rw [hk] at o; exact o.elim
  | some kn =>
    rw [hk] at o
    obtain ⟨b, rfl, hb⟩ := rR.key (.inl (Rep.mono x2.gg _ _ rk)) x2.gh hk
    refine ⟨h2, b, _, rfl, hb, ?_⟩
    have x3 : Ext T G H G2 (upd H2 p (.dT (putK [] (kn.map Sum.inl) v))) := ((x0.trans x1).trans x2).put h2 Mo.dct g2 (NT.of hp)
    exact o G2 _ (.ref p) x3 ⟨p, rfl, NT.of hp, g2, .inr ⟨_, _, rfl, upd_same, (RepK.nil.put kn rv)⟩⟩
/-! ### effects -/
/-- a value, and the slots behind -/
def OutM (X : Cx) (T : Tbs) (W : WX) (M : List Nat) (G0 H0 G : Hp) (σ : L2.St) {α β : Type} (R : Hp → Hp → β → α → Prop) (r : Res (α × Sl)) (Q : β → Hp → Prop) : Prop :=
  match r with
  | .ok p => ∀ G' H' v, Sm G G' → ER X T M G0 H0 G' H' σ p.2 → R G' H' v p.1 → Q v H'
  | .ex c => ∀ C H' σ', X.mg c = some (.ref C) → Sm H0 H' → LamX.Tabs T H' → W (.ref C) none σ' H'
  | .no => False
theorem OutM.up {G0 H0 G G1 : Hp} {σ : L2.St} {α β : Type} {R : Hp → Hp → β → α → Prop} {r : Res (α × Sl)} {Q : β → Hp → Prop} (o : OutM X T W M G0 H0 G σ R r Q) (s : Sm G G1) : OutM X T W M G0 H0 G1 σ R r Q := by
  cases r with
  | ok p => exact fun G' H' v x => o G' H' v (s.trans x)
  | ex c => exact o
  | no => exact o
theorem OutM.seq {G0 H0 G : Hp} {σ : L2.St} {α β α' β' : Type} {R : Hp → Hp → β → α → Prop} {R' : Hp → Hp → β' → α' → Prop} {r : Res (α × Sl)} {k : α × Sl → Res (α' × Sl)} {Q : β' → Hp → Prop} {Q1 : β → Hp → Prop}
    (h : OutM X T W M G0 H0 G σ R' (r.bind k) Q) (hk : ∀ p G1 H1 v, r = .ok p → Sm G G1 → ER X T M G0 H0 G1 H1 σ p.2 → R G1 H1 v p.1 → OutM X T W M G0 H0 G1 σ R' (k p) Q → Q1 v H1) : OutM X T W M G0 H0 G σ R r Q1 := by
  cases r with
  | ok p => exact fun G1 H1 v s er rv => hk p G1 H1 v rfl s er rv (OutM.up h s)
  | ex c => exact h
  | no => exact h
theorem OutM.seqS {G0 H0 G : Hp} {σ : L2.St} {α β : Type} {R : Hp → Hp → β → α → Prop} {r : Res (α × Sl)} {k : α × Sl → Res Fl} {Z : Ends} {Q1 : β → Hp → Prop}
    (h : OutS X T W M G0 H0 G (r.bind k) Z) (hk : ∀ p G1 H1 v, r = .ok p → Sm G G1 → ER X T M G0 H0 G1 H1 σ p.2 → R G1 H1 v p.1 → OutS X T W M G0 H0 G1 (k p) Z → Q1 v H1) : OutM X T W M G0 H0 G σ R r Q1 := by
  cases r with
  | ok p => exact fun G1 H1 v s er rv => hk p G1 H1 v rfl s er rv (OutS.up h s)
  | ex c => exact h
  | no => exact h
theorem Out.toM {G0 H0 G H : Hp} {σ : L2.St} {σd : Sl} {α β : Type} {R : Hp → Hp → β → α → Prop} {r : Res α} {Q : β → Hp → Prop} (er : ER X T M G0 H0 G H σ σd) (o : OutM X T W M G0 H0 G σ R (r.bind fun d => .ok (d, σd)) Q) : Out X T W H0 R r G H Q := by
  cases r with
  | ok d => exact fun G' H' v x rv => o G' H' v x.gg (er.to x) rv
  | ex c => exact o
  | no => exact o
structure PXm (X : Cx) (T : Tbs) (W : WX) (M : List Nat) (e : Expr) (f : Sl → Res (D × Sl)) : Prop where
  run : ∃ t, PE X e t ∧ ∀ G0 H0 G H σ σd Q, ER X T M G0 H0 G H σ σd → OutM X T W M G0 H0 G σ (rV X) (f σd) Q → t σ H Q
structure PXms (X : Cx) (T : Tbs) (W : WX) (M : List Nat) (es : List Expr) (f : Sl → Res (List D × Sl)) : Prop where
  run : ∃ t, PA X es t ∧ ∀ G0 H0 G H σ σd Q, ER X T M G0 H0 G H σ σd → OutM X T W M G0 H0 G σ (rVs X) (f σd) Q → t σ H Q
  len : ∀ σ p, f σ = .ok p → p.1.length = es.length
def mP (f : Sl → Res D) : Sl → Res (D × Sl) := fun σ => (f σ).bind fun d => .ok (d, σ)
def mNil : Sl → Res (List D × Sl) := fun σ => .ok ([], σ)
def mCons (a : Sl → Res (D × Sl)) (r : Sl → Res (List D × Sl)) : Sl → Res (List D × Sl) := fun σ => (a σ).bind fun p => (r p.2).bind fun q => .ok (p.1 :: q.1, q.2)
def mCall (h : List D → Res D) (f : Sl → Res (List D × Sl)) : Sl → Res (D × Sl) := fun σ => (f σ).bind fun p => (h p.1).bind fun d => .ok (d, p.2)
def mPop (i : Nat) : Sl → Res (D × Sl) := fun σ => match σ[i]? with
  | some (some (.lst ds)) => match ds.getLast? with
    | some d => .ok (d, σ.set i (some (.lst ds.dropLast)))
    | none => .no
  | _ => .no
theorem pxm_of (h : PX X T W M e f) : PXm X T W M e (mP f) := by
  obtain ⟨t, p, q⟩ := h.run
  exact ⟨t, p, fun G0 H0 G H σ σd Q er o => q _ _ _ _ _ _ _ er (Out.toM er o)⟩
theorem pxms_nil : PXms X T W M [] mNil := ⟨⟨_, pa_nil, fun G0 H0 G H σ σd Q er o => o G H [] (Sm.refl _) er .nil⟩, fun σ p h => by cases h; rfl⟩
theorem pxms_cons {fa : Sl → Res (D × Sl)} {fr : Sl → Res (List D × Sl)} (ha : PXm X T W M e fa) (hr : PXms X T W M es fr) (he : starEach (e :: es) X.env = (false, eval e X.env) :: starEach es X.env := by rfl) : PXms X T W M (e :: es) (mCons fa fr) := by
  obtain ⟨ta, pa, qa⟩ := ha.run
  obtain ⟨⟨tr, pr, qr⟩, hl⟩ := hr
  refine ⟨⟨_, pa_cons pa pr he, fun G0 H0 G H σ σd Q er o => ?_⟩, fun σ p h => ?_⟩
  · refine qa _ _ _ _ _ _ _ er (OutM.seq (R := rV X) o fun p G1 H1 v _ s1 er1 rv o => ?_)
    refine qr _ _ _ _ _ _ _ er1 (OutM.seq (R := rVs X) o fun q G2 H2 vs _ s2 er2 rs o => ?_)
    exact o G2 H2 _ (Sm.refl _) er2 (.cons (Rep.mono s2 _ _ rv) rs)
  · unfold mCons at h
    cases h1 : fa σ with
    | ok a =>
      rw [h1] at h
      have h : ((fr a.2).bind fun q => Res.ok (a.1 :: q.1, q.2)) = .ok p := h
      cases h2 : fr a.2 with
      | ok q =>
        rw [h2] at h
        cases h
        show q.1.length + 1 = es.length + 1
        rw [hl _ _ h2]
      | ex c => rw [h2] at h; cases h
      | no => rw [h2] at h; cases h
    | ex c => rw [h1] at h; cases h
    | no => rw [h1] at h; cases h
theorem pxm_pop {i : Nat} {ap cp : Pos} (hv : PE X (.Name x p) (tVar i)) (hM : i ∈ M)
    (hbase : attributeBase (.Name x p) "pop" X.env (eval (.Name x p) X.env) = eval (.Name x p) X.env := by rfl)
    (hline : (ap.endLine == cp.line) = true := by rfl) :
    PXm X T W M (.Call (.Attribute (.Name x p) "pop" ap) [] [] cp) (mPop i) := by
  refine ⟨_, pe_bm0 PySem.F.plainAttrs_list PySem.F.slot_list_pop PySem.F.type_list_pop mt_pop hv hbase hline, fun G0 H0 G H σ σd Q er o => ?_⟩
  unfold mPop at o
  split at o
  · rename_i ds e
    split at o
    · rename_i d ed
      obtain ⟨a, q, h0, hg, ho⟩ := er.own i _ hM e
      rcases ho with ⟨vs, ds', z, h1, h2⟩ | ⟨kvs, kds, z, h1, h2⟩
      · cases z
        rw [List.getLast?_eq_getElem?] at ed
        obtain ⟨y, e1, e2⟩ := h2.get ed
        rw [← h2.length] at e1
        refine ⟨_, q, .inl ⟨rfl, vs, SqL.of h1⟩, a, vs, y, rfl, rfl, h1, e1, ?_⟩
        refine o G _ _ (Sm.refl _) (er.put hM e q h1 Mo.lst ⟨hg, .inl ⟨_, _, rfl, upd_same, ?_⟩⟩) e2
        rw [List.dropLast_eq_take, List.dropLast_eq_take, h2.length]
        exact h2.take _
      · cases z
    · exact o.elim
  · exact o.elim
theorem pxm_call {y : Str} {ps : List Str} {k : Nat} {h : List D → Res D} {fs : Sl → Res (List D × Sl)} (C : Cal X.prog X.w X.K X.mg X.base T y ps k h) (hr : Room k X.A) (hg : Gl X y) (tk : Takes X W) (ha : PXms X T W M (e :: es) fs) (hn : (e :: es).length = ps.length := by rfl)
    (hdb : (y == ("__debug__" : Str)) = false := by decide) (he : starEach (e :: es) X.env = (false, eval e X.env) :: starEach es X.env := by rfl) (hpl : (backTo pos (starEach es X.env)).any (·.1) = false := by rfl) : PXm X T W M (.Call (.Name y p) (e :: es) [] pos) (mCall h fs) := by
  obtain ⟨fn, fd, F, hb, hk, hm, _⟩ := C.ex
  obtain ⟨⟨ta, pa, qa⟩, hl⟩ := ha
  refine ⟨_, pe_call F hr hg hm hk hb .nil (E := fun cls d H => ∀ σ, W cls d σ H) (passes_call tk fun cls d σ H z => z σ) pa hdb he hpl, fun G0 H0 G H σ σd Q er o => ?_⟩
  refine qa _ _ _ _ _ _ _ er (OutM.seq (R := rVs X) o fun q G1 H1 vs hf s1 er1 rs o => ?_)
  show spR X.K X.mg T ps.length h (vs ++ []) H1 Q _
  rw [List.append_nil]
  exact spR_of (Out.toM er1 o) er1.ext.hh er1.gh er1.tb rs (by rw [rs.length, hl σd q hf]; exact hn)
/-! for x in f(.., own.pop()): -/
def mSeq (f : Sl → Res (D × Sl)) : Sl → Res (List D × Sl) := fun σ => (f σ).bind fun p => (Res.of p.1.items).bind fun ds => .ok (ds, p.2)
def sForM (f : Sl → Res (List D × Sl)) (g : D → Sl → Option Sl) (s : Sl → Res Fl) : Sl → Res Fl := fun σ => (f σ).bind fun p => forGo g s p.1 p.2
structure PIm (X : Cx) (T : Tbs) (W : WX) (M : List Nat) (tg it : Expr) (f : Sl → Res (List D × Sl)) : Prop where
  run : ∃ wi, PI X tg it wi ∧ ∀ G0 H0 G H σ σd (R : It → Hp → Prop), ER X T M G0 H0 G H σ σd → OutM X T W M G0 H0 G σ (fun G H J ds => WalkD X T False J ds G H) (f σd) R → wi σ H R
theorem ixm_seq {tg : Expr} {f : Sl → Res (D × Sl)} (h : PXm X T W M e f) : PIm X T W M tg e (mSeq f) := by
  obtain ⟨t, p, q⟩ := h.run
  refine ⟨_, pi_seq p, fun G0 H0 G H σ σd R er o => ?_⟩
  refine q _ _ _ _ _ _ _ er (OutM.seq (R := rV X) o fun d G1 H1 v _ s1 er1 rv o => ?_)
  cases hd : d.1.items with
  | none => rw [hd] at o; exact o.elim
  | some ds =>
    rw [hd] at o
    have k : ∀ J, WalkD X T False J ds G1 H1 → R J H1 := fun J w => o G1 H1 J (Sm.refl _) er1 w
    obtain ⟨a, vs, rfl, h, rs⟩ := rv.items hd
    refine ⟨a, rfl, ?_⟩
    rcases h with h | h
    · exact .inl ⟨⟨vs, er1.gh.sm.sqL h⟩, k _ (yat_walk walk_list rs fun G' H' s v _ => v.sm.sqL (s.sqL h))⟩
    · exact .inr ⟨⟨vs, er1.gh.sm.sqT h⟩, k _ (yat_walk walk_tup rs fun G' H' s v _ => v.sm.sqT (s.sqT h))⟩
theorem ss_forM {tg it : Expr} {fs : Sl → Res (List D × Sl)} {body : List Stmt} {ts : List Nat} {g : D → Sl → Option Sl} {gb : Sl → Res Fl} (hp : PassesOwn (model X.prog X.w) X.A X.env X.xe) (hc : X.calm = true) (hi : PIm X T W M tg it fs) (hg : PGx X T M tg ts g) (hb : PXSs X T W M body gb)
    (hs : ∀ x, foldedSetIterable it X.env x = pure x := by intro _; rfl) : PXS X T W M (.For tg it body [] pos) (sForM fs g gb) := by
  obtain ⟨wi, pw, qw⟩ := hi.run
  obtain ⟨ta, pa, qa⟩ := hg.run
  obtain ⟨tb, pb, qb⟩ := hb.run
  refine ⟨_, ps_for hp hc pw pa pb hs, fun G0 H0 G H σ σd Z er o => ?_⟩
  refine qw _ _ _ _ _ _ _ er (OutM.seqS (X := X) (R := fun G H J ds => WalkD X T False J ds G H) o fun p G1 H1 J _ s1 er1 w o => ?_)
  obtain ⟨ds, σd1⟩ := p
  dsimp only at er1 w o
  obtain ⟨GW, Y, w1, w2, w3⟩ := w
  refine for_it w1 (fun i σ H => ∃ G σd, ER X T M G0 H0 G H σ σd ∧ Sm G1 G ∧ OutS X T W M G0 H0 G1 (forGo g gb (ds.drop i) σd) Z) ⟨G1, σd1, er1, Sm.refl _, by simpa using o⟩ (fun i σ H hi ⟨G, σd, er, s, _⟩ => w2 G H s er.gh fun z => z.elim) (fun i x σ H H' hi ⟨G, σd, er, s, o⟩ y => ?_) (fun σ H ⟨G, σd, er, s, o⟩ => ?_)
  · obtain ⟨G2, d, x2, hd, rx⟩ := w3 i G H x H' hi s er.gh er.tb (fun z => z.elim) y
    have hdr : ds.drop i = d :: ds.drop (i + 1) := by
      obtain ⟨hi', e⟩ := List.getElem?_eq_some_iff.mp hd
      rw [← e]; exact List.drop_eq_getElem_cons hi'
    rw [hdr] at o
    have o : OutS X T W M G0 H0 G1 ((Res.of (g d σd)).bind fun σ1 => (gb σ1).bind fun fl => match fl with
      | .nx σ2 => forGo g gb (ds.drop (i + 1)) σ2
      | .ct σ2 => forGo g gb (ds.drop (i + 1)) σ2
      | .bk σ2 => .ok (.nx σ2)
      | .rt d => .ok (.rt d)) Z := o
    cases z : g d σd with
    | none => rw [z] at o; exact o.elim
    | some σ1 =>
      rw [z] at o
      refine qa _ _ _ _ _ _ _ _ _ (er.to x2) rx ⟨σ1, z, fun σ' er' _ => ?_⟩
      refine qb _ _ _ _ _ _ _ er' ?_
      have o : OutS X T W M G0 H0 G1 ((gb σ1).bind fun fl => match fl with
        | .nx σ2 => forGo g gb (ds.drop (i + 1)) σ2
        | .ct σ2 => forGo g gb (ds.drop (i + 1)) σ2
        | .bk σ2 => .ok (.nx σ2)
        | .rt d => .ok (.rt d)) Z := o
      revert o
      cases gb σ1 with
      | ok fl =>
        cases fl with
        | nx σ2 => exact fun o G3 H3 σ3 s3 er3 => ⟨G3, σ2, er3, (s.trans x2.gg).trans s3, o⟩
        | ct σ2 => exact fun o G3 H3 σ3 s3 er3 => ⟨G3, σ2, er3, (s.trans x2.gg).trans s3, o⟩
        | bk σ2 => exact fun o G3 H3 σ3 s3 er3 => o G3 H3 σ3 ((s.trans x2.gg).trans s3) er3
        | rt d => exact id
      | ex c => exact id
      | no => exact id
  · rw [List.drop_length] at o
    exact o G H σ s er
end
end PV
/-! PV27: methods of texts -/
namespace PV
open PySem PySem.Spec L2
def eM1 (g : Str → D → Option D) (fa fb : Sl → Res D) : Sl → Res D := fun σ => (fa σ).bind fun x => match x with
  | .str z => (fb σ).bind fun y => .of (g z y)
  | _ => .no
def D.strs : List D → Option (List Str)
  | [] => some []
  | .str z :: r => match D.strs r with | some ns => some (z :: ns) | none => none
  | _ :: _ => none
def joinS (z : Str) (d : D) : Option D := (d.items.bind D.strs).bind fun ys => if (ys.map (·.length)).sum + ys.length * z.length ≤ 16777216 then some (.str (Str.join z ys)) else none
section
variable {X : Cx} {T : Tbs} {W : WX} {M : List Nat} {pos p apos : Pos} {x : Str} {a b : Expr} {fa fb : Sl → Res D}
def OpM1 (X : Cx) (T : Tbs) (r : V → List V → Hp → VK → Prop) (g : Str → D → Option D) : Prop := ∀ G H z y dy d Q, Vw G H → LamX.Tabs T H → rR X G H y dy → g z dy = some d → (∀ G' H' v, Ext T G H G' H' → Rep X.K X.mg G' v d → Q v H') → r (.str z) [y] H Q
theorem px_m1 {id : String} {name : Str} {r : V → List V → Hp → VK → Prop} {g : Str → D → Option D} (slot : Slot "str" name id) (ty : typeOf (.builtin id) = pure (.type "method_descriptor")) (rule : MtR X id r) (ho : OpM1 X T r g) (ha : PX X T W M a fa) (hb : PXr X T W M b fb)
    (hs : starEach [b] X.env = [(false, eval b X.env)] := by rfl) (hbase : attributeBase a name X.env (eval a X.env) = eval a X.env := by rfl) (hline : (apos.endLine == pos.line) = true := by rfl) :
    PX X T W M (.Call (.Attribute a name apos) [b] [] pos) (eM1 g fa fb) := by
  obtain ⟨ta, pa, qa⟩ := ha.run
  obtain ⟨tb, pb, qb⟩ := hb.run
  refine ⟨_, pe_m1 slot ty rule pa pb hs hbase hline, fun G0 H0 G H σ σd Q er o => ?_⟩
  refine qa _ _ _ _ _ _ _ er (o.seq fun dx G1 H1 x _ x1 rx o => ?_)
  cases dx with
  | str z =>
    cases rx
    refine ⟨⟨z, rfl⟩, ?_⟩
    refine qb _ _ _ _ _ _ _ (er.to x1) (Out.seq (X := X) o fun dy G2 H2 y _ x2 ry o => ?_)
    obtain ⟨d, e, q⟩ := o.of
    exact ho G2 H2 z y dy d Q x2.gh x2.tb ry e q
  | _ => exact o.elim
theorem Reps.strs {K : PySem.W.Frag} {mg : Str → Option Value} {G : Hp} : ∀ {ds : List D} {ys : List Str} {vs : List V}, D.strs ds = some ys → Reps K mg G vs ds → vs = ys.map V.str
  | [], ys, vs, h, r => by cases h; cases r; rfl
  | d :: ds, ys, vs, h, r => by
    cases d with
    | str z =>
      unfold D.strs at h
      cases e : D.strs ds with
      | none => rw [e] at h; cases h
      | some ms =>
        rw [e] at h
        cases h
        cases r with
        | cons r1 r2 => cases r1; rw [Reps.strs e r2]; rfl
    | _ => cases h
theorem om_join : OpM1 X T (fun x xs H Q => ∃ a p, ∃ ys : List Str, x = .str a ∧ xs = [.ref p] ∧ (SqL X.K H p (ys.map V.str) ∨ SqT X.K H p (ys.map V.str)) ∧
    (ys.map (·.length)).sum + ys.length * a.length ≤ 16777216 ∧ Q (.str (Txt.join a ys)) H) joinS := by
  intro G H z y dy d Q e t ry hd q
  unfold joinS at hd
  obtain ⟨ys, h1, h2⟩ := Option.bind_eq_some_iff.mp hd
  obtain ⟨ds, h3, h4⟩ := Option.bind_eq_some_iff.mp h1
  split at h2
  · rename_i c
    cases h2
    obtain ⟨p, vs, rfl, hs, rs⟩ := rR.items ry e h3
    have ev := Reps.strs h4 rs
    subst ev
    exact ⟨z, p, ys, rfl, rfl, hs, c, by rw [TL.join_eq]; exact Ext.q0 q e t (.str _)⟩
  · cases h2
theorem px_join (ha : PX X T W M a fa) (hb : PXr X T W M b fb)
    (hs : starEach [b] X.env = [(false, eval b X.env)] := by rfl) (hbase : attributeBase a "join" X.env (eval a X.env) = eval a X.env := by rfl) (hline : (apos.endLine == pos.line) = true := by rfl) :
    PX X T W M (.Call (.Attribute a "join" apos) [b] [] pos) (eM1 joinS fa fb) := px_m1 F.slot_str_join F.type_str_join mt_join om_join ha hb hs hbase hline
theorem pxt_din (hu : X.A.units + 1 < cLine) {fa fb : Sl → Res D} {e e' : Expr} (ha : PX X T W M e fa) (hb : PXr X T W M e' fb) (hm : behindInMarks .In e' = false) : PXt X T W M (.Compare e [.In] [e'] pos) (eB (e2 dinD fa fb)) := by
  obtain ⟨ta, pa, qa⟩ := ha.run
  obtain ⟨tb, pb, qb⟩ := hb.run
  refine ⟨_, pt_cmp (pc_din hu pa pb) hm, fun G0 H0 G H σ σd Q er o => ?_⟩
  have o1 : Out X T W H0 rB ((fa σd).bind fun x => ((fb σd).bind fun y => .of (dinD x y)).bind D.tobool) G H Q := by
    have e : eB (e2 dinD fa fb) σd = ((fa σd).bind fun x => ((fb σd).bind fun y => .of (dinD x y)).bind D.tobool) := by
      unfold eB e2
      cases fa σd <;> rfl
    rw [← e]; exact o
  refine qa _ _ _ _ _ _ _ er (o1.seq fun dx G1 H1 x _ x1 rx o => ?_)
  have o2 : Out X T W H0 rB ((fb σd).bind fun y => (Res.of (dinD dx y)).bind D.tobool) G1 H1 Q := by
    have e : ((fb σd).bind fun y => Res.of (dinD dx y)).bind D.tobool = ((fb σd).bind fun y => (Res.of (dinD dx y)).bind D.tobool) := by
      cases fb σd <;> rfl
    rw [← e]; exact o
  refine qb _ _ _ _ _ _ _ (er.to x1) (o2.seq fun dy G2 H2 y _ x2 ry o => ?_)
  cases hd : dinD dx dy with
  | none => rw [hd] at o; exact o.elim
  | some d =>
    rw [hd] at o
    obtain ⟨kk, rfl, q⟩ := Out.tobool o
    unfold dinD at hd
    split at hd
    · rename_i k kds
      rw [Option.map_eq_some_iff] at hd
      obtain ⟨kn, hk, z⟩ := hd
      cases z
      obtain ⟨a, kvs, rfl, h1, h2⟩ := rR.dctT ry x2.gh
      obtain ⟨b, rfl, hb⟩ := rR.key (.inl (Rep.mono x2.gg _ _ rx)) x2.gh hk
      refine ⟨a, _, rfl, DGet.t h1 hb, _, rfl, ?_⟩
      rw [din_aux (X := X) (H := H2) h2]
      exact q G2 H2 (Ext.refl x2.gh x2.tb)
    · cases hd
theorem pxt_dnotin (hu : X.A.units + 1 < cLine) {fa fb : Sl → Res D} {e e' : Expr} (ha : PX X T W M e fa) (hb : PXr X T W M e' fb) (hm : behindInMarks .NotIn e' = false) : PXt X T W M (.Compare e [.NotIn] [e'] pos) (eB (e2 dninD fa fb)) := by
  obtain ⟨ta, pa, qa⟩ := ha.run
  obtain ⟨tb, pb, qb⟩ := hb.run
  refine ⟨_, pt_cmp (pc_dnotin hu pa pb) hm, fun G0 H0 G H σ σd Q er o => ?_⟩
  have o1 : Out X T W H0 rB ((fa σd).bind fun x => ((fb σd).bind fun y => .of (dninD x y)).bind D.tobool) G H Q := by
    have e : eB (e2 dninD fa fb) σd = ((fa σd).bind fun x => ((fb σd).bind fun y => .of (dninD x y)).bind D.tobool) := by
      unfold eB e2
      cases fa σd <;> rfl
    rw [← e]; exact o
  refine qa _ _ _ _ _ _ _ er (o1.seq fun dx G1 H1 x _ x1 rx o => ?_)
  have o2 : Out X T W H0 rB ((fb σd).bind fun y => (Res.of (dninD dx y)).bind D.tobool) G1 H1 Q := by
    have e : ((fb σd).bind fun y => Res.of (dninD dx y)).bind D.tobool = ((fb σd).bind fun y => (Res.of (dninD dx y)).bind D.tobool) := by
      cases fb σd <;> rfl
    rw [← e]; exact o
  refine qb _ _ _ _ _ _ _ (er.to x1) (o2.seq fun dy G2 H2 y _ x2 ry o => ?_)
  cases hd : dninD dx dy with
  | none => rw [hd] at o; exact o.elim
  | some d =>
    rw [hd] at o
    obtain ⟨kk, rfl, q⟩ := Out.tobool o
    unfold dninD at hd
    split at hd
    · rename_i k kds
      rw [Option.map_eq_some_iff] at hd
      obtain ⟨kn, hk, z⟩ := hd
      cases z
      obtain ⟨a, kvs, rfl, h1, h2⟩ := rR.dctT ry x2.gh
      obtain ⟨b, rfl, hb⟩ := rR.key (.inl (Rep.mono x2.gg _ _ rx)) x2.gh hk
      refine ⟨a, _, rfl, DGet.t h1 hb, _, rfl, ?_⟩
      rw [din_aux (X := X) (H := H2) h2]
      exact q G2 H2 (Ext.refl x2.gh x2.tb)
    · cases hd
end
end PV
set_option maxHeartbeats 2000000
/-! PV28: min(xs, key=lambda y: body) -/
namespace LamX
open PySem PySem.Spec PyProof.Rows L2
/-- one parameter y, no other name of its own -/
structure LamP (sc scope : Scope) (y : Str) : Prop where
  kind : scope.kind = .function
  co : scope.isCoroutine = false
  gen : scope.isGenerator = false
  own : ∀ z ∈ scope.names, z.2 ≠ .cell ∧ (z.2 = .local → z.1 = y)
  lk : scope.names.lookup y = some .local
  free : ∀ z ∈ scope.names, z.2 = .free → sc.names.lookup z.1 = some .cell ∨ sc.names.lookup z.1 = some .free
def lamPB (sc scope : Scope) (y : Str) : Bool :=
  decide (scope.kind = .function) && !scope.isCoroutine && !scope.isGenerator && decide (scope.names.lookup y = some .local) && scope.names.all fun z => !decide (z.2 = .cell) && (!decide (z.2 = .local) || decide (z.1 = y)) && (!decide (z.2 = .free) || decide (sc.names.lookup z.1 = some .cell) || decide (sc.names.lookup z.1 = some .free))
theorem lamP_by {sc scope : Scope} {y : Str} (h : lamPB sc scope y = true) : LamP sc scope y := by
  unfold lamPB at h
  simp only [Bool.and_eq_true, Bool.or_eq_true, Bool.not_eq_true', decide_eq_true_eq, decide_eq_false_iff_not, List.all_eq_true] at h
  obtain ⟨⟨⟨⟨h1, h2⟩, h3⟩, h4⟩, h5⟩ := h
  refine ⟨h1, h2, h3, fun z hz => ⟨(h5 z hz).1.1, fun e => ?_⟩, h4, fun z hz e => ?_⟩
  · rcases (h5 z hz).1.2 with k | k
    · exact absurd e k
    · exact k
  · rcases (h5 z hz).2 with (k | k) | k
    · exact absurd e k
    · exact .inl k
    · exact .inr k
theorem LamP.has {X : Cx} {scope : Scope} {y : Str} (L : LamP X.env.scope scope y) (ok : X.Ok) : ∀ z ∈ scope.names, z.2 = .free → ∃ c, X.env.cells.lookup z.1 = some c := fun z hz e => by
  rcases L.free z hz e with k | k
  · exact ok.has _ (.inl k)
  · exact ok.has _ (.inr k)
/-- the context of the body -/
abbrev lamCx1 (X : Cx) (A : Around) (s : Shared) (H : Hp) (scope : Scope) (f c' : Addr) : Cx :=
  { X with A := A, s_0 := s, H_0 := H, env := lamEnv X scope s.heap.objs.size f c', outer := X.stack, stack := lamEnv X scope s.heap.objs.size f c' :: X.stack, ex := [], fn := fun _ => false, calm := true, pn := [], xe := fun _ _ => False }
section
variable {X : Cx} {pins : List (Addr × Obj)} {σ : L2.St} {H : Hp} {s : Shared}
theorem lam_startP {A : Around} {scope : Scope} {y : Str} {f c' : Addr} {h₁ : Heap} {tk i : Nat} {v : V} {u : Value} (I : Inv X pins σ H s) (L : LamP X.env.scope scope y) (hfr : A.frames = some (lamEnv X scope s.heap.objs.size f c' :: X.stack)) (hd : A.handled = none)
    (hns : h₁.Ns s.heap.objs.size fun z => ([(y, u)] : List (Str × Value)).reverse.lookup z) (kp : ∀ b o, s.heap.get? b = some o → h₁.get? b = some o) (rv : RelV v u) (hi : X.N[i]? = some y) (hN : X.N.Nodup) :
    Inv (lamCx1 X A s H scope f c') [] (σ.set i (some v)) H { s with heap := h₁, toks := tk } := by
  have e0 := I.env0
  have hfree := L.has I.ok
  have cm : ∀ {z c}, (cloFrom X.env.cells scope.names []).lookup z = some c → X.env.cells.lookup z = some c := fun {z c} e => by
    rcases cloFrom_mem (PySem.mem_of_lookup e) with hm | ⟨h1, h2⟩
    · cases hm
    · obtain ⟨c1, hc⟩ := hfree _ h1 rfl
      have hc : X.env.cells.lookup z = some c1 := hc
      have e2 : c = c1 := by rw [h2, hc] <;> rfl
      rw [e2]; exact hc
  have look : ∀ {z}, scope.names.lookup z = some .free → ∃ c, (cloFrom X.env.cells scope.names []).lookup z = some c := fun {z} hl =>
    mem_lookup (cloFrom_has (cells := X.env.cells) (acc := []) (show (z, NameKind.free) ∈ scope.names from PySem.mem_of_lookup hl))
  have cellK : ∀ {c : Addr} {w : Option Value}, s.heap.IsCell c w → h₁.IsCell c w := fun {c w} ⟨o, ho, hd⟩ => ⟨o, kp _ _ ho, hd⟩
  have no : ∀ b : Addr, b ∉ ([] : List Addr) := fun b z => by cases z
  have okX : (lamCx1 X A s H scope f c').Ok :=
    ⟨e0.mod, L.kind, rfl, rfl, Nat.le_refl _, fun x z c e1 e2 => I.ok.inj x z c (cm e1) (cm e2), fun x hx => by
      have hx : scope.names.lookup x = some .cell ∨ scope.names.lookup x = some .free := hx
      rcases hx with hx | hx
      · exact absurd rfl (L.own _ (PySem.mem_of_lookup hx)).1
      · exact look hx, fun x c z _ => (by cases z), fun _ => hd, hfr, .inr ⟨rfl, rfl⟩, fun b z => absurd z (no b), e0.bs, e0.bsz, fun b _ _ => no b, fun b z => absurd z (no b), e0.funs, e0.frf⟩
  refine ⟨okX, rfl, e0.bare, Un.kept kp, ⟨_, hns, fun j x w e1 e2 e3 => ?_⟩, fun x c e => ?_, e0.hok.fresh (Nat.le_refl _), fun x c e => I.freeC x c (cm e), fun q hq => absurd (show q ∈ ([] : List (Addr × Obj)) ++ [] from hq) (by simp), e0.hok.kept kp, by rw [List.length_set]; exact I.len⟩
  · have hlen := I.len
    have e3 : Vis scope x := e3
    have e1 : X.N[j]? = some x := e1
    by_cases hji : j = i
    · subst hji
      rw [e1] at hi
      cases hi
      have hj : j < σ.length := by rw [hlen]; exact (List.getElem?_eq_some_iff.mp e1).1
      rw [List.getElem?_set_self hj] at e2
      cases e2
      exact ⟨u, rv, .inl ⟨L.lk, by simp [List.lookup]⟩⟩
    · rw [List.getElem?_set_ne (fun z => hji z.symm)] at e2
      have hxy : x ≠ y := fun z => hji (by
        subst z
        obtain ⟨a1, a2⟩ := List.getElem?_eq_some_iff.mp e1
        obtain ⟨b1, b2⟩ := List.getElem?_eq_some_iff.mp hi
        rcases Nat.lt_trichotomy j i with q | q | q
        · exact absurd (a2.trans b2.symm) (List.pairwise_iff_getElem.mp hN j i a1 b1 q)
        · exact q
        · exact absurd (b2.trans a2.symm) (List.pairwise_iff_getElem.mp hN i j b1 a1 q))
      rcases e3 with k | k | k
      · exact absurd ((L.own _ (PySem.mem_of_lookup k)).2 rfl) hxy
      · exact absurd rfl (L.own _ (PySem.mem_of_lookup k)).1
      · obtain ⟨m, hn, hl⟩ := I.loc
        have hvis : Vis X.env.scope x := (L.free _ (PySem.mem_of_lookup k) rfl).elim (fun k => .inr (.inl k)) (fun k => .inr (.inr k))
        obtain ⟨w', r, q⟩ := hl j x w e1 e2 hvis
        obtain ⟨c2, h2⟩ := look k
        refine ⟨w', r, .inr ⟨.inr k, c2, h2, ?_⟩⟩
        have c1 := cm h2
        rcases q with ⟨k', _⟩ | ⟨_, c3, e', z⟩
        · have k' : X.env.scope.names.lookup x = some .local := k'
          rcases L.free _ (PySem.mem_of_lookup k) rfl with k2 | k2 <;> rw [show X.env.scope.names.lookup x = _ from k2] at k' <;> cases k'
        · rw [c1] at e'
          cases e'
          exact cellK z
  · obtain ⟨w', z⟩ := I.cell x c (cm e)
    exact ⟨w', cellK z⟩
/-- the closure is called with u -/
theorem lam_callP {A : Around} {scope : Scope} {y : Str} {f c' : Addr} {k i : Nat} {v : V} {u pm ctv : Value} {params : Arguments} {body : Expr} {tb : TE} {Q : VK} {Qf : Value → Shared → Prop} {E : Value → Shared → Prop}
    (I : Inv X pins σ H s) (L : LamP X.env.scope scope y) (hf : s.heap.get? f = some (PySem.W.kla_obj "<lambda>" (X.env.qual ++ "<lambda>") params body scope (cloFrom X.env.cells scope.names []) pm c' ctv)) (hco : H c' = some (CodeO c' (X.env.qual ++ "<lambda>")))
    (hbind : bindArgs (PySem.W.kla_fn "<lambda>" (X.env.qual ++ "<lambda>") params body scope (cloFrom X.env.cells scope.names []) pm (.ref c') ctv) ⟨[u], []⟩ = pure [(y, u)])
    (hfr : A.frames = some X.stack) (hr : Room (k + 1) A) (rv : RelV v u) (hi : X.N[i]? = some y) (hN : X.N.Nodup)
    (hbody : PE (lamCx1 X (A.deeper (lamEnv X scope s.heap.objs.size f c')) s H scope f c') body tb) (ht : tb (σ.set i (some v)) H Q)
    (fin : ∀ w' s' v' H', s'.os = s.os → AllBare s'.gens → Un (frs X.stack) [] H H' s.heap s'.heap → HOk X.prog X.w H' s'.heap → RelV v' w' → Q v' H' → Qf w' s') :
    wpAny (model X.prog X.w) A (call (.ref f) [u]) Qf E s := by
  obtain ⟨⟨oc, vs, t, hoc, hdc, hvc⟩, _, _⟩ := I.hok c' _ hco
  have rc : codeAny (model X.prog X.w) A (.call (.ref f) ⟨[u], []⟩) (fun r s' => match r with
      | .ok (.ret w') => Qf w' s'
      | _ => False) s := by
    refine PySem.W.kla_callFunE hr.depth hf rfl L.co L.gen rfl ⟨c', oc, vs, t, rfl, hoc, hdc, hvc⟩ ?_
    rw [hbind]
    refine wpAny_pure (wpAny_newFunctionEnv (fun z hz => (L.own z hz).1) (fun z hz => ?_) (fun h₁ hns hsb => ⟨I.nolimit.fresh _ hsb, ?_⟩) L.kind)
    · rw [List.mem_singleton] at hz; subst hz; exact L.lk
    · show codeAny _ _ (.expr body (lamEnv X scope s.heap.objs.size f c')) _ _
      have kp : ∀ b o, s.heap.get? b = some o → h₁.get? b = some o := fun b o e => hsb.extBut b o (Nat.ne_of_lt (Heap.lt_size e)) (Heap.get?_push_of_some _ e)
      have J := lam_startP (A := A.deeper (lamEnv X scope s.heap.objs.size f c')) (tk := s.toks + ([(y, u)] : List (Str × Value)).length) (f := f) (c' := c') I L (Around.frames_deeper hfr) hr.hd hns kp rv hi hN
      refine PySem.W.kla_codeExpr (wpAny_mono (hbody.run [] _ _ H Q J ht) (fun w' s' hq => ?_) fun e s' hq => hq.elim)
      obtain ⟨v', H', J', rv', q⟩ := hq
      exact fin w' s' v' H' J'.os J'.bare J'.base J'.hok rv' q
  refine wpAny_call (codeAny_mono rc fun r s' hq => ?_)
  cases r with
  | error e => exact hq.elim
  | ok fl =>
    cases fl with
    | ret w' => exact hq
    | next => exact hq.elim
    | brk => exact hq.elim
    | cont => exact hq.elim
end
end LamX
namespace PV
open PySem PySem.Spec L2 PyProof.Rows
/-- how a list, or a tuple, is drawn from -/
structure Drw (X : Cx) (a : Addr) (tn : Addr → Nat → Heap → Prop) (Sq : Hp → List V → Prop) : Prop where
  keep : ∀ it j h h', tn it j h → (∀ o, h.get? it = some o → h'.get? it = some o) → tn it j h'
  obj : ∀ it j h, tn it j h → ∃ o, h.get? it = some o
  start : ∀ {A : Around} {E : Value → Shared → Prop} {Q : Value → Shared → Prop} {pins : List (Addr × Obj)} {σ : L2.St} {H : Hp} {s : Shared} {vs : List V}, Inv X pins σ H s → Sq H vs →
    (∀ h', tn s.heap.objs.size 0 h' → (∀ b o, s.heap.get? b = some o → h'.get? b = some o) → h'.objs.size = s.heap.objs.size + 1 → Q (.ref s.heap.objs.size) { s with heap := h' }) → wpAny (model X.prog X.w) A (pyIter (.ref a)) Q E s
  item : ∀ {A : Around} {E : Value → Shared → Prop} {Q : Option Value → Shared → Prop} {pins : List (Addr × Obj)} {σ : L2.St} {H : Hp} {s : Shared} {vs : List V} {it : Addr} {j : Nat} {x : V}, Inv X pins σ H s → Sq H vs → tn it j s.heap → vs[j]? = some x →
    (∀ u h', RelV x u → tn it (j + 1) h' → (∀ b o, b ≠ it → s.heap.get? b = some o → h'.get? b = some o) → Q (some u) { s with heap := h' }) → wpAny (model X.prog X.w) A (pyNext (.ref it)) Q E s
  done : ∀ {A : Around} {E : Value → Shared → Prop} {Q : Option Value → Shared → Prop} {pins : List (Addr × Obj)} {σ : L2.St} {H : Hp} {s : Shared} {vs : List V} {it : Addr} {j : Nat}, A.handled = none → Inv X pins σ H s → Sq H vs → tn it j s.heap → vs.length ≤ j →
    (∀ h', (∀ b o, b ≠ it → s.heap.get? b = some o → h'.get? b = some o) → Q none { s with heap := h' }) → wpAny (model X.prog X.w) A (pyNext (.ref it)) Q E s
theorem drw_list {X : Cx} {a : Addr} : Drw X a (fun it j h => h.IsListIter it a j) (fun H vs => SqL X.K H a vs) where
  keep := fun it j h h' st k => st.at fun o e => k o e
  obj := fun it j h st => ⟨_, st.choose_spec.1⟩
  start := fun I hq h => by
    obtain ⟨its, rv, p, hz⟩ := I.list hq
    exact wpAny_pyIter_list p.isList (h _ ⟨_, Heap.get?_push_size _ rfl, rfl, rfl⟩ (fun b o e => Heap.get?_push_of_some _ e) (Heap.size_push ..))
  item := fun I hq st hx h => by
    obtain ⟨its, rv, p, hz⟩ := I.list hq
    obtain ⟨u, hu, ru⟩ := rv.get hx
    exact wpAny_pyNext_list_item st p.isList (x := u) (by simpa using hu) fun h' st' sb => h u h' ru st' fun b o hb e => (sb.2 b hb).trans e
  done := fun hh I hq st hx h => by
    obtain ⟨its, rv, p, hz⟩ := I.list hq
    have hl := rv.length
    exact wpAny_pyNext_list_end hh st p.isList (by simp; omega) fun h' eb => h h' fun b o hb e => eb b o hb e
theorem drw_tup {X : Cx} {a : Addr} : Drw X a (fun it j h => h.IsTupleIter it a j) (fun H vs => SqT X.K H a vs) where
  keep := fun it j h h' st k => st.at fun o e => k o e
  obj := fun it j h st => ⟨_, st.choose_spec.1⟩
  start := fun I hq h => by
    obtain ⟨its, rv, p, hz⟩ := I.tuple hq
    exact wpAny_pyIter_tuple p (h _ ⟨_, Heap.get?_push_size _ rfl, rfl, rfl⟩ (fun b o e => Heap.get?_push_of_some _ e) (Heap.size_push ..))
  item := fun {A E Q pins σ H s vs it j x} I hq st hx h => by
    obtain ⟨its, rv, p, hz⟩ := I.tuple hq
    obtain ⟨u, hu, ru⟩ := rv.get hx
    exact wpAny_pyNext_tuple_item st (show s.heap.IsTuple a its.toArray from p) (x := u) (by simpa using hu) fun h' st' sb => h u h' ru st' fun b o hb e => (sb.2 b hb).trans e
  done := fun {A E Q pins σ H s vs it j} hh I hq st hx h => by
    obtain ⟨its, rv, p, hz⟩ := I.tuple hq
    have hl := rv.length
    exact wpAny_pyNext_tuple_end hh st (show s.heap.IsTuple a its.toArray from p) (by simp; omega) fun h' eb => h h' fun b o hb e => eb b o hb e
/-- the body of the lambda: worth fe of the slots with the parameter's, an answer that stands in the view at the start -/
structure PKb (X X' : Cx) (T : Tbs) (M : List Nat) (i : Nat) (body : Expr) (fe : Sl → Res D) : Prop where
  run : ∃ t, PE X' body t ∧ ∀ G0 H0 G1 H1 G H σ σd v dv Q, ER X T M G0 H0 G1 H1 σ σd → Ext T G1 H1 G H → ER X T M G0 H0 G H σ σd → Rep X.K X.mg G1 v dv →
    (match fe (σd.set i (some dv)) with
      | .ok d => ∀ G' H' w, Ext T G H G' H' → Rep X.K X.mg G1 w d → Q w H'
      | _ => False) → t (σ.set i (some v)) H Q
section
variable {X : Cx} {T : Tbs} {M : List Nat} {pins : List (Addr × Obj)} {σ : L2.St} {σd : Sl} {G0 H0 G1 H1 : Hp} {tn : Addr → Nat → Heap → Prop} {it S f c' : Addr} {fo : Obj}
structure MS (X : Cx) (T : Tbs) (M : List Nat) (pins : List (Addr × Obj)) (σ : L2.St) (σd : Sl) (G0 H0 G1 H1 : Hp) (tn : Addr → Nat → Heap → Prop) (it S f c' : Addr) (fo : Obj) (j : Nat) (s : Shared) (G H : Hp) : Prop where
  inv : Inv X pins σ H s
  er : ER X T M G0 H0 G H σ σd
  ex : Ext T G1 H1 G H
  tn : tn it j s.heap
  fi : FpOk X pins H it
  fs : FpOk X pins H S
  fo : s.heap.get? f = some fo
  fn : H f = none
  co : H c' = some (LamX.CodeO c' (X.env.qual ++ "<lambda>"))
  fr : f ∉ frs X.stack
  io : ∃ o, s.heap.get? it = some o
  so : ∃ o, s.heap.get? S = some o
theorem FpOk.nost {X : Cx} {pins : List (Addr × Obj)} {σ : L2.St} {H : Hp} {s : Shared} {b : Addr} (I : Inv X pins σ H s) (h : FpOk X pins H b) : b ∉ frs X.stack := fun z => by
  rcases List.mem_cons.mp (I.stkSub _ z) with e | e
  · exact h.2.1 e
  · exact h.2.2.1 e
theorem fpOk_to {X : Cx} {pins : List (Addr × Obj)} {H H' : Hp} {b : Addr} (h : FpOk X pins H b) (n : H' b = none) : FpOk X pins H' b := ⟨n, h.2⟩
theorem MS.moved {j j' : Nat} {s : Shared} {G H : Hp} (m : MS X T M pins σ σd G0 H0 G1 H1 tn it S f c' fo j s G H) {ch : List Addr} (hc : ∀ b ∈ ch, b = it ∨ b = S) (hf : f ≠ it) (hf' : f ≠ S) {h' : Heap} {t' : Nat} (k : ∀ b o, b ∉ ch → s.heap.get? b = some o → h'.get? b = some o) (ht : tn it j' h') (hio : ∃ o, h'.get? it = some o) (hso : ∃ o, h'.get? S = some o) : MS X T M pins σ σd G0 H0 G1 H1 tn it S f c' fo j' { s with heap := h', toks := t' } G H :=
  ⟨m.inv.turnedL k (fun b hb => by rcases hc b hb with z | z; exact z ▸ m.fi; exact z ▸ m.fs), m.er, m.ex, ht, m.fi, m.fs, k f _ (fun z => by rcases hc f z with q | q; exact hf q; exact hf' q) m.fo, m.fn, m.co, m.fr, hio, hso⟩
variable {A : Around} {scope : Scope} {y : Str} {k i : Nat} {pm ctv : Value} {params : Arguments} {body : Expr} {fe : Sl → Res D} {E : Value → Shared → Prop} {a : Addr} {Sq : Hp → List V → Prop} {vs : List V} {ds ks : List D}
/-- one answer of the key -/
theorem ms_turn {j : Nat} {s : Shared} {G H : Hp} {v : V} {u : Value} {dv dk : D} {Qf : Value → Shared → Prop} (m : MS X T M pins σ σd G0 H0 G1 H1 tn it S f c' (PySem.W.kla_obj "<lambda>" (X.env.qual ++ "<lambda>") params body scope (cloFrom X.env.cells scope.names []) pm c' ctv) j s G H)
    (L : LamX.LamP X.env.scope scope y) (hbind : ∀ u, bindArgs (PySem.W.kla_fn "<lambda>" (X.env.qual ++ "<lambda>") params body scope (cloFrom X.env.cells scope.names []) pm (.ref c') ctv) ⟨[u], []⟩ = pure [(y, u)])
    (hfr : A.frames = some X.stack) (hr : Room (k + 1) A) (hi : X.N[i]? = some y) (hN : X.N.Nodup) (er1 : ER X T M G0 H0 G1 H1 σ σd) (kp : ∀ it j h h', tn it j h → (∀ o, h.get? it = some o → h'.get? it = some o) → tn it j h')
    (hb : ∀ (A' : Around) (s : Shared) (H : Hp), A' = A.deeper (LamX.lamEnv X scope s.heap.objs.size f c') → PKb X (LamX.lamCx1 X A' s H scope f c') T M i body fe)
    (rv : RelV v u) (rep : Rep X.K X.mg G1 v dv) (ek : fe (σd.set i (some dv)) = .ok dk)
    (fin : ∀ w s' G' H' kv, MS X T M pins σ σd G0 H0 G1 H1 tn it S f c' (PySem.W.kla_obj "<lambda>" (X.env.qual ++ "<lambda>") params body scope (cloFrom X.env.cells scope.names []) pm c' ctv) j s' G' H' → (∀ o, s.heap.get? S = some o → s'.heap.get? S = some o) → RelV kv w → Rep X.K X.mg G1 kv dk → Qf w s') :
    wpAny (model X.prog X.w) A (call (.ref f) [u]) Qf E s := by
  obtain ⟨tb, pb, qb⟩ := (hb _ s H rfl).run
  refine LamX.lam_callP (Q := fun kv H' => ∃ G', Ext T G H G' H' ∧ Rep X.K X.mg G1 kv dk) m.inv L m.fo m.co (hbind u) hfr hr rv hi hN pb (qb G0 H0 G1 H1 G H σ σd v dv _ er1 m.ex m.er rep (by
    rw [ek]
    exact fun G' H' w x r => ⟨G', x, r⟩)) fun w' s' v' H' os bare un hok rv' hq => ?_
  obtain ⟨G', x, r⟩ := hq
  have ki : ∀ {b : Addr}, FpOk X pins H b → ∀ o, s.heap.get? b = some o → s'.heap.get? b = some o := fun {b} hb o e => un.keep b o e hb.1 (FpOk.nost m.inv hb) (by simp)
  have I' : Inv X pins σ H' s' := m.inv.call' (ch := []) os un hok bare (fun b z => absurd z (by simp))
  obtain ⟨oi, ei⟩ := m.io
  obtain ⟨os', es⟩ := m.so
  refine fin w' s' G' H' v' ⟨I', m.er.to x, m.ex.trans x, kp it j _ _ m.tn (ki m.fi), fpOk_to m.fi (un.free it _ ei m.fi.1 (by simp)), fpOk_to m.fs (un.free S _ es m.fs.1 (by simp)), un.keep f _ m.fo m.fn m.fr (by simp), ?_, x.hh _ _ m.co (fun ps => LamX.codeO_ne ps), m.fr, ⟨_, ki m.fi _ ei⟩, ⟨_, ki m.fs _ es⟩⟩ (ki m.fs) rv' r
  · exact un.free f _ m.fo m.fn (by simp)
/-- two answers compared -/
theorem ms_cmp {A : Around} {s : Shared} {G H : Hp} {k1 k2 : Value} {v1 v2 : V} {d1 d2 : D} {p1 p2 : PyData} {Q : Value → Shared → Prop} (I : Inv X pins σ H s) (ex : Ext T G1 H1 G H) (hu : A.units + 64 < cLine) (r1 : RelV v1 k1) (r2 : RelV v2 k2) (e1 : Rep X.K X.mg G1 v1 d1) (e2 : Rep X.K X.mg G1 v2 d2)
    (q1 : d1.py = some p1) (q2 : d2.py = some p2) (al : PySem.W.alike p1 p2 = true) (nn : p1 ≠ .none) (dp : p1.depth ≤ 60) (h : Q (.bool (PySem.W.dataLt p1 p2)) s) : wpAny (model X.prog X.w) A (richCompare .Lt k1 k2) Q E s := by
  obtain ⟨as, a1⟩ := Dp.reads I p1 v1 k1 (Rep.dp ex.gh.sm d1 v1 p1 (Rep.mono ex.gg _ _ e1) q1) r1
  obtain ⟨bs, a2⟩ := Dp.reads I p2 v2 k2 (Rep.dp ex.gh.sm d2 v2 p2 (Rep.mono ex.gg _ _ e2) q2) r2
  have hd : A.units + min p1.depth p2.depth < cLine := by
    have := Nat.min_le_left p1.depth p2.depth
    omega
  exact PySem.W.rcLt_alike p1 p2 A s k1 k2 as bs a1 a2 al nn hd _ _ _ _ h
def btK (ps : List PyData) (a b : Nat) : Bool := PySem.W.dataLt (ps.getD a .none) (ps.getD b .none)
theorem heap_upd {h : Heap} {S b : Addr} {fo : Obj → Obj} (hb : b ≠ S) {o : Obj} (e : h.get? b = some o) : (h.update S fo).get? b = some o := (Heap.get?_update_other _ _ (Ne.symm hb)).trans e
/-- what is asked of the key -/
structure KyA (X : Cx) (T : Tbs) (M : List Nat) (σ : L2.St) (σd : Sl) (G0 H0 G1 H1 : Hp) (vs : List V) (ds ks : List D) (ps : List PyData) (fe : Sl → Res D) (i : Nat) : Prop where
  er1 : ER X T M G0 H0 G1 H1 σ σd
  rs : Reps X.K X.mg G1 vs ds
  ky : ∀ (j : Nat) (d : D), ds[j]? = some d → ∃ kd, ks[j]? = some kd ∧ fe (σd.set i (some d)) = .ok kd
  py : D.pys ks = some ps
  al : PySem.W.AlikeAll ps
  dp : PyData.depthAll ps ≤ 60
  kl : ks.length = ds.length
theorem KyA.at {fe : Sl → Res D} {ps : List PyData} (h : KyA X T M σ σd G0 H0 G1 H1 vs ds ks ps fe i) {j : Nat} (hj : j < vs.length) : ∃ v d kd p, vs[j]? = some v ∧ Rep X.K X.mg G1 v d ∧ fe (σd.set i (some d)) = .ok kd ∧ ks.getD j .non = kd ∧ kd.py = some p ∧ ps.getD j .none = p ∧ p ∈ ps ∧ p.depth ≤ 60 := by
  have hd : j < ds.length := by rw [← h.rs.length]; exact hj
  obtain ⟨v, e1, e2⟩ := h.rs.get (List.getElem?_eq_getElem hd)
  obtain ⟨kd, e3, e4⟩ := h.ky j _ (List.getElem?_eq_getElem hd)
  have hk : j < ks.length := (List.getElem?_eq_some_iff.mp e3).1
  have e5 := pys_getD h.py j hk
  have e6 : ks.getD j .non = kd := by rw [List.getD_eq_getElem?_getD, e3]; rfl
  have hp : j < ps.length := by rw [pys_len h.py]; exact hk
  have e7 : ps.getD j .none = ps[j] := by rw [List.getD_eq_getElem?_getD, List.getElem?_eq_getElem hp]; rfl
  refine ⟨v, _, kd, _, e1, e2, e4, e6, e6 ▸ e5, rfl, by rw [e7]; exact List.getElem_mem _, ?_⟩
  have : ∀ (l : List PyData) (x : PyData), x ∈ l → x.depth ≤ PyData.depthAll l := by
    intro l
    induction l with
    | nil => intro x hx; cases hx
    | cons a l ih =>
      intro x hx
      show x.depth ≤ max a.depth (PyData.depthAll l)
      rcases List.mem_cons.mp hx with rfl | hx
      · omega
      · have := ih x hx; omega
  rw [e7]
  exact Nat.le_trans (this ps _ (List.getElem_mem _)) h.dp
/-- the loop of min with a key, from the second item on -/
theorem mk_loop {fe : Sl → Res D} {ps : List PyData} (dw : Drw X a tn Sq) (ky : KyA X T M σ σd G0 H0 G1 H1 vs ds ks ps fe i) (sq : ∀ G' H', Ext T G1 H1 G' H' → Sq H' vs)
    (L : LamX.LamP X.env.scope scope y) (hbind : ∀ u, bindArgs (PySem.W.kla_fn "<lambda>" (X.env.qual ++ "<lambda>") params body scope (cloFrom X.env.cells scope.names []) pm (.ref c') ctv) ⟨[u], []⟩ = pure [(y, u)])
    (hfr : A.in1.frames = some X.stack) (hr : Room (k + 1) A.in1) (hi : X.N[i]? = some y) (hN : X.N.Nodup) (hf : f ≠ it) (hf' : f ≠ S) (hS : S ≠ it)
    (hb : ∀ (A' : Around) (s : Shared) (H : Hp), A' = A.in1.deeper (LamX.lamEnv X scope s.heap.objs.size f c') → PKb X (LamX.lamCx1 X A' s H scope f c') T M i body fe) {R : Result → Shared → Prop}
    (fin : ∀ b x v s' G' H', b = argBest (btK ps) (vs.length - 1) → vs[b]? = some x → RelV x v → Inv X pins σ H' s' → Ext T G1 H1 G' H' → R (.ok (.ret v)) s') :
    ∀ (m j : Nat) (s : Shared) (G H : Hp) (vb kb : Value) (xb kvb : V) (c : Nat), vs.length = j + 1 + m → MS X T M pins σ σd G0 H0 G1 H1 tn it S f c' (PySem.W.kla_obj "<lambda>" (X.env.qual ++ "<lambda>") params body scope (cloFrom X.env.cells scope.names []) pm c' ctv) (j + 1) s G H →
      vs[argBest (btK ps) j]? = some xb → RelV xb vb → RelV kvb kb → Rep X.K X.mg G1 kvb (ks.getD (argBest (btK ps) j) .non) → s.heap.get? S = some { cls := .type "list", dict := none, data := .seq #[vb, kb] c, slots := #[] } →
      codeAny (model X.prog X.w) A (.builtin "min.loop" ⟨[.ref it, .ref f, .ref S], []⟩) R s := by
  intro m
  induction m with
  | zero =>
    intro j s G H vb kb xb kvb c hlen ms h1 h2 h3 h4 hs
    refine codeAny_builtin PySem.F.entry_min_loop ?_
    rw [PySem.Around.under_plainId PySem.F.plain_min_loop _]
    refine (show wpAny (model X.prog X.w) A.in1 (seqItems? (.ref S) >>= fun _ => _) _ _ s from wpAny_bind (wpAny_seqItems hs rfl ?_))
    refine (show wpAny (model X.prog X.w) A.in1 (tryCatch (pyNext (.ref it)) _ >>= fun _ => _) _ _ s from wpAny_bind (wpAny_tryCatch (dw.done hr.hd ms.inv (sq _ _ ms.ex) ms.tn (by omega) fun h' kp => ?_)))
    have hs' := kp S _ hS hs
    refine (show wpAny (model X.prog X.w) A.in1 (updateSeq S (fun _ => #[]) >>= fun _ => _) _ _ _ from wpAny_bind (wpAny_updateSeq hs' rfl (wpAny_bind (wpAny_letGo (wpAny_pure ?_)))))
    have ch : ∀ b ∈ [it, S], b = it ∨ b = S := fun b hb => by simpa using hb
    have I2 := ms.inv.turnedL (ch := [it, S]) (t' := s.toks) (h' := h'.update S (Obj.mapSeq fun _ => #[])) (fun b o hb e => by
      simp only [List.mem_cons, List.not_mem_nil, or_false, not_or] at hb
      exact heap_upd hb.2 (kp b o hb.1 e)) fun b hb => by rcases ch b hb with z | z; exact z ▸ ms.fi; exact z ▸ ms.fs
    exact fin _ xb vb _ G H (by rw [hlen]; rfl) h1 h2 I2 ms.ex
  | succ m ih =>
    intro j s G H vb kb xb kvb c hlen ms h1 h2 h3 h4 hs
    refine codeAny_builtin PySem.F.entry_min_loop ?_
    rw [PySem.Around.under_plainId PySem.F.plain_min_loop _]
    obtain ⟨xv, dv, kd, p, e1, e2, e3, e4, e5, e6, e7, e8⟩ := ky.at (j := j + 1) (by omega)
    refine (show wpAny (model X.prog X.w) A.in1 (seqItems? (.ref S) >>= fun _ => _) _ _ s from wpAny_bind (wpAny_seqItems hs rfl ?_))
    refine (show wpAny (model X.prog X.w) A.in1 (tryCatch (pyNext (.ref it)) _ >>= fun _ => _) _ _ s from wpAny_bind (wpAny_tryCatch (dw.item ms.inv (sq _ _ ms.ex) ms.tn e1 fun u h' ru tn' kp => ?_)))
    have hs' := kp S _ hS hs
    have ms' := ms.moved (ch := [it]) (t' := s.toks) (fun b hb => .inl (by simpa using hb)) hf hf' (fun b o hb e => kp b o (by simpa using hb) e) tn' (dw.obj _ _ _ tn') ⟨_, hs'⟩
    refine (show wpAny (model X.prog X.w) A.in1 (tryCatch (holding [u] (call (.ref f) [u])) _ >>= fun _ => _) _ _ _ from wpAny_bind (wpAny_tryCatch (wpAny_holding (ms_turn ms' L hbind hfr hr hi hN ky.er1 dw.keep hb ru e2 e3 fun w s'' G' H' kv ms2 kS rk rep => ?_))))
    have hs2 := kS _ hs'
    have hbl : argBest (btK ps) j < vs.length := (List.getElem?_eq_some_iff.mp h1).1
    obtain ⟨_, _, kdb, pb, _, _, _, b4, b5, b6, b7, b8⟩ := ky.at hbl
    rw [b4] at h4
    refine (show wpAny (model X.prog X.w) A.in1 (tryCatch (holding [u, w] (richCompare .Lt w kb >>= fun _ => _)) _ >>= fun _ => _) _ _ _ from wpAny_bind (wpAny_tryCatch (wpAny_holding (wpAny_bind (ms_cmp ms2.inv ms2.ex hr.units rk h3 rep h4 e5 b5 (ky.al.1 _ e7 _ b7) (ky.al.2 _ e7) e8 ?_)))))
    refine wpAny_bind (wpAny_holding (wpAny_truthy_bool (wpAny_bind (wpAny_letGo (wpAny_pure ?_)))))
    have hname : (toString "min" ++ toString ".loop" : String) = "min.loop" := by decide
    have ebt : btK ps (j + 1) (argBest (btK ps) j) = PySem.W.dataLt p pb := by
      show PySem.W.dataLt (ps.getD (j + 1) .none) (ps.getD (argBest (btK ps) j) .none) = _
      rw [e6, b6]
    cases hb2 : PySem.W.dataLt p pb with
    | true =>
      have ea : argBest (btK ps) (j + 1) = j + 1 := by simp only [argBest, ebt, hb2, if_true]
      simp only [if_true]
      refine wpAny_bind (wpAny_updateSeq hs2 rfl (wpAny_bind (wpAny_letGo ?_)))
      rw [hname]
      have ms3 := ms2.moved (j' := j + 1 + 1) (ch := [S]) (t' := s''.toks) (h' := s''.heap.update S (Obj.mapSeq fun _ => #[u, w])) (fun b hb => .inr (by simpa using hb)) hf hf' (fun b o hb e => heap_upd (by simpa using hb) e) (dw.keep _ _ _ _ ms2.tn fun o e => heap_upd (Ne.symm hS) e) (by obtain ⟨o, e⟩ := ms2.io; exact ⟨o, heap_upd (Ne.symm hS) e⟩) ⟨_, Heap.get?_update_self _ hs2 rfl⟩
      exact wpAny_pure ⟨plainId_quiet PySem.F.plain_min_loop _, ih (j + 1) _ G' H' u w xv kv _ (by omega) ms3 (by rw [ea]; exact e1) ru rk (by rw [ea, e4]; exact rep) (Heap.get?_update_self _ hs2 rfl)⟩
    | false =>
      have ea : argBest (btK ps) (j + 1) = argBest (btK ps) j := by simp only [argBest, ebt, hb2, Bool.false_eq_true, if_false]
      simp only [Bool.false_eq_true, if_false]
      refine wpAny_bind (wpAny_letGo ?_)
      rw [hname]
      exact wpAny_pure ⟨plainId_quiet PySem.F.plain_min_loop _, ih (j + 1) _ G' H' vb kb xb kvb c (by omega) ms2 (by rw [ea]; exact h1) h2 h3 (by rw [ea, b4]; exact h4) hs2⟩
/-- min(xs, key=f), f the closure -/
theorem mk_call {fe : Sl → Res D} {ps : List PyData} {s : Shared} (dw : Drw X a tn Sq) (ky : KyA X T M σ σd G0 H0 G1 H1 vs ds ks ps fe i) (sq : ∀ G' H', Ext T G1 H1 G' H' → Sq H' vs) (hne : 0 < vs.length)
    (L : LamX.LamP X.env.scope scope y) (hbind : ∀ u, bindArgs (PySem.W.kla_fn "<lambda>" (X.env.qual ++ "<lambda>") params body scope (cloFrom X.env.cells scope.names []) pm (.ref c') ctv) ⟨[u], []⟩ = pure [(y, u)])
    (hfr : A.frames = some X.stack) (hr : Room (k + 2) A) (hi : X.N[i]? = some y) (hN : X.N.Nodup)
    (hb : ∀ (A' : Around) (s : Shared) (H : Hp), Room k A' → PKb X (LamX.lamCx1 X A' s H scope f c') T M i body fe)
    {G H : Hp} (I : Inv X pins σ H s) (ex : Ext T G1 H1 G H) (er : ER X T M G0 H0 G H σ σd) (fo : s.heap.get? f = some (PySem.W.kla_obj "<lambda>" (X.env.qual ++ "<lambda>") params body scope (cloFrom X.env.cells scope.names []) pm c' ctv)) (fn : H f = none) (fr : f ∉ frs X.stack) (co : H c' = some (LamX.CodeO c' (X.env.qual ++ "<lambda>"))) {Qf : Value → Shared → Prop}
    (fin : ∀ b x v s' G' H', b = argBest (btK ps) (vs.length - 1) → vs[b]? = some x → RelV x v → Inv X pins σ H' s' → Ext T G1 H1 G' H' → Qf v s') :
    wpAny (model X.prog X.w) A (call (.builtin "min") [.ref a] [(Str.ofString "key", .ref f)]) Qf E s := by
  have hname : (toString "min" ++ toString ".loop" : String) = "min.loop" := by decide
  have hr1 : Room (k + 1) A.in1 := hr.in1
  have hfr1 : A.in1.frames = some X.stack := hfr
  have hb2 : ∀ (A' : Around) (s : Shared) (H : Hp), A' = A.in1.deeper (LamX.lamEnv X scope s.heap.objs.size f c') → PKb X (LamX.lamCx1 X A' s H scope f c') T M i body fe := fun A' s H e => hb A' s H (by rw [e]; exact hr1.deeper _)
  refine PyProof.Rows.kmk_tree PySem.F.kind_min PySem.F.plain_min PySem.F.entry_min (PyProof.Rows.kmk_min_key _ _) ?_
  refine (show wpAny (model X.prog X.w) A.in1 (Builtin.Builtins.bindParams "min" ["key", "default"] 0 ⟨[], [(Str.ofString "key", .ref f)]⟩ >>= fun _ => _) _ _ s from wpAny_bind (wpAny_of_eq (show Builtin.Builtins.bindParams "min" ["key", "default"] 0 ⟨[], [(Str.ofString "key", .ref f)]⟩ = pure [some (.ref f), none] from rfl) (wpAny_bind (wpAny_pure ?_))))
  refine wpAny_bind (dw.start I (sq _ _ ex) fun h' tn0 kp hz => wpAny_bind (wpAny_newObj_type ?_))
  rw [hname]
  refine wpAny_pure ⟨plainId_quiet PySem.F.plain_min_loop _, ?_⟩
  have hzz : h'.objs.size = s.heap.objs.size + 1 := hz
  have flt : f < s.heap.objs.size := Heap.lt_size fo
  have nit : H s.heap.objs.size = none := I.hok.fresh (Nat.le_refl _)
  have nS : H h'.objs.size = none := I.hok.fresh (by omega)
  have kp2 : ∀ b o, s.heap.get? b = some o → (h'.push { cls := .type "list", data := .seq #[] 0 }).get? b = some o := fun b o e => Heap.get?_push_of_some _ (kp b o e)
  obtain ⟨oi, ei⟩ := dw.obj _ _ _ tn0
  have ms : MS X T M pins σ σd G0 H0 G1 H1 tn s.heap.objs.size h'.objs.size f c' (PySem.W.kla_obj "<lambda>" (X.env.qual ++ "<lambda>") params body scope (cloFrom X.env.cells scope.names []) pm c' ctv) 0 { s with heap := h'.push { cls := .type "list", data := .seq #[] 0 } } G H :=
    ⟨I.kept (t' := s.toks) kp2, er, ex, dw.keep _ _ _ _ tn0 (fun o e => Heap.get?_push_of_some _ e), I.fpOk (Nat.le_refl _) nit, I.fpOk (by omega) nS, kp2 f _ fo, fn, co, fr, ⟨oi, Heap.get?_push_of_some _ ei⟩, ⟨_, Heap.get?_push_size _ rfl⟩⟩
  have hs : (h'.push { cls := .type "list", data := .seq #[] 0 }).get? h'.objs.size = some { cls := .type "list", dict := none, data := .seq #[] 0, slots := #[] } := Heap.get?_push_size _ rfl
  have hS : h'.objs.size ≠ s.heap.objs.size := Nat.ne_of_gt (by omega)
  have hf : f ≠ s.heap.objs.size := Nat.ne_of_lt flt
  have hf' : f ≠ h'.objs.size := Nat.ne_of_lt (Nat.lt_trans flt (by omega))
  obtain ⟨xv, dv, kd, p, e1, e2, e3, e4, e5, e6, e7, e8⟩ := ky.at (j := 0) hne
  refine codeAny_builtin PySem.F.entry_min_loop ?_
  rw [PySem.Around.under_plainId PySem.F.plain_min_loop _]
  refine (show wpAny (model X.prog X.w) A.in1 (seqItems? (.ref h'.objs.size) >>= fun _ => _) _ _ _ from wpAny_bind (wpAny_seqItems hs rfl ?_))
  refine (show wpAny (model X.prog X.w) A.in1 (tryCatch (pyNext (.ref s.heap.objs.size)) _ >>= fun _ => _) _ _ _ from wpAny_bind (wpAny_tryCatch (dw.item ms.inv (sq _ _ ms.ex) ms.tn e1 fun u h2 ru tn' kp' => ?_)))
  have hs' := kp' _ _ hS hs
  have ms' := ms.moved (j' := 1) (ch := [s.heap.objs.size]) (t' := s.toks) (fun b hb => .inl (by simpa using hb)) hf hf' (fun b o hb e => kp' b o (by simpa using hb) e) tn' (dw.obj _ _ _ tn') ⟨_, hs'⟩
  refine (show wpAny (model X.prog X.w) A.in1 (tryCatch (holding [u] (call (.ref f) [u])) _ >>= fun _ => _) _ _ _ from wpAny_bind (wpAny_tryCatch (wpAny_holding (ms_turn ms' L hbind hfr1 hr1 hi hN ky.er1 dw.keep hb2 ru e2 e3 fun w s'' G' H' kv ms2 kS rk rep => ?_))))
  have hs2 := kS _ hs'
  refine (show wpAny (model X.prog X.w) A.in1 (updateSeq h'.objs.size (fun _ => #[u, w]) >>= fun _ => _) _ _ _ from wpAny_bind (wpAny_updateSeq hs2 rfl ?_))
  rw [hname]
  have ms3 := ms2.moved (j' := 1) (ch := [h'.objs.size]) (t' := s''.toks) (h' := s''.heap.update h'.objs.size (Obj.mapSeq fun _ => #[u, w])) (fun b hb => .inr (by simpa using hb)) hf hf' (fun b o hb e => heap_upd (by simpa using hb) e) (dw.keep _ _ _ _ ms2.tn fun o e => heap_upd (Ne.symm hS) e) (by obtain ⟨o, e⟩ := ms2.io; exact ⟨o, heap_upd (Ne.symm hS) e⟩) ⟨_, Heap.get?_update_self _ hs2 rfl⟩
  refine wpAny_pure ⟨plainId_quiet PySem.F.plain_min_loop _, mk_loop (A := A) dw ky sq L hbind hfr1 hr1 hi hN hf hf' hS hb2 ?_ (vs.length - 1) 0 _ G' H' u w xv kv _ (by omega) ms3 e1 ru rk (by rw [show argBest (btK ps) 0 = 0 from rfl, e4]; exact rep) (Heap.get?_update_self _ hs2 rfl)⟩
  exact fun b x v s' G' H' eb ex' rv I' x' => fin b x v s' G' H' eb ex' rv I' x'
def keysR (fe : Sl → Res D) (σ : Sl) (i : Nat) : List D → Res (List D)
  | [] => .ok []
  | d :: l => (fe (σ.set i (some d))).bind fun k => (keysR fe σ i l).bind fun ks => .ok (k :: ks)
def minKD (ds ks : List D) : Option D := match D.pys ks with
  | some ps => if minOkB ps = true ∧ 0 < ds.length then ds[argBest (btK ps) (ds.length - 1)]? else none
  | none => none
def eMinK (i : Nat) (fa fe : Sl → Res D) : Sl → Res D := fun σ => (fa σ).bind fun d => (Res.of d.items).bind fun ds => (keysR fe σ i ds).nox.bind fun ks => .of (minKD ds ks)
theorem keysR_at {fe : Sl → Res D} {σ : Sl} {i : Nat} : ∀ {ds ks : List D}, keysR fe σ i ds = .ok ks → ks.length = ds.length ∧ ∀ (j : Nat) (d : D), ds[j]? = some d → ∃ kd, ks[j]? = some kd ∧ fe (σ.set i (some d)) = .ok kd
  | [], ks, h => by cases h; exact ⟨rfl, fun j d e => by simp at e⟩
  | d :: ds, ks, h => by
    unfold keysR at h
    cases e1 : fe (σ.set i (some d)) with
    | ok kd =>
      rw [e1] at h
      have h : ((keysR fe σ i ds).bind fun ks => Res.ok (kd :: ks)) = .ok ks := h
      cases e2 : keysR fe σ i ds with
      | ok ks' =>
        rw [e2] at h
        cases h
        obtain ⟨l, q⟩ := keysR_at e2
        refine ⟨by simp [l], fun j d' e => ?_⟩
        cases j with
        | zero => simp at e; subst e; exact ⟨kd, rfl, e1⟩
        | succ j => exact q j d' (by simpa using e)
      | ex c => rw [e2] at h; cases h
      | no => rw [e2] at h; cases h
    | ex c => rw [e1] at h; cases h
    | no => rw [e1] at h; cases h
theorem px_minkey {W : WX} {c P : Addr} {lpos pos p kpos : Pos} {e : Expr} {fa : Sl → Res D} {fe : Sl → Res D} (hg : Gl X "min") (hm : X.mg "min" = none) (TB : LamX.TabB X.base X.mg c P) (hcode : X.env.code = .ref c) (hmT : (P, X.env.qual ++ "<lambda>") ∈ T) (hu : ∀ p ∈ T, p.1 = P → p.2 = X.env.qual ++ "<lambda>")
    (hr : Room (k + 2) X.A) (L : LamX.LamP X.env.scope scope y) (hdef : defaultsOf params X.env = ([], [])) (hbind : ∀ (q : Str) (cl : List (Str × Addr)) (pm cv ctv u : Value), bindArgs (PySem.W.kla_fn "<lambda>" q params body scope cl pm cv ctv) ⟨[u], []⟩ = pure [(y, u)])
    (hi : X.N[i]? = some y) (hN : X.N.Nodup) (ha : PXr X T W M e fa) (hb : ∀ (A' : Around) (s : Shared) (H : Hp) (f c' : Addr), Room k A' → PKb X (LamX.lamCx1 X A' s H scope f c') T M i body fe)
    (hst : starEach [e] X.env = (false, eval e X.env) :: starEach [] X.env := by rfl)
    (he : backTo pos (starEach [e] X.env) = (false, eval e X.env) :: backTo pos (starEach [] X.env) := by rfl) (hpl : (backTo pos (starEach [e] X.env)).any (·.1) = false := by rfl)
    (hks : backToKw pos (keywordEach [⟨some "key", .Lambda params body scope lpos, kpos⟩] X.env) = [(some (Str.ofString "key"), do let v ← eval (.Lambda params body scope lpos) X.env; standAt pos; pure v)] := by rfl) :
    PX X T W M (.Call (.Name "min" p) [e] [⟨some "key", .Lambda params body scope lpos, kpos⟩] pos) (eMinK i fa fe) := by
  obtain ⟨ta, pa, qa⟩ := ha.run
  refine ⟨fun σ H Q => ∃ G0 H0 G σd, ER X T M G0 H0 G H σ σd ∧ Out X T W H0 (rV X) (eMinK i fa fe σd) G H Q, ⟨fun pins s σ H Q I h => ?_⟩, fun G0 H0 G H σ σd Q er o => ⟨G0, H0, G, σd, er, o⟩⟩
  obtain ⟨G0, H0, G, σd, er, o⟩ := h
  refine wpAny_Call_Name_kw (ld_blt I hg hm (show bootBuiltins "min" = some (.builtin "min") from by decide +kernel) ?_ (by decide) (by decide))
  let P : List V → Hp → Prop := fun ws H1 => ∃ v, ws = [v] ∧ ∃ G1 ds a vs, Ext T G H G1 H1 ∧ v = .ref a ∧ (SqL X.K H1 a vs ∨ SqT X.K H1 a vs) ∧ Reps X.K X.mg G1 vs ds ∧ Out X T W H0 (rV X) ((keysR fe σd i ds).nox.bind fun ks => .of (minKD ds ks)) G1 H1 Q
  have qv := qa G0 H0 G H σ σd (fun v H1 => P [v] H1) er (o.seq fun d G1 H1 v _ x1 rv o => by
    cases hd : d.items with
    | none => rw [hd] at o; exact o.elim
    | some ds =>
      rw [hd] at o
      obtain ⟨a, vs, rfl, hs, rs⟩ := rR.items rv x1.gh hd
      exact ⟨_, rfl, G1, ds, a, vs, x1, rfl, hs, rs, o⟩)
  refine PyProof.Rows.callWith_kw (thn ((pa_cons pa pa_nil hst).run pos pins s σ H P I qv) fun us s1 hq => ?_) he hpl (by rw [hks]; rfl) (by rw [hks]; rfl)
  · obtain ⟨ws, H1, I1, r1, v, ew, G1, ds, a, vs, x1, ev, hs, rs, o⟩ := hq
    subst ew
    subst ev
    rw [Vals.ref1 r1, hks]
    refine wpAny_evalAll_cons (wpAny_bind (LamX.lam_make2 I1 TB hcode hmT hu x1.tb hdef (L.has I1.ok) fun f c' pm' ctv H2 s' I2 eN T2 hf hfn hfr hco => wpAny_bind (wpAny_standAt (wpAny_pure ?_))))
    refine wpAny_evalAll_nil ?_
    have x2 : Ext T G1 H1 G1 H2 := ⟨eN, Sm.refl _, x1.gh.to eN, fun _ _ h _ _ => h, T2⟩
    have er2 := (er.to x1).to x2
    have gh2 := x2.gh
    cases ek : keysR fe σd i ds with
    | ex c => rw [ek] at o; exact o.elim
    | no => rw [ek] at o; exact o.elim
    | ok ks =>
      rw [ek] at o
      obtain ⟨d, ed, q⟩ := Out.of (X := X) (W := W) o
      unfold minKD at ed
      split at ed
      · rename_i ps hps
        split at ed
        · rename_i c
          obtain ⟨c1, c2⟩ := c
          unfold minOkB at c1
          rw [Bool.and_eq_true, decide_eq_true_eq] at c1
          obtain ⟨kl, kat⟩ := keysR_at ek
          have ky : KyA X T M σ σd G0 H0 G1 H2 vs ds ks ps fe i := ⟨er2, rs, kat, hps, alikeB_all c1.1, c1.2, kl⟩
          have hlen : vs.length = ds.length := rs.length
          have fin : ∀ (b : Nat) (x : V) (v : Value) (s' : Shared) (G' H' : Hp), b = argBest (btK ps) (vs.length - 1) → vs[b]? = some x → RelV x v → Inv X pins σ H' s' → Ext T G1 H2 G' H' → EP X pins σ Q v s' := fun b x v s' G' H' eb ex rv I' x' => by
            rw [hlen] at eb
            subst eb
            obtain ⟨x2', e1, e2⟩ := rs.get ed
            rw [ex] at e1
            cases e1
            exact ⟨x, H', I', rv, q G' H' x (x2.trans x') (Rep.mono x'.gg _ _ e2)⟩
          rcases hs with hs | hs
          · exact mk_call (k := k) drw_list ky (fun G' H' x => (x2.trans x).hh.sqL hs) (by omega) L (fun u => hbind _ _ _ _ _ u) I2.env0.frames hr hi hN (fun A' s H hR => hb A' s H f c' hR) I2 (Ext.refl gh2 T2) er2 hf hfn hfr hco fin
          · exact mk_call (k := k) drw_tup ky (fun G' H' x => (x2.trans x).hh.sqT hs) (by omega) L (fun u => hbind _ _ _ _ _ u) I2.env0.frames hr hi hN (fun A' s H hR => hb A' s H f c' hR) I2 (Ext.refl gh2 T2) er2 hf hfn hfr hco fin
        · cases ed
      · cases ed
end
theorem set_other {α : Type} {σ : List (Option α)} {i j : Nat} {v : Option α} (h : i ≠ j) : (σ.set i v)[j]? = σ[j]? := List.getElem?_set_ne h
theorem set_self {α : Type} {σ : List (Option α)} {i : Nat} {v w : α} (h : (σ.set i (some v))[i]? = some (some w)) : w = v ∧ i < σ.length := by
  have hi : i < σ.length := by
    have := (List.getElem?_eq_some_iff.mp h).1
    rwa [List.length_set] at this
  rw [List.getElem?_set_self hi] at h
  cases h
  exact ⟨rfl, hi⟩
/-- key=lambda y: d[y], d one's own dict -/
theorem pkb_get {X X' : Cx} {T : Tbs} {M : List Nat} {i j : Nat} {x y : Str} {p1 p2 pos : Pos} (hu : X'.A.units + 1 < cLine) (hd : PE X' (.Name x p1) (tVar j)) (hk : PE X' (.Name y p2) (tVar i)) (hj : j ∈ M) (hi : i ∉ M) :
    PKb X X' T M i (.Subscript (.Name x p1) (.Name y p2) pos) (e2 dgetD (eV j) (eV i)) := by
  refine ⟨_, pe_dget hu hd hk fun _ _ => rfl, fun G0 H0 G1 H1 G H σ σd v dv Q er1 x1 er rv o => ?_⟩
  have hij : i ≠ j := fun z => hi (z ▸ hj)
  have len := er1.len
  cases ek : e2 dgetD (eV j) (eV i) (σd.set i (some dv)) with
  | ex c => rw [ek] at o; exact o.elim
  | no => rw [ek] at o; exact o.elim
  | ok dk =>
    rw [ek] at o
    unfold e2 eV at ek
    rw [set_other hij] at ek
    split at ek
    · rename_i dd e1
      simp only [Res.bind] at ek
      by_cases hl : i < σd.length
      · rw [List.getElem?_set_self hl] at ek
        simp only at ek
        obtain ⟨a, s1, _, o1⟩ := er1.own j _ hj e1
        cases hg : dgetD dd dv with
        | none => rw [hg] at ek; cases ek
        | some dk' =>
          rw [hg] at ek
          cases ek
          unfold dgetD at hg
          split at hg
          · rename_i kds k
            rw [Option.bind_eq_some_iff] at hg
            obtain ⟨kn, hkn, hg⟩ := hg
            obtain ⟨_, ⟨vs, ds, z, _⟩ | ⟨kvs, kds', z, h1, h2⟩⟩ := o1
            · cases z
            · cases z
              obtain ⟨b, rfl, hb⟩ := rv.key hkn
              have := RepK.find kn h2
              rw [hg] at this
              obtain ⟨v', e3, rv'⟩ := this
              refine ⟨_, (set_other hij).trans s1, _, List.getElem?_set_self (by rw [len]; exact hl), a, v', rfl, ?_, o _ _ _ (Ext.refl er.gh er.tb) rv'⟩
              rw [← e3]
              refine DGet.t (x1.hh _ _ h1 (fun _ z => by cases z)) ?_
              have := (x1.gh _ _ (x1.gg _ _ hb (fun _ z => by cases z))).1
              rw [this, List.map_map]
              rfl
          · cases hg
      · rw [List.getElem?_eq_none (by rw [List.length_set]; omega)] at ek
        cases ek
    · cases ek
end PV
set_option maxHeartbeats 2000000
/-! PV29: own list's remove -/
namespace PV
open PySem PySem.Spec L2 PyProof.Rows
section
variable {X : Cx} {T : Tbs} {W : WX} {M : List Nat} {e : Expr} {f : Sl → Res D} {pos p : Pos}
def rRemG (K : PySem.W.Frag) : V → List V → Hp → VK → Prop := fun x xs H Q => ∃ (l : Addr) (vs : List V) (y : V) (ps : List PyData) (q : PyData) (j : Nat), x = .ref l ∧ xs = [y] ∧ H l = some (.lst vs) ∧ DpAll K H vs ps ∧ Dp K H y q ∧ PyData.plainAll ps = true ∧ q.plain = true ∧ q.depth ≤ 60 ∧ SeqAt.dataPlace ps q = some j ∧ Q .non (upd H l (.lst (vs.eraseIdx j)))
theorem mt_removeG (hu : X.A.units + 65 < cLine) : MtM X "list.remove" (rRemG X.K) := by
  intro pins s σ H x xs v us Q I rx rxs h
  obtain ⟨l, vs, y, ps, d, j, rfl, rfl, hH, h1, h2, h3, h4, h5, h6, q⟩ := h
  cases rx
  obtain ⟨u, rfl, ru⟩ := rxs.one
  obtain ⟨z, its, n, r, hl, e⟩ := I.lstM hH
  obtain ⟨as, r1⟩ := Dp.readsAll I ps vs its h1 r
  obtain ⟨bs, r2⟩ := Dp.reads I d y u h2 ru
  have r1' : ReadsAll s.heap its.toArray.toList ps as := r1
  obtain ⟨hj, hit, hno⟩ := SeqAt.hit_at r1' h3 h6
  have hm := Nat.min_le_right (PyData.depthAll ps) d.depth
  refine call_meets PySem.F.slot_list_remove ⟨_, e, rfl⟩ PySem.F.entry_list_remove (PySem.F.args_list_remove_2 _ _)
    (SeqAt.list_removeAt l its.toArray n _ _ u _ j hj hit hno (by rw [List.size_toArray]; omega)) ⟨e, SeqAt.items_plain r1' r2 h3 h4 (by show X.A.units + 1 + _ < _; omega), ?_⟩
  refine ⟨.non, _, I.lset (its' := its.eraseIdx j) hH e ?_ (r.eraseIdx j) ?_, rfl, q⟩
  · show its.toArray.eraseIdxIfInBounds j = (its.eraseIdx j).toArray
    rw [List.eraseIdxIfInBounds_toArray]
  · have := len_erase vs j
    omega
/-- where it stands -/
def placeD (ds : List D) (d : D) : Option Nat := match D.pys ds, d.py with
  | some ps, some q => if PyData.plainAll ps && q.plain && decide (q.depth ≤ 60) then SeqAt.dataPlace ps q else none
  | _, _ => none
def sRem (i : Nat) (f : Sl → Res D) : Sl → Res Fl := fun σ => match σ[i]? with
  | some (some (.lst ds)) => (f σ).bind fun d => match placeD ds d with
    | some j => .ok (.nx (σ.set i (some (.lst (ds.eraseIdx j)))))
    | none => .no
  | _ => .no
theorem Reps.erase {K : PySem.W.Frag} {mg : Str → Option Value} {G : Hp} : ∀ {vs : List V} {ds : List D} (j : Nat), Reps K mg G vs ds → Reps K mg G (vs.eraseIdx j) (ds.eraseIdx j)
  | _, _, j, .nil => by simpa using Reps.nil
  | _, _, 0, .cons a b => by simpa using b
  | _, _, j + 1, .cons a b => by simpa using Reps.cons a (Reps.erase j b)
theorem ss_remove {i : Nat} {x : Str} {ap cp : Pos} (hu : X.A.units + 65 < cLine) (hv : PE X (.Name x p) (tVar i)) (hM : i ∈ M) (he : PX X T W M e f)
    (hbase : attributeBase (.Name x p) "remove" X.env (eval (.Name x p) X.env) = eval (.Name x p) X.env := by rfl)
    (hfew : ((backTo cp (starEach [e] X.env)).all (fun x => !x.1) && (backToKw cp (keywordEach [] X.env)).all (fun x => x.1.isSome)
      && decide (([e] : List Expr).length + ([] : List Keyword).length + (if ([] : List Keyword).isEmpty then 0 else 1) < 30)) = true := by rfl)
    (hline : (ap.endLine == cp.line) = true := by rfl) (hs : starEach [e] X.env = (false, eval e X.env) :: starEach [] X.env := by rfl) (hplain : (backTo cp (starEach [] X.env)).any (·.1) = false := by rfl)
    (hsw : swapsWith (.Call (.Attribute (.Name x p) "remove" ap) [e] [] cp) none pos.line X.env = pure false := by rfl) :
    PXS X T W M (.Expr (.Call (.Attribute (.Name x p) "remove" ap) [e] [] cp) pos) (sRem i f) := by
  obtain ⟨ta, pa, qa⟩ := he.run
  refine ⟨_, ps_expr (pe_bm PySem.F.plainAttrs_list PySem.F.slot_list_remove PySem.F.type_list_remove (mt_removeG hu) hv (pa_cons pa pa_nil hs) hbase hfew hline hs hplain) hsw, fun G0 H0 G H σ σd Z er o => ?_⟩
  unfold sRem at o
  split at o
  · rename_i ds e
    obtain ⟨a, q, h0, hg, ho⟩ := er.own i _ hM e
    rcases ho with ⟨vs, ds', z, h1, h2⟩ | ⟨kvs, kds, z, h1, h2⟩
    · cases z
      refine ⟨_, q, .inl ⟨rfl, vs, SqL.of h1⟩, ?_⟩
      refine qa _ _ _ _ _ _ _ er (OutS.seq (X := X) o fun d G1 H1 v _ x1 rv o => ?_)
      have h1' : H1 a = some (.lst vs) := x1.hh _ _ h1 (fun _ z => nomatch z)
      cases ep : placeD ds d with
      | none => rw [ep] at o; exact o.elim
      | some j =>
        rw [ep] at o
        unfold placeD at ep
        split at ep
        · rename_i ps q' hps hq
          split at ep
          · rename_i c
            rw [Bool.and_eq_true, Bool.and_eq_true, decide_eq_true_eq] at c
            refine ⟨a, vs, v, ps, q', j, rfl, rfl, h1', Reps.dp x1.gh.sm _ _ _ (Reps.mono x1.gg _ _ h2) hps, Rep.dp x1.gh.sm _ _ _ rv hq, c.1.1, c.1.2, c.2, ep, ?_⟩
            exact o _ _ _ (Sm.refl _) ((er.to x1).put hM e q h1' (.inl ⟨_, rfl⟩) ⟨x1.fr a _ hg h1 (by first | exact Mo.lst | exact Mo.dct), .inl ⟨vs.eraseIdx j, ds.eraseIdx j, rfl, upd_same, (Reps.mono x1.gg _ _ h2).erase j⟩⟩)
          · cases ep
        · cases ep
    · cases z
  · exact o.elim
end
end PV
set_option maxHeartbeats 2000000
/-! PV30: xs[::k] of a list, k > 0 -/
namespace PV
open PySem PySem.Spec L2 PyProof.Rows
theorem step_pick {k : Int} (hk : 0 < k) (items : Array Value) : slicePick items none none (some k) = (stepL k items.toList).toArray := by
  unfold slicePick stepL
  have e : sliceBounds none none (some k) items.size = (0, (items.size : Int), k) := by
    show ((if k > 0 then (0 : Int) else (items.size : Int) - 1), (if k > 0 then (items.size : Int) else -1), k) = _
    rw [if_pos hk, if_pos hk]
  rw [e]
  have e2 : sliceRange 0 (items.size : Int) k = stepIx k items.toList.length := by
    unfold sliceRange stepIx
    rw [if_pos hk, Array.length_toList]
  rw [e2]
  congr 1
  congr 1
  funext j
  simp
theorem vals_step (k : Int) {vs : List V} {us : List Value} (h : Vals vs us) : Vals (stepL k vs) (stepL k us) := by
  unfold stepL
  rw [h.length]
  generalize stepIx k us.length = js
  induction js with
  | nil => exact .nil
  | cons j js ih =>
    cases e : vs[j]? with
    | none => rw [List.filterMap_cons_none e, List.filterMap_cons_none (h.none_of e)]; exact ih
    | some x =>
      obtain ⟨u, e1, e2⟩ := h.get e
      rw [List.filterMap_cons_some e, List.filterMap_cons_some e1]
      exact .cons e2 ih
theorem Reps.step {K : PySem.W.Frag} {mg : Str → Option Value} {G : Hp} (k : Int) {vs : List V} {ds : List D} (h : Reps K mg G vs ds) : Reps K mg G (stepL k vs) (stepL k ds) := by
  unfold stepL
  rw [h.length]
  have hl := h.length
  generalize stepIx k ds.length = js
  induction js with
  | nil => exact .nil
  | cons j js ih =>
    cases e : ds[j]? with
    | none =>
      have e' : vs[j]? = none := List.getElem?_eq_none (by rw [hl]; exact List.getElem?_eq_none_iff.mp e)
      rw [List.filterMap_cons_none e, List.filterMap_cons_none e']; exact ih
    | some x =>
      obtain ⟨u, e1, e2⟩ := h.get e
      rw [List.filterMap_cons_some e, List.filterMap_cons_some e1]
      exact .cons e2 ih
theorem stepIx_len (k : Int) (hk : 0 < k) (n : Nat) : (stepIx k n).length ≤ n := by
  unfold stepIx
  rw [List.length_map, List.length_range]
  by_cases h : (0 : Int) < n
  · rw [if_pos h]
    have := PySem.ceilDiv_le ((n : Int) - 0) k (by omega) (by omega)
    omega
  · rw [if_neg h]; simp
theorem stepL_len {α : Type} (k : Int) (hk : 0 < k) (l : List α) : (stepL k l).length ≤ l.length :=
  Nat.le_trans (List.length_filterMap_le _ _) (stepIx_len k hk _)
section
variable {X : Cx} {T : Tbs} {W : WX} {M : List Nat} {e st : Expr} {f g : Sl → Res D} {te ts : TE} {p3 pos : Pos}
def tStepL (K : PySem.W.Frag) (te ts : TE) : TE := fun σ H Q => te σ H fun x H1 => ts σ H1 fun y H2 => ∃ i : Int, y = .int i ∧ ∃ a xs k, x = .ref a ∧ some i = some k ∧ 0 < k ∧ SqL K H2 a xs ∧ ∀ p, H2 p = none → Q (.ref p) (upd H2 p (.lst (stepL k xs)))
theorem pe_step (he : PE X e te) (hs : PE X st ts) (ho : ∀ v u, ∃ ops, subscripted (.Slice none none (some st) p3) false v u = operate ops (getItem v u)) : PE X (.Subscript e (.Slice none none (some st) p3) pos) (tStepL X.K te ts) := by
  refine ⟨fun pins s σ H Q I h => ?_⟩
  refine Subscript_ (thn (he.run pins s σ H _ I h) fun v s1 ⟨x, H1, I1, r1, q1⟩ => ?_)
  refine wpAny_Slice (thn (po_none.run pins s1 σ H1 (fun o H2 => o = none ∧ H2 = H1) I1 ⟨rfl, rfl⟩) fun vl s2 ⟨l, H2, I2, pl, el, e2⟩ => ?_)
  subst el e2
  refine thn (po_none.run pins s2 σ H2 (fun o H3 => o = none ∧ H3 = H2) I2 ⟨rfl, rfl⟩) fun vu s3 ⟨u, H3, I3, pu, eu, e3⟩ => ?_
  subst eu e3
  refine thn ((po_some hs).run pins s3 σ H3 (fun o H4 => ∃ a xs k, x = .ref a ∧ o = some k ∧ 0 < k ∧ SqL X.K H4 a xs ∧ ∀ p, H4 p = none → Q (.ref p) (upd H4 p (.lst (stepL k xs)))) I3 q1) fun vs s4 ⟨o, H4, I4, ps, a, xs, k, ex, eo, hk, hx, q⟩ => ?_
  · subst ex eo
    cases r1
    have I5 : Inv X pins σ H4 { s4 with heap := s4.heap.push { cls := .type "slice", data := .fields #[vl, vu, vs] } } := I4.kept (t' := s4.toks) fun b ob q => Heap.get?_push_of_some _ q
    obtain ⟨its, r, ht, hz⟩ := I5.list hx
    have hlen := r.length
    show wpAny (model X.prog X.w) X.A (subscriptTail e (.Slice none none (some st) p3) (.ref a) (.ref s4.heap.objs.size)) (EP X pins σ Q) X.xe { s4 with heap := s4.heap.push { cls := .type "slice", data := .fields #[vl, vu, vs] } }
    obtain ⟨ops, hops⟩ := ho (.ref a) (.ref s4.heap.objs.size)
    refine tail_any (ops := ops) ht.isList.typeIs (PySem.slot_list_getitem.lookup) ?_ hops
    refine wpAny_getItem_list_slice ht.isList (Heap.IsSliceOf.new _ vl vu vs) pl pu ps (by intro z; cases z; exact absurd hk (by decide)) ?_ (by rw [List.size_toArray]; omega)
    rw [step_pick hk]
    refine ⟨.ref _, _, I5.laid (t' := s4.toks) (o := .lst (stepL k xs)) (fun b ob q => Heap.get?_push_of_some _ q) (Nat.le_refl _) ?_, rfl, q _ (I5.hok.fresh (Nat.le_refl _))⟩
    exact ⟨Nat.le_trans (stepL_len k hk xs) (by omega), _, 0, vals_step k r, Heap.get?_push_size _ rfl⟩
def stepD : D → D → Option D
  | .lst xs, .int k => if 0 < k then some (.lst (stepL k xs)) else none
  | _, _ => none
theorem px_step (he : PXr X T W M e f) (hs : PX X T W M st g) (ho : ∀ v u, ∃ ops, subscripted (.Slice none none (some st) p3) false v u = operate ops (getItem v u) := by exact fun _ _ => ⟨_, by with_unfolding_all rfl⟩) : PX X T W M (.Subscript e (.Slice none none (some st) p3) pos) (e2 stepD f g) := by
  obtain ⟨t, p, q⟩ := he.run
  obtain ⟨ts, ps, qs⟩ := hs.run
  refine ⟨_, pe_step p ps ho, fun G0 H0 G H σ σd Q er o => ?_⟩
  refine q _ _ _ _ _ _ _ er (o.seq fun d G1 H1 v _ x1 rv o => ?_)
  refine qs _ _ _ _ _ _ _ (er.to x1) (o.seq fun dk G2 H2 u _ x2 ru o => ?_)
  obtain ⟨d', hd, k⟩ := o.of
  have rv2 := rR.mono rv x2
  unfold stepD at hd
  split at hd
  · split at hd
    · rename_i c
      cases hd
      cases ru
      obtain ⟨a, vs, rfl, h1, rs⟩ := rR.lst rv2 x2.gh
      exact ⟨_, rfl, a, vs, _, rfl, rfl, c, SqL.of h1, fun p hp => Ext.qlst k x2.gh x2.tb (Reps.step _ rs) hp⟩
    · cases hd
  · cases hd
end
end PV
/-! S0: rules to reckon with the values of defs -/
namespace PV
open PySem
theorem D.tobool_bl (b : Bool) : (D.bl b).tobool = .ok b := rfl
/-! evaluation, step by step -/
section
variable {σ : Sl} {a b c : Sl → Res D} {x y z w : D} {p q : Bool}
theorem ev_C {d : D} : eC d σ = .ok d := rfl
theorem ev_V {i : Nat} {d : D} (h : σ[i]? = some (some d)) : eV i σ = .ok d := by unfold eV; rw [h]
theorem ev_1 {g : D → Option D} (ha : a σ = .ok x) (hg : g x = some z) : e1 g a σ = .ok z := by unfold e1; rw [ha, Res.ok_bind, hg]; rfl
theorem ev_2 {g : D → D → Option D} (ha : a σ = .ok x) (hb : b σ = .ok y) (hg : g x y = some z) : e2 g a b σ = .ok z := by
  unfold e2; rw [ha, Res.ok_bind, hb, Res.ok_bind, hg]; rfl
theorem ev_N {g : List D → Option D} {f : Sl → Res (List D)} {ds : List D} (ha : f σ = .ok ds) (hg : g ds = some z) : eN g f σ = .ok z := by unfold eN; rw [ha, Res.ok_bind, hg]; rfl
theorem ev_nil : eNil σ = .ok [] := rfl
theorem ev_cons {r : Sl → Res (List D)} {ds : List D} (ha : a σ = .ok x) (hr : r σ = .ok ds) : eCons a r σ = .ok (x :: ds) := by unfold eCons; rw [ha, Res.ok_bind, hr]; rfl
theorem ev_tup {f : Sl → Res (List D)} {ds : List D} (h : f σ = .ok ds) : eTup f σ = .ok (.tup ds) := by unfold eTup; rw [h]; rfl
theorem ev_lst {f : Sl → Res (List D)} {ds : List D} (h : f σ = .ok ds) : eLst f σ = .ok (.lst ds) := by unfold eLst; rw [h]; rfl
theorem ev_call {h : List D → Res D} {f : Sl → Res (List D)} {ds : List D} {r : Res D} (hf : f σ = .ok ds) (hh : h ds = r) : eCall h f σ = r := by unfold eCall; rw [hf, Res.ok_bind, hh]
theorem ev_B (ha : a σ = .ok (.bl p)) : eB a σ = .ok p := by unfold eB; rw [ha]; rfl
theorem ev_And (ha : a σ = .ok (.bl p)) (hb : p = true → b σ = .ok (.bl q)) : eAnd a b σ = .ok (.bl (p && q)) := by
  unfold eAnd; rw [ha]
  cases p with
  | true => show b σ = _; rw [hb rfl]; rfl
  | false => rfl
theorem ev_Or (ha : a σ = .ok (.bl p)) (hb : p = false → b σ = .ok (.bl q)) : eOr a b σ = .ok (.bl (p || q)) := by
  unfold eOr; rw [ha]
  cases p with
  | true => rfl
  | false => show b σ = _; rw [hb rfl]; rfl
theorem ev_Not (ha : a σ = .ok (.bl p)) : eNot a σ = .ok (.bl (!p)) := by unfold eNot; rw [ha]; rfl
theorem ev_bAnd {a b : Sl → Res Bool} (ha : a σ = .ok p) (hb : p = true → b σ = .ok q) : bAnd a b σ = .ok (p && q) := by
  unfold bAnd; rw [ha]
  cases p with
  | true => show b σ = _; rw [hb rfl]; rfl
  | false => rfl
theorem ev_bOr {a b : Sl → Res Bool} (ha : a σ = .ok p) (hb : p = false → b σ = .ok q) : bOr a b σ = .ok (p || q) := by
  unfold bOr; rw [ha]
  cases p with
  | true => rfl
  | false => show b σ = _; rw [hb rfl]; rfl
theorem ev_bNot {a : Sl → Res Bool} (ha : a σ = .ok p) : bNot a σ = .ok (!p) := by unfold bNot; rw [ha]; rfl
theorem ev_chain {g g' : D → D → Option D} (ha : a σ = .ok x) (hb : b σ = .ok y) (hg : g x y = some (.bl p)) (hc : p = true → c σ = .ok w) (hg' : p = true → g' y w = some (.bl q)) : eChain g g' a b c σ = .ok (.bl (p && q)) := by
  unfold eChain; rw [ha, Res.ok_bind, hb, Res.ok_bind, hg]
  cases p with
  | true => show (c σ).bind _ = _; rw [hc rfl, Res.ok_bind, hg' rfl]; rfl
  | false => rfl
theorem ev_sl {l h : Sl → Res (Option Int)} {lo hi : Option Int} (ha : a σ = .ok x) (hl : l σ = .ok lo) (hh : h σ = .ok hi) (hg : sliceD x lo hi = some z) : eSl a l h σ = .ok z := by
  unfold eSl; rw [ha, Res.ok_bind, hl, Res.ok_bind, hh, Res.ok_bind, hg]; rfl
/-! statements -/
variable {s t : Sl → Res Fl} {σ' : Sl} {r : Res Fl}
theorem st_seq (hs : s σ = .ok (.nx σ')) (ht : t σ' = r) : sSeq s t σ = r := by unfold sSeq; rw [hs]; exact ht
theorem st_seq_rt {d : D} (hs : s σ = .ok (.rt d)) : sSeq s t σ = .ok (.rt d) := by unfold sSeq; rw [hs]; rfl
theorem st_seq_ex {e : Str} (hs : s σ = .ex e) : sSeq s t σ = .ex e := by unfold sSeq; rw [hs]; rfl
theorem st_set {i : Nat} (h : a σ = .ok x) : sSet i a σ = .ok (.nx (σ.set i (some x))) := by unfold sSet; rw [h]; rfl
theorem st_ret (h : a σ = .ok x) : sRet a σ = .ok (.rt x) := by unfold sRet; rw [h]; rfl
theorem st_drop (h : a σ = .ok x) : sDrop a σ = .ok (.nx σ) := by unfold sDrop; rw [h]; rfl
theorem st_drop_ex {e : Str} (h : a σ = .ex e) : sDrop a σ = .ex e := by unfold sDrop; rw [h]; rfl
theorem st_if {f : Sl → Res Bool} (h : f σ = .ok p) (ht : p = true → s σ = r) (hf : p = false → t σ = r) : sIf f s t σ = r := by
  unfold sIf; rw [h, Res.ok_bind]
  cases p with
  | true => rw [if_pos rfl]; exact ht rfl
  | false => rw [if_neg Bool.false_ne_true]; exact hf rfl
theorem st_ifT {f : Sl → Res Bool} (h : f σ = .ok true) (ht : s σ = r) : sIf f s t σ = r := st_if h (fun _ => ht) (fun z => nomatch z)
theorem st_ifF {f : Sl → Res Bool} (h : f σ = .ok false) (ht : t σ = r) : sIf f s t σ = r := st_if h (fun z => nomatch z) (fun _ => ht)
theorem st_nil : sNil σ = .ok (.nx σ) := rfl
theorem st_app {i : Nat} {ds : List D} (h0 : σ[i]? = some (some (.lst ds))) (h : a σ = .ok x) (hz : ds.length < sizeLine) : sApp i a σ = .ok (.nx (σ.set i (some (.lst (ds ++ [x]))))) := by
  unfold sApp; rw [h0]; show (a σ).bind _ = _; rw [h, Res.ok_bind, if_pos hz]
theorem st_ext {i : Nat} {ds es : List D} (h0 : σ[i]? = some (some (.lst ds))) (h : a σ = .ok (.lst es)) (hz : ds.length + es.length ≤ sizeLine) : sExt i a σ = .ok (.nx (σ.set i (some (.lst (ds ++ es))))) := by
  unfold sExt; rw [h0]; show (a σ).bind _ = _; rw [h, Res.ok_bind]; show (if _ then _ else _) = _; rw [if_pos hz]
theorem st_par {i j : Nat} {f : Sl → Res (List D)} (h : f σ = .ok [x, y]) : sPar i j f σ = .ok (.nx ((σ.set i (some x)).set j (some y))) := by unfold sPar; rw [h]; rfl
theorem st_asg {g : D → Sl → Option Sl} (h : a σ = .ok x) (hg : g x σ = some σ') : sAsg a g σ = .ok (.nx σ') := by unfold sAsg; rw [h, Res.ok_bind, hg]; rfl
theorem gt_tup2 {i j : Nat} : gtT (gtsCons (gtN i) (gtsCons (gtN j) gtsNil)) (.tup [x, y]) σ = some ((σ.set i (some x)).set j (some y)) := rfl
/-- a def's value -/
theorem run_rt {N : List Str} {n : Nat} {ds : List D} (hn : ds.length = n) (h : s (startD N ds) = .ok (.rt x)) : runF N n s ds = .ok x := by unfold runF; rw [if_pos hn, h]; rfl
theorem run_nx {N : List Str} {n : Nat} {ds : List D} (hn : ds.length = n) (h : s (startD N ds) = .ok (.nx σ)) : runF N n s ds = .ok .non := by unfold runF; rw [if_pos hn, h]; rfl
theorem run_ex {N : List Str} {n : Nat} {ds : List D} {e : Str} (hn : ds.length = n) (h : s (startD N ds) = .ex e) : runF N n s ds = .ex e := by unfold runF; rw [if_pos hn, h]; rfl
/-! loops -/
theorem for_go {it : Sl → Res (List D)} {g : D → Sl → Option Sl} {ds : List D} (hi : it σ = .ok ds) (h : forGo g s ds σ = r) : sFor it g s σ = r := by unfold sFor; rw [hi]; exact h
/-- E k: the slots ahead of turn k -/
theorem for_all {g : D → Sl → Option Sl} (E : Nat → Sl) : ∀ (ds : List D) (k : Nat), (∀ i d, ds[i]? = some d → ∃ σ1, g d (E (k + i)) = some σ1 ∧ s σ1 = .ok (.nx (E (k + i + 1)))) → forGo g s ds (E k) = .ok (.nx (E (k + ds.length)))
  | [], k, _ => rfl
  | d :: ds, k, h => by
    obtain ⟨σ1, h1, h2⟩ := h 0 d rfl
    show (Res.of (g d (E k))).bind _ = _
    rw [show E (k + 0) = E k from rfl] at h1
    rw [h1]
    show (s σ1).bind _ = _
    rw [h2]
    show forGo g s ds (E (k + 0 + 1)) = _
    have e : k + (d :: ds).length = (k + 0 + 1) + ds.length := by simp only [List.length_cons]; omega
    rw [e]
    refine for_all E ds (k + 0 + 1) fun i d' hd => ?_
    obtain ⟨σ2, h3, h4⟩ := h (i + 1) d' (by simpa using hd)
    have e2 : k + 0 + 1 + i = k + (i + 1) := by omega
    exact ⟨σ2, by rw [e2]; exact h3, by rw [e2]; exact h4⟩
theorem for_all0 {g : D → Sl → Option Sl} (E : Nat → Sl) (ds : List D) (h : ∀ i d, ds[i]? = some d → ∃ σ1, g d (E i) = some σ1 ∧ s σ1 = .ok (.nx (E (i + 1)))) (h0 : σ = E 0) : forGo g s ds σ = .ok (.nx (E ds.length)) := by
  subst h0
  have := for_all E ds 0 (fun i d hd => by rw [Nat.zero_add]; exact h i d hd)
  rw [Nat.zero_add] at this
  exact this
/-- I holds of what is taken so far, and the slots -/
theorem for_inv {g : D → Sl → Option Sl} {α : Type} (emb : α → D) (I : List α → Sl → Prop) : ∀ (post pre : List α) (σ : Sl), I pre σ →
    (∀ p x q σ, pre ++ post = p ++ x :: q → I p σ → ∃ σ1, g (emb x) σ = some σ1 ∧ ∃ σ2, s σ1 = .ok (.nx σ2) ∧ I (p ++ [x]) σ2) → ∃ σ', forGo g s (post.map emb) σ = .ok (.nx σ') ∧ I (pre ++ post) σ'
  | [], pre, σ, h, _ => ⟨σ, rfl, by rw [List.append_nil]; exact h⟩
  | x :: post, pre, σ, h, hs => by
    obtain ⟨σ1, h1, σ2, h2, h3⟩ := hs pre x post σ rfl h
    have e : pre ++ x :: post = (pre ++ [x]) ++ post := by rw [List.append_assoc]; rfl
    obtain ⟨σ', h4, h5⟩ := for_inv emb I post (pre ++ [x]) σ2 h3 (fun p y q σ eq => hs p y q σ (by rw [e]; exact eq))
    refine ⟨σ', ?_, by rw [e]; exact h5⟩
    show (Res.of (g (emb x) σ)).bind _ = _
    rw [h1]; show (s σ1).bind _ = _; rw [h2]; exact h4
theorem for_inv0 {it : Sl → Res (List D)} {g : D → Sl → Option Sl} {α : Type} {xs : List α} (emb : α → D) (I : List α → Sl → Prop) (hi : it σ = .ok (xs.map emb)) (h0 : I [] σ)
    (hs : ∀ p x q σ, xs = p ++ x :: q → I p σ → ∃ σ1, g (emb x) σ = some σ1 ∧ ∃ σ2, s σ1 = .ok (.nx σ2) ∧ I (p ++ [x]) σ2) : ∃ σ', sFor it g s σ = .ok (.nx σ') ∧ I xs σ' := by
  obtain ⟨σ', h1, h2⟩ := for_inv (s := s) (g := g) emb I xs [] σ h0 (fun p x q σ e => hs p x q σ (by rw [← e]; rfl))
  exact ⟨σ', for_go hi h1, h2⟩
/-- turns that may hand back -/
theorem for_ret {g : D → Sl → Option Sl} {α : Type} {v : D} (emb : α → D) (bad : α → Bool) (I : List α → Sl → Prop) : ∀ (post pre : List α) (σ : Sl), I pre σ →
    (∀ p x q σ, pre ++ post = p ++ x :: q → I p σ → ∃ σ1, g (emb x) σ = some σ1 ∧ (bad x = true → s σ1 = .ok (.rt v)) ∧ (bad x = false → ∃ σ2, s σ1 = .ok (.nx σ2) ∧ I (p ++ [x]) σ2)) →
    (post.any bad = true → forGo g s (post.map emb) σ = .ok (.rt v)) ∧ (post.any bad = false → ∃ σ', forGo g s (post.map emb) σ = .ok (.nx σ') ∧ I (pre ++ post) σ')
  | [], pre, σ, h, _ => ⟨fun z => by simp at z, fun _ => ⟨σ, rfl, by rw [List.append_nil]; exact h⟩⟩
  | x :: post, pre, σ, h, hs => by
    obtain ⟨σ1, h1, ht, hf⟩ := hs pre x post σ rfl h
    have e : pre ++ x :: post = (pre ++ [x]) ++ post := by rw [List.append_assoc]; rfl
    have un : forGo g s ((x :: post).map emb) σ = (s σ1).bind fun fl => match fl with
      | .nx σ2 => forGo g s (post.map emb) σ2
      | .ct σ2 => forGo g s (post.map emb) σ2
      | .bk σ2 => .ok (.nx σ2)
      | .rt d => .ok (.rt d) := by
      show (Res.of (g (emb x) σ)).bind _ = _
      rw [h1]; rfl
    cases b : bad x with
    | true => exact ⟨fun _ => by rw [un, ht b]; rfl, fun z => by simp [b] at z⟩
    | false =>
      obtain ⟨σ2, h2, h3⟩ := hf b
      obtain ⟨a1, a2⟩ := for_ret emb bad I post (pre ++ [x]) σ2 h3 (fun p y q σ eq => hs p y q σ (by rw [e]; exact eq))
      refine ⟨fun z => ?_, fun z => ?_⟩
      · rw [un, h2]; exact a1 (by simpa [b] using z)
      · obtain ⟨σ', h4, h5⟩ := a2 (by simpa [b] using z)
        exact ⟨σ', by rw [un, h2]; exact h4, by rw [e]; exact h5⟩
/-- turns that may hand back: F of the rest -/
theorem for_cons {g : D → Sl → Option Sl} {d : D} {ds : List D} {σ1 σ2 : Sl} (h1 : g d σ = some σ1) (h2 : s σ1 = .ok (.nx σ2)) : forGo g s (d :: ds) σ = forGo g s ds σ2 := by
  show (Res.of (g d σ)).bind _ = _
  rw [h1]; show (s σ1).bind _ = _; rw [h2]; rfl
theorem for_cons_rt {g : D → Sl → Option Sl} {d e : D} {ds : List D} {σ1 : Sl} (h1 : g d σ = some σ1) (h2 : s σ1 = .ok (.rt e)) : forGo g s (d :: ds) σ = .ok (.rt e) := by
  show (Res.of (g d σ)).bind _ = _
  rw [h1]; show (s σ1).bind _ = _; rw [h2]; rfl
/-- a comprehension over a mapped list -/
theorem lc_go {g : D → Sl → Option Sl} {fc : Sl → Res Bool} {f : Sl → Res D} {α : Type} (emb : α → D) (p : α → Bool) (v : α → D) : ∀ xs : List α, (∀ x ∈ xs, ∃ σ1, g (emb x) σ = some σ1 ∧ fc σ1 = .ok (p x) ∧ (p x = true → f σ1 = .ok (v x))) →
    lcGo g fc f σ (xs.map emb) = .ok ((xs.filter p).map v)
  | [], _ => rfl
  | x :: xs, h => by
    obtain ⟨σ1, h1, h2, h3⟩ := h x List.mem_cons_self
    have ih := lc_go (f := f) emb p v xs fun y hy => h y (List.mem_cons_of_mem _ hy)
    show (Res.of (g (emb x) σ)).bind _ = _
    rw [h1]
    show (fc σ1).bind _ = _
    rw [h2, Res.ok_bind]
    cases e : p x with
    | true =>
      rw [if_pos rfl, h3 e, Res.ok_bind, ih, List.filter_cons_of_pos e]; rfl
    | false =>
      rw [if_neg Bool.false_ne_true, ih, List.filter_cons_of_neg (by rw [e]; exact Bool.false_ne_true)]
theorem ev_lc {it : Sl → Res (List D)} {g : D → Sl → Option Sl} {fc : Sl → Res Bool} {f : Sl → Res D} {vs : List Nat} {α : Type} {xs : List α} (emb : α → D) (p : α → Bool) (v : α → D) (hi : it σ = .ok (xs.map emb))
    (h : ∀ x ∈ xs, ∃ σ1, g (emb x) (wipeD σ vs) = some σ1 ∧ fc σ1 = .ok (p x) ∧ (p x = true → f σ1 = .ok (v x))) (hz : xs.length ≤ sizeLine) : eLc it g fc f vs σ = .ok (.lst ((xs.filter p).map v)) := by
  unfold eLc
  rw [hi, Res.ok_bind, lc_go emb p v xs h]
  show (if _ then _ else _) = _
  rw [if_pos (by rw [List.length_map]; exact Nat.le_trans (List.length_filter_le _ _) hz)]
theorem ev_lcAll {it : Sl → Res (List D)} {g : D → Sl → Option Sl} {f : Sl → Res D} {vs : List Nat} {α : Type} {xs : List α} (emb : α → D) (v : α → D) (hi : it σ = .ok (xs.map emb))
    (h : ∀ x ∈ xs, ∃ σ1, g (emb x) (wipeD σ vs) = some σ1 ∧ f σ1 = .ok (v x)) (hz : xs.length ≤ sizeLine) : eLc it g bYes f vs σ = .ok (.lst (xs.map v)) := by
  have := ev_lc (fc := bYes) (f := f) (g := g) (vs := vs) emb (fun _ => true) v hi (fun x hx => by obtain ⟨σ1, h1, h2⟩ := h x hx; exact ⟨σ1, h1, rfl, fun _ => h2⟩) hz
  rw [List.filter_eq_self.mpr fun _ _ => rfl] at this
  exact this
theorem ev_lcNone {it : Sl → Res (List D)} {g : D → Sl → Option Sl} {fc : Sl → Res Bool} {f : Sl → Res D} {vs : List Nat} {α : Type} {xs : List α} (emb : α → D) (hi : it σ = .ok (xs.map emb))
    (h : ∀ x ∈ xs, ∃ σ1, g (emb x) (wipeD σ vs) = some σ1 ∧ fc σ1 = .ok false) : eLc it g fc f vs σ = .ok (.lst []) := by
  unfold eLc
  rw [hi, Res.ok_bind, lc_go emb (fun _ => false) (fun _ => .non) xs fun x hx => by obtain ⟨σ1, h1, h2⟩ := h x hx; exact ⟨σ1, h1, h2, fun z => nomatch z⟩]
  rw [List.filter_eq_nil_iff.mpr fun _ _ => Bool.false_ne_true]
  rfl
theorem it_seq {ds : List D} (h : a σ = .ok x) (hd : x.items = some ds) : eSeq a σ = .ok ds := by unfold eSeq; rw [h, Res.ok_bind, hd]; rfl
theorem rng1_eq {j : Int} (h : -(2 ^ 62) ≤ j ∧ j < 2 ^ 62) : rng1 [.int j] = some ((List.range j.toNat).map fun i => .int (i : Nat)) := if_pos h
theorem rng2_eq {i j : Int} (h : -(2 ^ 62) ≤ i ∧ i < 2 ^ 62 ∧ -(2 ^ 62) ≤ j ∧ j < 2 ^ 62) : rng2 [.int i, .int j] = some ((List.range (j - i).toNat).map fun k => .int (i + (k : Nat))) := if_pos h
theorem it_rng1 {f : Sl → Res (List D)} {n : Nat} (h : f σ = .ok [.int (n : Int)]) (hn : n < 2 ^ 62) : eRng1 f σ = .ok ((List.range n).map fun i => .int (i : Nat)) := by
  unfold eRng1
  rw [h, Res.ok_bind, rng1_eq ⟨by omega, by omega⟩, Int.toNat_natCast]; rfl
theorem it_rng2 {f : Sl → Res (List D)} {i j : Int} (h : f σ = .ok [.int i, .int j]) (hi : -(2 ^ 62) ≤ i ∧ i < 2 ^ 62) (hj : -(2 ^ 62) ≤ j ∧ j < 2 ^ 62) : eRng2 f σ = .ok ((List.range (j - i).toNat).map fun k => .int (i + (k : Nat))) := by
  unfold eRng2
  rw [h, Res.ok_bind, rng2_eq ⟨hi.1, hi.2, hj.1, hj.2⟩]; rfl
theorem it_chars {z : Str} (h : a σ = .ok (.str z)) : eChars a σ = .ok (z.cps.toList.map fun c => .str ⟨#[c]⟩) := by unfold eChars; rw [h]; rfl
end
/-! what holds behind a statement: P of the slots, R of what is handed back -/
def Wf0 (r : Res Fl) (P : Sl → Prop) (R : D → Prop) : Prop := match r with
  | .ok (.nx σ) => P σ
  | .ok (.rt d) => R d
  | _ => False
section
variable {σ : Sl} {s t : Sl → Res Fl} {P P' : Sl → Prop} {R : D → Prop} {x : D} {a : Sl → Res D} {p : Bool}
theorem Wf0.imp {r : Res Fl} (h : Wf0 r P' R) (hp : ∀ σ, P' σ → P σ) : Wf0 r P R := by
  cases r with
  | ok fl => cases fl with
    | nx σ => exact hp _ h
    | rt d => exact h
    | bk _ => exact h
    | ct _ => exact h
  | ex c => exact h
  | no => exact h
theorem wf0_seq (h : Wf0 (s σ) (fun σ' => Wf0 (t σ') P R) R) : Wf0 (sSeq s t σ) P R := by
  unfold sSeq
  revert h
  cases s σ with
  | ok fl => cases fl with
    | nx σ => exact id
    | rt d => exact id
    | bk _ => exact id
    | ct _ => exact id
  | ex c => exact id
  | no => exact id
theorem wf0_st {σ' : Sl} (h : s σ = .ok (.nx σ')) (hp : P σ') : Wf0 (s σ) P R := by rw [h]; exact hp
theorem wf0_nil (hp : P σ) : Wf0 (sNil σ) P R := hp
theorem wf0_set {i : Nat} (h : a σ = .ok x) (hp : P (σ.set i (some x))) : Wf0 (sSet i a σ) P R := by rw [st_set h]; exact hp
theorem wf0_ret (h : a σ = .ok x) (hr : R x) : Wf0 (sRet a σ) P R := by rw [st_ret h]; exact hr
theorem wf0_drop (h : a σ = .ok x) (hp : P σ) : Wf0 (sDrop a σ) P R := by rw [st_drop h]; exact hp
theorem wf0_asg {g : D → Sl → Option Sl} {σ' : Sl} (h : a σ = .ok x) (hg : g x σ = some σ') (hp : P σ') : Wf0 (sAsg a g σ) P R := by rw [st_asg h hg]; exact hp
theorem wf0_par {i j : Nat} {y : D} {f : Sl → Res (List D)} (h : f σ = .ok [x, y]) (hp : P ((σ.set i (some x)).set j (some y))) : Wf0 (sPar i j f σ) P R := by rw [st_par h]; exact hp
theorem wf0_app {i : Nat} {ds : List D} (h0 : σ[i]? = some (some (.lst ds))) (h : a σ = .ok x) (hz : ds.length < sizeLine) (hp : P (σ.set i (some (.lst (ds ++ [x]))))) : Wf0 (sApp i a σ) P R := by rw [st_app h0 h hz]; exact hp
theorem wf0_ext {i : Nat} {ds es : List D} (h0 : σ[i]? = some (some (.lst ds))) (h : a σ = .ok (.lst es)) (hz : ds.length + es.length ≤ sizeLine) (hp : P (σ.set i (some (.lst (ds ++ es))))) : Wf0 (sExt i a σ) P R := by rw [st_ext h0 h hz]; exact hp
theorem wf0_if {f : Sl → Res Bool} (h : f σ = .ok p) (ht : p = true → Wf0 (s σ) P R) (hf : p = false → Wf0 (t σ) P R) : Wf0 (sIf f s t σ) P R := by
  unfold sIf; rw [h, Res.ok_bind]
  cases p with
  | true => rw [if_pos rfl]; exact ht rfl
  | false => rw [if_neg Bool.false_ne_true]; exact hf rfl
theorem wf0_forGo {g : D → Sl → Option Sl} {α : Type} (emb : α → D) (I : List α → Sl → Prop) (hd : ∀ σ, I [] σ → False ∨ True) : ∀ (post pre : List α) (σ : Sl), I pre σ →
    (∀ p x q σ, pre ++ post = p ++ x :: q → I p σ → ∃ σ1, g (emb x) σ = some σ1 ∧ Wf0 (s σ1) (I (p ++ [x])) R) → (∀ σ, I (pre ++ post) σ → P σ) → Wf0 (forGo g s (post.map emb) σ) P R
  | [], pre, σ, h, _, hp => hp σ (by rw [List.append_nil]; exact h)
  | x :: post, pre, σ, h, hs, hp => by
    obtain ⟨σ1, h1, h2⟩ := hs pre x post σ rfl h
    have e : pre ++ x :: post = (pre ++ [x]) ++ post := by rw [List.append_assoc]; rfl
    have un : forGo g s ((x :: post).map emb) σ = (s σ1).bind fun fl => match fl with
      | .nx σ2 => forGo g s (post.map emb) σ2
      | .ct σ2 => forGo g s (post.map emb) σ2
      | .bk σ2 => .ok (.nx σ2)
      | .rt d => .ok (.rt d) := by
      show (Res.of (g (emb x) σ)).bind _ = _
      rw [h1]; rfl
    rw [un]
    revert h2
    cases s σ1 with
    | ok fl => cases fl with
      | nx σ2 => exact fun h2 => wf0_forGo emb I hd post (pre ++ [x]) σ2 h2 (fun p y q σ eq => hs p y q σ (by rw [e]; exact eq)) (fun σ hI => hp σ (by rw [e]; exact hI))
      | rt d => exact id
      | bk _ => exact fun z => z.elim
      | ct _ => exact fun z => z.elim
    | ex c => exact fun z => z.elim
    | no => exact fun z => z.elim
/-- a for by what holds of the part taken so far -/
theorem wf0_for {it : Sl → Res (List D)} {g : D → Sl → Option Sl} {α : Type} {xs : List α} (emb : α → D) (I : List α → Sl → Prop) (hi : it σ = .ok (xs.map emb)) (h0 : I [] σ)
    (hs : ∀ p x q σ, xs = p ++ x :: q → I p σ → ∃ σ1, g (emb x) σ = some σ1 ∧ Wf0 (s σ1) (I (p ++ [x])) R) (hp : ∀ σ, I xs σ → P σ) : Wf0 (sFor it g s σ) P R := by
  unfold sFor
  rw [hi, Res.ok_bind]
  exact wf0_forGo emb I (fun _ _ => .inr trivial) xs [] σ h0 (fun p x q σ e => hs p x q σ e) (fun σ h => hp σ h)
/-- a while: I by a number that falls -/
theorem wf0_while {c : Sl → Res Bool} (I : Nat → Sl → Prop) : ∀ (n m : Nat) (σ : Sl), m < n → I m σ → (∀ m σ, I m σ → ∃ b, c σ = .ok b ∧ (b = true → Wf0 (s σ) (fun σ' => ∃ m', m' < m ∧ I m' σ') R) ∧ (b = false → P σ)) → Wf0 (whileGo c s n σ) P R
  | 0, _, _, h, _, _ => absurd h (Nat.not_lt_zero _)
  | n + 1, m, σ, h, hI, hs => by
    obtain ⟨b, h1, h2, h3⟩ := hs m σ hI
    show Wf0 ((c σ).bind _) P R
    rw [h1, Res.ok_bind]
    cases b with
    | false => rw [if_neg Bool.false_ne_true]; exact h3 rfl
    | true =>
      rw [if_pos rfl]
      have h2 := h2 rfl
      revert h2
      cases s σ with
      | ok fl => cases fl with
        | nx σ2 => exact fun ⟨m', l, h4⟩ => wf0_while I n m' σ2 (by omega) h4 hs
        | rt d => exact id
        | bk _ => exact fun z => z.elim
        | ct _ => exact fun z => z.elim
      | ex c => exact fun z => z.elim
      | no => exact fun z => z.elim
end
/-- the same, not to be opened -/
structure Wf (r : Res Fl) (P : Sl → Prop) (R : D → Prop) : Prop where
  run : Wf0 r P R
section
variable {σ : Sl} {s t : Sl → Res Fl} {P P' : Sl → Prop} {R : D → Prop} {x : D} {a : Sl → Res D} {p : Bool}
theorem Wf.imp {r : Res Fl} (h : Wf r P' R) (hp : ∀ σ, P' σ → P σ) : Wf r P R := ⟨h.run.imp hp⟩
theorem wf_seq (h : Wf (s σ) (fun σ' => Wf (t σ') P R) R) : Wf (sSeq s t σ) P R := ⟨wf0_seq (h.run.imp fun σ' z => z.run)⟩
theorem wf_st {σ' : Sl} (h : s σ = .ok (.nx σ')) (hp : P σ') : Wf (s σ) P R := ⟨wf0_st h hp⟩
theorem wf_nil (hp : P σ) : Wf (sNil σ) P R := ⟨hp⟩
theorem wf_set {i : Nat} (h : a σ = .ok x) (hp : P (σ.set i (some x))) : Wf (sSet i a σ) P R := ⟨wf0_set h hp⟩
theorem wf_ret (h : a σ = .ok x) (hr : R x) : Wf (sRet a σ) P R := ⟨wf0_ret h hr⟩
theorem wf_drop (h : a σ = .ok x) (hp : P σ) : Wf (sDrop a σ) P R := ⟨wf0_drop h hp⟩
theorem wf_asg {g : D → Sl → Option Sl} {σ' : Sl} (h : a σ = .ok x) (hg : g x σ = some σ') (hp : P σ') : Wf (sAsg a g σ) P R := ⟨wf0_asg h hg hp⟩
theorem wf_par {i j : Nat} {y : D} {f : Sl → Res (List D)} (h : f σ = .ok [x, y]) (hp : P ((σ.set i (some x)).set j (some y))) : Wf (sPar i j f σ) P R := ⟨wf0_par h hp⟩
theorem wf_app {i : Nat} {ds : List D} (h0 : σ[i]? = some (some (.lst ds))) (h : a σ = .ok x) (hz : ds.length < sizeLine) (hp : P (σ.set i (some (.lst (ds ++ [x]))))) : Wf (sApp i a σ) P R := ⟨wf0_app h0 h hz hp⟩
theorem wf_ext {i : Nat} {ds es : List D} (h0 : σ[i]? = some (some (.lst ds))) (h : a σ = .ok (.lst es)) (hz : ds.length + es.length ≤ sizeLine) (hp : P (σ.set i (some (.lst (ds ++ es))))) : Wf (sExt i a σ) P R := ⟨wf0_ext h0 h hz hp⟩
theorem wf_if {f : Sl → Res Bool} (h : f σ = .ok p) (ht : p = true → Wf (s σ) P R) (hf : p = false → Wf (t σ) P R) : Wf (sIf f s t σ) P R := ⟨wf0_if h (fun z => (ht z).run) (fun z => (hf z).run)⟩
/-- a for by what holds of the part taken so far -/
theorem wf_for {it : Sl → Res (List D)} {g : D → Sl → Option Sl} {α : Type} {xs : List α} (emb : α → D) (I : List α → Sl → Prop) (hi : it σ = .ok (xs.map emb)) (h0 : I [] σ)
    (hs : ∀ p x q σ, xs = p ++ x :: q → I p σ → ∃ σ1, g (emb x) σ = some σ1 ∧ Wf (s σ1) (I (p ++ [x])) R) (hp : ∀ σ, I xs σ → P σ) : Wf (sFor it g s σ) P R :=
  ⟨wf0_for emb I hi h0 (fun p x q σ e h => let ⟨σ1, a, b⟩ := hs p x q σ e h; ⟨σ1, a, b.run⟩) hp⟩
/-- a while: I by a number that falls -/
theorem wf_while {c : Sl → Res Bool} (I : Nat → Sl → Prop) (n m : Nat) (hn : m < n) (hI : I m σ) (hs : ∀ m σ, I m σ → ∃ b, c σ = .ok b ∧ (b = true → Wf (s σ) (fun σ' => ∃ m', m' < m ∧ I m' σ') R) ∧ (b = false → P σ)) : Wf (whileGo c s n σ) P R :=
  ⟨wf0_while I n m σ hn hI fun m σ h => let ⟨b, h1, h2, h3⟩ := hs m σ h; ⟨b, h1, fun z => (h2 z).run, h3⟩⟩
theorem run_wfE {N : List Str} {n : Nat} {ds : List D} {Q : D → Prop} (hn : ds.length = n) (h : Wf (s (startD N ds)) (fun _ => Q .non) Q) : ∃ d, runF N n s ds = .ok d ∧ Q d := by
  unfold runF
  rw [if_pos hn]
  replace h := h.run
  revert h
  cases s (startD N ds) with
  | ok fl => cases fl with
    | nx σ => exact fun z => ⟨_, rfl, z⟩
    | rt d => exact fun z => ⟨_, rfl, z⟩
    | bk _ => exact fun z => z.elim
    | ct _ => exact fun z => z.elim
  | ex c => exact fun z => z.elim
  | no => exact fun z => z.elim
theorem run_wf {N : List Str} {n : Nat} {ds : List D} (hn : ds.length = n) (h : Wf (s (startD N ds)) (fun _ => D.non = x) (fun d => d = x)) : runF N n s ds = .ok x := by
  unfold runF
  rw [if_pos hn]
  replace h := h.run
  revert h
  cases s (startD N ds) with
  | ok fl => cases fl with
    | nx σ => intro h; cases h; rfl
    | rt d => intro h; cases h; rfl
    | bk _ => exact fun z => z.elim
    | ct _ => exact fun z => z.elim
  | ex c => exact fun z => z.elim
  | no => exact fun z => z.elim
end
/-! data -/
theorem ixD_0 (a : D) (xs : List D) : ixD (.tup (a :: xs)) (.int 0) = some a := by
  simp [ixD, ixS, ixQ, D.items, L2.atI, L2.ixN]
  try omega
theorem ixD_1 (a b : D) (xs : List D) : ixD (.tup (a :: b :: xs)) (.int 1) = some b := by
  simp only [ixD, ixS, ixQ, D.items, L2.atI, L2.ixN, List.length_cons]
  rw [if_pos (by decide), if_pos (by omega)]
  rfl
theorem atI_get {α : Type} {xs : List α} {i : Int} (h0 : 0 ≤ i) (h1 : i < xs.length) : L2.atI xs i = xs[i.toNat]? := by
  simp [L2.atI, L2.ixN, h0, h1]
theorem ixD_tup {xs : List D} {i : Int} (h0 : 0 ≤ i) (h1 : i < xs.length) : ixD (.tup xs) (.int i) = xs[i.toNat]? := by
  simp [ixD, ixS, ixQ, D.items, atI_get h0 h1]
theorem ixD_lst {xs : List D} {i : Int} (h0 : 0 ≤ i) (h1 : i < xs.length) : ixD (.lst xs) (.int i) = xs[i.toNat]? := by
  simp [ixD, ixS, ixQ, D.items, atI_get h0 h1]
theorem ixD_str {z : Str} {i : Int} (h0 : 0 ≤ i) (h1 : i < z.length) (hz : z.length ≤ sizeLine) : ixD (.str z) (.int i) = (z.cps.toList[i.toNat]?).map fun c => .str ⟨#[c]⟩ := by
  have h1' : i < z.cps.toList.length := by rw [Array.length_toList]; exact h1
  simp only [ixD, ixS, if_pos hz, atI_get h0 h1']
  cases z.cps.toList[i.toNat]? <;> rfl
end PV
/-! T1: from values over slots to typed values -/
namespace PV
open PySem
/-! embeddings -/
abbrev iE : Int → D := D.int
abbrev bE : Bool → D := D.bl
def sE (s : Tx) : D := .str ⟨(s.map Char.toNat).toArray⟩
def uE : Unit → D := fun _ => .non
section
variable {α β γ δ ε X R : Type}
def p1E (ea : α → D) (p : α) : D := .tup [ea p]
def p2E (ea : α → D) (eb : β → D) (p : α × β) : D := .tup [ea p.1, eb p.2]
def p3E (ea : α → D) (eb : β → D) (ec : γ → D) (p : α × β × γ) : D := .tup [ea p.1, eb p.2.1, ec p.2.2]
def p4E (ea : α → D) (eb : β → D) (ec : γ → D) (ed : δ → D) (p : α × β × γ × δ) : D := .tup [ea p.1, eb p.2.1, ec p.2.2.1, ed p.2.2.2]
def p5E (ea : α → D) (eb : β → D) (ec : γ → D) (ed : δ → D) (ee : ε → D) (p : α × β × γ × δ × ε) : D := .tup [ea p.1, eb p.2.1, ec p.2.2.1, ed p.2.2.2.1, ee p.2.2.2.2]
def tE (ea : α → D) (l : List α) : D := .tup (l.map ea)
def cE (ea : α → D) (l : List α) : D := .ctup (l.map ea)
def lE (ea : α → D) (l : List α) : D := .lst (l.map ea)
def nE (l : List Int) : D := .scr l
def oE (ea : α → D) : Option α → D
  | none => .non
  | some a => ea a
abbrev aE : D → D := fun d => d
/-! a value that is so or so -/
/-- r is t, where t claims anything -/
structure Rf {Ω : Type} (e : α → Ω) (r : Res Ω) (t : Res α) : Prop where
  run : match t with
  | .ok a => r = .ok (e a)
  | .ex c => r = .ex c
  | .no => True
/-- behind a block -/
structure RT (s : Sl → Res Fl) (σ : Sl) (Po : Fl → X → Prop) (t : Res X) : Prop where
  run : match t with
  | .ok y => ∃ fl, s σ = .ok fl ∧ Po fl y
  | .ex c => s σ = .ex c
  | .no => True
section
variable {Ω Ψ : Type} {e : α → Ω} {eb : β → Ψ} {σ : Sl}
theorem Rf.ok {r : Res Ω} {a : α} (h : r = .ok (e a)) : Rf e r (.ok a) := ⟨h⟩
theorem Rf.no {r : Res Ω} : Rf e r .no := ⟨trivial⟩
theorem Rf.to {r : Res Ω} {t : Res α} {a : α} (h : Rf e r t) (q : t = .ok a) : r = .ok (e a) := by subst q; exact h.run
theorem Rf.toEx {r : Res Ω} {t : Res α} {c : Str} (h : Rf e r t) (q : t = .ex c) : r = .ex c := by subst q; exact h.run
/-- what a value is used for: a plain one, another one -/
theorem rk_p {f : Sl → Res Ω} {x : Ω} {K : Ω → Res Ψ} {T : Res β} (h : f σ = .ok x) (k : Rf eb (K x) T) : Rf eb ((f σ).bind K) T := by rw [h]; exact k
theorem rk_m {f : Sl → Res Ω} {t : Res α} {K : Ω → Res Ψ} {T : α → Res β} (h : Rf e (f σ) t) (k : ∀ a, Rf eb (K (e a)) (T a)) : Rf eb ((f σ).bind K) (t.bind T) := by
  cases t with
  | ok a => rw [show f σ = .ok (e a) from h.run]; exact k a
  | ex c => rw [show f σ = .ex c from h.run]; exact ⟨rfl⟩
  | no => exact ⟨trivial⟩
/-- the same of a value at hand -/
theorem rv_m {r : Res Ω} {t : Res α} {K : Ω → Res Ψ} {T : α → Res β} (h : Rf e r t) (k : ∀ a, Rf eb (K (e a)) (T a)) : Rf eb (r.bind K) (t.bind T) := by
  cases t with
  | ok a => rw [show r = .ok (e a) from h.run]; exact k a
  | ex c => rw [show r = .ex c from h.run]; exact ⟨rfl⟩
  | no => exact ⟨trivial⟩
theorem rf_p {f : Sl → Res Ω} {a : α} (h : f σ = .ok (e a)) : Rf e (f σ) (.ok a) := ⟨h⟩
/-- a plain operation's answer -/
theorem rf_some {x : Option Ω} {a : α} (h : x = some (e a)) : Rf e (Res.of x) (.ok a) := by subst h; exact ⟨rfl⟩
theorem rf_1 {g : D → Option D} {fa : Sl → Res D} {e : α → D} {T : Res α} (h : Rf e ((fa σ).bind fun x => Res.of (g x)) T) : Rf e (e1 g fa σ) T := h
theorem rf_2 {g : D → D → Option D} {fa fb : Sl → Res D} {e : α → D} {T : Res α} (h : Rf e ((fa σ).bind fun x => (fb σ).bind fun y => Res.of (g x y)) T) : Rf e (e2 g fa fb σ) T := h
theorem rf_N {g : List D → Option D} {f : Sl → Res (List D)} {e : α → D} {T : Res α} (h : Rf e ((f σ).bind fun x => Res.of (g x)) T) : Rf e (eN g f σ) T := h
theorem rf_tup {f : Sl → Res (List D)} {e : α → D} {T : Res α} (h : Rf e ((f σ).bind fun ds => .ok (.tup ds)) T) : Rf e (eTup f σ) T := h
theorem rf_lst {f : Sl → Res (List D)} {e : α → D} {T : Res α} (h : Rf e ((f σ).bind fun ds => .ok (.lst ds)) T) : Rf e (eLst f σ) T := h
theorem rf_call {h : List D → Res D} {f : Sl → Res (List D)} {e : α → D} {T : Res α} (k : Rf e ((f σ).bind h) T) : Rf e (eCall h f σ) T := k
/-- arguments one by one -/
theorem ra_nil {K : List D → Res Ψ} {T : Res β} (k : Rf eb (K []) T) : Rf eb ((eNil σ).bind K) T := k
theorem ra_p {f : Sl → Res D} {r : Sl → Res (List D)} {x : D} {K : List D → Res Ψ} {T : Res β} (h : f σ = .ok x) (k : Rf eb ((r σ).bind fun ds => K (x :: ds)) T) : Rf eb ((eCons f r σ).bind K) T := by
  unfold eCons
  rw [h, Res.ok_bind, Res.bind_assoc]
  exact k
theorem ra_m {f : Sl → Res D} {r : Sl → Res (List D)} {t : Res α} {e : α → D} {K : List D → Res Ψ} {T : α → Res β} (h : Rf e (f σ) t) (k : ∀ a, Rf eb ((r σ).bind fun ds => K (e a :: ds)) (T a)) : Rf eb ((eCons f r σ).bind K) (t.bind T) := by
  unfold eCons
  cases t with
  | ok a =>
    rw [show f σ = .ok (e a) from h.run, Res.ok_bind, Res.bind_assoc]
    exact k a
  | ex c => rw [show f σ = .ex c from h.run]; exact ⟨rfl⟩
  | no => exact ⟨trivial⟩
/-! truth -/
abbrev tI : Bool → Bool := fun b => b
theorem rt_B {f : Sl → Res D} {t : Res Bool} (h : Rf bE (f σ) t) : Rf tI (eB f σ) t := by
  unfold eB
  cases t with
  | ok a => rw [show f σ = .ok (bE a) from h.run]; exact ⟨rfl⟩
  | ex c => rw [show f σ = .ex c from h.run]; exact ⟨rfl⟩
  | no => exact ⟨trivial⟩
theorem rt_And {a b : Sl → Res Bool} {p : Bool} {t : Res Bool} (ha : a σ = .ok p) (hb : p = true → Rf tI (b σ) t) : Rf tI (bAnd a b σ) (if p = true then t else .ok false) := by
  unfold bAnd; rw [ha]
  cases p with
  | true => exact hb rfl
  | false => exact ⟨rfl⟩
theorem rt_Or {a b : Sl → Res Bool} {p : Bool} {t : Res Bool} (ha : a σ = .ok p) (hb : p = false → Rf tI (b σ) t) : Rf tI (bOr a b σ) (if p = true then .ok true else t) := by
  unfold bOr; rw [ha]
  cases p with
  | true => exact ⟨rfl⟩
  | false => exact hb rfl
theorem rt_AndM {a b : Sl → Res Bool} {ta t : Res Bool} (ha : Rf tI (a σ) ta) (hb : Rf tI (b σ) t) : Rf tI (bAnd a b σ) (ta.bind fun p => if p = true then t else .ok false) := by
  unfold bAnd
  refine rv_m (e := tI) ha fun p => ?_
  cases p with
  | true => exact hb
  | false => exact ⟨rfl⟩
theorem rt_OrM {a b : Sl → Res Bool} {ta t : Res Bool} (ha : Rf tI (a σ) ta) (hb : Rf tI (b σ) t) : Rf tI (bOr a b σ) (ta.bind fun p => if p = true then .ok true else t) := by
  unfold bOr
  refine rv_m (e := tI) ha fun p => ?_
  cases p with
  | true => exact ⟨rfl⟩
  | false => exact hb
theorem rt_NotM {a : Sl → Res Bool} {ta : Res Bool} (ha : Rf tI (a σ) ta) : Rf tI (bNot a σ) (ta.bind fun p => .ok (!p)) := by
  unfold bNot
  exact rv_m (e := tI) ha fun p => ⟨rfl⟩
theorem rf_And {a b : Sl → Res D} {p : Bool} {t : Res Bool} (ha : a σ = .ok (.bl p)) (hb : p = true → Rf bE (b σ) t) : Rf bE (eAnd a b σ) (if p = true then t else .ok false) := by
  unfold eAnd; rw [ha]
  cases p with
  | true => exact hb rfl
  | false => exact ⟨rfl⟩
theorem rf_Or {a b : Sl → Res D} {p : Bool} {t : Res Bool} (ha : a σ = .ok (.bl p)) (hb : p = false → Rf bE (b σ) t) : Rf bE (eOr a b σ) (if p = true then .ok true else t) := by
  unfold eOr; rw [ha]
  cases p with
  | true => exact ⟨rfl⟩
  | false => exact hb rfl
theorem rf_AndM {a b : Sl → Res D} {ta t : Res Bool} (ha : Rf bE (a σ) ta) (hb : Rf bE (b σ) t) : Rf bE (eAnd a b σ) (ta.bind fun p => if p = true then t else .ok false) := by
  unfold eAnd
  refine rv_m (e := bE) ha fun p => ?_
  cases p with
  | true => exact hb
  | false => exact ⟨rfl⟩
theorem rf_OrM {a b : Sl → Res D} {ta t : Res Bool} (ha : Rf bE (a σ) ta) (hb : Rf bE (b σ) t) : Rf bE (eOr a b σ) (ta.bind fun p => if p = true then .ok true else t) := by
  unfold eOr
  refine rv_m (e := bE) ha fun p => ?_
  cases p with
  | true => exact ⟨rfl⟩
  | false => exact hb
theorem rf_NotM {a : Sl → Res D} {ta : Res Bool} (ha : Rf bE (a σ) ta) : Rf bE (eNot a σ) (ta.bind fun p => .ok (!p)) := by
  unfold eNot
  exact rv_m (e := bE) ha fun p => ⟨rfl⟩
/-- a op b op' c -/
def chK (g g' : D → D → Option D) (c : Res D) (x y : D) : Res D := (Res.of (g x y)).bind fun z => z.tobool.bind fun k => if k = true then c.bind fun w => .of (g' y w) else .ok (.bl false)
theorem rf_chain {g g' : D → D → Option D} {a b c : Sl → Res D} {t : Res Bool} (h : Rf bE ((a σ).bind fun x => (b σ).bind fun y => chK g g' (c σ) x y) t) : Rf bE (eChain g g' a b c σ) t := h
theorem rf_chK {g g' : D → D → Option D} {c : Sl → Res D} {x y : D} {p : Bool} {t : Res Bool} (hg : g x y = some (.bl p)) (hc : Rf bE ((c σ).bind fun w => Res.of (g' y w)) t) : Rf bE (chK g g' (c σ) x y) (if p = true then t else .ok false) := by
  unfold chK
  rw [hg]
  cases p with
  | true => exact hc
  | false => exact ⟨rfl⟩
/-! comprehensions -/
theorem lc_rf {g : D → Sl → Option Sl} {c : Sl → Res Bool} {f : Sl → Res D} {ex : α → D} {ey : β → D} {p : α → Res Bool} {v : α → Res β} : ∀ (xs : List α), (∀ x, ∃ σ1, g (ex x) σ = some σ1 ∧ Rf tI (c σ1) (p x) ∧ Rf ey (f σ1) (v x)) → Rf (List.map ey) (lcGo g c f σ (xs.map ex)) (lcGoR p v xs)
  | [], _ => ⟨rfl⟩
  | x :: xs, h => by
    obtain ⟨σ1, h1, h2, h3⟩ := h x
    have ih := lc_rf xs h
    show Rf _ ((Res.of (g (ex x) σ)).bind _) _
    rw [h1]
    show Rf _ ((c σ1).bind _) ((p x).bind _)
    refine rv_m (e := tI) h2 fun k => ?_
    cases k with
    | false => exact ih
    | true =>
      show Rf _ ((f σ1).bind _) ((v x).bind _)
      refine rv_m (e := ey) h3 fun y => ?_
      exact rv_m (e := List.map ey) ih fun ys => ⟨rfl⟩
theorem rf_lcV {it : Sl → Res (List D)} {g : D → Sl → Option Sl} {c : Sl → Res Bool} {f : Sl → Res D} {vs : List Nat} {ex : α → D} {ey : β → D} {xs : List α} {p : α → Res Bool} {v : α → Res β} (hi : it σ = .ok (xs.map ex)) (h : ∀ x, ∃ σ1, g (ex x) (wipeD σ vs) = some σ1 ∧ Rf tI (c σ1) (p x) ∧ Rf ey (f σ1) (v x)) : Rf (lE ey) (eLc it g c f vs σ) (lcR xs p v) := by
  unfold eLc lcR
  rw [hi, Res.ok_bind]
  have k := lc_rf (σ := wipeD σ vs) xs h
  revert k
  cases lcGoR p v xs with
  | ok ys =>
    intro k
    rw [show lcGo g c f (wipeD σ vs) (xs.map ex) = .ok (ys.map ey) from k.run]
    show Rf _ (if _ then _ else _) (if _ then _ else _)
    rw [List.length_map]
    by_cases c : ys.length ≤ SZ
    · rw [if_pos c, if_pos (show ys.length ≤ PySem.sizeLine from c)]; exact ⟨rfl⟩
    · rw [if_neg c]; exact ⟨trivial⟩
  | ex c => exact fun _ => ⟨trivial⟩
  | no => exact fun _ => ⟨trivial⟩
theorem rf_lcM {it : Sl → Res (List D)} {g : D → Sl → Option Sl} {c : Sl → Res Bool} {f : Sl → Res D} {vs : List Nat} {ex : α → D} {ey : β → D} {t : Res (List α)} {p : α → Res Bool} {v : α → Res β} (hi : Rf (List.map ex) (it σ) t) (h : ∀ x, ∃ σ1, g (ex x) (wipeD σ vs) = some σ1 ∧ Rf tI (c σ1) (p x) ∧ Rf ey (f σ1) (v x)) : Rf (lE ey) (eLc it g c f vs σ) (t.bind fun xs => lcR xs p v) := by
  cases t with
  | ok xs => exact rf_lcV hi.run h
  | ex c => exact ⟨by unfold eLc; rw [show it σ = .ex c from hi.run]; rfl⟩
  | no => exact ⟨trivial⟩
/-! blocks -/
variable {Po : Fl → X → Prop} {s r a b : Sl → Res Fl} {f : Sl → Res D} {T : Res X} {ea : α → D} {Y : Type}
theorem RT.cg {s s' : Sl → Res Fl} {σ σ' : Sl} {Po : Fl → X → Prop} {T : Res X} (e : s σ = s' σ') (h : RT s' σ' Po T) : RT s σ Po T := by
  refine ⟨?_⟩
  have h := h.run
  revert h
  rw [e]
  exact id
theorem RT.mk_ok {fl : Fl} {y : X} (h : s σ = .ok fl) (p : Po fl y) : RT s σ Po (.ok y) := ⟨⟨fl, h, p⟩⟩
theorem RT.mk_ex {c : Str} (h : s σ = .ex c) : RT s σ Po (.ex c) := ⟨h⟩
theorem RT.mk_no : RT s σ Po .no := ⟨trivial⟩
theorem RT.ok {y : X} (h : RT s σ Po (.ok y)) : ∃ fl, s σ = .ok fl ∧ Po fl y := h.run
theorem RT.ex {c : Str} (h : RT s σ Po (.ex c)) : s σ = .ex c := h.run
theorem rt_last (h : RT (sSeq s sNil) σ Po T) : RT s σ Po T := by
  have e : s σ = sSeq s sNil σ := by
    unfold sSeq sNil
    cases s σ with
    | ok fl => cases fl <;> rfl
    | ex c => rfl
    | no => rfl
  exact RT.cg e h
theorem rt_assoc (h : RT (sSeq s (sSeq a b)) σ Po T) : RT (sSeq (sSeq s a) b) σ Po T := by
  have e : sSeq (sSeq s a) b σ = sSeq s (sSeq a b) σ := by
    unfold sSeq
    cases s σ with
    | ok fl => cases fl <;> rfl
    | ex c => rfl
    | no => rfl
  exact RT.cg e h
theorem rt_nil {y : X} (h : Po (.nx σ) y) : RT sNil σ Po (.ok y) := .mk_ok rfl h
theorem rt_nilS (h : RT r σ Po T) : RT (sSeq sNil r) σ Po T := RT.cg (show sSeq sNil r σ = r σ from rfl) h
theorem rt_of {σ1 : Sl} (hs : s σ = .ok (.nx σ1)) (h : RT r σ1 Po T) : RT (sSeq s r) σ Po T := by
  have e : sSeq s r σ = r σ1 := by unfold sSeq; rw [hs]; rfl
  exact RT.cg e h
theorem rt_bind {Ω : Type} {e : α → Ω} {f : Sl → Res Ω} {t : Res α} {k : Ω → Res Fl} {K : α → Res X} (hs : s σ = (f σ).bind k) (hf : Rf e (f σ) t) (h : ∀ a, RT (fun _ => k (e a)) σ Po (K a)) : RT s σ Po (t.bind K) := by
  cases t with
  | ok x =>
    have e1 : s σ = (fun _ : Sl => k (e x)) σ := by rw [hs, show f σ = .ok (e x) from hf.run]; rfl
    exact RT.cg e1 (h x)
  | ex c => exact .mk_ex (by rw [hs, show f σ = .ex c from hf.run]; rfl)
  | no => exact .mk_no
/-- x = e -/
theorem rt_set {i : Nat} {t : Res α} {K : α → Res X} (σ' : α → Sl) (hf : Rf ea (f σ) t) (hσ : ∀ x, σ.set i (some (ea x)) = σ' x) (h : ∀ x, RT r (σ' x) Po (K x)) : RT (sSeq (sSet i f) r) σ Po (t.bind K) := by
  refine rt_bind (e := ea) (f := f) (k := fun d => r (σ.set i (some d))) ?_ hf fun x => ?_
  · unfold sSeq sSet
    cases f σ <;> rfl
  · refine RT.cg ?_ (h x)
    show r _ = _
    rw [hσ x]
theorem rt_drop {t : Res α} {K : α → Res X} (hf : Rf ea (f σ) t) (h : ∀ x, RT r σ Po (K x)) : RT (sSeq (sDrop f) r) σ Po (t.bind K) := by
  refine rt_bind (e := ea) (f := f) (k := fun d => r σ) ?_ hf fun x => RT.cg rfl (h x)
  unfold sSeq sDrop
  cases f σ <;> rfl
theorem rt_asg {t : Res α} {K : α → Res X} {g : D → Sl → Option Sl} (σ' : α → Sl) (hf : Rf ea (f σ) t) (hσ : ∀ x, g (ea x) σ = some (σ' x)) (h : ∀ x, RT r (σ' x) Po (K x)) : RT (sSeq (sAsg f g) r) σ Po (t.bind K) := by
  refine rt_bind (e := ea) (f := f) (k := fun d => (Res.of (g d σ)).bind fun σ1 => r σ1) ?_ hf fun x => ?_
  · unfold sSeq sAsg
    cases f σ with
    | ok d =>
      simp only [Res.ok_bind]
      cases g d σ <;> rfl
    | ex c => rfl
    | no => rfl
  · refine RT.cg ?_ (h x)
    show (Res.of (g (ea x) σ)).bind _ = _
    rw [hσ x]; rfl
/-- a target that may not fit -/
theorem rt_asgN {t : Res α} {t2 : α → Res β} {K : α → β → Res X} {g : D → Sl → Option Sl} (σ' : β → Sl) (hf : Rf ea (f σ) t) (hσ : ∀ x, Rf σ' (Res.of (g (ea x) σ)) (t2 x)) (h : ∀ x y, RT r (σ' y) Po (K x y)) : RT (sSeq (sAsg f g) r) σ Po (t.bind fun x => (t2 x).bind fun y => K x y) := by
  refine rt_bind (e := ea) (f := f) (k := fun d => (Res.of (g d σ)).bind fun σ1 => r σ1) ?_ hf fun x => ?_
  · unfold sSeq sAsg
    cases f σ with
    | ok d =>
      simp only [Res.ok_bind]
      cases g d σ <;> rfl
    | ex c => rfl
    | no => rfl
  · refine rt_bind (e := σ') (f := fun _ => Res.of (g (ea x) σ)) (k := r) rfl (hσ x) fun y => ?_
    exact RT.cg rfl (h x y)
theorem rt_par {i j : Nat} {fs : Sl → Res (List D)} {t : Res α} {K : α → Res X} {u w : α → D} (σ' : α → Sl) (hf : Rf (fun x => [u x, w x]) (fs σ) t) (hσ : ∀ x, (σ.set i (some (u x))).set j (some (w x)) = σ' x) (h : ∀ x, RT r (σ' x) Po (K x)) : RT (sSeq (sPar i j fs) r) σ Po (t.bind K) := by
  refine rt_bind (e := fun x => [u x, w x]) (f := fs) (k := fun ds => match ds with
    | [v, w] => r ((σ.set i (some v)).set j (some w))
    | _ => .no) ?_ hf fun x => ?_
  · unfold sSeq sPar
    cases fs σ with
    | ok ds => rcases ds with _ | ⟨a, _ | ⟨b, _ | ⟨c, l⟩⟩⟩ <;> rfl
    | ex c => rfl
    | no => rfl
  · refine RT.cg ?_ (h x)
    show r _ = _
    rw [hσ x]
/-- return e -/
theorem rt_rets {t : Res X} {ea : X → D} (hf : Rf ea (f σ) t) (h : ∀ x, Po (.rt (ea x)) x) : RT (sSeq (sRet f) r) σ Po t := by
  have e : sSeq (sRet f) r σ = (f σ).bind fun d => .ok (.rt d) := by
    unfold sSeq sRet
    cases f σ <;> rfl
  cases t with
  | ok x => exact .mk_ok (by rw [e, show f σ = .ok (ea x) from hf.run]; rfl) (h x)
  | ex c => exact .mk_ex (by rw [e, show f σ = .ex c from hf.run]; rfl)
  | no => exact .mk_no
/-- return e within a loop that may hand back -/
theorem rt_retw {Y R : Type} {Po : Fl → Stp Y R → Prop} {t : Res R} {ea : R → D} (hf : Rf ea (f σ) t) (h : ∀ x, Po (.rt (ea x)) (.rt x)) : RT (sSeq (sRet f) r) σ Po (t.bind fun x => .ok (.rt x)) := by
  have e : sSeq (sRet f) r σ = (f σ).bind fun d => .ok (.rt d) := by
    unfold sSeq sRet
    cases f σ <;> rfl
  cases t with
  | ok x => exact .mk_ok (by rw [e, show f σ = .ok (ea x) from hf.run]; rfl) (h x)
  | ex c => exact .mk_ex (by rw [e, show f σ = .ex c from hf.run]; rfl)
  | no => exact .mk_no
theorem rt_raise {c : Str} : RT (sSeq (sRaise c) r) σ Po (.ex c) := .mk_ex rfl
theorem rt_cont {y : X} (h : Po (.ct σ) y) : RT (sSeq sCont r) σ Po (.ok y) := .mk_ok rfl h
theorem rt_if {c : Sl → Res Bool} {p : Bool} {A B : Res X} (hc : c σ = .ok p) (ha : p = true → RT (sSeq a r) σ Po A) (hb : p = false → RT (sSeq b r) σ Po B) : RT (sSeq (sIf c a b) r) σ Po (if p = true then A else B) := by
  cases p with
  | true =>
    have e : sSeq (sIf c a b) r σ = sSeq a r σ := by unfold sSeq sIf; rw [hc]; rfl
    exact RT.cg e (ha rfl)
  | false =>
    have e : sSeq (sIf c a b) r σ = sSeq b r σ := by unfold sSeq sIf; rw [hc]; rfl
    exact RT.cg e (hb rfl)
theorem rt_ifM {c : Sl → Res Bool} {t : Res Bool} {A B : Res X} (hc : Rf tI (c σ) t) (ha : RT (sSeq a r) σ Po A) (hb : RT (sSeq b r) σ Po B) : RT (sSeq (sIf c a b) r) σ Po (t.bind fun p => if p = true then A else B) := by
  cases t with
  | ok p => exact rt_if hc.run (fun _ => ha) (fun _ => hb)
  | ex e => exact .mk_ex (by unfold sSeq sIf; rw [show c σ = .ex e from hc.run]; rfl)
  | no => exact .mk_no
/-- behind a statement: Y the names that live on -/
def PoJ (I : Y → Sl → Prop) : Fl → Y → Prop := fun fl y => ∃ σ, fl = .nx σ ∧ I y σ
def PoL (I : Y → Sl → Prop) : Fl → Y → Prop := fun fl y => ∃ σ, (fl = .nx σ ∨ fl = .ct σ) ∧ I y σ
def PoF (er : R → D) (fall : R → Prop) : Fl → R → Prop := fun fl y => fl = .rt (er y) ∨ (∃ σ, fl = .nx σ ∧ fall y)
def PoS (Q : Fl → Y → Prop) (er : R → D) : Fl → Stp Y R → Prop := fun fl s => match s with
  | .nx y => Q fl y
  | .rt x => fl = .rt (er x)
theorem poJ {I : Y → Sl → Prop} {y : Y} (h : I y σ) : PoJ I (.nx σ) y := ⟨σ, rfl, h⟩
theorem poL {I : Y → Sl → Prop} {y : Y} (h : I y σ) : PoL I (.nx σ) y := ⟨σ, .inl rfl, h⟩
theorem poLc {I : Y → Sl → Prop} {y : Y} (h : I y σ) : PoL I (.ct σ) y := ⟨σ, .inr rfl, h⟩
theorem poS {Q : Fl → Y → Prop} {er : R → D} {fl : Fl} {y : Y} (h : Q fl y) : PoS Q er fl (.nx y) := h
theorem poSr {Q : Fl → Y → Prop} {er : R → D} (x : R) : PoS Q er (.rt (er x)) (.rt x) := rfl
theorem poF {er : R → D} {fall : R → Prop} (x : R) : PoF er fall (.rt (er x)) x := .inl rfl
theorem poFn {er : R → D} {fall : R → Prop} {x : R} (h : fall x) : PoF er fall (.nx σ) x := .inr ⟨σ, rfl, h⟩
theorem rt_join {I : Y → Sl → Prop} {t : Res Y} {K : Y → Res X} (hs : RT s σ (PoJ I) t) (h : ∀ y σ', I y σ' → RT r σ' Po (K y)) : RT (sSeq s r) σ Po (t.bind K) := by
  cases t with
  | ok y =>
    obtain ⟨fl, e, σ', rfl, hi⟩ := hs.ok
    have e1 : sSeq s r σ = r σ' := by unfold sSeq; rw [e]; rfl
    exact RT.cg e1 (h y σ' hi)
  | ex c => exact .mk_ex (by unfold sSeq; rw [show s σ = .ex c from hs.ex]; rfl)
  | no => exact .mk_no
theorem rt_joinS {I : Y → Sl → Prop} {er : R → D} {ret : R → X} {t : Res (Stp Y R)} {K : Y → Res X} (hs : RT s σ (PoS (PoJ I) er) t) (hr : ∀ x, Po (.rt (er x)) (ret x)) (h : ∀ y σ', I y σ' → RT r σ' Po (K y)) : RT (sSeq s r) σ Po (bindS t ret K) := by
  cases t with
  | ok z =>
    cases z with
    | nx y =>
      obtain ⟨fl, e, σ', rfl, hi⟩ := hs.ok
      have e1 : sSeq s r σ = r σ' := by unfold sSeq; rw [e]; rfl
      exact RT.cg e1 (h y σ' hi)
    | rt x =>
      obtain ⟨fl, e, q⟩ := hs.ok
      have q : fl = .rt (er x) := q
      subst q
      exact .mk_ok (by unfold sSeq; rw [e]; rfl) (hr x)
  | ex c => exact .mk_ex (by unfold sSeq; rw [show s σ = .ex c from hs.ex]; rfl)
  | no => exact .mk_no
/-! loops -/
theorem fold_rt {g : D → Sl → Option Sl} {I : Y → Sl → Prop} {body : α → Y → Res Y} {ex : α → D} (hb : ∀ a y σ, I y σ → ∃ σ1, g (ex a) σ = some σ1 ∧ RT s σ1 (PoL I) (body a y)) : ∀ (xs : List α) (y : Y) (σ : Sl), I y σ → RT (fun σ => forGo g s (xs.map ex) σ) σ (PoJ I) (foldR body xs y)
  | [], y, σ, h => .mk_ok rfl ⟨σ, rfl, h⟩
  | a :: xs, y, σ, h => by
    obtain ⟨σ1, h1, h2⟩ := hb a y σ h
    have un : forGo g s ((a :: xs).map ex) σ = (s σ1).bind fun fl => match fl with
      | .nx σ2 => forGo g s (xs.map ex) σ2
      | .ct σ2 => forGo g s (xs.map ex) σ2
      | .bk σ2 => .ok (.nx σ2)
      | .rt d => .ok (.rt d) := by
      show (Res.of (g (ex a) σ)).bind _ = _
      rw [h1]; rfl
    unfold foldR
    cases e : body a y with
    | ok z =>
      rw [e] at h2
      obtain ⟨fl, q, σ2, hfl, hi⟩ := h2.ok
      have ih := fold_rt hb xs z σ2 hi
      have un2 : forGo g s ((a :: xs).map ex) σ = forGo g s (xs.map ex) σ2 := by
        rw [un, q]
        rcases hfl with rfl | rfl <;> rfl
      exact RT.cg un2 ih
    | ex c =>
      rw [e] at h2
      exact .mk_ex (by show forGo g s ((a :: xs).map ex) σ = .ex c; rw [un, show s σ1 = .ex c from h2.ex]; rfl)
    | no => exact .mk_no
theorem rt_for {it : Sl → Res (List D)} {g : D → Sl → Option Sl} {I : Y → Sl → Prop} {body : α → Y → Res Y} {ex : α → D} {xs : List α} {y : Y} (hi : it σ = .ok (xs.map ex)) (h0 : I y σ) (hb : ∀ a y σ, I y σ → ∃ σ1, g (ex a) σ = some σ1 ∧ RT s σ1 (PoL I) (body a y)) : RT (sFor it g s) σ (PoJ I) (foldR body xs y) := by
  have e : sFor it g s σ = forGo g s (xs.map ex) σ := by unfold sFor; rw [hi]; rfl
  exact RT.cg e (fold_rt hb xs y σ h0)
theorem rt_forM {it : Sl → Res (List D)} {g : D → Sl → Option Sl} {I : Y → Sl → Prop} {body : α → Y → Res Y} {ex : α → D} {t : Res (List α)} {y : Y} (hi : Rf (List.map ex) (it σ) t) (h0 : I y σ) (hb : ∀ a y σ, I y σ → ∃ σ1, g (ex a) σ = some σ1 ∧ RT s σ1 (PoL I) (body a y)) : RT (sFor it g s) σ (PoJ I) (t.bind fun xs => foldR body xs y) := by
  cases t with
  | ok xs => exact rt_for hi.run h0 hb
  | ex c => exact .mk_ex (by unfold sFor; rw [show it σ = .ex c from hi.run]; rfl)
  | no => exact .mk_no
theorem foldS_rt {g : D → Sl → Option Sl} {I : Y → Sl → Prop} {er : R → D} {body : α → Y → Res (Stp Y R)} {ex : α → D} (hb : ∀ a y σ, I y σ → ∃ σ1, g (ex a) σ = some σ1 ∧ RT s σ1 (PoS (PoL I) er) (body a y)) : ∀ (xs : List α) (y : Y) (σ : Sl), I y σ → RT (fun σ => forGo g s (xs.map ex) σ) σ (PoS (PoJ I) er) (foldS body xs y)
  | [], y, σ, h => .mk_ok rfl ⟨σ, rfl, h⟩
  | a :: xs, y, σ, h => by
    obtain ⟨σ1, h1, h2⟩ := hb a y σ h
    have un : forGo g s ((a :: xs).map ex) σ = (s σ1).bind fun fl => match fl with
      | .nx σ2 => forGo g s (xs.map ex) σ2
      | .ct σ2 => forGo g s (xs.map ex) σ2
      | .bk σ2 => .ok (.nx σ2)
      | .rt d => .ok (.rt d) := by
      show (Res.of (g (ex a) σ)).bind _ = _
      rw [h1]; rfl
    unfold foldS
    cases e : body a y with
    | ok z =>
      rw [e] at h2
      cases z with
      | nx z =>
        obtain ⟨fl, q, σ2, hfl, hi⟩ := h2.ok
        have ih := foldS_rt hb xs z σ2 hi
        have un2 : forGo g s ((a :: xs).map ex) σ = forGo g s (xs.map ex) σ2 := by
          rw [un, q]
          rcases hfl with rfl | rfl <;> rfl
        exact RT.cg un2 ih
      | rt x =>
        obtain ⟨fl, q, hx⟩ := h2.ok
        have hx : fl = .rt (er x) := hx
        subst hx
        exact .mk_ok (by show forGo g s ((a :: xs).map ex) σ = _; rw [un, q]; rfl) rfl
    | ex c =>
      rw [e] at h2
      exact .mk_ex (by show forGo g s ((a :: xs).map ex) σ = .ex c; rw [un, show s σ1 = .ex c from h2.ex]; rfl)
    | no => exact .mk_no
theorem rt_forS {it : Sl → Res (List D)} {g : D → Sl → Option Sl} {I : Y → Sl → Prop} {er : R → D} {body : α → Y → Res (Stp Y R)} {ex : α → D} {xs : List α} {y : Y} (hi : it σ = .ok (xs.map ex)) (h0 : I y σ) (hb : ∀ a y σ, I y σ → ∃ σ1, g (ex a) σ = some σ1 ∧ RT s σ1 (PoS (PoL I) er) (body a y)) : RT (sFor it g s) σ (PoS (PoJ I) er) (foldS body xs y) := by
  have e : sFor it g s σ = forGo g s (xs.map ex) σ := by unfold sFor; rw [hi]; rfl
  exact RT.cg e (foldS_rt hb xs y σ h0)
theorem rt_forSM {it : Sl → Res (List D)} {g : D → Sl → Option Sl} {I : Y → Sl → Prop} {er : R → D} {body : α → Y → Res (Stp Y R)} {ex : α → D} {t : Res (List α)} {y : Y} (hi : Rf (List.map ex) (it σ) t) (h0 : I y σ) (hb : ∀ a y σ, I y σ → ∃ σ1, g (ex a) σ = some σ1 ∧ RT s σ1 (PoS (PoL I) er) (body a y)) : RT (sFor it g s) σ (PoS (PoJ I) er) (t.bind fun xs => foldS body xs y) := by
  cases t with
  | ok xs => exact rt_forS hi.run h0 hb
  | ex c => exact .mk_ex (by unfold sFor; rw [show it σ = .ex c from hi.run]; rfl)
  | no => exact .mk_no
theorem rt_while {c : Sl → Res Bool} {I : Y → Sl → Prop} {ct : Y → Res Bool} {body : Y → Res Y} (hc : ∀ y σ, I y σ → Rf tI (c σ) (ct y)) (hb : ∀ y σ, I y σ → RT s σ (PoL I) (body y)) : ∀ (n : Nat) (y : Y) (σ : Sl), I y σ → RT (whileGo c s n) σ (PoJ I) (whileR ct body n y)
  | 0, _, _, _ => .mk_no
  | n + 1, y, σ, h => by
    have h1 := hc y σ h
    have h2 := hb y σ h
    unfold whileR
    have un : whileGo c s (n + 1) σ = (c σ).bind fun k => if k = true then (s σ).bind fun fl => match fl with
      | .nx σ2 => whileGo c s n σ2
      | .ct σ2 => whileGo c s n σ2
      | .bk σ2 => .ok (.nx σ2)
      | .rt d => .ok (.rt d)
      else .ok (.nx σ) := rfl
    cases e1 : ct y with
    | ok k =>
      rw [e1] at h1
      rw [show c σ = .ok k from h1.run] at un
      cases k with
      | false => exact .mk_ok un ⟨σ, rfl, h⟩
      | true =>
        show RT _ _ _ ((body y).bind _)
        have un : whileGo c s (n + 1) σ = (s σ).bind fun fl => match fl with
          | .nx σ2 => whileGo c s n σ2
          | .ct σ2 => whileGo c s n σ2
          | .bk σ2 => .ok (.nx σ2)
          | .rt d => .ok (.rt d) := un
        cases e : body y with
        | ok z =>
          rw [e] at h2
          obtain ⟨fl, q, σ2, hfl, hi⟩ := h2.ok
          have ih := rt_while hc hb n z σ2 hi
          have un2 : whileGo c s (n + 1) σ = whileGo c s n σ2 := by
            rw [un, q]
            rcases hfl with rfl | rfl <;> rfl
          exact RT.cg un2 ih
        | ex c =>
          rw [e] at h2
          exact .mk_ex (by rw [un, show s σ = .ex c from h2.ex]; rfl)
        | no => exact .mk_no
    | ex c =>
      rw [e1] at h1
      exact .mk_ex (by rw [un, h1.run]; rfl)
    | no => exact .mk_no
/-! one's own list -/
theorem rt_app {i : Nat} {e : α → D} {l : List α} {t : Res α} {K : List α → Res X} (σ' : List α → Sl) (h0 : σ[i]? = some (some (.lst (l.map e)))) (hf : Rf e (f σ) t) (hσ : ∀ m : List α, σ.set i (some (.lst (m.map e))) = σ' m) (h : ∀ m, RT r (σ' m) Po (K m)) : RT (sSeq (sApp i f) r) σ Po (t.bind fun x => (pushL l x).bind K) := by
  refine rt_bind (e := e) (f := f) (k := fun d => if (l.map e).length < PySem.sizeLine then r (σ.set i (some (.lst (l.map e ++ [d])))) else .no) ?_ hf fun x => ?_
  · unfold sSeq sApp
    rw [h0]
    show ((f σ).bind _).bind _ = _
    cases f σ with
    | ok d =>
      show (if _ then _ else _ : Res Fl).bind _ = (if _ then _ else _)
      by_cases c : (l.map e).length < PySem.sizeLine
      · rw [if_pos c, if_pos c]; rfl
      · rw [if_neg c, if_neg c]; rfl
    | ex c => rfl
    | no => rfl
  · unfold pushL
    by_cases c : l.length < SZ
    · rw [if_pos c]
      refine RT.cg ?_ (h (l ++ [x]))
      show (if (l.map e).length < PySem.sizeLine then _ else _) = _
      rw [if_pos (by rw [List.length_map]; exact c), ← hσ, List.map_append]; rfl
    · rw [if_neg c]; exact .mk_no
theorem rt_ext {i : Nat} {e : α → D} {l : List α} {t : Res (List α)} {K : List α → Res X} (σ' : List α → Sl) (h0 : σ[i]? = some (some (.lst (l.map e)))) (hf : Rf (lE e) (f σ) t) (hσ : ∀ m : List α, σ.set i (some (.lst (m.map e))) = σ' m) (h : ∀ m, RT r (σ' m) Po (K m)) : RT (sSeq (sExt i f) r) σ Po (t.bind fun x => (addL l x).bind K) := by
  refine rt_bind (e := lE e) (f := f) (k := fun d => match d with
    | .lst es => if (l.map e).length + es.length ≤ PySem.sizeLine then r (σ.set i (some (.lst (l.map e ++ es)))) else .no
    | _ => .no) ?_ hf fun x => ?_
  · unfold sSeq sExt
    rw [h0]
    show ((f σ).bind _).bind _ = _
    cases f σ with
    | ok d =>
      cases d with
      | lst es =>
        show (if _ then _ else _ : Res Fl).bind _ = (if _ then _ else _)
        by_cases c : (l.map e).length + es.length ≤ PySem.sizeLine
        · rw [if_pos c, if_pos c]; rfl
        · rw [if_neg c, if_neg c]; rfl
      | _ => rfl
    | ex c => rfl
    | no => rfl
  · unfold addL
    by_cases c : l.length + x.length ≤ SZ
    · rw [if_pos c]
      refine RT.cg ?_ (h (l ++ x))
      show (if (l.map e).length + (x.map e).length ≤ PySem.sizeLine then _ else _) = _
      rw [if_pos (by rw [List.length_map, List.length_map]; exact c), ← hσ, List.map_append]
    · rw [if_neg c]; exact .mk_no
/-- a list that is no more one's own -/
theorem rt_frz {er : X → D} {fall : X → Prop} (h : RT r σ (PoF er fun _ => False) T) : RT (noNx r) σ (PoF er fall) T := by
  cases T with
  | ok y =>
    obtain ⟨fl, e, q⟩ := h.ok
    rcases q with rfl | ⟨σ', rfl, q⟩
    · exact .mk_ok (by unfold noNx; rw [e]; rfl) (.inl rfl)
    · exact q.elim
  | ex c => exact .mk_ex (by unfold noNx; rw [show r σ = .ex c from h.ex]; rfl)
  | no => exact .mk_no
/-- the def -/
theorem rf_run {N : List Str} {n : Nat} {ds : List D} {er : R → D} {T : Res R} (hn : ds.length = n) (h : RT s (startD N ds) (PoF er fun y => er y = .non) T) : Rf er (runF N n s ds) T := by
  unfold runF
  rw [if_pos hn]
  cases T with
  | ok y =>
    obtain ⟨fl, e, q⟩ := h.ok
    refine ⟨?_⟩
    show _ = Res.ok (er y)
    rw [e]
    rcases q with rfl | ⟨σ', rfl, q⟩
    · rfl
    · rw [q]; rfl
  | ex c => exact ⟨by rw [show s (startD N ds) = .ex c from h.ex]; rfl⟩
  | no => exact ⟨trivial⟩
end
end
end PV
/-! T2: the operators over embedded values -/
namespace PV
open PySem
abbrev cE2 : Cell → D := p2E iE iE
abbrev hE : Hl → D := p2E (tE sE) iE
section
variable {α β γ δ X R : Type} {ea : α → D} {eb : β → D} {ec : γ → D}
theorem ev_as {σ : Sl} {f : Sl → Res D} (d : D) (h : f σ = .ok d) : f σ = .ok d := h
theorem ev_Ce {σ : Sl} {d e : D} (h : d = e) : eC d σ = .ok e := by rw [h]; rfl
theorem rf_map {Ω : Type} {e : α → Ω} {e' : β → Ω} {r : Res Ω} {t : Res α} {g : α → β} (h : Rf e r t) (k : ∀ a, e' (g a) = e a) : Rf e' r (t.bind fun x => .ok (g x)) := by
  cases t with
  | ok a => exact ⟨by show r = .ok (e' (g a)); rw [k]; exact h.run⟩
  | ex c => exact ⟨h.run⟩
  | no => exact ⟨trivial⟩
theorem rf_opt {f : Sl → Res D} {σ : Sl} {x : Option α} (h : f σ = .ok (oE ea x)) : Rf ea (f σ) (optR x) := by
  cases x with
  | none => exact ⟨trivial⟩
  | some a => exact ⟨h⟩
theorem rf_optM {f : Sl → Res D} {σ : Sl} {t : Res (Option α)} (h : Rf (oE ea) (f σ) t) : Rf ea (f σ) (t.bind optR) := by
  cases t with
  | ok a => exact rf_opt h.run
  | ex c => exact ⟨h.run⟩
  | no => exact ⟨trivial⟩
/-! texts -/
theorem sE_str (s : Tx) : ∃ z : Str, sE s = .str z ∧ z.cps.toList = s.map Char.toNat ∧ z.length = s.length := by
  refine ⟨⟨(s.map Char.toNat).toArray⟩, rfl, List.toList_toArray, ?_⟩
  show (s.map Char.toNat).toArray.size = _
  rw [List.size_toArray, List.length_map]
theorem sE_len (s : Tx) : (⟨(s.map Char.toNat).toArray⟩ : Str).length = s.length := by
  show (s.map Char.toNat).toArray.size = _
  rw [List.size_toArray, List.length_map]
theorem toNat_inj {a b : Char} (h : a.toNat = b.toNat) : a = b := by
  apply Char.ext
  exact UInt32.toNat_inj.mp h
theorem sE_inj {s t : Tx} : sE s = sE t ↔ s = t := by
  refine ⟨fun h => ?_, fun h => by rw [h]⟩
  unfold sE at h
  simp only [D.str.injEq, Str.mk.injEq, List.toArray_eq_iff, List.toList_toArray] at h
  exact (List.map_inj_right (fun a b => toNat_inj)).mp (by simpa using h)
theorem s_mk {n m : Array Nat} : (⟨n⟩ : Str) = ⟨m⟩ ↔ n = m := by
  constructor
  · intro h; cases h; rfl
  · intro h; rw [h]
theorem char_lt (c : Char) : c.toNat < 0x110000 := by
  have h := c.valid
  have e : c.toNat = c.val.toNat := rfl
  simp only [UInt32.isValidChar, Nat.isValidChar] at h
  omega
theorem rf_guard {P Q : Prop} [Decidable P] [Decidable Q] (h : P ↔ Q) {e : α → D} {d : D} {a : α} (k : d = e a) : Rf e (Res.of (if P then some d else none)) (if Q then .ok a else .no) := by
  subst k
  by_cases q : Q
  · rw [if_pos q, if_pos (h.mpr q)]; exact ⟨rfl⟩
  · rw [if_neg q, if_neg (fun p => q (h.mp p))]; exact ⟨trivial⟩
theorem rf_addTx (a b : Tx) : Rf sE (Res.of (addD (sE a) (sE b))) (addTx a b) := by
  refine rf_guard (P := (⟨(a.map Char.toNat).toArray⟩ : Str).length + (⟨(b.map Char.toNat).toArray⟩ : Str).length ≤ sizeLine) (by rw [sE_len, sE_len]; rfl) ?_
  unfold sE
  rw [List.map_append]
  congr 1
  show (⟨_⟩ : Str) = ⟨_⟩
  rw [s_mk]
  show (a.map Char.toNat).toArray ++ (b.map Char.toNat).toArray = _
  simp
theorem rf_addT (a b : List α) : Rf (tE ea) (Res.of (addD (tE ea a) (tE ea b))) (addL a b) := by
  refine rf_guard (P := (a.map ea).length + (b.map ea).length ≤ sizeLine) (by rw [List.length_map, List.length_map]; rfl) ?_
  unfold tE; rw [List.map_append]
theorem rf_addLs (a b : List α) : Rf (lE ea) (Res.of (addD (lE ea a) (lE ea b))) (addL a b) := by
  refine rf_guard (P := (a.map ea).length + (b.map ea).length ≤ sizeLine) (by rw [List.length_map, List.length_map]; rfl) ?_
  unfold lE; rw [List.map_append]
/-! whole numbers -/
theorem mulI_cl {i j : Int} (h : -(2 ^ 64) < i ∧ i < 2 ^ 64) : mulI (.int i) (.int j) = some (.int (i * j)) := if_pos (.inl h)
theorem mulI_cr {i j : Int} (h : -(2 ^ 64) < j ∧ j < 2 ^ 64) : mulI (.int i) (.int j) = some (.int (i * j)) := if_pos (.inr h)
theorem fdivI_c {i j : Int} (h : 0 < j ∧ j < 1073741824) : fdivD (.int i) (.int j) = some (.int (i / j)) := if_pos h
theorem modI_c {i j : Int} (h : 0 < j) : modD (.int i) (.int j) = some (.int (i % j)) := if_pos h
theorem rf_mul (i j : Int) : Rf iE (Res.of (mulI (iE i) (iE j))) (mulR i j) := rf_guard (by rw [show (2 : Int) ^ 64 = 18446744073709551616 by decide]) rfl
theorem rf_fdiv (i j : Int) : Rf iE (Res.of (fdivD (iE i) (iE j))) (fdivR i j) := rf_guard Iff.rfl rfl
theorem rf_mod (i j : Int) : Rf iE (Res.of (modD (iE i) (iE j))) (modR i j) := rf_guard Iff.rfl rfl
theorem max2E (i j : Int) : max2D [iE i, iE j] = some (iE (max i j)) := by
  show some (D.int (if j > i then j else i)) = some (D.int (max i j))
  congr 2
  split <;> omega
theorem min2E (i j : Int) : min2D [iE i, iE j] = some (iE (min i j)) := by
  show some (D.int (if j < i then j else i)) = some (D.int (min i j))
  congr 2
  split <;> omega
theorem ints_map : ∀ l : List Int, D.ints (l.map iE) = some l
  | [] => rfl
  | n :: l => by
    show (match D.ints (l.map iE) with | some ns => some (n :: ns) | none => none) = _
    rw [ints_map l]
theorem bools_map : ∀ l : List Bool, D.bools (l.map bE) = some l
  | [] => rfl
  | n :: l => by
    show (match D.bools (l.map bE) with | some ns => some (n :: ns) | none => none) = _
    rw [bools_map l]
theorem maxZ_eq : ∀ l : List Int, maxI l = maxZ l
  | [] => rfl
  | [n] => rfl
  | n :: m :: r => by show max n (maxI (m :: r)) = max n (maxZ (m :: r)); rw [maxZ_eq (m :: r)]
theorem minZ_eq : ∀ l : List Int, minI l = minZ l
  | [] => rfl
  | [n] => rfl
  | n :: m :: r => by show min n (minI (m :: r)) = min n (minZ (m :: r)); rw [minZ_eq (m :: r)]
theorem rf_maxl (l : List Int) : Rf iE (Res.of (maxD (lE iE l))) (maxR l) := by
  unfold maxR
  cases l with
  | nil => rw [if_pos rfl]; exact ⟨trivial⟩
  | cons n l =>
    rw [if_neg (List.cons_ne_nil _ _)]
    refine ⟨?_⟩
    show Res.of (match D.ints ((n :: l).map iE) with | some (n :: ns) => some (D.int (maxI (n :: ns))) | _ => none) = Res.ok (iE _)
    rw [ints_map]
    show Res.ok (D.int (maxI (n :: l))) = _
    rw [maxZ_eq]
theorem rf_minl (l : List Int) : Rf iE (Res.of (minD (lE iE l))) (minR l) := by
  unfold minR
  cases l with
  | nil => rw [if_pos rfl]; exact ⟨trivial⟩
  | cons n l =>
    rw [if_neg (List.cons_ne_nil _ _)]
    refine ⟨?_⟩
    show Res.of (match D.ints ((n :: l).map iE) with | some (n :: ns) => some (D.int (minI (n :: ns))) | _ => none) = Res.ok (iE _)
    rw [ints_map]
    show Res.ok (D.int (minI (n :: l))) = _
    rw [minZ_eq]
theorem all_l (l : List Bool) : allD (lE bE l) = some (bE (l.all fun b => b)) := by
  show (D.bools (l.map bE)).map _ = _
  rw [bools_map]; rfl
theorem any_l (l : List Bool) : anyD (lE bE l) = some (bE (l.any fun b => b)) := by
  show (D.bools (l.map bE)).map _ = _
  rw [bools_map]; rfl
/-! == -/
structure EqE (n : Nat) (e : α → D) [DecidableEq α] : Prop where
  ok : ∀ a, D.ok n (e a) = true
  eqv : ∀ a b, D.eqv (e a) (e b) = decide (a = b)
mutual
theorem D.ok_mono : ∀ (d : D) {m n : Nat}, m ≤ n → D.ok m d = true → D.ok n d = true
  | .non, m, n, _, _ => by cases n <;> rfl
  | .bl _, m, n, _, _ => by cases n <;> rfl
  | .int _, m, n, _, _ => by cases n <;> rfl
  | .str s, m, n, _, h => by
    have h : s.cps.all (· < 0x110000) = true := by cases m <;> exact h
    cases n <;> exact h
  | .tup xs, m, n, l, h => by
    cases m with
    | zero => cases h
    | succ m => cases n with
      | zero => omega
      | succ n => exact D.oks_mono xs (by omega) h
  | .ctup xs, m, n, l, h => by
    cases m with
    | zero => cases h
    | succ m => cases n with
      | zero => omega
      | succ n => exact D.oks_mono xs (by omega) h
  | .lst xs, m, n, l, h => by
    cases m with
    | zero => cases h
    | succ m => cases n with
      | zero => omega
      | succ n => exact D.oks_mono xs (by omega) h
  | .scr _, m, n, _, h => by cases m <;> cases h
  | .dct _, m, n, _, h => by cases m <;> cases h
  | .obj _ _, m, n, _, h => by cases m <;> cases h
theorem D.oks_mono : ∀ (ds : List D) {m n : Nat}, m ≤ n → D.oks m ds = true → D.oks n ds = true
  | [], _, _, _, _ => rfl
  | d :: ds, m, n, l, h => by
    unfold D.oks at h ⊢
    rw [Bool.and_eq_true] at h ⊢
    exact ⟨D.ok_mono d l h.1, D.oks_mono ds l h.2⟩
end
theorem oks_map {n : Nat} (h : ∀ a, D.ok n (ea a) = true) : ∀ l : List α, D.oks n (l.map ea) = true
  | [] => rfl
  | a :: l => by
    show (D.ok n (ea a) && D.oks n (l.map ea)) = true
    rw [h a, oks_map h l]; rfl
theorem eqvs_map [DecidableEq α] (h : ∀ a b, D.eqv (ea a) (ea b) = decide (a = b)) : ∀ l m : List α, D.eqvs (l.map ea) (m.map ea) = decide (l = m)
  | [], [] => by simp [D.eqvs]
  | [], _ :: _ => by simp [D.eqvs]
  | _ :: _, [] => by simp [D.eqvs]
  | a :: l, b :: m => by
    show (D.eqv (ea a) (ea b) && D.eqvs (l.map ea) (m.map ea)) = _
    rw [h a b, eqvs_map h l m]
    by_cases h1 : a = b <;> by_cases h2 : l = m <;> simp [h1, h2]
theorem eq_int : EqE 0 iE := ⟨fun _ => rfl, fun a b => by
  show (a == b) = _
  rw [Bool.beq_eq_decide_eq]⟩
theorem eq_bool : EqE 0 bE := ⟨fun _ => rfl, fun a b => by cases a <;> cases b <;> rfl⟩
theorem eq_none : EqE 0 uE := ⟨fun _ => rfl, fun a b => by cases a; cases b; rfl⟩
theorem eq_str : EqE 0 sE := by
  refine ⟨fun s => ?_, fun a b => ?_⟩
  · show ((s.map Char.toNat).toArray).all (· < 0x110000) = true
    rw [List.all_toArray, List.all_map, List.all_eq_true]
    intro c _
    exact decide_eq_true (char_lt c)
  · show ((⟨(a.map Char.toNat).toArray⟩ : Str) == ⟨(b.map Char.toNat).toArray⟩) = _
    rw [Bool.beq_eq_decide_eq]
    have : ((⟨(a.map Char.toNat).toArray⟩ : Str) = ⟨(b.map Char.toNat).toArray⟩) ↔ a = b := by
      rw [← sE_inj]
      unfold sE
      rw [D.str.injEq]
    simp only [this]
theorem D.okM {d : D} {m n : Nat} (h : D.ok m d = true) (l : m ≤ n) : D.ok n d = true := D.ok_mono d l h
section
variable [DecidableEq α] [DecidableEq β] [DecidableEq γ] [DecidableEq δ] {n m k l : Nat} {ed : δ → D}
theorem dec_and2 {a b : α} {c d : β} : (decide (a = b) && decide (c = d)) = decide ((a, c) = (b, d)) := by
  by_cases h1 : a = b <;> by_cases h2 : c = d <;> simp [h1, h2]
theorem eq_p1 (h1 : EqE n ea) : EqE (n + 1) (p1E ea) := ⟨fun a => by
  show (D.ok n (ea a) && true) = true
  rw [h1.ok]; rfl, fun a b => by
  show (D.eqv (ea a) (ea b) && true) = _
  rw [h1.eqv, Bool.and_true]⟩
theorem eq_p2 (h1 : EqE n ea) (h2 : EqE m eb) : EqE (max n m + 1) (p2E ea eb) := ⟨fun a => by
  show (D.ok (max n m) (ea a.1) && (D.ok (max n m) (eb a.2) && true)) = true
  rw [D.okM (h1.ok _) (Nat.le_max_left _ _), D.okM (h2.ok _) (Nat.le_max_right _ _)]; rfl, fun a b => by
  show (D.eqv (ea a.1) (ea b.1) && (D.eqv (eb a.2) (eb b.2) && true)) = _
  rw [h1.eqv, h2.eqv, Bool.and_true, dec_and2]⟩
theorem eq_p3 (h1 : EqE n ea) (h2 : EqE m eb) (h3 : EqE k ec) : EqE (max n (max m k) + 1) (p3E ea eb ec) := ⟨fun a => by
  show (D.ok _ (ea a.1) && (D.ok _ (eb a.2.1) && (D.ok _ (ec a.2.2) && true))) = true
  rw [D.okM (h1.ok _) (by omega), D.okM (h2.ok _) (by omega), D.okM (h3.ok _) (by omega)]; rfl, fun a b => by
  show (D.eqv (ea a.1) (ea b.1) && (D.eqv (eb a.2.1) (eb b.2.1) && (D.eqv (ec a.2.2) (ec b.2.2) && true))) = _
  rw [h1.eqv, h2.eqv, h3.eqv, Bool.and_true, dec_and2, dec_and2]⟩
theorem eq_p4 (h1 : EqE n ea) (h2 : EqE m eb) (h3 : EqE k ec) (h4 : EqE l ed) : EqE (max n (max m (max k l)) + 1) (p4E ea eb ec ed) := ⟨fun a => by
  show (D.ok _ (ea a.1) && (D.ok _ (eb a.2.1) && (D.ok _ (ec a.2.2.1) && (D.ok _ (ed a.2.2.2) && true)))) = true
  rw [D.okM (h1.ok _) (by omega), D.okM (h2.ok _) (by omega), D.okM (h3.ok _) (by omega), D.okM (h4.ok _) (by omega)]; rfl, fun a b => by
  show (D.eqv (ea a.1) (ea b.1) && (D.eqv (eb a.2.1) (eb b.2.1) && (D.eqv (ec a.2.2.1) (ec b.2.2.1) && (D.eqv (ed a.2.2.2) (ed b.2.2.2) && true)))) = _
  rw [h1.eqv, h2.eqv, h3.eqv, h4.eqv, Bool.and_true, dec_and2, dec_and2, dec_and2]⟩
theorem eq_t (h1 : EqE n ea) : EqE (n + 1) (tE ea) := ⟨fun a => oks_map h1.ok a, fun a b => eqvs_map h1.eqv a b⟩
theorem eq_l (h1 : EqE n ea) : EqE (n + 1) (lE ea) := ⟨fun a => oks_map h1.ok a, fun a b => eqvs_map h1.eqv a b⟩
theorem eq_o (h1 : EqE n ea) (nn : ∀ a, D.isNon (ea a) = false) : EqE n (oE ea) := by
  have v : ∀ d : D, d.isNon = false → D.eqv .non d = false ∧ D.eqv d .non = false := fun d h => by
    cases d <;> first | (cases h; done) | exact ⟨rfl, rfl⟩
  refine ⟨fun a => ?_, fun a b => ?_⟩
  · cases a with
    | none => cases n <;> rfl
    | some a => exact h1.ok a
  · cases a with
    | none => cases b with
      | none => rfl
      | some b => show D.eqv .non (ea b) = _; rw [(v _ (nn b)).1]; simp
    | some a => cases b with
      | none => show D.eqv (ea a) .non = _; rw [(v _ (nn a)).2]; simp
      | some b => show D.eqv (ea a) (ea b) = _; rw [h1.eqv]; simp
theorem eqE (h : EqE n ea) {a b : α} (c : n ≤ 60 := by decide) : eqD (ea a) (ea b) = some (.bl (eqB a b)) := by
  unfold eqD
  rw [D.ok_mono _ c (h.ok a), D.ok_mono _ c (h.ok b), h.eqv]; rfl
theorem neE (h : EqE n ea) {a b : α} (c : n ≤ 60 := by decide) : neD (ea a) (ea b) = some (.bl (!eqB a b)) := by
  unfold neD
  rw [D.ok_mono _ c (h.ok a), D.ok_mono _ c (h.ok b), h.eqv]; rfl
/-! in -/
theorem memE (h : EqE n ea) (a : α) : ∀ l : List α, memD (l.map ea) (ea a) = decide (a ∈ l)
  | [] => by simp [memD]
  | x :: l => by
    show (D.eqv (ea x) (ea a) || memD (l.map ea) (ea a)) = _
    rw [h.eqv, memE h a l]
    by_cases h1 : x = a
    · simp [h1]
    · by_cases h2 : a ∈ l
      · simp [h2]
      · simp [h1, h2, Ne.symm h1]
theorem inStr_sq {x y : D} {ys : List D} (h : y.items = some ys) : inStr x y = none := by
  cases y <;> first | (cases h; done) | (cases x <;> rfl)
theorem inSeqE (h : EqE n ea) (c : n ≤ 59) (a : α) (l : List α) {y : D} (hy : y.items = some (l.map ea)) : (inStr (ea a) y).or (inSeq (ea a) y) = some (decide (a ∈ l)) := by
  rw [inStr_sq hy, Option.none_or]
  unfold inSeq
  rw [hy]
  show (if _ then _ else _) = _
  rw [D.ok_mono _ c (h.ok a), oks_map (fun a => D.ok_mono _ c (h.ok a)), memE h]; rfl
theorem in_t (h : EqE n ea) {a : α} {l : List α} (c : n ≤ 59 := by decide) : inD (ea a) (tE ea l) = some (.bl (memB a l)) := by unfold inD; rw [inSeqE h c a l rfl]; rfl
theorem in_l (h : EqE n ea) {a : α} {l : List α} (c : n ≤ 59 := by decide) : inD (ea a) (lE ea l) = some (.bl (memB a l)) := by unfold inD; rw [inSeqE h c a l rfl]; rfl
theorem in_c (h : EqE n ea) {a : α} {l : List α} (c : n ≤ 59 := by decide) : inD (ea a) (cE ea l) = some (.bl (memB a l)) := by unfold inD; rw [inSeqE h c a l rfl]; rfl
theorem nin_t (h : EqE n ea) {a : α} {l : List α} (c : n ≤ 59 := by decide) : notInD (ea a) (tE ea l) = some (.bl (!memB a l)) := by unfold notInD; rw [inSeqE h c a l rfl]; rfl
theorem nin_l (h : EqE n ea) {a : α} {l : List α} (c : n ≤ 59 := by decide) : notInD (ea a) (lE ea l) = some (.bl (!memB a l)) := by unfold notInD; rw [inSeqE h c a l rfl]; rfl
theorem nin_c (h : EqE n ea) {a : α} {l : List α} (c : n ≤ 59 := by decide) : notInD (ea a) (cE ea l) = some (.bl (!memB a l)) := by unfold notInD; rw [inSeqE h c a l rfl]; rfl
end
/-- one sign in a text -/
theorem sign_in (c : Char) (s : Tx) : (!(Builtin.Str.occurrences (⟨(s.map Char.toNat).toArray⟩ : Str) ⟨([c].map Char.toNat).toArray⟩ 0 (⟨(s.map Char.toNat).toArray⟩ : Str).length 1).isEmpty) = decide (c ∈ s) := by
  have h := PySem.StrLaws.found_one (⟨(s.map Char.toNat).toArray⟩ : Str) c.toNat
  refine Eq.trans h ?_
  rw [List.toList_toArray]
  congr 1
  rw [eq_iff_iff, List.mem_map]
  exact ⟨fun ⟨d, hd, e⟩ => toNat_inj e ▸ hd, fun h => ⟨c, h, rfl⟩⟩
theorem rf_signIn (a s : Tx) : Rf bE (Res.of (inD (sE a) (sE s))) (signIn a s) := by
  unfold signIn
  split
  · rename_i c
    refine ⟨?_⟩
    show Res.of (some (D.bl _)) = Res.ok (D.bl _)
    rw [sign_in]; rfl
  · exact ⟨trivial⟩
theorem rf_signNot (a s : Tx) : Rf bE (Res.of (notInD (sE a) (sE s))) (signNot a s) := by
  unfold signNot
  split
  · rename_i c
    refine ⟨?_⟩
    show Res.of (some (D.bl (!_))) = Res.ok (D.bl _)
    rw [sign_in]; rfl
  · exact ⟨trivial⟩
/-! None -/
theorem isN (nn : ∀ a, D.isNon (ea a) = false) {x : Option α} : isD (oE ea x) (uE ()) = some (.bl x.isNone) := by
  cases x with
  | none => rfl
  | some a => show some (D.bl (ea a).isNon) = _; rw [nn]; rfl
theorem isNN (nn : ∀ a, D.isNon (ea a) = false) {x : Option α} : isNotD (oE ea x) (uE ()) = some (.bl (!x.isNone)) := by
  cases x with
  | none => rfl
  | some a => show some (D.bl (!(ea a).isNon)) = _; rw [nn]; rfl
/-! places, slices -/
theorem atZ_eq {α : Type} (xs : List α) (i : Int) : L2.atI xs i = atZ xs i := rfl
theorem atZ_map {α β : Type} (e : α → β) (xs : List α) (i : Int) : atZ (xs.map e) i = (atZ xs i).map e := by
  unfold atZ
  rw [List.length_map]
  cases ixZ xs.length i with
  | none => rfl
  | some j => show (xs.map e)[j]? = _; rw [List.getElem?_map]; rfl
theorem rf_ixq {y : D} {xs : List α} (hy : y.items = some (xs.map ea)) (i : Int) : Rf ea (Res.of (ixD y (iE i))) (ixR xs i) := by
  have e : ixD y (iE i) = atZ (xs.map ea) i := by
    unfold ixD
    have : ixS y (iE i) = none := by cases y <;> first | (cases hy; done) | rfl
    rw [this, Option.none_or]
    unfold ixQ
    rw [hy]; rfl
  rw [e, atZ_map]
  unfold ixR
  cases atZ xs i with
  | none => exact ⟨trivial⟩
  | some a => exact ⟨rfl⟩
theorem rf_ix_t (xs : List α) (i : Int) : Rf ea (Res.of (ixD (tE ea xs) (iE i))) (ixR xs i) := rf_ixq rfl i
theorem rf_ix_l (xs : List α) (i : Int) : Rf ea (Res.of (ixD (lE ea xs) (iE i))) (ixR xs i) := rf_ixq rfl i
theorem rf_ix_c (xs : List α) (i : Int) : Rf ea (Res.of (ixD (cE ea xs) (iE i))) (ixR xs i) := rf_ixq rfl i
theorem rf_ix_n (xs : List Int) (i : Int) : Rf iE (Res.of (ixD (nE xs) (iE i))) (ixR xs i) := rf_ixq rfl i
theorem rf_ix_s (s : Tx) (i : Int) : Rf sE (Res.of (ixD (sE s) (iE i))) (txIx s i) := by
  unfold txIx
  have e : ixD (sE s) (iE i) = if s.length ≤ SZ then (atZ s i).map (fun c => sE [c]) else none := by
    unfold ixD
    have : ixQ (sE s) (iE i) = none := rfl
    rw [this, Option.or_none]
    show (if (⟨(s.map Char.toNat).toArray⟩ : Str).length ≤ sizeLine then (L2.atI (⟨(s.map Char.toNat).toArray⟩ : Str).cps.toList i).map (fun c => D.str ⟨#[c]⟩) else none) = _
    rw [sE_len, List.toList_toArray, atZ_eq, atZ_map, Option.map_map]; rfl
  rw [e]
  by_cases h : s.length ≤ SZ
  · rw [if_pos h, if_pos h]
    cases atZ s i with
    | none => exact ⟨trivial⟩
    | some c => exact ⟨rfl⟩
  · rw [if_neg h, if_neg h]; exact ⟨trivial⟩
theorem ixF2_0 {ea : α → D} {p : α × β} : ixD (p2E ea eb p) (iE 0) = some (ea p.1) := rfl
theorem ixF2_1 {ea : α → D} {p : α × β} : ixD (p2E ea eb p) (iE 1) = some (eb p.2) := rfl
theorem ixF2_m1 {ea : α → D} {p : α × β} : ixD (p2E ea eb p) (iE (-1)) = some (eb p.2) := rfl
theorem ixF3_0 {p : α × β × γ} : ixD (p3E ea eb ec p) (iE 0) = some (ea p.1) := rfl
theorem ixF3_1 {p : α × β × γ} : ixD (p3E ea eb ec p) (iE 1) = some (eb p.2.1) := rfl
theorem ixF3_2 {p : α × β × γ} : ixD (p3E ea eb ec p) (iE 2) = some (ec p.2.2) := rfl
theorem cut_map {α β : Type} (e : α → β) (xs : List α) (lo hi : Option Int) : cut (xs.map e) lo hi = (cutZ xs lo hi).map e := by
  unfold cut cutZ
  rw [List.length_map, ← List.map_drop, ← List.map_take]; rfl
theorem cut_t (xs : List α) (lo hi : Option Int) : sliceD (tE ea xs) lo hi = some (tE ea (cutZ xs lo hi)) := by
  show some (D.tup (cut (xs.map ea) lo hi)) = _
  rw [cut_map]; rfl
theorem cut_l (xs : List α) (lo hi : Option Int) : sliceD (lE ea xs) lo hi = some (lE ea (cutZ xs lo hi)) := by
  show some (D.lst (cut (xs.map ea) lo hi)) = _
  rw [cut_map]; rfl
theorem rf_cut_s (s : Tx) (lo hi : Option Int) : Rf sE (Res.of (sliceD (sE s) lo hi)) (txCut s lo hi) := by
  refine rf_guard (P := (⟨(s.map Char.toNat).toArray⟩ : Str).length ≤ sizeLine) (by rw [sE_len]; rfl) ?_
  unfold sE L2.cutS
  rw [List.toList_toArray, sE_len]
  have := cut_map Char.toNat s lo hi
  unfold cut at this
  rw [List.length_map] at this
  rw [this]
theorem rev_t (xs : List α) : revD (tE ea xs) = some (tE ea xs.reverse) := by
  show some (D.tup (xs.map ea).reverse) = _
  rw [← List.map_reverse]; rfl
theorem rev_l (xs : List α) : revD (lE ea xs) = some (lE ea xs.reverse) := by
  show some (D.lst (xs.map ea).reverse) = _
  rw [← List.map_reverse]; rfl
theorem rf_txRev (s : Tx) : Rf sE (Res.of (revD (sE s))) (txRev s) := by
  refine rf_guard (P := (⟨(s.map Char.toNat).toArray⟩ : Str).length ≤ sizeLine) (by rw [sE_len]; rfl) ?_
  unfold sE
  rw [List.toList_toArray, List.map_reverse]
section
variable {σ : Sl} {f a b : Sl → Res D} {l h : Sl → Res (Option Int)} {lo hi : Option Int} {i : Int}
theorem po_no : pNo σ = .ok none := rfl
theorem po_so (h : f σ = .ok (iE i)) : pSo f σ = .ok (some i) := by unfold pSo; rw [h]; rfl
theorem rf_so {t : Res Int} (h : Rf iE (f σ) t) : Rf (fun i => some i) (pSo f σ) t := by
  cases t with
  | ok i => exact ⟨po_so h.run⟩
  | ex c => exact ⟨by show pSo f σ = .ex c; unfold pSo; rw [show f σ = .ex c from h.run]; rfl⟩
  | no => exact ⟨trivial⟩
theorem rf_sl {e : α → D} {T : Res α} (k : Rf e ((f σ).bind fun d => (l σ).bind fun l => (h σ).bind fun h => .of (sliceD d l h)) T) : Rf e (eSl f l h σ) T := k
/-! walks -/
theorem it_t {xs : List α} (h : f σ = .ok (tE ea xs)) : eSeq f σ = .ok (xs.map ea) := by unfold eSeq; rw [h]; rfl
theorem it_l {xs : List α} (h : f σ = .ok (lE ea xs)) : eSeq f σ = .ok (xs.map ea) := by unfold eSeq; rw [h]; rfl
theorem it_c {xs : List α} (h : f σ = .ok (cE ea xs)) : eSeq f σ = .ok (xs.map ea) := by unfold eSeq; rw [h]; rfl
theorem it_n {xs : List Int} (h : f σ = .ok (nE xs)) : eSeq f σ = .ok (xs.map iE) := by unfold eSeq; rw [h]; rfl
theorem ri_t {t : Res (List α)} (h : Rf (tE ea) (f σ) t) : Rf (List.map ea) (eSeq f σ) t := by
  cases t with
  | ok xs => exact ⟨it_t h.run⟩
  | ex c => exact ⟨by show eSeq f σ = .ex c; unfold eSeq; rw [show f σ = .ex c from h.run]; rfl⟩
  | no => exact ⟨trivial⟩
theorem ri_l {t : Res (List α)} (h : Rf (lE ea) (f σ) t) : Rf (List.map ea) (eSeq f σ) t := by
  cases t with
  | ok xs => exact ⟨it_l h.run⟩
  | ex c => exact ⟨by show eSeq f σ = .ex c; unfold eSeq; rw [show f σ = .ex c from h.run]; rfl⟩
  | no => exact ⟨trivial⟩
theorem ri_c {t : Res (List α)} (h : Rf (cE ea) (f σ) t) : Rf (List.map ea) (eSeq f σ) t := by
  cases t with
  | ok xs => exact ⟨it_c h.run⟩
  | ex c => exact ⟨by show eSeq f σ = .ex c; unfold eSeq; rw [show f σ = .ex c from h.run]; rfl⟩
  | no => exact ⟨trivial⟩
theorem chars_map (s : Tx) : (⟨(s.map Char.toNat).toArray⟩ : Str).cps.toList.map (fun c => D.str ⟨#[c]⟩) = (charsZ s).map sE := by
  unfold charsZ
  rw [List.toList_toArray, List.map_map, List.map_map]; rfl
theorem it_charsE {s : Tx} (h : f σ = .ok (sE s)) : eChars f σ = .ok ((charsZ s).map sE) := by
  unfold eChars; rw [h, ← chars_map]; rfl
theorem ri_chars {t : Res Tx} (h : Rf sE (f σ) t) : Rf (List.map sE) (eChars f σ) (t.bind fun s => .ok (charsZ s)) := by
  cases t with
  | ok s => exact ⟨it_charsE h.run⟩
  | ex c => exact ⟨by show eChars f σ = .ex c; unfold eChars; rw [show f σ = .ex c from h.run]; rfl⟩
  | no => exact ⟨trivial⟩
theorem enumL_map (xs : List α) : enumL (xs.map ea) = (enumZ xs).map (p2E iE ea) := by
  unfold enumL enumZ
  rw [List.zipIdx_map, List.map_map, List.map_map]; rfl
theorem it_enum_t {xs : List α} (h : f σ = .ok (tE ea xs)) : eEnum f σ = .ok ((enumZ xs).map (p2E iE ea)) := by unfold eEnum; rw [h, ← enumL_map]; rfl
theorem it_enum_l {xs : List α} (h : f σ = .ok (lE ea xs)) : eEnum f σ = .ok ((enumZ xs).map (p2E iE ea)) := by unfold eEnum; rw [h, ← enumL_map]; rfl
theorem it_enum_s {s : Tx} (h : f σ = .ok (sE s)) : eEnum f σ = .ok ((enumZ (charsZ s)).map (p2E iE sE)) := by unfold eEnum; rw [h, ← enumL_map, ← chars_map]; rfl
theorem rie {xs : Res α} {e : α → D} {g : α → List β} {eb : β → D} (h : Rf e (f σ) xs) (k : ∀ x, f σ = .ok (e x) → eEnum f σ = .ok ((g x).map eb)) : Rf (List.map eb) (eEnum f σ) (xs.bind fun x => .ok (g x)) := by
  cases xs with
  | ok s => exact ⟨k s h.run⟩
  | ex c => exact ⟨by show eEnum f σ = .ex c; unfold eEnum; rw [show f σ = .ex c from h.run]; rfl⟩
  | no => exact ⟨trivial⟩
theorem ri_enum_t {t : Res (List α)} (h : Rf (tE ea) (f σ) t) : Rf (List.map (p2E iE ea)) (eEnum f σ) (t.bind fun xs => .ok (enumZ xs)) := rie h fun _ => it_enum_t
theorem ri_enum_l {t : Res (List α)} (h : Rf (lE ea) (f σ) t) : Rf (List.map (p2E iE ea)) (eEnum f σ) (t.bind fun xs => .ok (enumZ xs)) := rie h fun _ => it_enum_l
theorem ri_enum_s {t : Res Tx} (h : Rf sE (f σ) t) : Rf (List.map (p2E iE sE)) (eEnum f σ) (t.bind fun xs => .ok (enumZ (charsZ xs))) := rie h fun _ => it_enum_s
theorem zipL_map (xs : List α) (ys : List β) : zipL (xs.map ea) (ys.map eb) = (xs.zip ys).map (p2E ea eb) := by
  unfold zipL
  rw [List.zipWith_map, List.zip_eq_zipWith, List.map_zipWith]; rfl
theorem rf_zip {fs : Sl → Res (List D)} {T : Res (List α)} {e : α → D} (k : Rf (List.map e) ((fs σ).bind fun ds => .of (zipD ds)) T) : Rf (List.map e) (eZip fs σ) T := k
theorem zip_t (xs : List α) (ys : List β) : zipD [tE ea xs, tE eb ys] = some ((xs.zip ys).map (p2E ea eb)) := by rw [← zipL_map]; rfl
theorem zip_l (xs : List α) (ys : List β) : zipD [lE ea xs, lE eb ys] = some ((xs.zip ys).map (p2E ea eb)) := by rw [← zipL_map]; rfl
theorem it_zip_t {xs : List α} {ys : List β} (ha : a σ = .ok (tE ea xs)) (hb : b σ = .ok (tE eb ys)) : eZip (eCons a (eCons b eNil)) σ = .ok ((xs.zip ys).map (p2E ea eb)) := by
  unfold eZip; rw [ev_cons ha (ev_cons hb ev_nil), Res.ok_bind, zip_t]; rfl
theorem it_zip_l {xs : List α} {ys : List β} (ha : a σ = .ok (lE ea xs)) (hb : b σ = .ok (lE eb ys)) : eZip (eCons a (eCons b eNil)) σ = .ok ((xs.zip ys).map (p2E ea eb)) := by
  unfold eZip; rw [ev_cons ha (ev_cons hb ev_nil), Res.ok_bind, zip_l]; rfl
theorem p62 : (2 : Int) ^ 62 = 4611686018427387904 := by decide
theorem rf_rng (j : Int) : Rf (List.map iE) (Res.of (rng1 [iE j])) (rngR j) := by
  show Rf _ (Res.of (if -(2 ^ 62) ≤ j ∧ j < 2 ^ 62 then some ((List.range j.toNat).map fun i => D.int (i : Nat)) else none)) _
  unfold rngR
  rw [p62]
  by_cases h : -4611686018427387904 ≤ j ∧ j < 4611686018427387904
  · rw [if_pos h, if_pos h]
    refine ⟨?_⟩
    show Res.ok _ = Res.ok _
    rw [List.map_map]; rfl
  · rw [if_neg h, if_neg h]; exact ⟨trivial⟩
theorem rf_rng2 (i j : Int) : Rf (List.map iE) (Res.of (rng2 [iE i, iE j])) (rngR2 i j) := by
  show Rf _ (Res.of (if -(2 ^ 62) ≤ i ∧ i < 2 ^ 62 ∧ -(2 ^ 62) ≤ j ∧ j < 2 ^ 62 then some ((List.range (j - i).toNat).map fun k => D.int (i + (k : Nat))) else none)) _
  unfold rngR2
  rw [p62]
  by_cases h : -4611686018427387904 ≤ i ∧ i < 4611686018427387904 ∧ -4611686018427387904 ≤ j ∧ j < 4611686018427387904
  · rw [if_pos h, if_pos h]
    refine ⟨?_⟩
    show Res.ok _ = Res.ok _
    rw [List.map_map]; rfl
  · rw [if_neg h, if_neg h]; exact ⟨trivial⟩
theorem ri_rng1 {fs : Sl → Res (List D)} {T : Res (List Int)} (k : Rf (List.map iE) ((fs σ).bind fun ds => .of (rng1 ds)) T) : Rf (List.map iE) (eRng1 fs σ) T := k
theorem ri_rng2 {fs : Sl → Res (List D)} {T : Res (List Int)} (k : Rf (List.map iE) ((fs σ).bind fun ds => .of (rng2 ds)) T) : Rf (List.map iE) (eRng2 fs σ) T := k
end
/-! lengths and others -/
theorem len_t (l : List α) : lenD (tE ea l) = some (iE (l.length : Int)) := by show some (D.int ((l.map ea).length : Nat)) = _; rw [List.length_map]
theorem len_l (l : List α) : lenD (lE ea l) = some (iE (l.length : Int)) := by show some (D.int ((l.map ea).length : Nat)) = _; rw [List.length_map]
theorem len_c (l : List α) : lenD (cE ea l) = some (iE (l.length : Int)) := by show some (D.int ((l.map ea).length : Nat)) = _; rw [List.length_map]
theorem len_n (l : List Int) : lenD (nE l) = some (iE (l.length : Int)) := rfl
theorem rf_len_s (s : Tx) : Rf iE (Res.of (lenD (sE s))) (txLen s) := by
  refine rf_guard (P := (⟨(s.map Char.toNat).toArray⟩ : Str).length ≤ sizeLine) (by rw [sE_len]; rfl) ?_
  rw [sE_len]
theorem rf_txList (s : Tx) : Rf (lE sE) (Res.of (list2D (sE s))) (txList s) := by
  refine rf_guard (P := (⟨(s.map Char.toNat).toArray⟩ : Str).length ≤ sizeLine) (by rw [sE_len]; rfl) ?_
  rw [chars_map]; rfl
theorem rf_strI (i : Int) : Rf sE (Res.of (strD (iE i))) (strI i) := by
  unfold strI
  show Rf sE (Res.of (if i.natAbs.log2 < 1920 then some (D.str (toString i)) else none)) _
  by_cases h : i.natAbs.log2 < 1920
  · rw [if_pos h, if_pos h]
    refine ⟨?_⟩
    show Res.ok (D.str (Str.ofString (toString i))) = Res.ok (sE _)
    unfold Str.ofString sE
    rw [cpsOfBytes_string]
  · rw [if_neg h, if_neg h]; exact ⟨trivial⟩
/-! sorted -/
theorem sortI_l (l : List Int) : sortD (lE iE l) = some (lE iE (sortI l)) := by
  show sortDs (l.map iE) = _
  unfold sortDs
  rw [ints_map]; rfl
theorem sortI_t (l : List Int) : sortD (tE iE l) = some (lE iE (sortI l)) := by
  show sortDs (l.map iE) = _
  unfold sortDs
  rw [ints_map]; rfl
theorem pairs_map : ∀ l : List Cell, D.pairs (l.map cE2) = some l
  | [] => rfl
  | c :: l => by
    show (match D.pair (cE2 c), D.pairs (l.map cE2) with | some p, some ps => some (p :: ps) | _, _ => none) = _
    rw [pairs_map l]; rfl
theorem sortDs_c : ∀ l : List Cell, sortDs (l.map cE2) = some (lE cE2 (sortC l))
  | [] => rfl
  | c :: l => by
    unfold sortDs
    have : D.ints ((c :: l).map cE2) = none := rfl
    rw [this, pairs_map]; rfl
theorem sortC_l (l : List Cell) : sortD (lE cE2 l) = some (lE cE2 (sortC l)) := sortDs_c l
theorem sortC_t (l : List Cell) : sortD (tE cE2 l) = some (lE cE2 (sortC l)) := sortDs_c l
/-! dicts -/
def kE (k : Cell) : List Int := [k.1, k.2]
theorem kE_inj {k l : Cell} : kE k = kE l ↔ k = l := by
  obtain ⟨a, b⟩ := k
  obtain ⟨c, d⟩ := l
  simp [kE]
def dE (ev : β → D) (l : List (Cell × β)) : D := .dct (l.map fun p => (kE p.1, ev p.2))
theorem key_c (k : Cell) : (cE2 k).key = some (kE k) := rfl
variable {ev : β → D}
theorem putD_map (l : List (Cell × β)) (k : Cell) (v : β) : putD (l.map fun p => (kE p.1, ev p.2)) (kE k) (ev v) = (putZ l k v).map fun p => (kE p.1, ev p.2) := by
  unfold putD putZ
  have e : ((l.map fun p => (kE p.1, ev p.2)).any fun p => decide (p.1 = kE k)) = l.any fun p => decide (p.1 = k) := by
    rw [List.any_map]
    congr 1
    funext p
    simp only [Function.comp, kE_inj]
  rw [e]
  split
  · rw [List.map_map, List.map_map]
    refine List.map_congr_left fun p _ => ?_
    simp only [Function.comp, kE_inj]
    by_cases h : p.1 = k
    · rw [if_pos h, if_pos h]
    · rw [if_neg h, if_neg h]
  · rw [List.map_append]; rfl
theorem kvs_map : ∀ l : List (Cell × β), D.kvs (l.map (p2E cE2 ev)) = some (l.map fun p => (kE p.1, ev p.2))
  | [] => rfl
  | p :: l => by
    show (match (cE2 p.1).key, D.kvs (l.map (p2E cE2 ev)) with
      | some k, some s => some ((k, ev p.2) :: s)
      | _, _ => none) = _
    rw [kvs_map l]; rfl
theorem foldD_map : ∀ (l acc : List (Cell × β)), (l.map fun p => (kE p.1, ev p.2)).foldl (fun acc p => putD acc p.1 p.2) (acc.map fun p => (kE p.1, ev p.2)) = (l.foldl (fun acc p => putZ acc p.1 p.2) acc).map fun p => (kE p.1, ev p.2)
  | [], _ => rfl
  | p :: l, acc => by
    show (l.map fun p => (kE p.1, ev p.2)).foldl _ (putD (acc.map fun p => (kE p.1, ev p.2)) (kE p.1) (ev p.2)) = _
    rw [putD_map]
    exact foldD_map l (putZ acc p.1 p.2)
theorem dict_l (l : List (Cell × β)) : dictD (lE (p2E cE2 ev) l) = some (dE ev (dictZ l)) := by
  show (D.kvs (l.map (p2E cE2 ev))).map _ = _
  rw [kvs_map]
  show some (D.dct _) = some (D.dct _)
  exact congrArg (fun x => some (D.dct x)) (foldD_map l [])
theorem findD_map (l : List (Cell × β)) (k : Cell) : findD (l.map fun p => (kE p.1, ev p.2)) (kE k) = (getZ l k).map ev := by
  unfold findD getZ
  rw [List.find?_map]
  have e : ((fun p : List Int × D => decide (p.1 = kE k)) ∘ fun p : Cell × β => (kE p.1, ev p.2)) = fun p => decide (p.1 = k) := by
    funext p
    simp only [Function.comp, kE_inj]
  rw [e]
  cases l.find? fun p => decide (p.1 = k) <;> rfl
theorem rf_getK (l : List (Cell × β)) (k : Cell) : Rf ev (Res.of (dgetD (dE ev l) (cE2 k))) (getK l k) := by
  have e : dgetD (dE ev l) (cE2 k) = (getZ l k).map ev := findD_map l k
  rw [e]
  unfold getK
  cases getZ l k with
  | none => exact ⟨trivial⟩
  | some v => exact ⟨rfl⟩
theorem dinE (k : Cell) (l : List (Cell × β)) : dinD (cE2 k) (dE ev l) = some (bE (hasK l k)) := by
  show some (D.bl (findD _ (kE k)).isSome) = _
  rw [findD_map, Option.isSome_map]; rfl
theorem dnotinE (k : Cell) (l : List (Cell × β)) : dninD (cE2 k) (dE ev l) = some (bE (!hasK l k)) := by
  show some (D.bl (!(findD _ (kE k)).isSome)) = _
  rw [findD_map, Option.isSome_map]; rfl
theorem sortC_d (l : List (Cell × β)) : sortD (dE ev l) = some (lE cE2 (sortC (keysZ l))) := by
  show (match D.pairs ((l.map fun p => (kE p.1, ev p.2)).map fun p => .tup (p.1.map .int)) with
    | some ps => some (D.lst ((isort SrtO.lexB ps).map pairD))
    | none => none) = _
  have e : (l.map fun p => (kE p.1, ev p.2)).map (fun p => D.tup (p.1.map .int)) = (keysZ l).map cE2 := by
    unfold keysZ
    rw [List.map_map, List.map_map]; rfl
  rw [e, pairs_map]; rfl
theorem rt_dput {X : Type} {Po : Fl → X → Prop} {r : Sl → Res Fl} {σ : Sl} {f fk : Sl → Res D} {i : Nat} {l : List (Cell × β)} {t : Res β} {tk : Res Cell} {K : List (Cell × β) → Res X} (σ' : List (Cell × β) → Sl) (h0 : σ[i]? = some (some (dE ev l))) (hf : Rf ev (f σ) t) (hk : Rf cE2 (fk σ) tk) (hσ : ∀ m, σ.set i (some (dE ev m)) = σ' m) (h : ∀ m, RT r (σ' m) Po (K m)) : RT (sSeq (sPut i fk f) r) σ Po (t.bind fun v => tk.bind fun k => (putR l k v).bind K) := by
  refine rt_bind (e := ev) (f := f) (k := fun d => (fk σ).bind fun k => match k.key with
    | some k => if l.length < sizeLine then r (σ.set i (some (.dct (putD (l.map fun p => (kE p.1, ev p.2)) k d)))) else .no
    | none => .no) ?_ hf fun v => ?_
  · unfold sSeq sPut
    rw [h0]
    show ((f σ).bind _).bind _ = _
    cases f σ with
    | ok d =>
      simp only [Res.ok_bind]
      cases fk σ with
      | ok k =>
        simp only [Res.ok_bind]
        cases k.key with
        | some k =>
          dsimp only
          rw [List.length_map]
          by_cases c : l.length < sizeLine
          · rw [if_pos c, if_pos c]; rfl
          · rw [if_neg c, if_neg c]; rfl
        | none => rfl
      | ex c => rfl
      | no => rfl
    | ex c => rfl
    | no => rfl
  · refine rt_bind (e := cE2) (f := fk) (k := fun d => match d.key with
      | some k => if l.length < sizeLine then r (σ.set i (some (.dct (putD (l.map fun p => (kE p.1, ev p.2)) k (ev v))))) else .no
      | none => .no) rfl hk fun k => ?_
    unfold putR
    by_cases c : l.length < SZ
    · rw [if_pos c]
      refine RT.cg ?_ (h (putZ l k v))
      show (if l.length < sizeLine then r (σ.set i (some (.dct (putD (l.map fun p => (kE p.1, ev p.2)) (kE k) (ev v))))) else .no) = _
      rw [if_pos (show l.length < sizeLine from c), putD_map, ← hσ]; rfl
    · rw [if_neg c]; exact .mk_no
/-! a, b = xs -/
theorem rf_take2_l {i j : Nat} {σ : Sl} {σ' : α × α → Sl} {l : List α} (h : ∀ {y : α × α}, (σ.set i (some (ea y.1))).set j (some (ea y.2)) = σ' y) : Rf σ' (Res.of (gtU (gtsCons (gtN i) (gtsCons (gtN j) gtsNil)) (lE ea l) σ)) (take2 l) := by
  unfold take2
  split
  · rename_i a b
    refine ⟨?_⟩
    show Res.ok _ = Res.ok (σ' (a, b))
    rw [← h]
  · exact ⟨trivial⟩
theorem rf_take2_t {i j : Nat} {σ : Sl} {σ' : α × α → Sl} {l : List α} (h : ∀ {y : α × α}, (σ.set i (some (ea y.1))).set j (some (ea y.2)) = σ' y) : Rf σ' (Res.of (gtT (gtsCons (gtN i) (gtsCons (gtN j) gtsNil)) (tE ea l) σ)) (take2 l) := by
  unfold take2
  split
  · rename_i a b
    refine ⟨?_⟩
    show Res.ok _ = Res.ok (σ' (a, b))
    rw [← h]
  · exact ⟨trivial⟩
theorem ra_done {Ω : Type} {e : α → Ω} {r : Res Ω} {T : Res α} (h : Rf e (r.bind fun x => .ok x) T) : Rf e r T := by
  have : (r.bind fun x => .ok x) = r := by cases r <;> rfl
  rw [this] at h; exact h
end
end PV
/-! T3: told -/
namespace PV
open PySem
section
variable {α β : Type} {ea e : α → D} {σ σ' : Sl} {f : Sl → Res D} {n : Nat}
def toldE (ea : α → D) : Told α → D
  | .told a => .tup [.str "told", ea a]
  | .ref k => .tup [.str "refused", .int k]
theorem rf_tolds {M : List Nat} {t : Res α} (h : hide M σ = σ') (k : Rf e (f σ') t) : Rf (toldE e) (eTold M f σ) (toldR t) := by
  unfold eTold
  rw [h]
  cases t with
  | ok a => rw [k.to rfl]; exact ⟨rfl⟩
  | ex c =>
    rw [k.toEx rfl]
    show Rf (toldE e) (match toldIx c with | some k => .ok (.tup [.str "refused", .int k]) | none => .no) (match toldIx c with | some k => .ok (.ref k) | none => .no)
    cases toldIx c with
    | some k => exact ⟨rfl⟩
    | none => exact ⟨trivial⟩
  | no => exact ⟨trivial⟩
theorem ev_told {a : α} (ha : f σ = .ok (ea a)) : eTup (eCons (eC (.str "told")) (eCons f eNil)) σ = .ok (toldE ea (.told a)) := by
  exact ev_tup (ev_cons ev_C (ev_cons ha ev_nil))
theorem ev_ref {k : Int} (ha : f σ = .ok (iE k)) : eTup (eCons (eC (.str "refused")) (eCons f eNil)) σ = .ok (toldE ea (.ref k)) := by
  exact ev_tup (ev_cons ev_C (ev_cons ha ev_nil))
theorem rf_told {t : Res α} (h : Rf ea (f σ) t) : Rf (toldE ea) (eTup (eCons (eC (.str "told")) (eCons f eNil)) σ) (t.bind fun x => .ok (.told x)) :=
  rf_tup (ra_p ev_C (ra_m h fun a => ra_nil (Rf.ok rfl)))
theorem eq_told [DecidableEq α] (h : EqE n ea) : EqE (n + 1) (toldE ea) := by
  refine ⟨fun a => ?_, fun a b => ?_⟩
  · cases a with
    | told a => show (D.ok n (.str "told") && (D.ok n (ea a) && true)) = true; rw [h.ok, D.okM (m := 0) (n := n) (d := .str "told") (by decide +kernel) (Nat.zero_le _)]; rfl
    | ref k => show (D.ok n (.str "refused") && (D.ok n (.int k) && true)) = true; rw [D.okM (m := 0) (n := n) (d := .int k) rfl (Nat.zero_le _), D.okM (m := 0) (n := n) (d := .str "refused") (by decide +kernel) (Nat.zero_le _)]; rfl
  · cases a with
    | told a => cases b with
      | told b =>
        show (D.eqv (.str "told") (.str "told") && (D.eqv (ea a) (ea b) && true)) = _
        rw [h.eqv, show D.eqv (.str "told") (.str "told") = true by decide +kernel]
        by_cases e : a = b <;> simp [e]
      | ref k =>
        show (D.eqv (.str "told") (.str "refused") && (D.eqv (ea a) (.int k) && true)) = _
        rw [show D.eqv (.str "told") (.str "refused") = false by decide +kernel]
        simp
    | ref j => cases b with
      | told b =>
        show (D.eqv (.str "refused") (.str "told") && (D.eqv (.int j) (ea b) && true)) = _
        rw [show D.eqv (.str "refused") (.str "told") = false by decide +kernel]
        simp
      | ref k =>
        show (D.eqv (.str "refused") (.str "refused") && ((j == k) && true)) = _
        rw [show D.eqv (.str "refused") (.str "refused") = true by decide +kernel]
        by_cases e : j = k <;> simp [e]
theorem lit_told : D.str "told" = sE ['t', 'o', 'l', 'd'] := congrArg D.str (by decide +kernel)
theorem lit_refused : D.str "refused" = sE ['r', 'e', 'f', 'u', 's', 'e', 'd'] := congrArg D.str (by decide +kernel)
theorem ix_tag (x : Told α) : ixD (toldE ea x) (iE 0) = some (sE x.tag) := by
  cases x with
  | told a => exact congrArg some lit_told
  | ref k => exact congrArg some lit_refused
theorem rf_toldv (x : Told α) : Rf ea (Res.of (ixD (toldE ea x) (iE 1))) x.val := by
  cases x with
  | told a => exact ⟨rfl⟩
  | ref k => exact ⟨trivial⟩
end
end PV
/-! T4: sets, repeats -/
namespace PV
open PySem
section
variable {α β : Type} {ea : α → D}
theorem dedC_eq : ∀ l : List Cell, dedP l = dedC l
  | [] => rfl
  | p :: l => by
    show (if p ∈ dedP l then dedP l else p :: dedP l) = (if p ∈ dedC l then dedC l else p :: dedC l)
    rw [dedC_eq l]
theorem setP_eq (l : List Cell) : setP l = if l.all inC = true ∧ (dedC l).length < 63 then some (dedC l) else none := by
  show (if l.all inC = true ∧ (dedP l).length < 63 then some (dedP l) else none) = _
  rw [dedC_eq]
theorem setOfD_q {d : D} {l : List Cell} (h : d.items = some (l.map cE2)) : setOfD d = if l.all inC = true ∧ (dedC l).length < 63 then some (dedC l) else none := by
  unfold setOfD
  rw [h, ← setP_eq]
  show (D.pairs (l.map cE2)).bind setP = _
  rw [pairs_map]; rfl
theorem rf_setSort {d : D} {l : List Cell} (h : d.items = some (l.map cE2)) : Rf (lE cE2) (Res.of (setSortD d)) (setSortR l) := by
  unfold setSortD setSortR setCR
  rw [setOfD_q h]
  by_cases c : l.all inC = true ∧ (dedC l).length < 63
  · rw [if_pos c, if_pos c]; exact ⟨rfl⟩
  · rw [if_neg c, if_neg c]; exact ⟨trivial⟩
theorem rf_setSort_l (l : List Cell) : Rf (lE cE2) (Res.of (setSortD (lE cE2 l))) (setSortR l) := rf_setSort rfl
theorem rf_setSort_t (l : List Cell) : Rf (lE cE2) (Res.of (setSortD (tE cE2 l))) (setSortR l) := rf_setSort rfl
theorem rf_setLen {d : D} {l : List Cell} (h : d.items = some (l.map cE2)) : Rf iE (Res.of (setLenD d)) (setLenR l) := by
  unfold setLenD setLenR setCR
  rw [setOfD_q h]
  by_cases c : l.all inC = true ∧ (dedC l).length < 63
  · rw [if_pos c, if_pos c]; exact ⟨rfl⟩
  · rw [if_neg c, if_neg c]; exact ⟨trivial⟩
theorem rf_setLen_l (l : List Cell) : Rf iE (Res.of (setLenD (lE cE2 l))) (setLenR l) := rf_setLen rfl
theorem rf_setLen_t (l : List Cell) : Rf iE (Res.of (setLenD (tE cE2 l))) (setLenR l) := rf_setLen rfl
theorem rf_rep (xs : List α) (k : Int) : Rf (tE ea) (Res.of (mulT2 (tE ea xs) (iE k))) (repL xs k) := by
  have e : ∀ n : Nat, (List.replicate n (xs.map ea)).flatten = ((List.replicate n xs).flatten).map ea := fun n => by
    rw [List.map_flatten, List.map_replicate]
  unfold repL
  split
  · rename_i c
    show Rf (tE ea) (Res.of ((if xs.map ea ≠ [] ∧ 2 ≤ k ∧ k ≤ 1000 ∧ (xs.map ea).length ≤ 1000 then some (D.tup (List.replicate k.toNat (xs.map ea)).flatten) else none).or (if -1000 ≤ k ∧ k ≤ 1 then some (D.tup (List.replicate k.toNat (xs.map ea)).flatten) else none))) _
    rw [e]
    by_cases c1 : -1000 ≤ k ∧ k ≤ 1
    · rw [if_pos c1]
      split
      · exact ⟨rfl⟩
      · exact ⟨rfl⟩
    · rw [if_pos (by rw [List.length_map]; refine ⟨fun h => ?_, by omega, by omega, by omega⟩; exact c.2.2.2 (List.map_eq_nil_iff.mp h))]
      exact ⟨rfl⟩
  · exact ⟨trivial⟩
theorem rf_repS (s : Tx) (k : Int) : Rf sE (Res.of (mulS (sE s) (iE k))) (repTx s k) := by
  unfold repTx
  refine rf_guard (P := -1000 ≤ k ∧ k ≤ 1000 ∧ (⟨(s.map Char.toNat).toArray⟩ : Str).length ≤ 1000) (by rw [sE_len]) ?_
  unfold L2.repS sE
  congr 2
  rw [List.toList_toArray, List.map_flatten, List.map_replicate]
end
end PV
/-! T5: order -/
namespace PV
open PySem
section
variable {α β γ : Type} {ea : α → D} {eb : β → D} {ec : γ → D}
structure LtE (n : Nat) (e : α → D) (lt : α → α → Bool) [DecidableEq α] : Prop where
  py : ∀ a, ∃ p, (e a).py = some p ∧ notNone p = true ∧ p.depth ≤ n
  al : ∀ a b p q, (e a).py = some p → (e b).py = some q → PySem.W.alike p q = true ∧ PyData.eqv p q = decide (a = b) ∧ PySem.W.dataLt p q = lt a b
theorem lt_int : LtE 0 iE ltZ := by
  refine ⟨fun a => ⟨_, rfl, rfl, Nat.le_refl _⟩, fun a b p q h1 h2 => ?_⟩
  cases h1; cases h2
  refine ⟨rfl, ?_, PySem.W.dataLt_int a b⟩
  show (a == b) = _
  rw [Bool.beq_eq_decide_eq]
theorem tup_one {x1 y1 : PyData} {xs ys : List PyData} [DecidableEq α] {a b : α} {la : α → α → Bool} {r : Bool} (h : PySem.W.alike x1 y1 = true ∧ PyData.eqv x1 y1 = decide (a = b) ∧ PySem.W.dataLt x1 y1 = la a b)
    (hr : PyProof.Rows.lexLt PyProof.Rows.itemOrd (PySem.W.keyToksAll xs) (PySem.W.keyToksAll ys) = r) : PyProof.Rows.lexLt PyProof.Rows.itemOrd (PySem.W.keyToksAll (x1 :: xs)) (PySem.W.keyToksAll (y1 :: ys)) = if a = b then r else la a b := by
  by_cases e : a = b
  · rw [if_pos e, PySem.W.dataLt_all_yes h.1 (by rw [h.2.1]; exact decide_eq_true e), hr]
  · rw [if_neg e, PySem.W.dataLt_all_no h.1 (by rw [h.2.1]; exact decide_eq_false e), h.2.2]
theorem tup_nil : PyProof.Rows.lexLt PyProof.Rows.itemOrd (PySem.W.keyToksAll []) (PySem.W.keyToksAll []) = false := by decide
variable [DecidableEq α] [DecidableEq β] [DecidableEq γ] {n m k : Nat} {la : α → α → Bool} {lb : β → β → Bool} {lc : γ → γ → Bool}
theorem py_p2 {x : α × β} {p : PyData} (h : (p2E ea eb x).py = some p) : ∃ a b, (ea x.1).py = some a ∧ (eb x.2).py = some b ∧ p = .tuple [a, b] := by
  have h : (match (match (ea x.1).py, (match (eb x.2).py, (some [] : Option (List PyData)) with | some y, some ys => some (y :: ys) | _, _ => none) with | some y, some ys => some (y :: ys) | _, _ => none) with | some ys => some (PyData.tuple ys) | none => none) = some p := h
  cases e1 : (ea x.1).py with
  | none => rw [e1] at h; cases (eb x.2).py <;> cases h
  | some a =>
    cases e2 : (eb x.2).py with
    | none => rw [e1, e2] at h; cases h
    | some b => rw [e1, e2] at h; cases h; exact ⟨a, b, rfl, rfl, rfl⟩
theorem py_p2i {x : α × β} {a b : PyData} (h1 : (ea x.1).py = some a) (h2 : (eb x.2).py = some b) : (p2E ea eb x).py = some (.tuple [a, b]) := by
  show (match (match (ea x.1).py, (match (eb x.2).py, (some [] : Option (List PyData)) with | some y, some ys => some (y :: ys) | _, _ => none) with | some y, some ys => some (y :: ys) | _, _ => none) with | some ys => some (PyData.tuple ys) | none => none) = _
  rw [h1, h2]
theorem lt_p2 (h1 : LtE n ea la) (h2 : LtE m eb lb) : LtE (max n m + 1) (p2E ea eb) (lex2 la lb) := by
  refine ⟨fun x => ?_, fun x y p q hp hq => ?_⟩
  · obtain ⟨a, ha, _, da⟩ := h1.py x.1
    obtain ⟨b, hb, _, db⟩ := h2.py x.2
    refine ⟨_, py_p2i ha hb, rfl, ?_⟩
    show max a.depth (max b.depth 0) + 1 ≤ _
    omega
  · obtain ⟨a, b, ha, hb, rfl⟩ := py_p2 hp
    obtain ⟨c, d, hc, hd, rfl⟩ := py_p2 hq
    have k1 := h1.al _ _ _ _ ha hc
    have k2 := h2.al _ _ _ _ hb hd
    refine ⟨?_, ?_, ?_⟩
    · show (PySem.W.alike a c && (PySem.W.alike b d && true)) = true
      rw [k1.1, k2.1]; rfl
    · show (PyData.eqv a c && (PyData.eqv b d && true)) = _
      rw [k1.2.1, k2.2.1, Bool.and_true, dec_and2]
    · rw [PySem.W.dataLt_tuple, tup_one k1 (tup_one k2 tup_nil)]
      unfold lex2
      by_cases e1 : x.1 = y.1
      · rw [if_pos e1, if_pos e1]
        by_cases e2 : x.2 = y.2
        · rw [if_pos e2, ← k2.2.2]
          rw [e2] at hb
          rw [hb] at hd
          cases hd
          unfold PySem.W.dataLt
          exact (PyProof.Rows.lex_irrefl (O := PyProof.Rows.itemOrd) _).symm
        · rw [if_neg e2]
      · rw [if_neg e1, if_neg e1]
theorem pys_cons {d : D} {ds : List D} {ps : List PyData} (h : D.pys (d :: ds) = some ps) : ∃ p qs, d.py = some p ∧ D.pys ds = some qs ∧ ps = p :: qs := by
  unfold D.pys at h
  cases e1 : d.py with
  | none => rw [e1] at h; cases e2 : D.pys ds <;> rw [e2] at h <;> cases h
  | some p =>
    cases e2 : D.pys ds with
    | none => rw [e1, e2] at h; cases h
    | some qs => rw [e1, e2] at h; cases h; exact ⟨p, qs, rfl, rfl, rfl⟩
theorem pys_consi {d : D} {ds : List D} {p : PyData} {qs : List PyData} (h1 : d.py = some p) (h2 : D.pys ds = some qs) : D.pys (d :: ds) = some (p :: qs) := by
  unfold D.pys; rw [h1, h2]
theorem LtE.pys (h1 : LtE n ea la) : ∀ l : List α, ∃ ps, D.pys (l.map ea) = some ps ∧ PyData.depthAll ps ≤ n
  | [] => ⟨[], rfl, Nat.zero_le _⟩
  | a :: l => by
    obtain ⟨p, hp, _, dp⟩ := h1.py a
    obtain ⟨ps, hps, dps⟩ := LtE.pys h1 l
    refine ⟨p :: ps, pys_consi hp hps, ?_⟩
    show max p.depth (PyData.depthAll ps) ≤ n
    omega
theorem LtE.als (h1 : LtE n ea la) : ∀ (l m : List α) (ps qs : List PyData), D.pys (l.map ea) = some ps → D.pys (m.map ea) = some qs → PySem.W.alikeAll ps qs = true ∧ PyData.eqvAll ps qs = decide (l = m) ∧ PyProof.Rows.lexLt PyProof.Rows.itemOrd (PySem.W.keyToksAll ps) (PySem.W.keyToksAll qs) = lexL la l m
  | [], [], ps, qs, hp, hq => by cases hp; cases hq; exact ⟨rfl, rfl, tup_nil⟩
  | [], b :: m, ps, qs, hp, hq => by
    cases hp
    obtain ⟨q, qs, _, _, rfl⟩ := pys_cons hq
    exact ⟨rfl, rfl, rfl⟩
  | a :: l, [], ps, qs, hp, hq => by
    cases hq
    obtain ⟨q, qs, _, _, rfl⟩ := pys_cons hp
    exact ⟨rfl, rfl, rfl⟩
  | a :: l, b :: m, ps, qs, hp, hq => by
    obtain ⟨p, ps, hp1, hps, rfl⟩ := pys_cons hp
    obtain ⟨q, qs, hq1, hqs, rfl⟩ := pys_cons hq
    have k1 := h1.al _ _ _ _ hp1 hq1
    obtain ⟨a1, a2, a3⟩ := LtE.als h1 l m ps qs hps hqs
    refine ⟨?_, ?_, ?_⟩
    · show (PySem.W.alike p q && PySem.W.alikeAll ps qs) = true
      rw [k1.1, a1]; rfl
    · show (PyData.eqv p q && PyData.eqvAll ps qs) = _
      rw [k1.2.1, a2]
      by_cases h1 : a = b <;> by_cases h2 : l = m <;> simp [h1, h2]
    · rw [tup_one k1 a3]; rfl
theorem lt_t (h1 : LtE n ea la) : LtE (n + 1) (tE ea) (lexL la) := by
  refine ⟨fun x => ?_, fun x y p q hp hq => ?_⟩
  · obtain ⟨ps, h, d⟩ := h1.pys x
    refine ⟨.tuple ps, by unfold tE D.py; rw [h], rfl, ?_⟩
    show PyData.depthAll ps + 1 ≤ _
    omega
  · unfold tE D.py at hp hq
    cases e1 : D.pys (x.map ea) with
    | none => rw [e1] at hp; cases hp
    | some ps =>
      cases e2 : D.pys (y.map ea) with
      | none => rw [e2] at hq; cases hq
      | some qs =>
        rw [e1] at hp; rw [e2] at hq
        cases hp; cases hq
        obtain ⟨a1, a2, a3⟩ := h1.als x y ps qs e1 e2
        exact ⟨a1, a2, by rw [PySem.W.dataLt_tuple, a3]⟩
/-- three: as a pair in a pair -/
theorem lt_p3 (h1 : LtE n ea la) (h2 : LtE m eb lb) (h3 : LtE k ec lc) : LtE (max n (max m k) + 1) (p3E ea eb ec) (lex2 la (lex2 lb lc)) := by
  refine ⟨fun x => ?_, fun x y p q hp hq => ?_⟩
  · obtain ⟨a, ha, _, da⟩ := h1.py x.1
    obtain ⟨b, hb, _, db⟩ := h2.py x.2.1
    obtain ⟨c, hc, _, dc⟩ := h3.py x.2.2
    refine ⟨.tuple [a, b, c], ?_, rfl, ?_⟩
    · show (match D.pys [ea x.1, eb x.2.1, ec x.2.2] with | some ys => some (PyData.tuple ys) | none => none) = _
      rw [pys_consi ha (pys_consi hb (pys_consi hc rfl))]
    · show max a.depth (max b.depth (max c.depth 0)) + 1 ≤ _
      omega
  · have un : ∀ (x : α × β × γ) p, (p3E ea eb ec x).py = some p → ∃ a b c, (ea x.1).py = some a ∧ (eb x.2.1).py = some b ∧ (ec x.2.2).py = some c ∧ p = .tuple [a, b, c] := fun x p h => by
      have h : (match D.pys [ea x.1, eb x.2.1, ec x.2.2] with | some ys => some (PyData.tuple ys) | none => none) = some p := h
      cases e : D.pys [ea x.1, eb x.2.1, ec x.2.2] with
      | none => rw [e] at h; cases h
      | some ys =>
        rw [e] at h
        cases h
        obtain ⟨a, r1, ha, e1, rfl⟩ := pys_cons e
        obtain ⟨b, r2, hb, e2, rfl⟩ := pys_cons e1
        obtain ⟨c, r3, hc, e3, rfl⟩ := pys_cons e2
        cases e3
        exact ⟨a, b, c, ha, hb, hc, rfl⟩
    obtain ⟨a, b, c, ha, hb, hc, rfl⟩ := un x p hp
    obtain ⟨a', b', c', ha', hb', hc', rfl⟩ := un y q hq
    have k1 := h1.al _ _ _ _ ha ha'
    have k2 := h2.al _ _ _ _ hb hb'
    have k3 := h3.al _ _ _ _ hc hc'
    refine ⟨?_, ?_, ?_⟩
    · show (PySem.W.alike a a' && (PySem.W.alike b b' && (PySem.W.alike c c' && true))) = true
      rw [k1.1, k2.1, k3.1]; rfl
    · show (PyData.eqv a a' && (PyData.eqv b b' && (PyData.eqv c c' && true))) = _
      rw [k1.2.1, k2.2.1, k3.2.1, Bool.and_true, dec_and2, dec_and2]
    · have i3 : lc x.2.2 y.2.2 = if x.2.2 = y.2.2 then false else lc x.2.2 y.2.2 := by
        by_cases e2 : x.2.2 = y.2.2
        · rw [if_pos e2, ← k3.2.2]
          rw [e2] at hc
          rw [hc] at hc'
          cases hc'
          exact PyProof.Rows.lex_irrefl (O := PyProof.Rows.itemOrd) _
        · rw [if_neg e2]
      rw [PySem.W.dataLt_tuple, tup_one k1 (tup_one k2 (tup_one k3 tup_nil)), ← i3]
      rfl
/-! the operators -/
theorem LtE.cmp (h : LtE n ea la) (hn : n ≤ 60) (a b : α) : ∃ p q, cmpPy (ea a) (ea b) = some (p, q) ∧ PySem.W.dataLt p q = la a b ∧ PySem.W.dataLt q p = la b a := by
  obtain ⟨p, h1, h2, h3⟩ := h.py a
  obtain ⟨q, h4, h5, h6⟩ := h.py b
  have k := h.al _ _ _ _ h1 h4
  refine ⟨p, q, ?_, k.2.2, (h.al _ _ _ _ h4 h1).2.2⟩
  unfold cmpPy
  rw [h1, h4]
  dsimp only
  rw [if_pos]
  rw [k.1, h2, decide_eq_true (show p.depth ≤ 60 by omega)]; rfl
theorem ltGE (h : LtE n ea la) {a b : α} (hn : n ≤ 60 := by decide) : ltG (ea a) (ea b) = some (bE (la a b)) := by
  obtain ⟨p, q, e, k, _⟩ := h.cmp hn a b
  unfold ltG; rw [e, ← k]; rfl
theorem gtGE (h : LtE n ea la) {a b : α} (hn : n ≤ 60 := by decide) : gtG (ea a) (ea b) = some (bE (la b a)) := by
  obtain ⟨p, q, e, _, k⟩ := h.cmp hn a b
  unfold gtG; rw [e, ← k]; rfl
theorem leGE (h : LtE n ea la) {a b : α} (hn : n ≤ 60 := by decide) : leG (ea a) (ea b) = some (bE (!la b a)) := by
  obtain ⟨p, q, e, _, k⟩ := h.cmp hn a b
  unfold leG; rw [e, ← k]; rfl
theorem geGE (h : LtE n ea la) {a b : α} (hn : n ≤ 60 := by decide) : geG (ea a) (ea b) = some (bE (!la a b)) := by
  obtain ⟨p, q, e, k, _⟩ := h.cmp hn a b
  unfold geG; rw [e, ← k]; rfl
theorem minGo_map (h : LtE n ea la) : ∀ (l : List α) (x : α), minGo (ea x) (l.map ea) = ea (minLt la x l)
  | [], x => rfl
  | y :: l, x => by
    obtain ⟨p, h1, h2, h3⟩ := h.py y
    obtain ⟨q, h4, h5, h6⟩ := h.py x
    have e : ltP (ea y) (ea x) = la y x := by
      unfold ltP; rw [h1, h4]; exact (h.al _ _ _ _ h1 h4).2.2
    show minGo (if ltP (ea y) (ea x) = true then ea y else ea x) (l.map ea) = ea (minLt la (if la y x = true then y else x) l)
    rw [e]
    split
    · exact minGo_map h l y
    · exact minGo_map h l x
theorem rf_minG (h : LtE n ea la) (l : List α) {d : D} (hd : d.items = some (l.map ea)) (hn : n ≤ 60 := by decide) : Rf ea (Res.of (minG d)) (minLtR la l) := by
  cases l with
  | nil => exact ⟨trivial⟩
  | cons x l =>
    refine ⟨?_⟩
    obtain ⟨ps, hps, dps⟩ := h.pys (x :: l)
    have al : ∀ (l : List α) (ps : List PyData), D.pys (l.map ea) = some ps → ∀ p ∈ ps, ∃ a, (ea a).py = some p := by
      intro l
      induction l with
      | nil => intro ps hps p hp; cases hps; cases hp
      | cons a l ih =>
        intro ps hps p hp
        obtain ⟨p0, ps0, k1, k2, rfl⟩ := pys_cons hps
        rcases List.mem_cons.mp hp with rfl | hp
        · exact ⟨a, k1⟩
        · exact ih ps0 k2 p hp
    have ok : minOkB ps = true := by
      unfold minOkB alikeB
      rw [Bool.and_eq_true, Bool.and_eq_true, decide_eq_true_eq, List.all_eq_true, List.all_eq_true]
      refine ⟨⟨fun p hp => List.all_eq_true.mpr fun q hq => ?_, fun p hp => ?_⟩, by omega⟩
      · obtain ⟨a, ha⟩ := al _ _ hps p hp
        obtain ⟨b, hb⟩ := al _ _ hps q hq
        exact (h.al _ _ _ _ ha hb).1
      · obtain ⟨a, ha⟩ := al _ _ hps p hp
        obtain ⟨p', h1, h2, _⟩ := h.py a
        rw [ha] at h1
        cases h1
        exact h2
    unfold minG
    rw [hd]
    show Res.of (match D.pys ((x :: l).map ea) with | some ps => if minOkB ps = true then some (minGo (ea x) (l.map ea)) else none | none => none) = Res.ok (ea (minLt la x l))
    rw [hps]
    show Res.of (if minOkB ps = true then some (minGo (ea x) (l.map ea)) else none) = _
    rw [if_pos ok, minGo_map h]; rfl
theorem rf_minG_l (h : LtE n ea la) (l : List α) (hn : n ≤ 60 := by decide) : Rf ea (Res.of (minG (lE ea l))) (minLtR la l) := rf_minG h l rfl hn
theorem rf_minG_t (h : LtE n ea la) (l : List α) (hn : n ≤ 60 := by decide) : Rf ea (Res.of (minG (tE ea l))) (minLtR la l) := rf_minG h l rfl hn
theorem lt_cell : LtE 1 cE2 lexZ := lt_p2 lt_int lt_int
end
end PV
/-! T6: methods of texts; {k: v}; effects -/
namespace PV
open PySem
section
variable {α β γ X : Type} {ea : α → D} {eb : β → D} {ec : γ → D} {σ : Sl}
def c2E (ea : α → D) (eb : β → D) (p : α × β) : D := .ctup [ea p.1, eb p.2]
def toS (s : Tx) : Str := ⟨(s.map Char.toNat).toArray⟩
theorem rf_M1 {g : Str → D → Option D} {fa fb : Sl → Res D} {e : α → D} {T : Res α} (h : Rf e ((fa σ).bind fun x => match x with
  | .str z => (fb σ).bind fun y => Res.of (g z y)
  | _ => .no) T) : Rf e (eM1 g fa fb σ) T := h
theorem strs_map : ∀ l : List Tx, D.strs (l.map sE) = some (l.map toS)
  | [] => rfl
  | s :: l => by
    show (match D.strs (l.map sE) with | some ns => some (toS s :: ns) | none => none) = _
    rw [strs_map l]; rfl
theorem join_map (sep : Tx) : ∀ l : List Tx, Str.join (toS sep) (l.map toS) = toS (joinTx sep l)
  | [] => rfl
  | [p] => rfl
  | p :: q :: r => by
    show toS p ++ toS sep ++ Str.join (toS sep) ((q :: r).map toS) = _
    rw [join_map sep (q :: r)]
    show (⟨_⟩ : Str) = ⟨_⟩
    rw [s_mk]
    show ((p.map Char.toNat).toArray ++ (sep.map Char.toNat).toArray) ++ ((joinTx sep (q :: r)).map Char.toNat).toArray = ((p ++ (sep ++ joinTx sep (q :: r))).map Char.toNat).toArray
    simp
theorem lens_map (l : List Tx) : (l.map toS).map (·.length) = l.map List.length := by
  rw [List.map_map]
  exact List.map_congr_left fun s _ => sE_len s
theorem rf_joinQ (sep : Tx) (l : List Tx) {d : D} (hd : d.items = some (l.map sE)) : Rf sE (Res.of (joinS (toS sep) d)) (joinR sep l) := by
  unfold joinS joinR
  rw [hd]
  show Rf sE (Res.of ((D.strs (l.map sE)).bind fun ys => if (ys.map (·.length)).sum + ys.length * (toS sep).length ≤ 16777216 then some (D.str (Str.join (toS sep) ys)) else none)) _
  rw [strs_map]
  show Rf sE (Res.of (if ((l.map toS).map (·.length)).sum + (l.map toS).length * (toS sep).length ≤ 16777216 then some (D.str (Str.join (toS sep) (l.map toS))) else none)) _
  refine rf_guard (by rw [lens_map, List.length_map, show (toS sep).length = sep.length from sE_len sep]) ?_
  rw [join_map]; rfl
theorem rf_join_l (sep : Tx) (l : List Tx) : Rf sE (Res.of (joinS (toS sep) (lE sE l))) (joinR sep l) := rf_joinQ sep l rfl
theorem rf_join_t (sep : Tx) (l : List Tx) : Rf sE (Res.of (joinS (toS sep) (tE sE l))) (joinR sep l) := rf_joinQ sep l rfl
/-! {k: v} -/
theorem rf_d1 {fk fv : Sl → Res D} {tk : Res Cell} {tv : Res β} (hk : Rf cE2 (fk σ) tk) (hv : Rf eb (fv σ) tv) : Rf (dE eb) (eD1 fk fv σ) (tk.bind fun k => tv.bind fun v => .ok [(k, v)]) := by
  unfold eD1
  refine rv_m (e := cE2) hk fun k => ?_
  refine rv_m (e := eb) hv fun v => ?_
  exact ⟨rfl⟩
/-! effects -/
structure Rm {Ω : Type} (e : α → Ω) (σ' : α → Sl) (r : Res (Ω × Sl)) (t : Res α) : Prop where
  run : match t with
  | .ok a => r = .ok (e a, σ' a)
  | .ex c => r = .ex c
  | .no => True
variable {Ω Ψ : Type}
theorem Rm.ok {e : α → Ω} {σ' : α → Sl} {r : Res (Ω × Sl)} {a : α} (h : r = .ok (e a, σ' a)) : Rm e σ' r (.ok a) := ⟨h⟩
theorem rm_bind {e : α → Ω} {e2 : β → Ψ} {σ1 : α → Sl} {σ2 : β → Sl} {r : Res (Ω × Sl)} {t : Res α} {K : Ω × Sl → Res (Ψ × Sl)} {T : α → Res β} (h : Rm e σ1 r t) (k : ∀ a, Rm e2 σ2 (K (e a, σ1 a)) (T a)) : Rm e2 σ2 (r.bind K) (t.bind T) := by
  cases t with
  | ok a => rw [show r = .ok (e a, σ1 a) from h.run]; exact k a
  | ex c => rw [show r = .ex c from h.run]; exact ⟨rfl⟩
  | no => exact ⟨trivial⟩
theorem rm_rf {e : α → Ω} {e2 : β → Ψ} {σ2 : β → Sl} {r : Res Ω} {t : Res α} {K : Ω → Res (Ψ × Sl)} {T : α → Res β} (h : Rf e r t) (k : ∀ a, Rm e2 σ2 (K (e a)) (T a)) : Rm e2 σ2 (r.bind K) (t.bind T) := by
  cases t with
  | ok a => rw [show r = .ok (e a) from h.run]; exact k a
  | ex c => rw [show r = .ex c from h.run]; exact ⟨rfl⟩
  | no => exact ⟨trivial⟩
/-- a plain value -/
theorem rm_p {f : Sl → Res D} {d : D} {e2 : β → Ψ} {σ2 : β → Sl} {K : D × Sl → Res (Ψ × Sl)} {T : Res β} (h : f σ = .ok d) (k : Rm e2 σ2 (K (d, σ)) T) : Rm e2 σ2 ((mP f σ).bind K) T := by
  unfold mP; rw [h]; exact k
theorem rm_pm {f : Sl → Res D} {t : Res α} {e2 : β → Ψ} {σ2 : β → Sl} {K : D × Sl → Res (Ψ × Sl)} {T : α → Res β} (h : Rf ea (f σ) t) (k : ∀ a, Rm e2 σ2 (K (ea a, σ)) (T a)) : Rm e2 σ2 ((mP f σ).bind K) (t.bind T) := by
  unfold mP
  rw [Res.bind_assoc]
  exact rm_rf h k
theorem rma_nil {e2 : β → Ψ} {σ2 : β → Sl} {K : List D × Sl → Res (Ψ × Sl)} {T : Res β} (k : Rm e2 σ2 (K ([], σ)) T) : Rm e2 σ2 ((mNil σ).bind K) T := k
theorem rma_cons {fa : Sl → Res (D × Sl)} {fr : Sl → Res (List D × Sl)} {e2 : β → Ψ} {σ2 : β → Sl} {K : List D × Sl → Res (Ψ × Sl)} {T : Res β} (k : Rm e2 σ2 ((fa σ).bind fun p => (fr p.2).bind fun q => K (p.1 :: q.1, q.2)) T) : Rm e2 σ2 ((mCons fa fr σ).bind K) T := by
  have e : (mCons fa fr σ).bind K = (fa σ).bind fun p => (fr p.2).bind fun q => K (p.1 :: q.1, q.2) := by
    unfold mCons
    rw [Res.bind_assoc]
    congr 1
    funext p
    rw [Res.bind_assoc]; rfl
  rw [e]; exact k
theorem rm_call {h : List D → Res D} {fs : Sl → Res (List D × Sl)} {e2 : β → D} {σ2 : β → Sl} {T : Res β} (k : Rm e2 σ2 ((fs σ).bind fun p => (h p.1).bind fun d => .ok (d, p.2)) T) : Rm e2 σ2 (mCall h fs σ) T := k
/-- pop -/
theorem rm_pop {i : Nat} {l : List α} (σ' : List α → Sl) (h0 : σ[i]? = some (some (lE ea l))) (hσ : ∀ m : List α, σ.set i (some (lE ea m)) = σ' m) : Rm (fun z : α × List α => ea z.1) (fun z => σ' z.2) (mPop i σ) (popR l) := by
  unfold popR mPop
  rw [h0]
  show Rm _ _ (match (l.map ea).getLast? with | some d => Res.ok (d, σ.set i (some (.lst (l.map ea).dropLast))) | none => .no) _
  rw [List.getLast?_map]
  cases e : l.getLast? with
  | none => exact ⟨trivial⟩
  | some x =>
    refine ⟨?_⟩
    show Res.ok (ea x, σ.set i (some (.lst (l.map ea).dropLast))) = Res.ok (ea x, σ' l.dropLast)
    rw [← hσ, ← List.map_dropLast]; rfl
theorem rm_seq {f : Sl → Res (D × Sl)} {g : β → List γ} {e : β → D} {σ2 : β → Sl} {T : Res β} (hi : ∀ b, (e b).items = some ((g b).map ec)) (k : Rm e σ2 (f σ) T) : Rm (fun b => (g b).map ec) σ2 (mSeq f σ) T := by
  unfold mSeq
  cases T with
  | ok a =>
    rw [show f σ = .ok (e a, σ2 a) from k.run]
    refine ⟨?_⟩
    show (Res.of (e a).items).bind _ = _
    rw [hi]; rfl
  | ex c => rw [show f σ = .ex c from k.run]; exact ⟨rfl⟩
  | no => exact ⟨trivial⟩
variable {Y : Type}
theorem rt_forMx {fs : Sl → Res (List D × Sl)} {g : D → Sl → Option Sl} {s : Sl → Res Fl} {I : Y → Sl → Prop} {body : γ → Y → Res Y} {ex : γ → D} {t : Res β} {σ2 : β → Sl} {y : β → Y} {it : β → List γ} (hi : Rm (fun b => (it b).map ex) σ2 (fs σ) t) (h0 : ∀ b, I (y b) (σ2 b)) (hb : ∀ a y σ, I y σ → ∃ σ1, g (ex a) σ = some σ1 ∧ RT s σ1 (PoL I) (body a y)) : RT (sForM fs g s) σ (PoJ I) (t.bind fun b => foldR body (it b) (y b)) := by
  cases t with
  | ok b =>
    have e : sForM fs g s σ = forGo g s ((it b).map ex) (σ2 b) := by
      unfold sForM
      rw [show fs σ = .ok ((it b).map ex, σ2 b) from hi.run]; rfl
    exact RT.cg e (fold_rt hb (it b) (y b) (σ2 b) (h0 b))
  | ex c => exact .mk_ex (by unfold sForM; rw [show fs σ = .ex c from hi.run]; rfl)
  | no => exact .mk_no
end
end PV
/-! T7: min by a key; remove -/
namespace PV
open PySem
section
variable {α β κ X : Type} {ea : α → D} {ek : κ → D} {σ : Sl} {Po : Fl → X → Prop} {f fa fe : Sl → Res D} {r : Sl → Res Fl}
theorem keys_map {i : Nat} {k : α → Res κ} (hk : ∀ x, ∃ σ1, σ.set i (some (ea x)) = σ1 ∧ Rf ek (fe σ1) (k x)) : ∀ l : List α, match keysT k l with
    | .ok ks => keysR fe σ i (l.map ea) = .ok (ks.map ek) ∧ ks.length = l.length
    | .ex c => keysR fe σ i (l.map ea) = .ex c
    | .no => True
  | [] => ⟨rfl, rfl⟩
  | x :: l => by
    obtain ⟨σ1, e1, h⟩ := hk x
    have ih := keys_map hk l
    unfold keysT
    have e2 : keysR fe σ i ((x :: l).map ea) = (fe σ1).bind fun k => (keysR fe σ i (l.map ea)).bind fun ks => .ok (k :: ks) := by
      show (fe (σ.set i (some (ea x)))).bind _ = _
      rw [e1]
    rw [e2]
    have h := h.run
    cases e3 : k x with
    | ok y =>
      rw [e3] at h
      rw [show fe σ1 = .ok (ek y) from h]
      show match (keysT k l).bind fun xs => Res.ok (y :: xs) with
        | .ok ks => ((keysR fe σ i (l.map ea)).bind fun ks => Res.ok (ek y :: ks)) = .ok (ks.map ek) ∧ ks.length = (x :: l).length
        | .ex c => ((keysR fe σ i (l.map ea)).bind fun ks => Res.ok (ek y :: ks)) = .ex c
        | .no => True
      cases e4 : keysT k l with
      | ok ks =>
        rw [e4] at ih
        rw [ih.1]
        exact ⟨rfl, by show ks.length + 1 = l.length + 1; rw [ih.2]⟩
      | ex c =>
        rw [e4] at ih
        rw [show keysR fe σ i (l.map ea) = .ex c from ih]
        rfl
      | no => exact trivial
    | ex c =>
      rw [e3] at h
      rw [show fe σ1 = .ex c from h]
      rfl
    | no => exact trivial
variable [DecidableEq κ] {n : Nat} {lk : κ → κ → Bool}
theorem LtE.min_ok (h : LtE n ek lk) (hn : n ≤ 60) {ks : List κ} {ps : List PyData} (hps : D.pys (ks.map ek) = some ps) : minOkB ps = true := by
  obtain ⟨ps', hps', dps⟩ := h.pys ks
  rw [hps] at hps'
  cases hps'
  have al : ∀ (l : List κ) (ps : List PyData), D.pys (l.map ek) = some ps → ∀ p ∈ ps, ∃ a, (ek a).py = some p := by
    intro l
    induction l with
    | nil => intro ps hps p hp; cases hps; cases hp
    | cons a l ih =>
      intro ps hps p hp
      obtain ⟨p0, ps0, k1, k2, rfl⟩ := pys_cons hps
      rcases List.mem_cons.mp hp with rfl | hp
      · exact ⟨a, k1⟩
      · exact ih ps0 k2 p hp
  unfold minOkB alikeB
  rw [Bool.and_eq_true, Bool.and_eq_true, decide_eq_true_eq, List.all_eq_true, List.all_eq_true]
  refine ⟨⟨fun p hp => List.all_eq_true.mpr fun q hq => ?_, fun p hp => ?_⟩, by omega⟩
  · obtain ⟨a, ha⟩ := al _ _ hps p hp
    obtain ⟨b, hb⟩ := al _ _ hps q hq
    exact (h.al _ _ _ _ ha hb).1
  · obtain ⟨a, ha⟩ := al _ _ hps p hp
    obtain ⟨p', h1, h2, _⟩ := h.py a
    rw [ha] at h1
    cases h1
    exact h2
theorem minKD_map (h : LtE n ek lk) (hn : n ≤ 60) {l : List α} {ks : List κ} (hl : ks.length = l.length) : match minKV lk (l.zip ks) with
    | .ok x => minKD (l.map ea) (ks.map ek) = some (ea x)
    | .ex _ => False
    | .no => True := by
  cases e : l.zip ks with
  | nil => exact trivial
  | cons p z =>
    show minKD (l.map ea) (ks.map ek) = some (ea (minLt (fun x y => lk x.2 y.2) p z).1)
    obtain ⟨ps, hps, _⟩ := h.pys ks
    have hlen : (p :: z).length = l.length := by rw [← e, List.length_zip, hl, Nat.min_self]
    have hlen2 : l.length = z.length + 1 := hlen.symm
    unfold minKD
    rw [hps]
    show (if minOkB ps = true ∧ 0 < (l.map ea).length then (l.map ea)[argBest (btK ps) ((l.map ea).length - 1)]? else none) = _
    rw [if_pos ⟨h.min_ok hn hps, by rw [List.length_map]; omega⟩, List.length_map, hlen2, Nat.add_sub_cancel]
    have gz : ∀ j, j ≤ z.length → ∃ a b, l[j]? = some a ∧ ks[j]? = some b ∧ (p :: z).getD j p = (a, b) := fun j hj => by
      have h1 : j < l.length := by omega
      have h2 : j < ks.length := by omega
      refine ⟨l[j], ks[j], List.getElem?_eq_getElem h1, List.getElem?_eq_getElem h2, ?_⟩
      rw [← e, List.getD_eq_getElem?_getD, (List.getElem?_zip_eq_some (z := (l[j], ks[j]))).mpr ⟨List.getElem?_eq_getElem h1, List.getElem?_eq_getElem h2⟩]
      rfl
    have pz : ∀ j b, ks[j]? = some b → ∃ q, (ek b).py = some q ∧ ps.getD j .none = q := fun j b hb => by
      obtain ⟨h2, e2⟩ := List.getElem?_eq_some_iff.mp hb
      have h3 : j < (ks.map ek).length := by rw [List.length_map]; exact h2
      have := pys_getD hps j h3
      refine ⟨_, ?_, rfl⟩
      rw [← this]
      congr 1
      rw [List.getD_eq_getElem?_getD, List.getElem?_map, hb]; rfl
    have eb := argBest_congr (f := btK ps) (g := fun i j => (fun x y : α × κ => lk x.2 y.2) ((p :: z).getD i p) ((p :: z).getD j p)) (n := z.length) fun i j hi hj => by
      obtain ⟨a1, b1, _, f1, g1⟩ := gz i hi
      obtain ⟨a2, b2, _, f2, g2⟩ := gz j hj
      obtain ⟨q1, r1, s1⟩ := pz i b1 f1
      obtain ⟨q2, r2, s2⟩ := pz j b2 f2
      show PySem.W.dataLt (ps.getD i .none) (ps.getD j .none) = lk ((p :: z).getD i p).2 ((p :: z).getD j p).2
      rw [s1, s2, g1, g2]
      exact (h.al _ _ _ _ r1 r2).2.2
    rw [eb.1]
    have key := PySem.W.argBest_fold (fun x y : α × κ => lk x.2 y.2) p p z z.length (Nat.le_refl _)
    rw [List.take_length] at key
    obtain ⟨k1, k2⟩ := key
    generalize argBest (fun i j => (fun x y : α × κ => lk x.2 y.2) ((p :: z).getD i p) ((p :: z).getD j p)) z.length = m at k1 k2 ⊢
    obtain ⟨a, b, f1, f2, g⟩ := gz m k1
    rw [List.getElem?_map, f1]
    show some (ea a) = some (ea (minLt (fun x y => lk x.2 y.2) p z).1)
    rw [show minLt (fun x y : α × κ => lk x.2 y.2) p z = (p :: z).getD m p from k2.symm, g]
theorem rf_minKey {i : Nat} {k : α → Res κ} {l : List α} {d : D} (h : LtE n ek lk) (hd : d.items = some (l.map ea)) (ha : fa σ = .ok d) (hk : ∀ x, ∃ σ1, σ.set i (some (ea x)) = σ1 ∧ Rf ek (fe σ1) (k x)) (hn : n ≤ 60 := by decide) : Rf ea (eMinK i fa fe σ) (minKR lk k l) := by
  unfold eMinK minKR
  rw [ha]
  show Rf ea ((Res.of d.items).bind fun ds => (keysR fe σ i ds).nox.bind fun ks => .of (minKD ds ks)) _
  rw [hd]
  show Rf ea ((keysR fe σ i (l.map ea)).nox.bind fun ks => .of (minKD (l.map ea) ks)) _
  have km := keys_map (fe := fe) hk l
  cases e : keysT k l with
  | ok ks =>
    rw [e] at km
    rw [km.1]
    show Rf ea (Res.of (minKD (l.map ea) (ks.map ek))) (minKV lk (l.zip ks))
    have := minKD_map (ea := ea) h hn km.2
    cases e2 : minKV lk (l.zip ks) with
    | ok x => rw [e2] at this; exact ⟨by rw [show minKD (l.map ea) (ks.map ek) = some (ea x) from this]; rfl⟩
    | ex c => rw [e2] at this; exact this.elim
    | no => exact ⟨trivial⟩
  | ex c => exact ⟨trivial⟩
  | no => exact ⟨trivial⟩
theorem rf_minKey_l {i : Nat} {k : α → Res κ} {l : List α} (h : LtE n ek lk) (ha : fa σ = .ok (lE ea l)) (hk : ∀ x, ∃ σ1, σ.set i (some (ea x)) = σ1 ∧ Rf ek (fe σ1) (k x)) (hn : n ≤ 60 := by decide) : Rf ea (eMinK i fa fe σ) (minKR lk k l) := rf_minKey h rfl ha hk hn
theorem rf_minKey_t {i : Nat} {k : α → Res κ} {l : List α} (h : LtE n ek lk) (ha : fa σ = .ok (tE ea l)) (hk : ∀ x, ∃ σ1, σ.set i (some (ea x)) = σ1 ∧ Rf ek (fe σ1) (k x)) (hn : n ≤ 60 := by decide) : Rf ea (eMinK i fa fe σ) (minKR lk k l) := rf_minKey h rfl ha hk hn
/-! remove -/
def pyC (c : Cell) : PyData := .tuple [.int c.1, .int c.2]
theorem pys_cells : ∀ l : List Cell, D.pys (l.map cE2) = some (l.map pyC)
  | [] => rfl
  | c :: l => pys_consi rfl (pys_cells l)
theorem plain_cells : ∀ l : List Cell, PyData.plainAll (l.map pyC) = true
  | [] => rfl
  | c :: l => by
    show (true && PyData.plainAll (l.map pyC)) = true
    rw [plain_cells l]; rfl
theorem eqv_cells (a b : Cell) : PyData.eqv (pyC a) (pyC b) = decide (a = b) := (lt_cell.al a b _ _ rfl rfl).2.1
theorem eraseIdx_mapD (e : α → D) : ∀ (l : List α) (j : Nat), (l.map e).eraseIdx j = (l.eraseIdx j).map e
  | [], j => by simp
  | a :: r, 0 => by simp
  | a :: r, j + 1 => by
    have ih := eraseIdx_mapD e r j
    simp [ih]
theorem place_cells (x : Cell) : ∀ l : List Cell, match SeqAt.dataPlace (l.map pyC) (pyC x) with
    | some j => x ∈ l ∧ l.eraseIdx j = eraT l x
    | none => x ∉ l
  | [] => by simp [SeqAt.dataPlace]
  | c :: l => by
    have ih := place_cells x l
    unfold SeqAt.dataPlace at ih ⊢
    rw [List.map_cons, List.findIdx?_cons, eqv_cells]
    by_cases e : c = x
    · subst e
      simp
      show l = if c = c then l else c :: eraT l c
      rw [if_pos rfl]
    · rw [decide_eq_false e]
      cases h : List.findIdx? (fun y => PyData.eqv y (pyC x)) (l.map pyC) with
      | none =>
        rw [h] at ih
        simp only [Bool.false_eq_true, if_false, Option.map_none]
        rintro (_ | ⟨_, k⟩)
        · exact e rfl
        · exact ih k
      | some j =>
        rw [h] at ih
        simp only [Bool.false_eq_true, if_false, Option.map_some]
        refine ⟨List.mem_cons_of_mem _ ih.1, ?_⟩
        rw [List.eraseIdx_cons_succ, ih.2, show eraT (c :: l) x = c :: eraT l x from if_neg e]
theorem rt_remC {i : Nat} {l : List Cell} {t : Res Cell} {K : List Cell → Res X} (σ' : List Cell → Sl) (h0 : σ[i]? = some (some (.lst (l.map cE2)))) (hf : Rf cE2 (f σ) t) (hσ : ∀ m : List Cell, σ.set i (some (.lst (m.map cE2))) = σ' m) (h : ∀ m, RT r (σ' m) Po (K m)) : RT (sSeq (sRem i f) r) σ Po (t.bind fun x => (remR l x).bind K) := by
  refine rt_bind (e := cE2) (f := f) (k := fun d => match placeD (l.map cE2) d with
    | some j => r (σ.set i (some (.lst ((l.map cE2).eraseIdx j))))
    | none => .no) ?_ hf fun x => ?_
  · unfold sSeq sRem
    rw [h0]
    show ((f σ).bind _).bind _ = _
    cases f σ with
    | ok d =>
      show (match placeD (l.map cE2) d with | some j => Res.ok (Fl.nx (σ.set i (some (D.lst ((l.map cE2).eraseIdx j))))) | none => .no).bind _ = (match placeD (l.map cE2) d with
        | some j => r (σ.set i (some (.lst ((l.map cE2).eraseIdx j))))
        | none => .no)
      cases placeD (l.map cE2) d with
      | some j => rfl
      | none => rfl
    | ex c => rfl
    | no => rfl
  · have hp := place_cells x l
    have ep : placeD (l.map cE2) (cE2 x) = SeqAt.dataPlace (l.map pyC) (pyC x) := by
      unfold placeD
      rw [pys_cells, show (cE2 x).py = some (pyC x) from rfl]
      show (if (PyData.plainAll (l.map pyC) && (pyC x).plain && decide ((pyC x).depth ≤ 60)) = true then SeqAt.dataPlace (l.map pyC) (pyC x) else none) = _
      rw [plain_cells, if_pos (by rfl)]
    cases e : SeqAt.dataPlace (l.map pyC) (pyC x) with
    | some j =>
      rw [e] at hp
      rw [show remR l x = .ok (eraT l x) from by unfold remR; exact if_pos hp.1]
      refine RT.cg (s' := r) (σ' := σ' (eraT l x)) ?_ (h (eraT l x))
      show (match placeD (l.map cE2) (cE2 x) with | some j => r (σ.set i (some (.lst ((l.map cE2).eraseIdx j)))) | none => Res.no) = _
      rw [ep, e, ← hσ, ← hp.2]
      show r (σ.set i (some (.lst ((l.map cE2).eraseIdx j)))) = _
      rw [eraseIdx_mapD]
    | none =>
      rw [e] at hp
      rw [show remR l x = .no from by unfold remR; exact if_neg hp]
      exact .mk_no
theorem rf_step (l : List α) (k : Int) : Rf (lE ea) (Res.of (stepD (lE ea l) (iE k))) (stepR k l) := by
  unfold stepR
  show Rf (lE ea) (Res.of (if 0 < k then some (D.lst (stepL k (l.map ea))) else none)) _
  by_cases c : 0 < k
  · rw [if_pos c, if_pos c, stepL_map]; exact ⟨rfl⟩
  · rw [if_neg c, if_neg c]; exact ⟨trivial⟩
end
end PV
namespace PV
def Lk.is_inside (hall : Hl) (cell : Cell) : Res Bool :=
  (if ((decide (0 ≤ cell.1)) && (decide (cell.1 < (hall.1.length : Int)))) = true then (if (decide (0 ≤ cell.2)) = true then ((ixR hall.1 0).bind fun x1 => (txLen x1)).bind fun x2 => Res.ok (decide (cell.2 < x2)) else Res.ok false) else Res.ok false)
def Lk.need_cell (hall : Hl) (cell : Cell) : Res Unit :=
  (((Lk.is_inside hall cell).bind fun p => Res.ok (!p)).bind fun p1 => if p1 = true then (Res.ex "NoCell") else (Res.ok ()))
def Lk.sign_at (hall : Hl) (cell : Cell) : Res Tx :=
  ((Lk.need_cell hall cell).bind fun u2 => ((ixR hall.1 cell.1).bind fun x1 => (txIx x1 cell.2)))
def Lk.cells (hall : Hl) : Res (List Cell) :=
  ((Res.ok []).bind fun (found : (List Cell)) => (((rngR (hall.1.length : Int)).bind fun l5 => foldR (fun (row : Int) (found : (List Cell)) => (((((ixR hall.1 0).bind fun x1 => (txLen x1)).bind fun x2 => (rngR x2)).bind fun l3 => lcR l3 (fun column => Res.ok true) (fun column => Res.ok (row, column))).bind fun x4 => (addL found x4).bind fun (found : (List Cell)) => (Res.ok found))) l5 found).bind (fun (found : (List Cell)) => (Res.ok found))))
def Lk.floors (hall : Hl) : Res (List Cell) :=
  (((Lk.cells hall).bind fun l2 => lcR l2 (fun cell => ((Lk.sign_at hall cell).bind fun x1 => Res.ok (eqB x1 ['.']))) (fun cell => Res.ok cell)).bind fun x3 => Res.ok x3)
def Lk.changed (hall : Hl) (cell : Cell) (sign : Tx) : Res Hl :=
  ((Lk.need_cell hall cell).bind fun u9 => ((Res.ok cell).bind fun (y1 : Cell) => (((((ixR hall.1 y1.1).bind fun x2 => (txCut x2 none (some y1.2))).bind fun x3 => (addTx x3 sign)).bind fun x5 => (((ixR hall.1 y1.1).bind fun x4 => (txCut x4 (some (y1.2 + 1)) none)).bind fun x6 => (addTx x5 x6))).bind fun (line : Tx) => (((addL (cutZ hall.1 none (some y1.1)) [line]).bind fun x7 => (addL x7 (cutZ hall.1 (some (y1.1 + 1)) none))).bind fun x8 => Res.ok (x8, hall.2)))))
def Lk.l_cell_at (script : (List Int)) (k : Int) : Res Int :=
  (if (decide (k < (script.length : Int))) = true then (ixR script k) else (Res.ok 0))
def Lk.l_mixed (script : (List Int)) (k : Int) : Res Int :=
  ((((((Lk.l_cell_at script k).bind fun x1 => Res.ok (x1 + (7919 * k))).bind fun x2 => Res.ok (x2 + 1)).bind fun x3 => Res.ok (x3 * 48271)).bind fun x4 => Res.ok (x4 % 2147483647)).bind fun (drawn : Int) => ((((mulR drawn drawn).bind fun x5 => Res.ok (x5 + (7 * drawn))).bind fun x6 => Res.ok (x6 + k)).bind fun x7 => Res.ok (x7 % 2147483629)))
def Lk.l_drawn (number : Int) (k : Int) : Res Int :=
  ((Res.ok ((((number + (104729 * k)) + 17) * 69621) % 2147483647)).bind fun (drawn : Int) => ((((mulR drawn drawn).bind fun x1 => Res.ok (x1 + (3 * drawn))).bind fun x2 => Res.ok (x2 + k)).bind fun x3 => Res.ok (x3 % 2147483629)))
def Lk.l_hall (number : Int) (most : Int) : Res Hl :=
  (((modR number most).bind fun x1 => Res.ok (1 + x1)).bind fun (high : Int) => (((modR (number / 8) most).bind fun x2 => Res.ok (1 + x2)).bind fun (wide : Int) => ((ixR [['.', '.', '.', '.', '.', '#', '#', 'o'], ['.', '.', '.', '#', '#', '.', 'x', '.'], ['.', '.', '.', '.', '.', '.', '.', '#'], ['.', '#', '.', '#', '.', 'o', 'x', '.']] ((number / 64) % 4)).bind fun (signs : Tx) => ((Res.ok []).bind fun (rows : (List Tx)) => (((rngR high).bind fun l8 => foldR (fun (row : Int) (rows : (List Tx)) => ((Res.ok []).bind fun (line : Tx) => (((rngR wide).bind fun l7 => foldR (fun (column : Int) (line : Tx) => ((((((Lk.l_drawn number ((8 * row) + column)).bind fun x3 => Res.ok (x3 / 16)).bind fun x4 => Res.ok (x4 % 8)).bind fun x5 => (txIx signs x5)).bind fun x6 => (addTx line x6)).bind fun (line : Tx) => (Res.ok line))) l7 line).bind (fun (line : Tx) => ((addL rows [line]).bind fun (rows : (List Tx)) => (Res.ok rows)))))) l8 rows).bind (fun (rows : (List Tx)) => ((ixR [0, 0, 4, 9, 2, 1, 25] ((number / 512) % 7)).bind fun x9 => Res.ok (rows, x9))))))))
def Lk.l_floors (hall : Hl) : Res (List Cell) :=
  ((Res.ok []).bind fun (found : (List Cell)) => ((foldR (fun (z1 : (Int × Tx)) (found : (List Cell)) => (((lcR (enumZ (charsZ z1.2)) (fun z2 => Res.ok (eqB z2.2 ['.'])) (fun z2 => Res.ok (z1.1, z2.1))).bind fun x3 => (addL found x3)).bind fun (found : (List Cell)) => (Res.ok found))) (enumZ hall.1) found).bind (fun (found : (List Cell)) => (Res.ok found))))
def Lk.l_some (hall : Hl) (number : Int) : Res (List Cell) :=
  ((((Lk.l_floors hall).bind fun x1 => Res.ok (enumZ x1)).bind fun l6 => lcR l6 (fun z2 => ((((Lk.l_drawn number z2.1).bind fun x3 => Res.ok (x3 / 16)).bind fun x4 => Res.ok (x4 % 4)).bind fun x5 => Res.ok (eqB x5 0))) (fun z2 => Res.ok z2.2)).bind fun x7 => Res.ok x7)
def Lk.is_free (hall : Hl) (cell : Cell) : Res Bool :=
  (((ixR hall.1 cell.1).bind fun x1 => (txIx x1 cell.2)).bind fun x2 => Res.ok (!memB x2 [['#'], ['x']]))
def Lk.side_of (one : Cell) (other : Cell) (spot : Cell) : Res Int :=
  ((Res.ok (2 * (other.1 - one.1))).bind fun (high : Int) => ((Res.ok (2 * (other.2 - one.2))).bind fun (wide : Int) => ((mulR high ((spot.2 - (2 * one.2)) - 1)).bind fun x1 => ((mulR wide ((spot.1 - (2 * one.1)) - 1)).bind fun x2 => Res.ok (x1 - x2)))))
def Lk.is_crossed (one : Cell) (other : Cell) (cell : Cell) : Res Bool :=
  ((Res.ok cell).bind fun (y1 : Cell) => ((Res.ok [((2 * y1.1), (2 * y1.2)), ((2 * y1.1), ((2 * y1.2) + 2)), (((2 * y1.1) + 2), (2 * y1.2)), (((2 * y1.1) + 2), ((2 * y1.2) + 2))]).bind fun (spots : (List Cell)) => ((lcR spots (fun spot => Res.ok true) (fun spot => (Lk.side_of one other spot))).bind fun (sides : (List Int)) => ((minR sides).bind fun x3 => (if (decide (x3 < 0)) = true then (maxR sides).bind fun x2 => Res.ok (decide (0 < x2)) else Res.ok false)))))
def Lk.crossed (one : Cell) (other : Cell) : Res (List Cell) :=
  ((Res.ok []).bind fun (found : (List Cell)) => (((rngR2 (min one.1 other.1) ((max one.1 other.1) + 1)).bind fun l4 => foldR (fun (row : Int) (found : (List Cell)) => (((rngR2 (min one.2 other.2) ((max one.2 other.2) + 1)).bind fun l3 => foldR (fun (column : Int) (found : (List Cell)) => ((if (!memB (row, column) [one, other]) = true then (Lk.is_crossed one other (row, column)) else Res.ok false).bind fun p2 => if p2 = true then ((Res.ok (row, column)).bind fun x1 => (pushL found x1).bind fun (found : (List Cell)) => (Res.ok found)) else (Res.ok found))) l3 found).bind (fun (found : (List Cell)) => (Res.ok found)))) l4 found).bind (fun (found : (List Cell)) => (Res.ok found))))
def Lk.is_near (hall : Hl) (one : Cell) (other : Cell) : Res Bool :=
  ((Res.ok (one.1 - other.1)).bind fun (high : Int) => ((Res.ok (one.2 - other.2)).bind fun (wide : Int) => (if (eqB hall.2 0) = true then Res.ok true else (((mulR high high).bind fun x1 => ((mulR wide wide).bind fun x2 => Res.ok (x1 + x2))).bind fun x3 => Res.ok (decide (x3 ≤ hall.2))))))
def Lk.sees (hall : Hl) (one : Cell) (other : Cell) : Res Bool :=
  ((Lk.need_cell hall one).bind fun u7 => ((Lk.need_cell hall other).bind fun u6 => ((((Lk.is_free hall one).bind fun p => Res.ok (!p)).bind fun p2 => if p2 = true then Res.ok true else (((Lk.is_free hall other).bind fun p => Res.ok (!p)).bind fun p1 => if p1 = true then Res.ok true else ((Lk.is_near hall one other).bind fun p => Res.ok (!p)))).bind fun p5 => if p5 = true then (Res.ok false) else (((Lk.crossed one other).bind fun l3 => lcR l3 (fun cell => Res.ok true) (fun cell => (Lk.is_free hall cell))).bind fun x4 => Res.ok (x4.all fun b => b)))))
def Lk.seen (hall : Hl) (cell : Cell) : Res (List Cell) :=
  ((Lk.need_cell hall cell).bind fun u3 => (((Lk.floors hall).bind fun l1 => lcR l1 (fun other => (Lk.sees hall cell other)) (fun other => Res.ok other)).bind fun x2 => Res.ok x2))
def Lk.l_in (one : Cell) (other : Cell) (low : Int) (high : Int) (at' : Int) : Res (Option (List Cell)) :=
  ((((ixR [one.1, one.2] at').bind fun x1 => Res.ok (2 * x1)).bind fun x2 => Res.ok (x2 + 1)).bind fun (begin : Int) => ((((ixR [other.1, other.2] at').bind fun x3 => ((ixR [one.1, one.2] at').bind fun x4 => Res.ok (x3 - x4))).bind fun x5 => Res.ok (2 * x5)).bind fun (step : Int) => (if (eqB step 0) = true then (ixR [none, (some [(0, 1), (1, 1)])] (if ((decide (low < begin)) && (decide (begin < high))) = true then 1 else 0)) else ((((mulR (low - begin) step).bind fun x6 => ((mulR (high - begin) step).bind fun x7 => Res.ok [x6, x7])).bind fun x8 => Res.ok (sortI x8)).bind fun (some' : (List Int)) => ((((ixR some' 0).bind fun x9 => ((mulR step step).bind fun x10 => Res.ok (x9, x10))).bind fun x13 => (((ixR some' 1).bind fun x11 => ((mulR step step).bind fun x12 => Res.ok (x11, x12))).bind fun x14 => Res.ok [x13, x14])).bind fun x => Res.ok (some x))))))
def Lk.l_crosses (one : Cell) (other : Cell) (cell : Cell) : Res Bool :=
  ((Res.ok [[(0, 1), (1, 1)]]).bind fun (spans : (List (List Cell))) => (bindS (foldS (fun (at' : Int) (spans : (List (List Cell))) => ((((ixR [cell.1, cell.2] at').bind fun x1 => Res.ok (2 * x1)).bind fun x4 => ((((ixR [cell.1, cell.2] at').bind fun x2 => Res.ok (2 * x2)).bind fun x3 => Res.ok (x3 + 2)).bind fun x5 => (Lk.l_in one other x4 x5 at'))).bind fun (span : (Option (List Cell))) => (if (span.isNone) = true then ((Res.ok false).bind fun r6 => Res.ok (Stp.rt r6)) else ((optR span).bind fun x7 => (pushL spans x7).bind fun (spans : (List (List Cell))) => (Res.ok (Stp.nx spans)))))) [0, 1] spans) (fun r => r) (fun (spans : (List (List Cell))) => (bindS (foldS (fun (here : (List Cell)) (y8 : Unit) => (bindS (foldS (fun (there : (List Cell)) (y9 : Unit) => (((ixR here 0).bind fun x15 => ((ixR there 1).bind fun x16 => (Res.ok (x15, x16)))).bind fun (y10 : (Cell × Cell)) => (((mulR y10.1.1 y10.2.2).bind fun x11 => ((mulR y10.2.1 y10.1.2).bind fun x12 => Res.ok (decide (x12 ≤ x11)))).bind fun p14 => if p14 = true then ((Res.ok false).bind fun r13 => Res.ok (Stp.rt r13)) else (Res.ok (Stp.nx ()))))) spans ()) Stp.rt (fun (y9 : Unit) => (Res.ok (Stp.nx ()))))) spans ()) (fun r => r) (fun (y8 : Unit) => (Res.ok true))))))
def Lk.l_sees (hall : Hl) (one : Cell) (other : Cell) : Res Bool :=
  ((Res.ok hall).bind fun (y1 : Hl) => (((((ixR y1.1 one.1).bind fun x4 => (txIx x4 one.2)).bind fun x5 => (signIn x5 ['#', 'x'])).bind fun p6 => if p6 = true then Res.ok true else (((ixR y1.1 other.1).bind fun x2 => (txIx x2 other.2)).bind fun x3 => (signIn x3 ['#', 'x']))).bind fun p23 => if p23 = true then (Res.ok false) else ((Res.ok ((one.1 - other.1), (one.2 - other.2))).bind fun (y7 : (Int × Int)) => ((if (decide (0 < y1.2)) = true then (((mulR y7.1 y7.1).bind fun x8 => ((mulR y7.2 y7.2).bind fun x9 => Res.ok (x8 + x9))).bind fun x10 => Res.ok (decide (y1.2 < x10))) else Res.ok false).bind fun p22 => if p22 = true then (Res.ok false) else (bindS ((rngR (y1.1.length : Int)).bind fun l21 => foldS (fun (row : Int) (y11 : Unit) => (bindS ((((ixR y1.1 0).bind fun x12 => (txLen x12)).bind fun x13 => (rngR x13)).bind fun l20 => foldS (fun (column : Int) (y14 : Unit) => (((((ixR y1.1 row).bind fun x15 => (txIx x15 column)).bind fun x16 => (signIn x16 ['#', 'x'])).bind fun p17 => if p17 = true then (Lk.l_crosses one other (row, column)) else Res.ok false).bind fun p19 => if p19 = true then ((Res.ok false).bind fun r18 => Res.ok (Stp.rt r18)) else (Res.ok (Stp.nx ())))) l20 ()) Stp.rt (fun (y14 : Unit) => (Res.ok (Stp.nx ()))))) l21 ()) (fun r => r) (fun (y11 : Unit) => (Res.ok true)))))))
def Lk.l_seen (hall : Hl) (cell : Cell) : Res (List Cell) :=
  ((Lk.l_floors hall).bind fun l1 => lcR l1 (fun other => (Lk.l_sees hall cell other)) (fun other => Res.ok other))
def Lk.law_k10 (script : (List Int)) : Res Bool :=
  (((Lk.l_mixed script 0).bind fun x1 => (Lk.l_hall x1 8)).bind fun (hall : Hl) => ((Res.ok hall.1).bind fun (rows : (List Tx)) => ((Lk.l_mixed script 1).bind fun (number : Int) => (((modR number (rows.length : Int)).bind fun x4 => ((((ixR rows 0).bind fun x2 => (txLen x2)).bind fun x3 => (modR (number / 16) x3)).bind fun x5 => Res.ok (x4, x5))).bind fun (one : Cell) => (bindS (((modR (number / 256) (rows.length : Int)).bind fun x6 => ((modR (number / 4096) (rows.length : Int)).bind fun x7 => Res.ok [x6, x7])).bind fun l27 => foldS (fun (row : Int) (y8 : Unit) => (bindS ((((ixR rows 0).bind fun x9 => (txLen x9)).bind fun x10 => (rngR x10)).bind fun l26 => foldS (fun (column : Int) (y11 : Unit) => ((Res.ok (row, column)).bind fun (other : Cell) => ((Res.ok []).bind fun (due : (List Cell)) => (((rngR (rows.length : Int)).bind fun l17 => foldR (fun (high : Int) (due : (List Cell)) => (((((ixR rows 0).bind fun x12 => (txLen x12)).bind fun x13 => (rngR x13)).bind fun l16 => foldR (fun (wide : Int) (due : (List Cell)) => ((if (!memB (high, wide) [one, other]) = true then (Lk.l_crosses one other (high, wide)) else Res.ok false).bind fun p15 => if p15 = true then ((Res.ok (high, wide)).bind fun x14 => (pushL due x14).bind fun (due : (List Cell)) => (Res.ok due)) else (Res.ok due))) l16 due).bind (fun (due : (List Cell)) => (Res.ok due)))) l17 due).bind (fun (due : (List Cell)) => (((Lk.crossed one other).bind fun x18 => Res.ok (!eqB x18 due)).bind fun p25 => if p25 = true then ((Res.ok false).bind fun r19 => Res.ok (Stp.rt r19)) else ((Lk.sees hall one other).bind fun (got : Bool) => ((if (!true) = true then Res.ok true else (((Lk.l_sees hall one other).bind fun x21 => Res.ok (!eqB got x21)).bind fun p22 => if p22 = true then Res.ok true else ((Lk.sees hall other one).bind fun x20 => Res.ok (!eqB x20 got)))).bind fun p24 => if p24 = true then ((Res.ok false).bind fun r23 => Res.ok (Stp.rt r23)) else (Res.ok (Stp.nx ())))))))))) l26 ()) Stp.rt (fun (y11 : Unit) => (Res.ok (Stp.nx ()))))) l27 ()) (fun r => r) (fun (y8 : Unit) => (((Lk.seen hall one).bind fun x29 => (((Lk.l_seen hall one).bind fun x28 => Res.ok x28).bind fun x30 => Res.ok (!eqB x29 x30))).bind fun p40 => if p40 = true then (Res.ok false) else ((((((ixR rows 0).bind fun x31 => (txLen x31)).bind fun x32 => Res.ok (0, x32)).bind fun x33 => Res.ok [((rows.length : Int), 0), x33, ((-1), 0), (0, (-1))]).bind fun x34 => (ixR x34 ((number / 65536) % 4))).bind fun (beyond : Cell) => (((toldR (Lk.sees hall one beyond)).bind fun x35 => Res.ok (!eqB x35 (.ref 0))).bind fun p39 => if p39 = true then (Res.ok false) else (((toldR (Lk.sees hall beyond one)).bind fun x36 => Res.ok (!eqB x36 (.ref 0))).bind fun p38 => if p38 = true then (Res.ok false) else ((toldR (Lk.seen hall beyond)).bind fun x37 => Res.ok (eqB x37 (.ref 0)))))))))))))
def Lk.l_hides_nothing (hall : Hl) (cell : Cell) (places : (List Cell)) (sign : Tx) : Res Bool :=
  ((Res.ok hall).bind fun (y1 : Hl) => ((Lk.changed hall cell ['o']).bind fun (opened : Hl) => (((ixR [(y1.2 + 7), 0] (if ((eqB y1.2 0) || (decide (90 < y1.2))) = true then 1 else 0)).bind fun x2 => Res.ok (y1.1, x2)).bind fun (farther : Hl) => (bindS (foldS (fun (place : Cell) (y3 : Unit) => ((Lk.seen hall place).bind fun (some' : (List Cell)) => (((lcR some' (fun spot => (((Lk.seen opened place).bind fun x4 => Res.ok (!memB spot x4)).bind fun p5 => if p5 = true then (Res.ok (!eqB spot cell)) else Res.ok false)) (fun spot => Res.ok spot)).bind fun x6 => Res.ok (!eqB x6 [])).bind fun p18 => if p18 = true then ((Res.ok false).bind fun r7 => Res.ok (Stp.rt r7)) else (((lcR some' (fun spot => ((Lk.seen farther place).bind fun x8 => Res.ok (!memB spot x8))) (fun spot => Res.ok spot)).bind fun x9 => Res.ok (!eqB x9 [])).bind fun p17 => if p17 = true then ((Res.ok false).bind fun r10 => Res.ok (Stp.rt r10)) else ((Lk.changed hall cell sign).bind fun (shut : Hl) => (((((Lk.seen shut place).bind fun l12 => lcR l12 (fun spot => Res.ok (!memB spot some')) (fun spot => Res.ok spot)).bind fun x13 => Res.ok (!eqB x13 [])).bind fun p14 => if p14 = true then Res.ok true else ((Lk.seen shut place).bind fun x11 => Res.ok (memB cell x11))).bind fun p16 => if p16 = true then ((Res.ok false).bind fun r15 => Res.ok (Stp.rt r15)) else (Res.ok (Stp.nx ())))))))) places ()) (fun r => r) (fun (y3 : Unit) => (Res.ok true))))))
def Lk.law_k11 (script : (List Int)) : Res Bool :=
  (((Lk.l_mixed script 0).bind fun x1 => (Lk.l_hall x1 8)).bind fun (hall : Hl) => ((Res.ok hall).bind fun (y2 : Hl) => ((Lk.l_mixed script 1).bind fun (number : Int) => (((modR number (y2.1.length : Int)).bind fun x5 => ((((ixR y2.1 0).bind fun x3 => (txLen x3)).bind fun x4 => (modR (number / 16) x4)).bind fun x6 => Res.ok (x5, x6))).bind fun (one : Cell) => (((modR (number / 256) (y2.1.length : Int)).bind fun x9 => ((((ixR y2.1 0).bind fun x7 => (txLen x7)).bind fun x8 => (modR (number / 4096) x8)).bind fun x10 => Res.ok (x9, x10))).bind fun (other : Cell) => ((lcR [one, other] (fun cell => Res.ok true) (fun cell => ((Lk.sign_at hall cell).bind fun x11 => Res.ok (memB x11 [['.'], ['o']])))).bind fun (free : (List Bool)) => ((((Lk.sees hall one one).bind fun x14 => ((ixR free 0).bind fun x15 => Res.ok (!eqB x14 x15))).bind fun p16 => if p16 = true then Res.ok true else ((Lk.sees hall one other).bind fun x12 => ((Lk.sees hall other one).bind fun x13 => Res.ok (!eqB x12 x13)))).bind fun p54 => if p54 = true then (Res.ok false) else (((Lk.sees hall one other).bind fun p17 => if p17 = true then (Res.ok (!eqB free [true, true])) else Res.ok false).bind fun p53 => if p53 = true then (Res.ok false) else (((mulR (one.1 - other.1) (one.1 - other.1)).bind fun x18 => ((mulR (one.2 - other.2) (one.2 - other.2)).bind fun x19 => Res.ok (x18 + x19))).bind fun (near : Int) => ((Res.ok (eqB free [true, true])).bind fun (both : Bool) => ((if (decide (near < 3)) = true then ((Lk.sees hall one other).bind fun x20 => Res.ok (!eqB x20 (both && ((eqB y2.2 0) || (decide (near ≤ y2.2)))))) else Res.ok false).bind fun p52 => if p52 = true then (Res.ok false) else ((((Lk.crossed one other).bind fun x24 => ((Lk.crossed other one).bind fun x25 => Res.ok (!eqB x24 x25))).bind fun p26 => if p26 = true then Res.ok true else (((Lk.crossed one other).bind fun x22 => Res.ok (memB one x22)).bind fun p23 => if p23 = true then Res.ok true else ((Lk.crossed one one).bind fun x21 => Res.ok (!eqB x21 [])))).bind fun p51 => if p51 = true then (Res.ok false) else ((Res.ok (((number / 65536) % 5), ((number / 524288) % 5))).bind fun (by' : Cell) => ((((Lk.crossed one other).bind fun l27 => lcR l27 (fun cell => Res.ok true) (fun cell => Res.ok ((cell.1 + by'.1), (cell.2 + by'.2)))).bind fun x28 => Res.ok x28).bind fun (there : (List Cell)) => (((Lk.crossed ((one.1 + by'.1), (one.2 + by'.2)) ((other.1 + by'.1), (other.2 + by'.2))).bind fun x29 => Res.ok (!eqB x29 there)).bind fun p50 => if p50 = true then (Res.ok false) else (bindS (if (eqB one.1 other.1) = true then ((Res.ok (sortI [one.2, other.2])).bind fun y31 => (take2 y31).bind fun (y32 : (Int × Int)) => (((Lk.crossed one other).bind fun x35 => ((((rngR2 (y32.1 + 1) y32.2).bind fun l33 => lcR l33 (fun column => Res.ok true) (fun column => Res.ok (one.1, column))).bind fun x34 => Res.ok x34).bind fun x36 => Res.ok (!eqB x35 x36))).bind fun p38 => if p38 = true then ((Res.ok false).bind fun r37 => Res.ok (Stp.rt r37)) else (Res.ok (Stp.nx ())))) else (Res.ok (Stp.nx ()))) (fun r => r) (fun (y30 : Unit) => ((((Lk.l_mixed script 2).bind fun x39 => (modR x39 (y2.1.length : Int))).bind fun x43 => (((Lk.l_mixed script 3).bind fun x41 => (((ixR y2.1 0).bind fun x40 => (txLen x40)).bind fun x42 => (modR x41 x42))).bind fun x44 => Res.ok (x43, x44))).bind fun (cell : Cell) => ((((ixR [['x'], ['#']] (number % 2)).bind fun x45 => (Lk.l_hides_nothing hall cell [one, other] x45)).bind fun p => Res.ok (!p)).bind fun p49 => if p49 = true then (Res.ok false) else (((Lk.crossed one other).bind fun l47 => lcR l47 (fun spot => ((Lk.sign_at hall spot).bind fun x46 => Res.ok (memB x46 [['x'], ['#']]))) (fun spot => Res.ok spot)).bind fun (blocked : (List Cell)) => ((Res.ok (y2.1, 0)).bind fun (wide : Hl) => ((Lk.sees wide one other).bind fun x48 => Res.ok (eqB x48 ((eqB blocked []) && (eqB free [true, true])))))))))))))))))))))))))
def Lk.views (hall : Hl) : Res (List (Cell × (List Cell))) :=
  (((Lk.floors hall).bind fun l2 => lcR l2 (fun cell => Res.ok true) (fun cell => ((Lk.seen hall cell).bind fun x1 => Res.ok (cell, x1)))).bind fun x3 => Res.ok (dictZ x3))
def Lk.covered_by (view : (List (Cell × (List Cell)))) (lookers : (List Cell)) : Res (List Cell) :=
  ((Res.ok []).bind fun (found : (List (Cell × Bool))) => ((foldR (fun (looker : Cell) (found : (List (Cell × Bool))) => (((getK view looker).bind fun l3 => foldR (fun (cell : Cell) (found : (List (Cell × Bool))) => ((Res.ok true).bind fun x1 => (Res.ok cell).bind fun x2 => (putR found x2 x1).bind fun (found : (List (Cell × Bool))) => (Res.ok found))) l3 found).bind (fun (found : (List (Cell × Bool))) => (Res.ok found)))) lookers found).bind (fun (found : (List (Cell × Bool))) => (Res.ok (sortC (keysZ found))))))
def Lk.covered (hall : Hl) (lookers : (List Cell)) : Res (List Cell) :=
  ((Lk.views hall).bind fun x1 => (Lk.covered_by x1 lookers))
def Lk.unseen (hall : Hl) (lookers : (List Cell)) : Res (List Cell) :=
  ((Lk.covered hall lookers).bind fun (some' : (List Cell)) => (((Lk.floors hall).bind fun l1 => lcR l1 (fun cell => Res.ok (!memB cell some')) (fun cell => Res.ok cell)).bind fun x2 => Res.ok x2))
def Lk.without (lookers : (List Cell)) (one : Cell) : Res (List Cell) :=
  ((lcR lookers (fun other => Res.ok (!eqB other one)) (fun other => Res.ok other)).bind fun x1 => Res.ok x1)
def Lk.needless (hall : Hl) (lookers : (List Cell)) : Res (List Cell) :=
  ((Lk.views hall).bind fun (view : (List (Cell × (List Cell)))) => ((Lk.covered_by view lookers).bind fun (whole : (List Cell)) => ((lcR lookers (fun one => (((Lk.without lookers one).bind fun x1 => (Lk.covered_by view x1)).bind fun x2 => Res.ok (eqB x2 whole))) (fun one => Res.ok one)).bind fun x3 => Res.ok x3)))
def Lk.thinned (hall : Hl) (lookers : (List Cell)) : Res (List Cell) :=
  ((Lk.views hall).bind fun (view : (List (Cell × (List Cell)))) => ((Res.ok lookers).bind fun (found : (List Cell)) => ((foldR (fun (one : Cell) (found : (List Cell)) => ((((Lk.without found one).bind fun x1 => (Lk.covered_by view x1)).bind fun x2 => ((Lk.covered_by view found).bind fun x3 => Res.ok (eqB x2 x3))).bind fun p4 => if p4 = true then ((Lk.without found one).bind fun (found : (List Cell)) => (Res.ok found)) else (Res.ok found))) lookers.reverse found).bind (fun (found : (List Cell)) => (Res.ok found)))))
def Lk.grown (hall : Hl) (lookers : (List Cell)) : Res (List Cell) :=
  ((Lk.views hall).bind fun (view : (List (Cell × (List Cell)))) => ((Res.ok lookers).bind fun (found : (List Cell)) => (((Lk.floors hall).bind fun l2 => lcR l2 (fun cell => ((Lk.covered_by view lookers).bind fun x1 => Res.ok (!memB cell x1))) (fun cell => Res.ok cell)).bind fun (left : (List Cell)) => ((whileR (fun (y3 : ((List Cell) × (List Cell))) => Res.ok (decide (0 < (y3.2.length : Int)))) (fun (y3 : ((List Cell) × (List Cell))) => ((Res.ok none).bind fun (best : (Option (Int × Cell))) => (((Lk.floors hall).bind fun l9 => foldR (fun (cell : Cell) (best : (Option (Int × Cell))) => ((((getK view cell).bind fun l4 => lcR l4 (fun other => Res.ok (memB other y3.2)) (fun other => Res.ok other)).bind fun x5 => Res.ok (x5.length : Int)).bind fun (many : Int) => ((if (best.isNone) = true then Res.ok true else (((optR best).bind fun x6 => Res.ok x6.1).bind fun x7 => Res.ok (decide (x7 < many)))).bind fun p8 => if p8 = true then ((Res.ok (some (many, cell))).bind fun (best : (Option (Int × Cell))) => (Res.ok best)) else (Res.ok best)))) l9 best).bind (fun (best : (Option (Int × Cell))) => (((((optR best).bind fun x10 => Res.ok x10.2).bind fun x11 => Res.ok [x11]).bind fun x12 => (addL y3.1 x12)).bind fun (found : (List Cell)) => ((lcR y3.2 (fun cell => ((((optR best).bind fun x13 => Res.ok x13.2).bind fun x14 => (getK view x14)).bind fun x15 => Res.ok (!memB cell x15))) (fun cell => Res.ok cell)).bind fun (left : (List Cell)) => (Res.ok (found, left)))))))) 200 (found, left)).bind (fun (y3 : ((List Cell) × (List Cell))) => (Res.ok y3.1))))))
def Lk.stepwise (hall : Hl) : Res (List Cell) :=
  (Lk.grown hall [])
def Lk.l_all (sights : (List (Cell × (List Cell)))) (some' : (List Cell)) : Res (List Cell) :=
  ((Res.ok []).bind fun (found : (List Cell)) => ((foldR (fun (one : Cell) (found : (List Cell)) => (((getK sights one).bind fun x1 => (addL found x1)).bind fun (found : (List Cell)) => (Res.ok found))) some' found).bind (fun (found : (List Cell)) => (setSortR found))))
def Lk.law_k12 (script : (List Int)) : Res Bool :=
  (((Lk.l_mixed script 0).bind fun x1 => (Lk.l_hall x1 5)).bind fun (hall : Hl) => ((Lk.l_floors hall).bind fun (floor_ones : (List Cell)) => (((lcR floor_ones (fun cell => Res.ok true) (fun cell => ((Lk.l_seen hall cell).bind fun x2 => Res.ok (cell, x2)))).bind fun x3 => Res.ok (dictZ x3)).bind fun (sights : (List (Cell × (List Cell)))) => (((Lk.l_mixed script 1).bind fun x4 => (Lk.l_some hall x4)).bind fun (some' : (List Cell)) => ((Lk.l_all sights some').bind fun (whole : (List Cell)) => (((lcR floor_ones (fun cell => Res.ok (!memB cell whole)) (fun cell => Res.ok cell)).bind fun x5 => Res.ok x5).bind fun (rest : (List Cell)) => ((((Lk.covered hall some').bind fun x7 => Res.ok (!eqB x7 whole)).bind fun p8 => if p8 = true then Res.ok true else ((Lk.unseen hall some').bind fun x6 => Res.ok (!eqB x6 rest))).bind fun p28 => if p28 = true then (Res.ok false) else ((Res.ok []).bind fun (due : (List Cell)) => ((foldR (fun (one : Cell) (due : (List Cell)) => ((lcR some' (fun other => Res.ok (!eqB other one)) (fun other => Res.ok other)).bind fun (others : (List Cell)) => ((((((Lk.l_all sights others).bind fun x9 => Res.ok (eqB x9 whole)).bind fun x10 => Res.ok (if x10 = true then 1 else 0)).bind fun x11 => (repL [one] x11)).bind fun x12 => (addL due x12)).bind fun (due : (List Cell)) => (Res.ok due)))) some' due).bind (fun (due : (List Cell)) => (((Lk.needless hall some').bind fun x13 => Res.ok (!eqB x13 due)).bind fun p27 => if p27 = true then (Res.ok false) else ((Res.ok some').bind fun (left : (List Cell)) => ((foldR (fun (one : Cell) (left : (List Cell)) => ((lcR left (fun other => Res.ok (!eqB other one)) (fun other => Res.ok other)).bind fun (rest : (List Cell)) => (((Lk.l_all sights rest).bind fun x14 => ((Lk.l_all sights left).bind fun x15 => Res.ok (eqB x14 x15))).bind fun p16 => if p16 = true then ((Res.ok rest).bind fun (left : (List Cell)) => (Res.ok left)) else (Res.ok left)))) some'.reverse left).bind (fun (left : (List Cell)) => (((Lk.thinned hall some').bind fun x17 => Res.ok (!eqB x17 left)).bind fun p26 => if p26 = true then (Res.ok false) else ((Res.ok floor_ones).bind fun (dark : (List Cell)) => ((Res.ok []).bind fun (found : (List Cell)) => ((whileR (fun (y18 : ((List Cell) × (List Cell))) => Res.ok (!eqB y18.1 [])) (fun (y18 : ((List Cell) × (List Cell))) => ((lcR floor_ones (fun place => Res.ok true) (fun place => (((((getK sights place).bind fun l19 => lcR l19 (fun cell => Res.ok (memB cell y18.1)) (fun cell => Res.ok cell)).bind fun x20 => Res.ok (x20.length : Int)).bind fun x21 => Res.ok (0 - x21)).bind fun x22 => Res.ok (x22, place)))).bind fun (ranks : (List (Int × Cell))) => (((minLtR (lex2 ltZ lexZ) ranks).bind fun x23 => Res.ok x23.2).bind fun (place : Cell) => ((addL y18.2 [place]).bind fun (found : (List Cell)) => ((lcR y18.1 (fun cell => ((getK sights place).bind fun x24 => Res.ok (!memB cell x24))) (fun cell => Res.ok cell)).bind fun (dark : (List Cell)) => (Res.ok (dark, found))))))) 200 (dark, found)).bind (fun (y18 : ((List Cell) × (List Cell))) => ((Lk.stepwise hall).bind fun x25 => Res.ok (eqB x25 y18.2)))))))))))))))))))))
def Lk.is_whole_t (thing : Int) (low : Int) (high : Int) : Res Bool :=
  (Res.ok (true && ((!false) && ((decide (low ≤ thing)) && (decide (thing ≤ high))))))
def Lk.is_cell_t (thing : Cell) : Res Bool :=
  (if ((!true) || (!eqB (2 : Int) 2)) = true then (Res.ok false) else ((Lk.is_whole_t thing.1 0 (8)).bind fun p1 => if p1 = true then (Lk.is_whole_t thing.2 0 (8)) else Res.ok false))
def Lk.are_lookers_t (hall : Hl) (thing : (List Cell)) : Res Bool :=
  ((if (!true) = true then Res.ok true else (((lcR thing (fun part => Res.ok true) (fun part => (Lk.is_cell_t part))).bind fun x1 => Res.ok (x1.all fun b => b)).bind fun p => Res.ok (!p))).bind fun p7 => if p7 = true then (Res.ok false) else ((((lcR thing (fun part => Res.ok true) (fun part => ((Lk.floors hall).bind fun x2 => Res.ok (memB part x2)))).bind fun x3 => Res.ok (x3.all fun b => b)).bind fun p => Res.ok (!p)).bind fun p6 => if p6 = true then (Res.ok false) else ((lcR ((cutZ thing none (some (-1))).zip (cutZ thing (some 1) none)) (fun z4 => Res.ok true) (fun z4 => Res.ok (lexZ z4.1 z4.2))).bind fun x5 => Res.ok (x5.all fun b => b))))
def Lk.law_k13 (script : (List Int)) : Res Bool :=
  (((Lk.l_mixed script 0).bind fun x3 => ((((Lk.l_mixed script 3).bind fun x1 => Res.ok (x1 % 3)).bind fun x2 => (ixR [3, 4, 5] x2)).bind fun x4 => (Lk.l_hall x3 x4))).bind fun (hall : Hl) => (((Lk.l_mixed script 1).bind fun x5 => (Lk.l_some hall x5)).bind fun (some' : (List Cell)) => ((((((Lk.l_mixed script 2).bind fun x6 => (Lk.l_some hall x6)).bind fun x7 => (addL some' x7)).bind fun x8 => (setSortR x8)).bind fun x9 => Res.ok x9).bind fun (more : (List Cell)) => ((Lk.covered hall some').bind fun (here : (List Cell)) => (((lcR here (fun cell => ((Lk.covered hall more).bind fun x10 => Res.ok (!memB cell x10))) (fun cell => Res.ok cell)).bind fun x11 => Res.ok (!eqB x11 [])).bind fun p54 => if p54 = true then (Res.ok false) else (((lcR some' (fun cell => Res.ok (!memB cell here)) (fun cell => Res.ok cell)).bind fun x12 => Res.ok (!eqB x12 [])).bind fun p53 => if p53 = true then (Res.ok false) else ((((((Lk.unseen hall some').bind fun x14 => (addL here x14)).bind fun x15 => Res.ok (sortC x15)).bind fun x17 => (((Lk.floors hall).bind fun x16 => Res.ok x16).bind fun x18 => Res.ok (!eqB x17 x18))).bind fun p19 => if p19 = true then Res.ok true else ((Lk.covered hall []).bind fun x13 => Res.ok (!eqB x13 []))).bind fun p52 => if p52 = true then (Res.ok false) else ((Lk.thinned hall some').bind fun (few : (List Cell)) => ((((Lk.covered hall few).bind fun x22 => Res.ok (!eqB x22 here)).bind fun p23 => if p23 = true then Res.ok true else (((Lk.needless hall few).bind fun x20 => Res.ok (!eqB x20 [])).bind fun p21 => if p21 = true then Res.ok true else ((Lk.are_lookers_t hall few).bind fun p => Res.ok (!p)))).bind fun p51 => if p51 = true then (Res.ok false) else ((((lcR few (fun cell => Res.ok (!memB cell some')) (fun cell => Res.ok cell)).bind fun x25 => Res.ok (!eqB x25 [])).bind fun p26 => if p26 = true then Res.ok true else ((Lk.thinned hall few).bind fun x24 => Res.ok (!eqB x24 few))).bind fun p50 => if p50 = true then (Res.ok false) else ((((Lk.needless hall some').bind fun x27 => Res.ok (eqB x27 [])).bind fun x28 => Res.ok (!eqB x28 (eqB few some'))).bind fun p49 => if p49 = true then (Res.ok false) else (bindS (foldS (fun (one : Cell) (y29 : Unit) => ((((lcR some' (fun other => Res.ok (!eqB other one)) (fun other => Res.ok other)).bind fun x30 => Res.ok x30).bind fun x31 => (Lk.covered hall x31)).bind fun (rest : (List Cell)) => ((((Lk.needless hall some').bind fun x32 => Res.ok (memB one x32)).bind fun x35 => ((((Lk.seen hall one).bind fun l33 => lcR l33 (fun cell => Res.ok (!memB cell rest)) (fun cell => Res.ok cell)).bind fun x34 => Res.ok (eqB x34 [])).bind fun x36 => Res.ok (!eqB x35 x36))).bind fun p38 => if p38 = true then ((Res.ok false).bind fun r37 => Res.ok (Stp.rt r37)) else (Res.ok (Stp.nx ()))))) some' ()) (fun r => r) (fun (y29 : Unit) => ((Lk.stepwise hall).bind fun (found : (List Cell)) => ((((Lk.unseen hall (sortC found)).bind fun x40 => Res.ok (!eqB x40 [])).bind fun p41 => if p41 = true then Res.ok true else ((setLenR found).bind fun x39 => Res.ok (!eqB x39 (found.length : Int)))).bind fun p48 => if p48 = true then (Res.ok false) else ((Res.ok (-1)).bind fun (last : Int) => (bindS (foldS (fun (z42 : (Int × Cell)) (last : Int) => ((((Lk.covered hall (sortC (cutZ found none (some (z42.1 + 1))))).bind fun x43 => Res.ok (x43.length : Int)).bind fun x45 => (((Lk.covered hall (sortC (cutZ found none (some z42.1)))).bind fun x44 => Res.ok (x44.length : Int)).bind fun x46 => Res.ok (x45 - x46))).bind fun (new : Int) => (if ((decide (new < 1)) || ((decide (0 < z42.1)) && (decide (last < new)))) = true then ((Res.ok false).bind fun r47 => Res.ok (Stp.rt r47)) else ((Res.ok new).bind fun (last : Int) => (Res.ok (Stp.nx last)))))) (enumZ found) last) (fun r => r) (fun (last : Int) => (Res.ok true)))))))))))))))))))
def Lk.l_cells (hall : Hl) : Res (List Cell) :=
  ((Res.ok []).bind fun (found : (List Cell)) => (((rngR (hall.1.length : Int)).bind fun l5 => foldR (fun (row : Int) (found : (List Cell)) => ((((((ixR hall.1 0).bind fun x1 => (txLen x1)).bind fun x2 => (rngR x2)).bind fun l3 => lcR l3 (fun column => Res.ok true) (fun column => Res.ok (row, column))).bind fun x4 => (addL found x4)).bind fun (found : (List Cell)) => (Res.ok found))) l5 found).bind (fun (found : (List Cell)) => (Res.ok found))))
def Lk.law_k14 (script : (List Int)) : Res Bool :=
  (((Lk.l_mixed script 0).bind fun x1 => (Lk.l_hall x1 7)).bind fun (hall : Hl) => ((Lk.l_mixed script 1).bind fun (number : Int) => ((((ixR hall.1 0).bind fun x2 => (txLen x2)).bind fun x26 => (Res.ok ((hall.1.length : Int), x26))).bind fun (y3 : (Int × Int)) => (((modR number y3.1).bind fun x4 => ((modR (number / 8) y3.2).bind fun x5 => Res.ok (x4, x5))).bind fun (y6 : Cell) => (((modR (number / 64) (y3.1 - y6.1)).bind fun x7 => Res.ok ((y6.1 + 1) + x7)).bind fun (low : Int) => (((modR (number / 512) (y3.2 - y6.2)).bind fun x8 => Res.ok ((y6.2 + 1) + x8)).bind fun (right : Int) => ((((lcR (cutZ hall.1 (some y6.1) (some low)) (fun row => Res.ok true) (fun row => (txCut row (some y6.2) (some right)))).bind fun x9 => Res.ok x9).bind fun x10 => Res.ok (x10, hall.2)).bind fun (part : Hl) => ((Lk.l_cells part).bind fun (inside : (List Cell)) => (((modR (number / 4096) (inside.length : Int)).bind fun x11 => (ixR inside x11)).bind fun (one : Cell) => ((Res.ok ((one.1 + y6.1), (one.2 + y6.2))).bind fun (there : Cell) => (bindS (foldS (fun (other : Cell) (y12 : Unit) => (((Lk.sees part one other).bind fun x13 => ((Lk.sees hall there ((other.1 + y6.1), (other.2 + y6.2))).bind fun x14 => Res.ok (!eqB x13 x14))).bind fun p16 => if p16 = true then ((Res.ok false).bind fun r15 => Res.ok (Stp.rt r15)) else (Res.ok (Stp.nx ())))) inside ()) (fun r => r) (fun (y12 : Unit) => ((Res.ok []).bind fun (due : (List Cell)) => (((Lk.seen hall there).bind fun l19 => foldR (fun (z17 : Cell) (due : (List Cell)) => (if (((decide (y6.1 ≤ z17.1)) && (decide (z17.1 < low))) && ((decide (y6.2 ≤ z17.2)) && (decide (z17.2 < right)))) = true then ((Res.ok ((z17.1 - y6.1), (z17.2 - y6.2))).bind fun x18 => (pushL due x18).bind fun (due : (List Cell)) => (Res.ok due)) else (Res.ok due))) l19 due).bind (fun (due : (List Cell)) => (((Lk.seen part one).bind fun x24 => Res.ok (eqB x24 due)).bind fun p25 => if p25 = true then (((Lk.floors part).bind fun x20 => Res.ok (x20.length : Int)).bind fun x22 => (((Lk.floors hall).bind fun x21 => Res.ok (x21.length : Int)).bind fun x23 => Res.ok (decide (x22 ≤ x23)))) else Res.ok false))))))))))))))))
def Lk.l_open (hall : Hl) (cell : Cell) : Res Bool :=
  ((Lk.sign_at hall cell).bind fun x1 => (signIn x1 ['.', 'o']))
def Lk.l_near (hall : Hl) (one : Cell) (other : Cell) : Res Bool :=
  ((Res.ok ((one.1 - other.1), (one.2 - other.2))).bind fun (y1 : (Int × Int)) => (if (eqB hall.2 0) = true then Res.ok true else (((mulR y1.1 y1.1).bind fun x2 => ((mulR y1.2 y1.2).bind fun x3 => Res.ok (x2 + x3))).bind fun x4 => Res.ok (decide (x4 ≤ hall.2)))))
def Lk.law_k15 (script : (List Int)) : Res Bool :=
  (((Lk.l_mixed script 0).bind fun x1 => (Lk.l_hall x1 6)).bind fun (hall : Hl) => ((Lk.l_mixed script 1).bind fun (number : Int) => ((Lk.l_cells hall).bind fun (spots : (List Cell)) => (((modR number (spots.length : Int)).bind fun x2 => (ixR spots x2)).bind fun (one : Cell) => ((Res.ok []).bind fun (some' : (List Cell)) => (bindS (foldS (fun (other : Cell) (some' : (List Cell)) => (((Lk.l_open hall one).bind fun p4 => if p4 = true then ((Lk.l_open hall other).bind fun p3 => if p3 = true then (Lk.l_near hall one other) else Res.ok false) else Res.ok false).bind fun (due : Bool) => (((Lk.crossed one other).bind fun l5 => lcR l5 (fun cell => ((Lk.l_open hall cell).bind fun p => Res.ok (!p))) (fun cell => Res.ok cell)).bind fun (barred : (List Cell)) => ((Lk.sees hall one other).bind fun (found : Bool) => (if ((!true) || (!eqB found (due && (eqB barred [])))) = true then ((Res.ok false).bind fun r6 => Res.ok (Stp.rt r6)) else (((if found = true then ((Lk.sign_at hall other).bind fun x8 => Res.ok (eqB x8 ['.'])) else Res.ok false).bind fun p10 => if p10 = true then ((Res.ok other).bind fun x9 => (pushL some' x9).bind fun (some' : (List Cell)) => (Res.ok some')) else (Res.ok some')).bind (fun (some' : (List Cell)) => (((Lk.seen hall other).bind fun x11 => Res.ok (memB one x11)).bind fun (back : Bool) => (((if found = true then ((Lk.sign_at hall one).bind fun x12 => Res.ok (eqB x12 ['.'])) else Res.ok false).bind fun x13 => Res.ok (!eqB back x13)).bind fun p15 => if p15 = true then ((Res.ok false).bind fun r14 => Res.ok (Stp.rt r14)) else (Res.ok (Stp.nx some'))))))))))) spots some') (fun r => r) (fun (some' : (List Cell)) => (((Lk.seen hall one).bind fun x17 => Res.ok (eqB x17 some')).bind fun p18 => if p18 = true then ((Lk.crossed one one).bind fun x16 => Res.ok (eqB x16 [])) else Res.ok false))))))))
def Lk.need_small (hall : Hl) : Res Unit :=
  ((((Lk.floors hall).bind fun x1 => Res.ok (x1.length : Int)).bind fun x2 => Res.ok (decide ((20) < x2))).bind fun p3 => if p3 = true then (Res.ex "TooMany") else (Res.ok ()))
def Lk.neighbours (hall : Hl) (cell : Cell) : Res (List Cell) :=
  ((lcR [((-1), (0)), ((0), (-1)), ((0), (1)), ((1), (0))] (fun z1 => Res.ok true) (fun z1 => Res.ok ((cell.1 + z1.1), (cell.2 + z1.2)))).bind fun (some' : (List Cell)) => (lcR some' (fun other => ((Lk.is_inside hall other).bind fun p2 => if p2 = true then (Lk.is_free hall other) else Res.ok false)) (fun other => Res.ok other)))
def Lk.part_of (hall : Hl) (cell : Cell) : Res (List Cell) :=
  (((Res.ok cell).bind fun k => (Res.ok true).bind fun v => Res.ok [(k, v)]).bind fun (found : (List (Cell × Bool))) => ((Res.ok [cell]).bind fun (todo : (List Cell)) => ((whileR (fun (y1 : ((List (Cell × Bool)) × (List Cell))) => Res.ok (decide (0 < (y1.2.length : Int)))) (fun (y1 : ((List (Cell × Bool)) × (List Cell))) => ((((popR y1.2).bind fun z2 => ((Lk.neighbours hall z2.1).bind fun x4 => Res.ok (x4, z2.2))).bind fun (b9 : ((List Cell) × (List Cell))) => foldR (fun (other : Cell) (y5 : ((List (Cell × Bool)) × (List Cell))) => (if (!hasK y5.1 other) = true then ((Res.ok true).bind fun x7 => (Res.ok other).bind fun x8 => (putR y5.1 x8 x7).bind fun (found : (List (Cell × Bool))) => ((Res.ok other).bind fun x6 => (pushL y5.2 x6).bind fun (todo : (List Cell)) => (Res.ok (found, todo)))) else (Res.ok (y5.1, y5.2)))) b9.1 (y1.1, b9.2)).bind (fun (y5 : ((List (Cell × Bool)) × (List Cell))) => (Res.ok (y5.1, y5.2))))) 200 (found, todo)).bind (fun (y1 : ((List (Cell × Bool)) × (List Cell))) => (Res.ok (sortC (keysZ y1.1)))))))
def Lk.parts (hall : Hl) : Res (List (List Cell)) :=
  ((Res.ok []).bind fun (found : (List (List Cell))) => (((Lk.cells hall).bind fun l5 => foldR (fun (cell : Cell) (found : (List (List Cell))) => (((Lk.is_free hall cell).bind fun p2 => if p2 = true then (((lcR found (fun part => Res.ok true) (fun part => Res.ok (memB cell part))).bind fun x1 => Res.ok (x1.any fun b => b)).bind fun p => Res.ok (!p)) else Res.ok false).bind fun p4 => if p4 = true then ((Lk.part_of hall cell).bind fun x3 => (pushL found x3).bind fun (found : (List (List Cell))) => (Res.ok found)) else (Res.ok found))) l5 found).bind (fun (found : (List (List Cell))) => (Res.ok found))))
def Lk.l_moved (spots : (List Cell)) (by' : Int) : Res (List Cell) :=
  (lcR spots (fun z1 => Res.ok true) (fun z1 => Res.ok (z1.1, (z1.2 + by'))))
def Lk.law_k17 (script : (List Int)) : Res Bool :=
  ((((Lk.l_mixed script 0).bind fun x1 => (Lk.l_hall x1 5)).bind fun x2 => Res.ok x2.1).bind fun (rows : (List Tx)) => (((Lk.l_mixed script 1).bind fun x3 => (Lk.l_some (rows, 0) x3)).bind fun (some' : (List Cell)) => (((((ixR rows 0).bind fun x4 => (txLen x4)).bind fun x5 => Res.ok (x5 - 1)).bind fun x41 => (Res.ok (((rows.length : Int) - 1), x41))).bind fun (y6 : (Int × Int)) => ((((((mulR y6.1 y6.1).bind fun x7 => ((mulR y6.2 y6.2).bind fun x8 => Res.ok (x7 + x8))).bind fun x9 => Res.ok (max 1 x9)).bind fun x10 => Res.ok (rows, x10)).bind fun x11 => Res.ok [(rows, 0), (rows, 98), x11]).bind fun (halls : (List Hl)) => (bindS (foldS (fun (hall : Hl) (y12 : Unit) => (((Lk.covered hall some').bind fun x14 => (((ixR halls 0).bind fun x13 => (Lk.covered x13 some')).bind fun x15 => Res.ok (!eqB x14 x15))).bind fun p33 => if p33 = true then ((Res.ok false).bind fun r16 => Res.ok (Stp.rt r16)) else ((((Lk.needless hall some').bind fun x21 => (((ixR halls 0).bind fun x20 => (Lk.needless x20 some')).bind fun x22 => Res.ok (!eqB x21 x22))).bind fun p23 => if p23 = true then Res.ok true else ((Lk.stepwise hall).bind fun x18 => (((ixR halls 0).bind fun x17 => (Lk.stepwise x17)).bind fun x19 => Res.ok (!eqB x18 x19)))).bind fun p32 => if p32 = true then ((Res.ok false).bind fun r24 => Res.ok (Stp.rt r24)) else (bindS ((Lk.floors hall).bind fun l31 => foldS (fun (cell : Cell) (y25 : Unit) => (((Lk.seen hall cell).bind fun x27 => (((ixR halls 0).bind fun x26 => (Lk.seen x26 cell)).bind fun x28 => Res.ok (!eqB x27 x28))).bind fun p30 => if p30 = true then ((Res.ok false).bind fun r29 => Res.ok (Stp.rt r29)) else (Res.ok (Stp.nx ())))) l31 ()) Stp.rt (fun (y25 : Unit) => (Res.ok (Stp.nx ()))))))) (cutZ halls (some 1) none) ()) (fun r => r) (fun (y12 : Unit) => (bindS ((Lk.floors (rows, 1)).bind fun l40 => foldS (fun (z35 : Cell) (y34 : Unit) => ((Res.ok [((z35.1 - 1), z35.2), (z35.1, (z35.2 - 1)), (z35.1, z35.2), (z35.1, (z35.2 + 1)), ((z35.1 + 1), z35.2)]).bind fun (near : (List Cell)) => ((lcR near (fun cell => ((Lk.floors (rows, 1)).bind fun x36 => Res.ok (memB cell x36))) (fun cell => Res.ok cell)).bind fun (due : (List Cell)) => (((Lk.seen (rows, 1) (z35.1, z35.2)).bind fun x37 => Res.ok (!eqB x37 due)).bind fun p39 => if p39 = true then ((Res.ok false).bind fun r38 => Res.ok (Stp.rt r38)) else (Res.ok (Stp.nx ())))))) l40 ()) (fun r => r) (fun (y34 : Unit) => (Res.ok true)))))))))
def Lk.is_seen (hall : Hl) (lookers : (List Cell)) (cell : Cell) : Res Bool :=
  ((lcR lookers (fun looker => Res.ok true) (fun looker => (Lk.sees hall looker cell))).bind fun x1 => Res.ok (x1.any fun b => b))
def Lk.seen_on (hall : Hl) (lookers : (List Cell)) (way : (List Cell)) : Res Int :=
  ((lcR way (fun cell => (Lk.is_seen hall lookers cell)) (fun cell => Res.ok cell)).bind fun x1 => Res.ok (x1.length : Int))
def Lk.costs_to (hall : Hl) (lookers : (List Cell)) (goal : Cell) : Res (List (Cell × Cell)) :=
  ((((Lk.part_of hall goal).bind fun l3 => lcR l3 (fun cell => Res.ok true) (fun cell => (((Lk.is_seen hall lookers cell).bind fun x1 => Res.ok (if x1 = true then 1 else 0)).bind fun x2 => Res.ok (cell, x2)))).bind fun x4 => Res.ok (dictZ x4)).bind fun (weights : (List (Cell × Int))) => (((Res.ok goal).bind fun k => ((getK weights goal).bind fun x5 => Res.ok (x5, 1)).bind fun v => Res.ok [(k, v)]).bind fun (found : (List (Cell × Cell))) => ((Res.ok [goal]).bind fun (todo : (List Cell)) => ((whileR (fun (y6 : ((List Cell) × (List (Cell × Cell)))) => Res.ok (decide (0 < (y6.1.length : Int)))) (fun (y6 : ((List Cell) × (List (Cell × Cell)))) => ((minKR lexZ (fun one => (getK y6.2 one)) y6.1).bind fun (cell : Cell) => ((Res.ok cell).bind fun x21 => (remR y6.1 x21).bind fun (todo : (List Cell)) => (((Lk.neighbours hall cell).bind fun l20 => foldR (fun (other : Cell) (y7 : ((List Cell) × (List (Cell × Cell)))) => (((((getK y7.2 cell).bind fun x8 => Res.ok x8.1).bind fun x9 => ((getK weights other).bind fun x10 => Res.ok (x9 + x10))).bind fun x13 => ((((getK y7.2 cell).bind fun x11 => Res.ok x11.2).bind fun x12 => Res.ok (x12 + 1)).bind fun x14 => Res.ok (x13, x14))).bind fun (cost : Cell) => ((if (!hasK y7.2 other) = true then Res.ok true else ((getK y7.2 other).bind fun x15 => Res.ok (lexZ cost x15))).bind fun p19 => if p19 = true then ((Res.ok cost).bind fun x17 => (Res.ok other).bind fun x18 => (putR y7.2 x18 x17).bind fun (found : (List (Cell × Cell))) => (if (!memB other y7.1) = true then ((Res.ok other).bind fun x16 => (pushL y7.1 x16).bind fun (todo : (List Cell)) => (Res.ok (todo, found))) else (Res.ok (y7.1, found)))) else (Res.ok (y7.1, y7.2))))) l20 (todo, y6.2)).bind (fun (y7 : ((List Cell) × (List (Cell × Cell)))) => (Res.ok (y7.1, y7.2))))))) 200 (todo, found)).bind (fun (y6 : ((List Cell) × (List (Cell × Cell)))) => (Res.ok y6.2))))))
def Lk.slyest (hall : Hl) (lookers : (List Cell)) (one : Cell) (other : Cell) : Res (List Cell) :=
  ((foldR (fun (cell : Cell) (y1 : Unit) => ((((Lk.is_inside hall cell).bind fun p => Res.ok (!p)).bind fun p2 => if p2 = true then Res.ok true else ((Lk.is_free hall cell).bind fun p => Res.ok (!p))).bind fun p3 => if p3 = true then (Res.ex "NoCell") else (Res.ok ()))) [one, other] ()).bind (fun (y1 : Unit) => ((Lk.costs_to hall lookers other).bind fun (costs : (List (Cell × Cell))) => (if (!hasK costs one) = true then (Res.ex "NoWay") else ((Res.ok [one]).bind fun (way : (List Cell)) => ((whileR (fun (way : (List Cell)) => ((ixR way (-1)).bind fun x4 => Res.ok (!eqB x4 other))) (fun (way : (List Cell)) => ((ixR way (-1)).bind fun (here : Cell) => (((Lk.is_seen hall lookers here).bind fun x5 => Res.ok (if x5 = true then 1 else 0)).bind fun (weight : Int) => (((((getK costs here).bind fun x6 => Res.ok x6.1).bind fun x7 => Res.ok (x7 - weight)).bind fun x10 => ((((getK costs here).bind fun x8 => Res.ok x8.2).bind fun x9 => Res.ok (x9 - 1)).bind fun x11 => Res.ok (x10, x11))).bind fun (due : Cell) => ((((((Lk.neighbours hall here).bind fun l13 => lcR l13 (fun cell => ((getK costs cell).bind fun x12 => Res.ok (eqB x12 due))) (fun cell => Res.ok cell)).bind fun x14 => (ixR x14 0)).bind fun x15 => Res.ok [x15]).bind fun x16 => (addL way x16)).bind fun (way : (List Cell)) => (Res.ok way)))))) 200 way).bind (fun (way : (List Cell)) => (Res.ok way))))))))
def Lk.l_free (hall : Hl) (cell : Cell) : Res Bool :=
  ((Res.ok hall.1).bind fun (rows : (List Tx)) => ((if (!((decide (0 ≤ cell.1)) && (decide (cell.1 < (rows.length : Int))))) = true then Res.ok true else ((if (decide (0 ≤ cell.2)) = true then ((ixR rows 0).bind fun x1 => (txLen x1)).bind fun x2 => Res.ok (decide (cell.2 < x2)) else Res.ok false).bind fun p => Res.ok (!p))).bind fun p5 => if p5 = true then (Res.ok false) else (((ixR rows cell.1).bind fun x3 => (txIx x3 cell.2)).bind fun x4 => (signIn x4 ['.', 'o']))))
def Lk.l_beside (hall : Hl) (cell : Cell) : Res (List Cell) :=
  ((Res.ok cell).bind fun (y1 : Cell) => ((Res.ok (((y1.1 - 1), y1.2), (y1.1, (y1.2 - 1)), (y1.1, (y1.2 + 1)), ((y1.1 + 1), y1.2))).bind fun (some' : (Cell × Cell × Cell × Cell)) => (lcR [some'.1, some'.2.1, some'.2.2.1, some'.2.2.2] (fun other => (Lk.l_free hall other)) (fun other => Res.ok other))))
def Lk.l_reach (hall : Hl) (cell : Cell) : Res (List Cell) :=
  ((Res.ok [cell]).bind fun (found : (List Cell)) => ((Res.ok 0).bind fun (at' : Int) => ((whileR (fun (y1 : ((List Cell) × Int)) => Res.ok (decide (y1.2 < (y1.1.length : Int)))) (fun (y1 : ((List Cell) × Int)) => ((((ixR y1.1 y1.2).bind fun x2 => (Lk.l_beside hall x2)).bind fun l3 => lcR l3 (fun other => Res.ok (!memB other y1.1)) (fun other => Res.ok other)).bind fun x4 => (addL y1.1 x4).bind fun (found : (List Cell)) => ((Res.ok (y1.2 + 1)).bind fun (at' : Int) => (Res.ok (found, at'))))) 200 (found, at')).bind (fun (y1 : ((List Cell) × Int)) => (Res.ok y1.1)))))
def Lk.l_walk (hall : Hl) (one : Cell) (number : Int) : Res (List Cell) :=
  ((Res.ok [one]).bind fun (way : (List Cell)) => (((rngR 14).bind fun l11 => foldR (fun (k : Int) (way : (List Cell)) => ((ixR way (-1)).bind fun (y1 : Cell) => (((((Lk.l_drawn number k).bind fun x2 => Res.ok (x2 / 16)).bind fun x3 => Res.ok (x3 % 4)).bind fun x4 => (ixR [((-1), 0), (0, (-1)), (0, 1), (1, 0)] x4)).bind fun (y5 : Cell) => ((Res.ok ((y1.1 + y5.1), (y1.2 + y5.2))).bind fun (there : Cell) => ((if ((decide (0 ≤ there.1)) && (decide (there.1 < (hall.1.length : Int)))) = true then ((if (decide (0 ≤ there.2)) = true then ((ixR hall.1 0).bind fun x7 => (txLen x7)).bind fun x8 => Res.ok (decide (there.2 < x8)) else Res.ok false).bind fun p9 => if p9 = true then ((Lk.sign_at hall there).bind fun x6 => (signIn x6 ['.', 'o'])) else Res.ok false) else Res.ok false).bind fun p10 => if p10 = true then ((addL way [there]).bind fun (way : (List Cell)) => (Res.ok way)) else (Res.ok way)))))) l11 way).bind (fun (way : (List Cell)) => (Res.ok way))))
def Lk.l_are_all (hall : Hl) (rooms : (List (List Cell))) : Res Bool :=
  ((Res.ok []).bind fun (every : (List Cell)) => ((foldR (fun (part : (List Cell)) (every : (List Cell)) => ((addL every part).bind fun (every : (List Cell)) => (Res.ok every))) rooms every).bind (fun (every : (List Cell)) => ((Res.ok []).bind fun (due : (List Cell)) => ((foldR (fun (z1 : (Int × Tx)) (due : (List Cell)) => (((lcR (enumZ (charsZ z1.2)) (fun z2 => (signIn z2.2 ['.', 'o'])) (fun z2 => Res.ok (z1.1, z2.1))).bind fun x3 => (addL due x3)).bind fun (due : (List Cell)) => (Res.ok due))) (enumZ hall.1) due).bind (fun (due : (List Cell)) => (Res.ok (eqB (sortC every) due))))))))
def Lk.law_k31 (script : (List Int)) : Res Bool :=
  (((Lk.l_mixed script 0).bind fun x1 => (Lk.l_hall x1 8)).bind fun (hall : Hl) => ((((Lk.l_mixed script 1).bind fun x2 => (Lk.l_some hall x2)).bind fun x3 => Res.ok (cutZ x3 none (some 5))).bind fun (some' : (List Cell)) => (((((((Lk.l_mixed script 2).bind fun x4 => (Lk.l_some hall x4)).bind fun x5 => Res.ok (cutZ x5 none (some 3))).bind fun x6 => (addL some' x6)).bind fun x7 => (setSortR x7)).bind fun x8 => Res.ok x8).bind fun (more : (List Cell)) => ((Lk.parts hall).bind fun (rooms : (List (List Cell))) => (((Lk.l_are_all hall rooms).bind fun p => Res.ok (!p)).bind fun p44 => if p44 = true then (Res.ok false) else (if (eqB rooms []) = true then (Res.ok true) else ((Lk.l_mixed script 3).bind fun (number : Int) => (((modR number (rooms.length : Int)).bind fun x9 => (ixR rooms x9)).bind fun (part : (List Cell)) => (((modR (number / 16) (part.length : Int)).bind fun x10 => (ixR part x10)).bind fun (one : Cell) => (((Lk.l_mixed script 4).bind fun x11 => (Lk.l_walk hall one x11)).bind fun (walk : (List Cell)) => ((ixR walk (-1)).bind fun (other : Cell) => ((if (!memB other part) = true then Res.ok true else ((setSortR part).bind fun x12 => Res.ok (!eqB part x12))).bind fun p43 => if p43 = true then (Res.ok false) else ((Lk.slyest hall some' one other).bind fun (way : (List Cell)) => ((((ixR way 0).bind fun x16 => Res.ok (!eqB x16 one)).bind fun p17 => if p17 = true then Res.ok true else (((ixR way (-1)).bind fun x14 => Res.ok (!eqB x14 other)).bind fun p15 => if p15 = true then Res.ok true else ((setLenR way).bind fun x13 => Res.ok (!eqB x13 (way.length : Int))))).bind fun p42 => if p42 = true then (Res.ok false) else (bindS (foldS (fun (z19 : (Cell × Cell)) (y18 : Unit) => (if ((!eqB ((absZ (z19.1.1 - z19.2.1)) + (absZ (z19.1.2 - z19.2.2))) 1) || (!memB z19.2 part)) = true then ((Res.ok false).bind fun r20 => Res.ok (Stp.rt r20)) else (Res.ok (Stp.nx ())))) ((cutZ way none (some (-1))).zip (cutZ way (some 1) none)) ()) (fun r => r) (fun (y18 : Unit) => ((Lk.seen_on hall some' way).bind fun (many : Int) => ((Lk.slyest hall some' other one).bind fun (back : (List Cell)) => ((((Lk.seen_on hall some' back).bind fun x22 => Res.ok (!eqB x22 many)).bind fun p23 => if p23 = true then Res.ok true else (if (!eqB (back.length : Int) (way.length : Int)) = true then Res.ok true else ((Lk.seen_on hall some' way.reverse).bind fun x21 => Res.ok (!eqB x21 many)))).bind fun p41 => if p41 = true then (Res.ok false) else ((((Lk.seen_on hall some' walk).bind fun x26 => Res.ok (decide (x26 < many))).bind fun p27 => if p27 = true then Res.ok true else (((Lk.slyest hall [] one other).bind fun x24 => Res.ok (x24.length : Int)).bind fun x25 => Res.ok (decide ((walk.length : Int) < x25)))).bind fun p40 => if p40 = true then (Res.ok false) else (((((Lk.slyest hall [] one other).bind fun x30 => (Lk.seen_on hall some' x30)).bind fun x31 => Res.ok (eqB x31 many)).bind fun p32 => if p32 = true then (((Lk.slyest hall [] one other).bind fun x28 => Res.ok (x28.length : Int)).bind fun x29 => Res.ok (!eqB (way.length : Int) x29)) else Res.ok false).bind fun p39 => if p39 = true then (Res.ok false) else (((((Lk.slyest hall more one other).bind fun x34 => (Lk.seen_on hall more x34)).bind fun x35 => Res.ok (decide (x35 < many))).bind fun p36 => if p36 = true then Res.ok true else ((Lk.slyest hall some' one one).bind fun x33 => Res.ok (!eqB x33 [one]))).bind fun p38 => if p38 = true then (Res.ok false) else ((Lk.seen_on hall [] way).bind fun x37 => Res.ok (eqB x37 0))))))))))))))))))))))))
def Lk.l_worth (hall : Hl) (some' : (List Cell)) (way : (List Cell)) : Res Cell :=
  ((Lk.seen_on hall some' way).bind fun x1 => Res.ok (x1, (way.length : Int)))
def Lk.law_k32 (script : (List Int)) : Res Bool :=
  (((Lk.l_mixed script 0).bind fun x1 => (Lk.l_hall x1 6)).bind fun (hall : Hl) => ((((Lk.l_mixed script 1).bind fun x2 => (Lk.l_some hall x2)).bind fun x3 => Res.ok (cutZ x3 none (some 5))).bind fun (some' : (List Cell)) => ((Lk.parts hall).bind fun (rooms : (List (List Cell))) => (if (eqB rooms []) = true then (Res.ok true) else ((Lk.l_mixed script 2).bind fun (number : Int) => (((modR number (rooms.length : Int)).bind fun x4 => (ixR rooms x4)).bind fun (part : (List Cell)) => (((modR (number / 16) (part.length : Int)).bind fun x5 => (ixR part x5)).bind fun (one : Cell) => (((modR (number / 1024) (part.length : Int)).bind fun x6 => (ixR part x6)).bind fun (other : Cell) => ((Lk.slyest hall some' one other).bind fun (way : (List Cell)) => (bindS ((rngR (way.length : Int)).bind fun l18 => foldS (fun (at' : Int) (y7 : Unit) => (((ixR way at').bind fun x8 => (Lk.slyest hall some' one x8)).bind fun (here : (List Cell)) => (((Lk.l_worth hall some' here).bind fun x9 => ((Lk.l_worth hall some' (cutZ way none (some (at' + 1)))).bind fun x10 => Res.ok (!eqB x9 x10))).bind fun p17 => if p17 = true then ((Res.ok false).bind fun r11 => Res.ok (Stp.rt r11)) else (((ixR way at').bind fun x12 => (Lk.slyest hall some' x12 other)).bind fun (there : (List Cell)) => (((Lk.l_worth hall some' there).bind fun x13 => ((Lk.l_worth hall some' (cutZ way (some at') none)).bind fun x14 => Res.ok (!eqB x13 x14))).bind fun p16 => if p16 = true then ((Res.ok false).bind fun r15 => Res.ok (Stp.rt r15)) else (Res.ok (Stp.nx ()))))))) l18 ()) (fun r => r) (fun (y7 : Unit) => (((modR (number / 65536) (part.length : Int)).bind fun x19 => (ixR part x19)).bind fun (middle : Cell) => ((Lk.slyest hall some' middle other).bind fun (behind : (List Cell)) => (((Lk.slyest hall some' one middle).bind fun x20 => (addL x20 (cutZ behind (some 1) none))).bind fun (long : (List Cell)) => ((Lk.l_worth hall some' long).bind fun x21 => ((Lk.l_worth hall some' way).bind fun x22 => Res.ok (!lexZ x21 x22)))))))))))))))))
def Lk.l_far_off (hall : Hl) (number : Int) : Res Cell :=
  ((((ixR hall.1 0).bind fun x1 => (txLen x1)).bind fun x3 => (Res.ok ((hall.1.length : Int), x3))).bind fun (y2 : (Int × Int)) => (ixR [((-1), 0), (0, (-1)), (y2.1, 0), (0, y2.2), (y2.1, y2.2), (8, 8)] (number % 6)))
def Lk.law_k33 (script : (List Int)) : Res Bool :=
  (((Lk.l_mixed script 0).bind fun x1 => (Lk.l_hall x1 6)).bind fun (hall : Hl) => ((((Lk.l_mixed script 1).bind fun x2 => (Lk.l_some hall x2)).bind fun x3 => Res.ok (cutZ x3 none (some 3))).bind fun (some' : (List Cell)) => ((Lk.l_mixed script 2).bind fun (number : Int) => (((Lk.l_cells hall).bind fun x5 => (((Lk.l_far_off hall (number / 64)).bind fun x4 => Res.ok [x4]).bind fun x6 => (addL x5 x6))).bind fun (spots : (List Cell)) => (((modR number (spots.length : Int)).bind fun x7 => (ixR spots x7)).bind fun (one : Cell) => ((lcR (cutZ spots none (some (-1))) (fun cell => ((Lk.sign_at hall cell).bind fun x8 => (signIn x8 ['.', 'o']))) (fun cell => Res.ok cell)).bind fun (inside : (List Cell)) => (bindS ((stepR (1 + ((spots.length : Int) / 12)) spots).bind fun l20 => foldS (fun (other : Cell) (y9 : Unit) => ((toldR (Lk.slyest hall some' one other)).bind fun (found : (Told (List Cell))) => (if ((!memB one inside) || (!memB other inside)) = true then (if (!eqB found (.ref 0)) = true then ((Res.ok false).bind fun r10 => Res.ok (Stp.rt r10)) else (Res.ok (Stp.nx ()))) else (((Lk.parts hall).bind fun l11 => lcR l11 (fun part => Res.ok ((memB one part) && (memB other part))) (fun part => Res.ok part)).bind fun (together : (List (List Cell))) => (if (eqB together []) = true then (if (!eqB found (.ref 2)) = true then ((Res.ok false).bind fun r12 => Res.ok (Stp.rt r12)) else (Res.ok (Stp.nx ()))) else ((if (!eqB (Told.tag found) ['t', 'o', 'l', 'd']) = true then Res.ok true else ((((Told.val found).bind fun x15 => (ixR x15 0)).bind fun x16 => Res.ok (!eqB x16 one)).bind fun p17 => if p17 = true then Res.ok true else (((Told.val found).bind fun x13 => (ixR x13 (-1))).bind fun x14 => Res.ok (!eqB x14 other)))).bind fun p19 => if p19 = true then ((Res.ok false).bind fun r18 => Res.ok (Stp.rt r18)) else (Res.ok (Stp.nx ())))))))) l20 ()) (fun r => r) (fun (y9 : Unit) => (Res.ok true)))))))))
def Lk.turned (hall : Hl) : Res Hl :=
  (((((ixR hall.1 0).bind fun x1 => (txLen x1)).bind fun x2 => (rngR x2)).bind fun l4 => lcR l4 (fun column => Res.ok true) (fun column => ((lcR hall.1.reverse (fun row => Res.ok true) (fun row => (txIx row column))).bind fun x3 => (joinR [] x3)))).bind fun (rows : (List Tx)) => (Res.ok (rows, hall.2)))
def Lk.cell_turned (hall : Hl) (cell : Cell) : Res Cell :=
  ((Lk.need_cell hall cell).bind fun u1 => (Res.ok (cell.2, (((hall.1.length : Int) - 1) - cell.1))))
def Lk.law_k34 (script : (List Int)) : Res Bool :=
  (((Lk.l_mixed script 0).bind fun x1 => (Lk.l_hall x1 6)).bind fun (hall : Hl) => ((((Lk.l_mixed script 1).bind fun x2 => (Lk.l_some hall x2)).bind fun x3 => Res.ok (cutZ x3 none (some 6))).bind fun (some' : (List Cell)) => ((Lk.parts hall).bind fun (rooms : (List (List Cell))) => (if (eqB rooms []) = true then (Res.ok true) else ((Lk.l_mixed script 2).bind fun (number : Int) => (((modR number (rooms.length : Int)).bind fun x4 => (ixR rooms x4)).bind fun (part : (List Cell)) => ((((modR (number / 16) (part.length : Int)).bind fun x5 => (ixR part x5)).bind fun x6 => ((Lk.l_mixed script 3).bind fun x7 => (Lk.l_walk hall x6 x7))).bind fun (walk : (List Cell)) => ((Lk.seen_on hall some' walk).bind fun (many : Int) => ((modR (number / 1024) (walk.length : Int)).bind fun (at' : Int) => ((Lk.seen_on hall some' (cutZ walk none (some (at' + 1)))).bind fun (here : Int) => ((Lk.seen_on hall some' (cutZ walk (some at') none)).bind fun (there : Int) => ((Lk.seen_on hall some' (cutZ walk (some at') (some (at' + 1)))).bind fun (between : Int) => (if (false || (!eqB many ((here + there) - between))) = true then (Res.ok false) else ((lcR walk (fun cell => ((Lk.sign_at hall cell).bind fun x8 => Res.ok (eqB x8 ['.']))) (fun cell => Res.ok cell)).bind fun (floor_ones : (List Cell)) => ((lcR floor_ones (fun cell => ((Lk.covered hall some').bind fun x9 => Res.ok (memB cell x9))) (fun cell => Res.ok cell)).bind fun (seen_ones : (List Cell)) => ((if (decide (many < (seen_ones.length : Int))) = true then Res.ok true else ((Lk.seen_on hall (cutZ some' (some 1) none) walk).bind fun x10 => Res.ok (decide (many < x10)))).bind fun p22 => if p22 = true then (Res.ok false) else (((Lk.seen_on hall [] walk).bind fun x11 => Res.ok (!eqB x11 0)).bind fun p21 => if p21 = true then (Res.ok false) else (((lcR walk (fun cell => Res.ok true) (fun cell => (Lk.cell_turned hall cell))).bind fun x12 => Res.ok x12).bind fun (spots : (List Cell)) => ((((lcR some' (fun cell => Res.ok true) (fun cell => (Lk.cell_turned hall cell))).bind fun x13 => Res.ok (sortC x13)).bind fun x14 => Res.ok x14).bind fun (places : (List Cell)) => ((((Lk.turned hall).bind fun x15 => (Lk.seen_on x15 places spots)).bind fun x16 => Res.ok (!eqB x16 many)).bind fun p20 => if p20 = true then (Res.ok false) else (((ixR walk 0).bind fun x17 => ((ixR walk (-1)).bind fun x18 => (Lk.slyest hall some' x17 x18))).bind fun (way : (List Cell)) => ((Lk.seen_on hall some' way).bind fun x19 => Res.ok (decide (x19 ≤ many))))))))))))))))))))))))
def Lk.kept (hall : Hl) (lookers : (List Cell)) : Res (List Cell) :=
  (((lcR lookers (fun looker => ((Lk.floors hall).bind fun x1 => Res.ok (memB looker x1))) (fun looker => Res.ok looker)).bind fun x2 => Res.ok x2).bind fun (some' : (List Cell)) => ((((Lk.grown hall some').bind fun x3 => Res.ok (sortC x3)).bind fun x4 => Res.ok x4).bind fun x5 => (Lk.thinned hall x5)))
def Lk.l_kept (hall : Hl) (some' : (List Cell)) : Res (List Cell) :=
  ((Lk.floors hall).bind fun (floor_ones : (List Cell)) => (((lcR floor_ones (fun cell => Res.ok true) (fun cell => ((Lk.seen hall cell).bind fun x1 => Res.ok (cell, x1)))).bind fun x2 => Res.ok (dictZ x2)).bind fun (sights : (List (Cell × (List Cell)))) => ((lcR some' (fun cell => Res.ok (memB cell floor_ones)) (fun cell => Res.ok cell)).bind fun (found : (List Cell)) => ((lcR floor_ones (fun cell => ((lcR found (fun one => ((getK sights one).bind fun x3 => Res.ok (memB cell x3))) (fun one => Res.ok one)).bind fun x4 => Res.ok (eqB x4 []))) (fun cell => Res.ok cell)).bind fun (dark : (List Cell)) => ((whileR (fun (y5 : ((List Cell) × (List Cell))) => Res.ok (!eqB y5.2 [])) (fun (y5 : ((List Cell) × (List Cell))) => ((((lcR floor_ones (fun one => Res.ok true) (fun one => (((((getK sights one).bind fun l6 => lcR l6 (fun cell => Res.ok (memB cell y5.2)) (fun cell => Res.ok cell)).bind fun x7 => Res.ok (x7.length : Int)).bind fun x8 => Res.ok (0 - x8)).bind fun x9 => Res.ok (x9, one)))).bind fun x10 => (minLtR (lex2 ltZ lexZ) x10)).bind fun x11 => Res.ok x11.2).bind fun (place : Cell) => ((Res.ok place).bind fun x13 => (pushL y5.1 x13).bind fun (found : (List Cell)) => ((lcR y5.2 (fun cell => ((getK sights place).bind fun x12 => Res.ok (!memB cell x12))) (fun cell => Res.ok cell)).bind fun (dark : (List Cell)) => (Res.ok (found, dark)))))) 200 (found, dark)).bind (fun (y5 : ((List Cell) × (List Cell))) => (Lk.thinned hall (sortC y5.1))))))))
def Lk.mirrored (hall : Hl) : Res Hl :=
  (((lcR hall.1 (fun row => Res.ok true) (fun row => (txRev row))).bind fun x1 => Res.ok x1).bind fun x2 => Res.ok (x2, hall.2))
def Lk.cell_mirrored (hall : Hl) (cell : Cell) : Res Cell :=
  ((Lk.need_cell hall cell).bind fun u5 => (((((ixR hall.1 0).bind fun x1 => (txLen x1)).bind fun x2 => Res.ok (x2 - 1)).bind fun x3 => Res.ok (x3 - cell.2)).bind fun x4 => Res.ok (cell.1, x4)))
def Lk.are_like (one : Hl) (other : Hl) : Res Bool :=
  (bindS (((Lk.mirrored one).bind fun x1 => Res.ok [one, x1]).bind fun l5 => foldS (fun (hall : Hl) (y2 : Unit) => (bindS ((rngR 4).bind fun l4 => foldS (fun (turn : Int) (hall : Hl) => (if (eqB hall other) = true then ((Res.ok true).bind fun r3 => Res.ok (Stp.rt r3)) else ((Lk.turned hall).bind fun (hall : Hl) => (Res.ok (Stp.nx hall))))) l4 hall) Stp.rt (fun (hall : Hl) => (Res.ok (Stp.nx ()))))) l5 ()) (fun r => r) (fun (y2 : Unit) => (Res.ok false)))
def Lk.l_by (hall : Hl) (deed : Int) : Res Hl :=
  ((Res.ok hall.1).bind fun (rows : (List Tx)) => ((((ixR rows 0).bind fun x1 => (txLen x1)).bind fun x2 => Res.ok ((rows.length : Int), x2)).bind fun (y3 : Cell) => (if (eqB deed 0) = true then (((lcR rows (fun row => Res.ok true) (fun row => (((rngR y3.2).bind fun l4 => lcR l4 (fun at' => Res.ok true) (fun at' => (txIx row ((y3.2 - 1) - at')))).bind fun x5 => (joinR [] x5)))).bind fun x6 => Res.ok x6).bind fun x7 => Res.ok (x7, hall.2)) else ((Res.ok []).bind fun (found : (List Tx)) => (((rngR y3.2).bind fun l12 => foldR (fun (column : Int) (found : (List Tx)) => ((((rngR y3.1).bind fun l9 => lcR l9 (fun row => Res.ok true) (fun row => ((ixR rows ((y3.1 - 1) - row)).bind fun x8 => (txIx x8 column)))).bind fun x10 => (joinR [] x10)).bind fun x11 => (pushL found x11).bind fun (found : (List Tx)) => (Res.ok found))) l12 found).bind (fun (found : (List Tx)) => (Res.ok (found, hall.2))))))))
def Lk.law_k50 (script : (List Int)) : Res Bool :=
  (((Lk.l_mixed script 0).bind fun x1 => (Lk.l_hall x1 8)).bind fun (hall : Hl) => ((Lk.l_mixed script 1).bind fun (number : Int) => ((((Lk.mirrored hall).bind fun x4 => ((Lk.l_by hall 0).bind fun x5 => Res.ok (!eqB x4 x5))).bind fun p6 => if p6 = true then Res.ok true else ((Lk.turned hall).bind fun x2 => ((Lk.l_by hall 1).bind fun x3 => Res.ok (!eqB x2 x3)))).bind fun p23 => if p23 = true then (Res.ok false) else ((((ixR hall.1 0).bind fun x7 => (txLen x7)).bind fun x22 => (Res.ok ((hall.1.length : Int), x22))).bind fun (y8 : (Int × Int)) => ((Res.ok (((number % 10) - 1), (((number / 16) % 10) - 1))).bind fun (cell : Cell) => ((Res.ok (((decide (0 ≤ cell.1)) && (decide (cell.1 < y8.1))) && ((decide (0 ≤ cell.2)) && (decide (cell.2 < y8.2))))).bind fun (inside : Bool) => ((toldR (Lk.cell_mirrored hall cell)).bind fun (one : (Told Cell)) => ((toldR (Lk.cell_turned hall cell)).bind fun (other : (Told Cell)) => (bindS (if inside = true then (if ((!eqB one (.told (cell.1, ((y8.2 - 1) - cell.2)))) || (!eqB other (.told (cell.2, ((y8.1 - 1) - cell.1))))) = true then ((Res.ok false).bind fun r10 => Res.ok (Stp.rt r10)) else (Res.ok (Stp.nx ()))) else (if ((!eqB one (.ref 0)) || (!eqB other (.ref 0))) = true then ((Res.ok false).bind fun r11 => Res.ok (Stp.rt r11)) else (Res.ok (Stp.nx ())))) (fun r => r) (fun (y9 : Unit) => ((Res.ok hall).bind fun (there : Hl) => (((rngR ((number / 256) % 5)).bind fun l15 => foldR (fun (k : Int) (there : Hl) => (((((Lk.l_drawn number k).bind fun x12 => Res.ok (x12 / 16)).bind fun x13 => Res.ok (x13 % 2)).bind fun x14 => (Lk.l_by there x14)).bind fun (there : Hl) => (Res.ok there))) l15 there).bind (fun (there : Hl) => ((if (eqB ((number / 4096) % 3) 1) = true then ((Res.ok (there.1, ((there.2 + 1) % 99))).bind fun (there : Hl) => (Res.ok there)) else (Res.ok there)).bind (fun (there : Hl) => ((if (eqB ((number / 4096) % 3) 2) = true then (((Lk.l_mixed script 2).bind fun x16 => (Lk.l_hall x16 3)).bind fun (there : Hl) => (Res.ok there)) else (Res.ok there)).bind (fun (there : Hl) => ((Res.ok []).bind fun (every : (List Hl)) => ((((Lk.l_by hall 0).bind fun x17 => Res.ok [hall, x17]).bind fun l21 => foldR (fun (some' : Hl) (every : (List Hl)) => (((rngR 4).bind fun l20 => foldR (fun (turn : Int) (y18 : ((List Hl) × Hl)) => ((Res.ok y18.2).bind fun x19 => (pushL y18.1 x19).bind fun (every : (List Hl)) => ((Lk.l_by y18.2 1).bind fun (some' : Hl) => (Res.ok (every, some'))))) l20 (every, some')).bind (fun (y18 : ((List Hl) × Hl)) => (Res.ok y18.1)))) l21 every).bind (fun (every : (List Hl)) => ((Lk.are_like hall there).bind fun (got : Bool) => (Res.ok (true && (eqB got (memB there every)))))))))))))))))))))))))
def Lk.law_k52 (script : (List Int)) : Res Bool :=
  (((Lk.l_mixed script 0).bind fun x1 => (Lk.l_hall x1 6)).bind fun (hall : Hl) => ((Lk.l_cells hall).bind fun (spots : (List Cell)) => ((((Lk.l_mixed script 1).bind fun x2 => (modR x2 (spots.length : Int))).bind fun x3 => (ixR spots x3)).bind fun (cell : Cell) => (((Lk.turned hall).bind fun x48 => ((Lk.cell_turned hall cell).bind fun x49 => (Res.ok (x48, x49)))).bind fun (y4 : (Hl × Cell)) => (((Lk.mirrored y4.1).bind fun x46 => ((Lk.cell_mirrored y4.1 y4.2).bind fun x47 => (Res.ok (x46, x47)))).bind fun (y5 : (Hl × Cell)) => (((Lk.mirrored hall).bind fun x44 => ((Lk.cell_mirrored hall cell).bind fun x45 => (Res.ok (x44, x45)))).bind fun (y6 : (Hl × Cell)) => (((rngR 3).bind fun l11 => foldR (fun (k : Int) (y7 : (Hl × Cell)) => (((Lk.turned y7.1).bind fun x9 => ((Lk.cell_turned y7.1 y7.2).bind fun x10 => (Res.ok (x9, x10)))).bind fun (y8 : (Hl × Cell)) => (Res.ok (y8.1, y8.2)))) l11 (y6.1, y6.2)).bind (fun (y7 : (Hl × Cell)) => (if ((!eqB y5.1 y7.1) || (!eqB y5.2 y7.2)) = true then (Res.ok false) else ((Res.ok []).bind fun (eight : (List Hl)) => (bindS (((Lk.mirrored hall).bind fun x12 => Res.ok [hall, x12]).bind fun l17 => foldS (fun (one : Hl) (eight : (List Hl)) => (((rngR 4).bind fun l15 => foldR (fun (k : Int) (y13 : ((List Hl) × Hl)) => ((Res.ok y13.2).bind fun x14 => (pushL y13.1 x14).bind fun (eight : (List Hl)) => ((Lk.turned y13.2).bind fun (one : Hl) => (Res.ok (eight, one))))) l15 (eight, one)).bind (fun (y13 : ((List Hl) × Hl)) => (if (!memB y13.2 y13.1) = true then ((Res.ok false).bind fun r16 => Res.ok (Stp.rt r16)) else (Res.ok (Stp.nx y13.1)))))) l17 eight) (fun r => r) (fun (eight : (List Hl)) => (bindS (foldS (fun (one : Hl) (y18 : Unit) => ((((Lk.are_like hall one).bind fun x20 => Res.ok (!decide (x20 = true))).bind fun p21 => if p21 = true then Res.ok true else ((Lk.are_like one hall).bind fun x19 => Res.ok (!decide (x19 = true)))).bind fun p37 => if p37 = true then ((Res.ok false).bind fun r22 => Res.ok (Stp.rt r22)) else (((((Lk.floors one).bind fun x27 => Res.ok (x27.length : Int)).bind fun x29 => (((Lk.floors hall).bind fun x28 => Res.ok (x28.length : Int)).bind fun x30 => Res.ok (!eqB x29 x30))).bind fun p31 => if p31 = true then Res.ok true else (((Lk.parts one).bind fun x23 => Res.ok (x23.length : Int)).bind fun x25 => (((Lk.parts hall).bind fun x24 => Res.ok (x24.length : Int)).bind fun x26 => Res.ok (!eqB x25 x26)))).bind fun p36 => if p36 = true then ((Res.ok false).bind fun r32 => Res.ok (Stp.rt r32)) else (((Lk.are_like hall (one.1, ((one.2 + 1) % 99))).bind fun x33 => Res.ok (!decide (x33 = false))).bind fun p35 => if p35 = true then ((Res.ok false).bind fun r34 => Res.ok (Stp.rt r34)) else (Res.ok (Stp.nx ())))))) eight ()) (fun r => r) (fun (y18 : Unit) => ((((Lk.parts y5.1).bind fun l38 => lcR l38 (fun part => Res.ok true) (fun part => Res.ok (part.length : Int))).bind fun x39 => Res.ok (sortI x39)).bind fun x42 => ((((Lk.parts hall).bind fun l40 => lcR l40 (fun part => Res.ok true) (fun part => Res.ok (part.length : Int))).bind fun x41 => Res.ok (sortI x41)).bind fun x43 => Res.ok (eqB x42 x43)))))))))))))))))
def Lk.rows_text (rows : (List Tx)) : Res Tx :=
  ((lcR rows (fun row => Res.ok true) (fun row => (addTx row [Char.ofNat 10]))).bind fun x1 => (joinR [] x1))
def Lk.hall_text (hall : Hl) : Res Tx :=
  ((((strI hall.2).bind fun x1 => (addTx ['f', 'a', 'r', ' '] x1)).bind fun x2 => (addTx x2 [Char.ofNat 10])).bind fun x3 => ((Lk.rows_text hall.1).bind fun x4 => (addTx x3 x4)))
def Lk.need (good : Bool) : Res Unit :=
  (if (!good) = true then (Res.ex "NoText") else (Res.ok ()))
def Lk.is_row_t (thing : Tx) : Res Bool :=
  ((if (!true) = true then Res.ok true else (((txLen thing).bind fun x1 => (if (decide (1 ≤ x1)) = true then Res.ok (decide (x1 ≤ (8))) else Res.ok false)).bind fun p => Res.ok (!p))).bind fun p3 => if p3 = true then (Res.ok false) else ((lcR (charsZ thing) (fun sign => Res.ok true) (fun sign => Res.ok (memB sign [['#'], ['.'], ['o'], ['x']]))).bind fun x2 => Res.ok (x2.all fun b => b)))
def Lk.is_hall_t (thing : Hl) : Res Bool :=
  ((if (!true) = true then Res.ok true else (if (!eqB (2 : Int) 2) = true then Res.ok true else ((Lk.is_whole_t thing.2 0 (98)).bind fun p => Res.ok (!p)))).bind fun p7 => if p7 = true then (Res.ok false) else (if ((!true) || (!((decide (1 ≤ (thing.1.length : Int))) && (decide ((thing.1.length : Int) ≤ (8)))))) = true then (Res.ok false) else (((lcR thing.1 (fun row => Res.ok true) (fun row => (Lk.is_row_t row))).bind fun x5 => Res.ok (x5.all fun b => b)).bind fun p6 => if p6 = true then ((lcR thing.1 (fun row => Res.ok true) (fun row => ((txLen row).bind fun x2 => (((ixR thing.1 0).bind fun x1 => (txLen x1)).bind fun x3 => Res.ok (eqB x2 x3))))).bind fun x4 => Res.ok (x4.all fun b => b)) else Res.ok false)))
def Lk.l_changed_t (text : Tx) (number : Int) : Res Tx :=
  ((((txLen text).bind fun x1 => Res.ok (x1 + 1)).bind fun x2 => (modR (number / 16) x2)).bind fun (at' : Int) => ((txIx ['#', '.', 'o', 'x', '@', Char.ofNat 10, ' ', '0', '1', '9', 'f'] ((number / 4096) % 11)).bind fun (sign : Tx) => (if (eqB (number % 4) 0) = true then (((txCut text none (some at')).bind fun x3 => (addTx x3 sign)).bind fun x4 => ((txCut text (some at') none).bind fun x5 => (addTx x4 x5))) else (if (eqB (number % 4) 1) = true then ((txCut text none (some at')).bind fun x6 => ((txCut text (some (at' + 1)) none).bind fun x7 => (addTx x6 x7))) else (if (eqB (number % 4) 2) = true then (((txCut text none (some at')).bind fun x8 => (addTx x8 sign)).bind fun x9 => ((txCut text (some (at' + 1)) none).bind fun x10 => (addTx x9 x10))) else ((txCut text none (some at')).bind fun x11 => ((txCut text (some (at' + ((number / 64) % 9))) none).bind fun x12 => (addTx x11 x12))))))))
end PV
/-! M1: halls, cells, floors -/
namespace PV
/-- the same as Res.ok_bind, but not by rfl: simp then leaves a proof, and the kernel need not compute. -/
theorem okb {α β : Type} {a : α} {f : α → Res β} : (Res.ok a).bind f = f a := Eq.trans (Eq.refl _) (Res.ok_bind a f)
def hgt (h : Hl) : Nat := h.1.length
def rowN (h : Hl) (i : Nat) : Tx := (h.1[i]?).getD []
def wid (h : Hl) : Nat := (rowN h 0).length
def sg (h : Hl) (c : Cell) : Char := ((rowN h c.1.toNat)[c.2.toNat]?).getD ' '
def inB (h : Hl) (c : Cell) : Bool := (decide (0 ≤ c.1) && decide (c.1 < hgt h)) && (decide (0 ≤ c.2) && decide (c.2 < wid h))
def sgs : List Char := ['#', '.', 'o', 'x']
structure HOk (h : Hl) : Prop where
  h1 : 1 ≤ hgt h
  h8 : hgt h ≤ 8
  w1 : 1 ≤ wid h
  w8 : wid h ≤ 8
  len : ∀ r ∈ h.1, r.length = wid h
  sg : ∀ r ∈ h.1, ∀ x ∈ r, x ∈ sgs
  f0 : 0 ≤ h.2
  f98 : h.2 ≤ 98
theorem in_iff {h : Hl} {c : Cell} : inB h c = true ↔ (0 ≤ c.1 ∧ c.1 < hgt h) ∧ (0 ≤ c.2 ∧ c.2 < wid h) := by
  simp [inB]
theorem ix_rows {h : Hl} {i : Int} (h0 : 0 ≤ i) (h1 : i < hgt h) : ixR h.1 i = .ok (rowN h i.toNat) := by
  unfold hgt at h1
  have : i.toNat < h.1.length := by omega
  refine ixR_ok h0 ?_
  unfold rowN
  rw [List.getElem?_eq_getElem this]; rfl
theorem row_mem {h : Hl} {i : Nat} (hi : i < hgt h) : rowN h i ∈ h.1 := by
  unfold rowN
  rw [List.getElem?_eq_getElem (show i < h.1.length from hi)]
  exact List.getElem_mem _
section
variable {h : Hl} (ok : HOk h)
include ok
theorem HOk.rowLen {i : Nat} (hi : i < hgt h) : (rowN h i).length = wid h := ok.len _ (row_mem hi)
theorem HOk.sg_in {c : Cell} (hc : inB h c = true) : PV.sg h c ∈ sgs := by
  obtain ⟨⟨a, b⟩, d, e⟩ := in_iff.mp hc
  have hi : c.1.toNat < hgt h := by omega
  have hj : c.2.toNat < (rowN h c.1.toNat).length := by rw [ok.rowLen hi]; omega
  unfold PV.sg
  rw [List.getElem?_eq_getElem hj]
  exact ok.sg _ (row_mem hi) _ (List.getElem_mem _)
theorem HOk.ix0 : ixR h.1 0 = .ok (rowN h 0) := ix_rows (by omega) (by have := ok.h1; omega)
theorem HOk.len0 : txLen (rowN h 0) = .ok (wid h : Int) := txLen_ok (by have := ok.w8; unfold wid at this; omega)
theorem HOk.ixr {c : Cell} (hc : inB h c = true) : ixR h.1 c.1 = .ok (rowN h c.1.toNat) := by
  obtain ⟨⟨a, b⟩, d, e⟩ := in_iff.mp hc
  exact ix_rows a b
theorem HOk.ixc {c : Cell} (hc : inB h c = true) : txIx (rowN h c.1.toNat) c.2 = .ok [PV.sg h c] := by
  obtain ⟨⟨a, b⟩, d, e⟩ := in_iff.mp hc
  have hi : c.1.toNat < hgt h := by omega
  have hl := ok.rowLen hi
  have := ok.w8
  have hj : c.2.toNat < (rowN h c.1.toNat).length := by omega
  refine txIx_ok (by omega) d ?_
  unfold PV.sg
  rw [List.getElem?_eq_getElem hj]; rfl
theorem s_is_inside (c : Cell) : Lk.is_inside h c = .ok (inB h c) := by
  unfold Lk.is_inside
  rw [ok.ix0]
  simp only [Res.ok_bind]
  rw [ok.len0]
  simp only [Res.ok_bind]
  unfold inB hgt
  cases (decide (0 ≤ c.1) && decide (c.1 < (h.1.length : Int))) <;> cases decide (0 ≤ c.2) <;> rfl
theorem s_need_cell {c : Cell} (hc : inB h c = true) : Lk.need_cell h c = .ok () := by
  unfold Lk.need_cell
  rw [s_is_inside ok, hc]; rfl
theorem s_need_cell_ex {c : Cell} (hc : inB h c = false) : Lk.need_cell h c = .ex "NoCell" := by
  unfold Lk.need_cell
  rw [s_is_inside ok, hc]; rfl
theorem s_sign_at {c : Cell} (hc : inB h c = true) : Lk.sign_at h c = .ok [PV.sg h c] := by
  unfold Lk.sign_at
  rw [s_need_cell ok hc, ok.ixr hc]
  exact ok.ixc hc
theorem s_sign_at_ex {c : Cell} (hc : inB h c = false) : Lk.sign_at h c = .ex "NoCell" := by
  unfold Lk.sign_at
  rw [s_need_cell_ex ok hc]; rfl
end
def freeB (h : Hl) (c : Cell) : Bool := !(decide (sg h c = '#') || decide (sg h c = 'x'))
theorem free_iff {h : Hl} {c : Cell} : freeB h c = true ↔ sg h c ≠ '#' ∧ sg h c ≠ 'x' := by unfold freeB; simp
theorem s_is_free {h : Hl} (ok : HOk h) {c : Cell} (hc : inB h c = true) : Lk.is_free h c = .ok (freeB h c) := by
  unfold Lk.is_free
  rw [ok.ixr hc]
  simp only [Res.ok_bind]
  rw [ok.ixc hc]
  simp only [Res.ok_bind]
  unfold freeB memB
  congr 2
  simp
/-! all cells, all floor cells -/
def rowCells (r w : Nat) : List Cell := (List.range w).map fun c => ((r : Int), ((c : Nat) : Int))
def cellsL (h : Hl) : List Cell := (List.range (hgt h)).flatMap fun r => rowCells r (wid h)
def floorsL (h : Hl) : List Cell := (cellsL h).filter fun c => decide (sg h c = '.')
theorem mem_cells {h : Hl} {c : Cell} : c ∈ cellsL h ↔ inB h c = true := by
  rw [in_iff]
  unfold cellsL rowCells
  simp only [List.mem_flatMap, List.mem_map, List.mem_range]
  constructor
  · rintro ⟨r, hr, k, hk, rfl⟩
    exact ⟨⟨by show (0:Int) ≤ (r : Int); omega, by show (r : Int) < _; omega⟩, by show (0:Int) ≤ (k : Int); omega, by show (k : Int) < _; omega⟩
  · rintro ⟨⟨a, b⟩, d, e⟩
    refine ⟨c.1.toNat, by omega, c.2.toNat, by omega, ?_⟩
    rw [Int.toNat_of_nonneg a, Int.toNat_of_nonneg d]
theorem rowCells_len (r w : Nat) : (rowCells r w).length = w := by unfold rowCells; simp
theorem cells_len_aux (w : Nat) : ∀ n : Nat, ((List.range n).flatMap fun r => rowCells r w).length = n * w
  | 0 => by simp
  | n + 1 => by
    rw [List.range_succ, List.flatMap_append, List.length_append, cells_len_aux w n]
    simp only [List.flatMap_cons, List.flatMap_nil, List.append_nil, rowCells_len]
    rw [Nat.succ_mul]
theorem cells_len (h : Hl) : (cellsL h).length = hgt h * wid h := cells_len_aux _ _
theorem HOk.cells_le {h : Hl} (ok : HOk h) : (cellsL h).length ≤ 64 := by
  rw [cells_len]
  exact Nat.mul_le_mul ok.h8 ok.w8
theorem HOk.cells_pos {h : Hl} (ok : HOk h) : 0 < (cellsL h).length := by
  rw [cells_len]
  exact Nat.mul_pos ok.h1 ok.w1
theorem floors_le {h : Hl} (ok : HOk h) : (floorsL h).length ≤ 64 := Nat.le_trans (List.length_filter_le _ _) ok.cells_le
theorem mem_floors {h : Hl} {c : Cell} : c ∈ floorsL h ↔ inB h c = true ∧ sg h c = '.' := by
  unfold floorsL
  rw [List.mem_filter, mem_cells]; simp
theorem floor_in {h : Hl} {c : Cell} (hc : c ∈ floorsL h) : inB h c = true := (mem_floors.mp hc).1
theorem floor_free {h : Hl} {c : Cell} (hc : c ∈ floorsL h) : freeB h c = true := by
  rw [free_iff, (mem_floors.mp hc).2]; decide
/-- walks over the rows and columns -/
theorem rows_fold {h : Hl} (ok : HOk h) {b : Int → List Cell → Res (List Cell)} (hb : ∀ (i : Nat) (found : List Cell), i < hgt h → found.length ≤ 64 → b (i : Int) found = .ok (found ++ rowCells i (wid h))) : foldR b ((List.range (hgt h)).map fun i : Nat => (i : Int)) [] = .ok (cellsL h) := by
  have h8 := ok.h8
  have w8 := ok.w8
  rw [foldR_by (fun pre => (List.range pre.length).flatMap fun r => rowCells r (wid h))]
  · unfold cellsL; simp
  · rfl
  · intro p a q e
    have hp : p.length < hgt h := by
      have := congrArg List.length e
      simp at this; omega
    have ha : a = (p.length : Int) := by
      have := congrArg (fun l => l[p.length]?) e
      rw [List.getElem?_map, List.getElem?_range hp] at this
      simpa [eq_comm] using this
    subst ha
    rw [hb _ _ hp (by
      rw [cells_len_aux]
      exact Nat.le_trans (Nat.mul_le_mul (show p.length ≤ 8 by omega) w8) (by decide))]
    rw [List.length_append, List.length_singleton, List.range_succ, List.flatMap_append]
    simp
theorem row_cells {h : Hl} (ok : HOk h) (i : Nat) : (((ixR h.1 0).bind fun x1 => (txLen x1)).bind fun x2 => (rngR x2)).bind (fun l3 => lcR l3 (fun column => Res.ok true) (fun column => Res.ok ((i : Int), column))) = .ok (rowCells i (wid h)) := by
  have w8 := ok.w8
  rw [ok.ix0, Res.ok_bind, ok.len0, Res.ok_bind, rngR_ok (by omega), Res.ok_bind, lcR_all (fun column => ((i : Int), column)) (fun _ _ => rfl) (by simp [SZ]; omega), List.map_map]; rfl
theorem s_cells {h : Hl} (ok : HOk h) : Lk.cells h = .ok (cellsL h) := by
  have h8 := ok.h8
  have w8 := ok.w8
  unfold Lk.cells
  rw [show ((h.1.length : Nat) : Int) = (hgt h : Int) from rfl, rngR_ok (by omega), Res.ok_bind, Res.ok_bind, rows_fold ok]
  · rfl
  · intro i found hi hf
    rw [row_cells ok i, Res.ok_bind, addL_ok (by rw [rowCells_len]; omega)]; rfl
theorem s_l_cells {h : Hl} (ok : HOk h) : Lk.l_cells h = .ok (cellsL h) := by
  have h8 := ok.h8
  have w8 := ok.w8
  unfold Lk.l_cells
  rw [show ((h.1.length : Nat) : Int) = (hgt h : Int) from rfl, rngR_ok (by omega), Res.ok_bind, Res.ok_bind, rows_fold ok]
  · rfl
  · intro i found hi hf
    rw [row_cells ok i, Res.ok_bind, addL_ok (by rw [rowCells_len]; omega)]; rfl
theorem s_floors {h : Hl} (ok : HOk h) : Lk.floors h = .ok (floorsL h) := by
  unfold Lk.floors
  rw [s_cells ok]
  simp only [Res.ok_bind]
  rw [lcR_eq (fun c => decide (sg h c = '.')) (fun c => c) (fun c hc => ?_) (fun _ _ _ => rfl) (by
    have := List.length_filter_le (fun c => decide (sg h c = '.')) (cellsL h)
    have := ok.cells_le
    rw [SZ]; omega)]
  · simp only [Res.ok_bind, List.map_id']; rfl
  · rw [s_sign_at ok (mem_cells.mp hc)]
    simp only [Res.ok_bind]
    unfold eqB
    congr 1
    simp
/-! rising lists of cells -/
def cLt (a b : Cell) : Prop := a.1 < b.1 ∨ (a.1 = b.1 ∧ a.2 < b.2)
def Rise (l : List Cell) : Prop := l.Pairwise cLt
theorem cLt_irrefl (a : Cell) : ¬cLt a a := by unfold cLt; omega
theorem cLt_trans {a b c : Cell} (h : cLt a b) (g : cLt b c) : cLt a c := by unfold cLt at *; omega
theorem cLt_or {a b : Cell} (h : a ≠ b) : cLt a b ∨ cLt b a := by
  unfold cLt
  have : ¬(a.1 = b.1 ∧ a.2 = b.2) := fun z => h (Prod.ext z.1 z.2)
  omega
theorem lex_iff {a b : Cell} : lexZ a b = true ↔ cLt a b := by
  unfold lexZ cLt
  split
  · rename_i h; rw [decide_eq_true_eq]; omega
  · rename_i h; rw [decide_eq_true_eq]; omega
theorem lex_no {a b : Cell} : lexZ a b = false ↔ ¬cLt a b := by
  rw [← lex_iff]; cases lexZ a b <;> simp
theorem rise_ext : ∀ {l m : List Cell}, Rise l → Rise m → (∀ c, c ∈ l ↔ c ∈ m) → l = m
  | [], [], _, _, _ => rfl
  | [], b :: m, _, _, h => by have := (h b).mpr List.mem_cons_self; simp at this
  | a :: l, [], _, _, h => by have := (h a).mp List.mem_cons_self; simp at this
  | a :: l, b :: m, hl, hm, h => by
    obtain ⟨l1, l2⟩ := List.pairwise_cons.mp hl
    obtain ⟨m1, m2⟩ := List.pairwise_cons.mp hm
    have hab : a = b := by
      rcases List.mem_cons.mp ((h a).mp List.mem_cons_self) with e | ha
      · exact e
      · rcases List.mem_cons.mp ((h b).mpr List.mem_cons_self) with e | hb
        · exact e.symm
        · exact absurd (cLt_trans (l1 b hb) (m1 a ha)) (cLt_irrefl _)
    subst hab
    congr 1
    refine rise_ext l2 m2 fun c => ?_
    constructor
    · intro hc
      rcases List.mem_cons.mp ((h c).mp (List.mem_cons_of_mem _ hc)) with e | z
      · subst e; exact absurd (l1 _ hc) (cLt_irrefl _)
      · exact z
    · intro hc
      rcases List.mem_cons.mp ((h c).mpr (List.mem_cons_of_mem _ hc)) with e | z
      · subst e; exact absurd (m1 _ hc) (cLt_irrefl _)
      · exact z
theorem Rise.filter {l : List Cell} (p : Cell → Bool) (h : Rise l) : Rise (l.filter p) := List.Pairwise.filter p h
theorem Rise.nodup {l : List Cell} (h : Rise l) : l.Nodup := List.Pairwise.imp (fun {a b} (z : cLt a b) (e : a = b) => by subst e; exact cLt_irrefl _ z) h
theorem rise_row (r w : Nat) : Rise (rowCells r w) := by
  unfold rowCells Rise
  rw [List.pairwise_map]
  exact List.pairwise_lt_range.imp fun h => .inr ⟨rfl, by show ((_ : Nat) : Int) < _; omega⟩
theorem rise_cells_aux (w : Nat) : ∀ l : List Nat, l.Pairwise (· < ·) → Rise (l.flatMap fun r => rowCells r w)
  | [], _ => .nil
  | r :: l, h => by
    obtain ⟨h1, h2⟩ := List.pairwise_cons.mp h
    rw [List.flatMap_cons]
    refine List.pairwise_append.mpr ⟨rise_row r w, rise_cells_aux w l h2, fun a ha b hb => ?_⟩
    unfold rowCells at ha
    obtain ⟨k, _, rfl⟩ := List.mem_map.mp ha
    obtain ⟨r', hr', hb⟩ := List.mem_flatMap.mp hb
    unfold rowCells at hb
    obtain ⟨k', _, rfl⟩ := List.mem_map.mp hb
    have := h1 r' hr'
    exact .inl (by show ((r : Nat) : Int) < (r' : Nat); omega)
theorem rise_cells (h : Hl) : Rise (cellsL h) := rise_cells_aux _ _ List.pairwise_lt_range
theorem rise_floors (h : Hl) : Rise (floorsL h) := (rise_cells h).filter _
/-- sorting what has the members of a rising list -/
theorem Rise.sd {l : List Cell} (h : Rise l) : Sd lexZ l := h.imp fun {a b} z => by
  rw [lex_no]; intro k; exact cLt_irrefl _ (cLt_trans z k)
theorem lexZ_tr (a b c : Cell) (h : lexZ b a = false) (g : lexZ c b = false) : lexZ c a = false := by rw [lex_no] at *; unfold cLt at *; omega
theorem lexZ_as (a b : Cell) (h : lexZ a b = true) : lexZ b a = false := by rw [lex_no]; rw [lex_iff] at h; unfold cLt at *; omega
theorem lexZ_an (a b : Cell) (h : lexZ a b = false) (g : lexZ b a = false) : a = b := by
  rw [lex_no] at *
  unfold cLt at *
  exact Prod.ext (by omega) (by omega)
theorem sort_perm (l : List Cell) : (sortC l).Perm l := isort_perm _ l
theorem sort_sd (l : List Cell) : Sd lexZ (sortC l) := isort_sd lexZ_tr lexZ_as l
theorem mem_sort {l : List Cell} {c : Cell} : c ∈ sortC l ↔ c ∈ l := (sort_perm l).mem_iff
theorem sort_of_perm {l m : List Cell} (hm : Rise m) (p : l.Perm m) : sortC l = m := sd_uniq lexZ_an (sort_sd l) hm.sd ((sort_perm l).trans p)
theorem sort_rise {l : List Cell} (h : l.Nodup) : Rise (sortC l) := by
  have h2 : (sortC l).Nodup := (sort_perm l).nodup_iff.mpr h
  have h3 := sort_sd l
  exact (h2.and h3).imp fun {a b} z => by
    rcases cLt_or z.1 with q | q
    · exact q
    · rw [lex_no] at z; exact absurd q z.2
theorem sort_eq {l m : List Cell} (hl : l.Nodup) (hm : Rise m) (h : ∀ c, c ∈ l ↔ c ∈ m) : sortC l = m :=
  rise_ext (sort_rise hl) hm fun c => by rw [mem_sort]; exact h c
end PV
/-! M2: sight -/
namespace PV
def sideOf (a b s : Cell) : Int := 2 * (b.1 - a.1) * (s.2 - 2 * a.2 - 1) - 2 * (b.2 - a.2) * (s.1 - 2 * a.1 - 1)
def Bd (c : Cell) : Prop := (-1000 ≤ c.1 ∧ c.1 ≤ 1000) ∧ (-1000 ≤ c.2 ∧ c.2 ≤ 1000)
theorem s_side_of {a b : Cell} (s : Cell) (ha : Bd a) (hb : Bd b) : Lk.side_of a b s = .ok (sideOf a b s) := by
  obtain ⟨⟨a1, a2⟩, a3, a4⟩ := ha
  obtain ⟨⟨b1, b2⟩, b3, b4⟩ := hb
  unfold Lk.side_of sideOf
  rw [Res.ok_bind, Res.ok_bind, mulR_l (by omega) (by omega), Res.ok_bind, mulR_l (by omega) (by omega), Res.ok_bind]
def isCrossed (a b c : Cell) : Bool :=
  (decide (sideOf a b (2 * c.1, 2 * c.2) < 0) || decide (sideOf a b (2 * c.1, 2 * c.2 + 2) < 0) || decide (sideOf a b (2 * c.1 + 2, 2 * c.2) < 0) || decide (sideOf a b (2 * c.1 + 2, 2 * c.2 + 2) < 0)) &&
  (decide (0 < sideOf a b (2 * c.1, 2 * c.2)) || decide (0 < sideOf a b (2 * c.1, 2 * c.2 + 2)) || decide (0 < sideOf a b (2 * c.1 + 2, 2 * c.2)) || decide (0 < sideOf a b (2 * c.1 + 2, 2 * c.2 + 2)))
theorem crossed_iff {a b c : Cell} : isCrossed a b c = true ↔
    (sideOf a b (2 * c.1, 2 * c.2) < 0 ∨ sideOf a b (2 * c.1, 2 * c.2 + 2) < 0 ∨ sideOf a b (2 * c.1 + 2, 2 * c.2) < 0 ∨ sideOf a b (2 * c.1 + 2, 2 * c.2 + 2) < 0) ∧
    (0 < sideOf a b (2 * c.1, 2 * c.2) ∨ 0 < sideOf a b (2 * c.1, 2 * c.2 + 2) ∨ 0 < sideOf a b (2 * c.1 + 2, 2 * c.2) ∨ 0 < sideOf a b (2 * c.1 + 2, 2 * c.2 + 2)) := by
  unfold isCrossed
  simp only [Bool.and_eq_true, Bool.or_eq_true, decide_eq_true_eq, or_assoc]
theorem s_is_crossed {a b : Cell} (c : Cell) (ha : Bd a) (hb : Bd b) : Lk.is_crossed a b c = .ok (isCrossed a b c) := by
  unfold Lk.is_crossed
  rw [Res.ok_bind, Res.ok_bind, lcR_all (fun s => sideOf a b s) (fun s _ => s_side_of s ha hb) (by simp [SZ]), Res.ok_bind]
  simp only [List.map_cons, List.map_nil]
  have e : ∀ x1 x2 x3 x4 : Int, ((minR [x1, x2, x3, x4]).bind fun x3' => if (decide (x3' < 0)) = true then (maxR [x1, x2, x3, x4]).bind fun x2' => Res.ok (decide (0 < x2')) else Res.ok false)
      = .ok ((decide (x1 < 0) || decide (x2 < 0) || decide (x3 < 0) || decide (x4 < 0)) && (decide (0 < x1) || decide (0 < x2) || decide (0 < x3) || decide (0 < x4))) := by
    intro x1 x2 x3 x4
    unfold minR maxR
    rw [if_neg (by simp), if_neg (by simp), Res.ok_bind, Res.ok_bind]
    rw [show minZ [x1, x2, x3, x4] = min x1 (min x2 (min x3 x4)) from rfl, show maxZ [x1, x2, x3, x4] = max x1 (max x2 (max x3 x4)) from rfl]
    have e1 : decide (min x1 (min x2 (min x3 x4)) < 0) = (decide (x1 < 0) || decide (x2 < 0) || decide (x3 < 0) || decide (x4 < 0)) := by
      rw [Bool.eq_iff_iff]; simp only [Bool.or_eq_true, decide_eq_true_eq]; omega
    have e2 : decide (0 < max x1 (max x2 (max x3 x4))) = (decide (0 < x1) || decide (0 < x2) || decide (0 < x3) || decide (0 < x4)) := by
      rw [Bool.eq_iff_iff]; simp only [Bool.or_eq_true, decide_eq_true_eq]; omega
    rw [e1, e2]
    cases (decide (x1 < 0) || decide (x2 < 0) || decide (x3 < 0) || decide (x4 < 0)) <;> rfl
  exact e _ _ _ _
/-! all cells between -/
def span (x y : Int) : List Int := (List.range (max x y + 1 - min x y).toNat).map fun k => min x y + (k : Nat)
def crossB (a b c : Cell) : Bool := !(decide (c = a) || decide (c = b)) && isCrossed a b c
def crossRow (a b : Cell) (r : Int) : List Cell := ((span a.2 b.2).filter fun c => crossB a b (r, c)).map fun c => (r, c)
def crossedL (a b : Cell) : List Cell := (span a.1 b.1).flatMap (crossRow a b)
theorem span_len (x y : Int) : (span x y).length = (max x y + 1 - min x y).toNat := by unfold span; simp
theorem crossRow_len (a b : Cell) (r : Int) : (crossRow a b r).length ≤ (max a.2 b.2 + 1 - min a.2 b.2).toNat := by
  unfold crossRow
  rw [List.length_map, ← span_len]
  exact List.length_filter_le _ _
theorem flatMap_len {α β : Type} (f : α → List β) (m : Nat) : ∀ l : List α, (∀ x ∈ l, (f x).length ≤ m) → (l.flatMap f).length ≤ l.length * m
  | [], _ => by simp
  | x :: l, h => by
    have h1 := h x List.mem_cons_self
    have h2 := flatMap_len f m l fun y hy => h y (List.mem_cons_of_mem _ hy)
    rw [List.flatMap_cons, List.length_append, List.length_cons, Nat.succ_mul]
    omega
theorem crossed_len (a b : Cell) (ha : Bd a) (hb : Bd b) (l : List Int) (hl : l.length ≤ 2001) : (l.flatMap (crossRow a b)).length ≤ 2001 * 2001 := by
  obtain ⟨⟨a1, a2⟩, a3, a4⟩ := ha
  obtain ⟨⟨b1, b2⟩, b3, b4⟩ := hb
  refine Nat.le_trans (flatMap_len _ 2001 l fun r _ => ?_) (Nat.mul_le_mul_right _ hl)
  have := crossRow_len a b r
  omega
theorem span_rng {x y : Int} (h1 : -4000 ≤ min x y) (h2 : max x y ≤ 4000) : rngR2 (min x y) (max x y + 1) = .ok (span x y) := by
  rw [rngR2_ok (by omega) (by omega) (by omega) (by omega)]; rfl
theorem s_crossed {a b : Cell} (ha : Bd a) (hb : Bd b) : Lk.crossed a b = .ok (crossedL a b) := by
  have ha' := ha
  have hb' := hb
  obtain ⟨⟨a1, a2⟩, a3, a4⟩ := ha
  obtain ⟨⟨b1, b2⟩, b3, b4⟩ := hb
  unfold Lk.crossed
  rw [Res.ok_bind, span_rng (by omega) (by omega), Res.ok_bind, foldR_by (fun pre => pre.flatMap (crossRow a b))]
  · rfl
  · rfl
  intro p r q e
  have hp : p.length ≤ 2001 := by
    have := congrArg List.length e
    rw [span_len, List.length_append] at this
    omega
  rw [span_rng (by omega) (by omega), Res.ok_bind, foldR_by (fun pre => p.flatMap (crossRow a b) ++ (pre.filter fun c => crossB a b (r, c)).map fun c => (r, c))]
  · rw [Res.ok_bind, List.flatMap_append]; simp [crossRow]
  · simp
  intro p2 x q2 e2
  have l1 := crossed_len a b ha' hb' p hp
  have l2 := List.length_filter_le (fun c => crossB a b (r, c)) p2
  have l3 := congrArg List.length e2
  rw [span_len, List.length_append] at l3
  have hm : (!memB (r, x) [a, b]) = !(decide ((r, x) = a) || decide ((r, x) = b)) := by
    unfold memB; congr 1; rw [Bool.eq_iff_iff]; simp
  rw [s_is_crossed _ ha' hb', hm, List.filter_append]
  have hcB : crossB a b (r, x) = (!(decide ((r, x) = a) || decide ((r, x) = b)) && isCrossed a b (r, x)) := rfl
  cases h1 : (!(decide ((r, x) = a) || decide ((r, x) = b))) with
  | false =>
    rw [h1] at hcB
    rw [if_neg Bool.false_ne_true, Res.ok_bind, if_neg Bool.false_ne_true]
    simp [hcB]
  | true =>
    rw [h1, Bool.true_and] at hcB
    rw [if_pos rfl, Res.ok_bind]
    cases h2 : isCrossed a b (r, x) with
    | false =>
      rw [if_neg Bool.false_ne_true]
      simp [hcB, h2]
    | true =>
      rw [if_pos rfl, Res.ok_bind, pushL_ok (by
        rw [List.length_append, List.length_map]
        omega), Res.ok_bind]
      simp [hcB, h2]
/-! near, sees, seen -/
def nearB (h : Hl) (a b : Cell) : Bool := decide (h.2 = 0) || decide ((a.1 - b.1) * (a.1 - b.1) + (a.2 - b.2) * (a.2 - b.2) ≤ h.2)
theorem mem_span {x y k : Int} : k ∈ span x y ↔ min x y ≤ k ∧ k ≤ max x y := by
  unfold span
  simp only [List.mem_map, List.mem_range]
  constructor
  · rintro ⟨i, hi, rfl⟩; omega
  · rintro ⟨a, b⟩; exact ⟨(k - min x y).toNat, by omega, by omega⟩
theorem mem_crossed {a b c : Cell} : c ∈ crossedL a b ↔ (min a.1 b.1 ≤ c.1 ∧ c.1 ≤ max a.1 b.1) ∧ (min a.2 b.2 ≤ c.2 ∧ c.2 ≤ max a.2 b.2) ∧ crossB a b c = true := by
  unfold crossedL crossRow
  simp only [List.mem_flatMap, List.mem_map, List.mem_filter, mem_span]
  constructor
  · rintro ⟨r, hr, k, ⟨hk, hc⟩, rfl⟩; exact ⟨hr, hk, hc⟩
  · rintro ⟨h1, h2, h3⟩; exact ⟨c.1, h1, c.2, ⟨h2, h3⟩, rfl⟩
theorem crossed_inside {h : Hl} {a b c : Cell} (ha : inB h a = true) (hb : inB h b = true) (hc : c ∈ crossedL a b) : inB h c = true := by
  rw [in_iff] at ha hb ⊢
  obtain ⟨h1, h2, _⟩ := mem_crossed.mp hc
  omega
def seesB (h : Hl) (a b : Cell) : Bool := (freeB h a && freeB h b && nearB h a b) && (crossedL a b).all (freeB h)
def seenL (h : Hl) (a : Cell) : List Cell := (floorsL h).filter fun b => seesB h a b
theorem HOk.bd {h : Hl} (ok : HOk h) {c : Cell} (hc : inB h c = true) : Bd c := by
  obtain ⟨⟨a, b⟩, d, e⟩ := in_iff.mp hc
  have := ok.h8
  have := ok.w8
  exact ⟨⟨by omega, by omega⟩, by omega, by omega⟩
theorem crossed_le {a b : Cell} (ha : Bd a) (hb : Bd b) : (crossedL a b).length ≤ SZ := by
  have := crossed_len a b ha hb (span a.1 b.1) (by
    obtain ⟨⟨a1, a2⟩, a3, a4⟩ := ha
    obtain ⟨⟨b1, b2⟩, b3, b4⟩ := hb
    rw [span_len]; omega)
  rw [SZ]
  show ((span a.1 b.1).flatMap (crossRow a b)).length ≤ _
  omega
section
variable {h : Hl} (ok : HOk h)
include ok
theorem s_is_near {a b : Cell} (ha : Bd a) (hb : Bd b) : Lk.is_near h a b = .ok (nearB h a b) := by
  obtain ⟨⟨a1, a2⟩, a3, a4⟩ := ha
  obtain ⟨⟨b1, b2⟩, b3, b4⟩ := hb
  unfold Lk.is_near nearB eqB
  rw [Res.ok_bind, Res.ok_bind, mulR_l (by omega) (by omega), Res.ok_bind, mulR_l (by omega) (by omega), Res.ok_bind, Res.ok_bind]
  cases decide (h.2 = 0) <;> rfl
theorem s_sees {a b : Cell} (ha : inB h a = true) (hb : inB h b = true) : Lk.sees h a b = .ok (seesB h a b) := by
  unfold Lk.sees
  rw [s_need_cell ok ha, s_need_cell ok hb, s_is_free ok ha, s_is_free ok hb, s_is_near ok (ok.bd ha) (ok.bd hb), s_crossed (ok.bd ha) (ok.bd hb)]
  simp only [Res.ok_bind]
  rw [lcR_all (fun c => freeB h c) (fun c hc => s_is_free ok (crossed_inside ha hb hc)) (crossed_le (ok.bd ha) (ok.bd hb)), Res.ok_bind, List.all_map]
  unfold seesB
  have e : ((crossedL a b).all ((fun b => b) ∘ fun c => freeB h c)) = (crossedL a b).all (freeB h) := rfl
  rw [e]
  cases freeB h a <;> cases freeB h b <;> cases nearB h a b <;> rfl
theorem s_sees_ex {a b : Cell} (hc : inB h a = false ∨ inB h b = false) : Lk.sees h a b = .ex "NoCell" := by
  unfold Lk.sees
  cases ha : inB h a with
  | false => rw [s_need_cell_ex ok ha]; rfl
  | true =>
    rcases hc with z | hb
    · rw [ha] at z; cases z
    · rw [s_need_cell ok ha, Res.ok_bind, s_need_cell_ex ok hb]; rfl
theorem s_seen {a : Cell} (ha : inB h a = true) : Lk.seen h a = .ok (seenL h a) := by
  unfold Lk.seen
  rw [s_need_cell ok ha, Res.ok_bind, s_floors ok, Res.ok_bind, lcR_eq (fun b => seesB h a b) (fun b => b) (fun b hb => s_sees ok ha (floor_in hb)) (fun _ _ _ => rfl) (by
    have := List.length_filter_le (fun b => seesB h a b) (floorsL h)
    have := floors_le ok
    rw [SZ]; omega), Res.ok_bind, List.map_id']
  rfl
theorem s_seen_ex {a : Cell} (ha : inB h a = false) : Lk.seen h a = .ex "NoCell" := by
  unfold Lk.seen
  rw [s_need_cell_ex ok ha]; rfl
end
/-! both ways -/
theorem sideOf_sw (a b s : Cell) : sideOf a b s = -sideOf b a s := by unfold sideOf; grind
theorem isCrossed_sw (a b c : Cell) : isCrossed a b c = isCrossed b a c := by
  rw [Bool.eq_iff_iff, crossed_iff, crossed_iff, sideOf_sw a b, sideOf_sw a b, sideOf_sw a b, sideOf_sw a b]
  omega
theorem crossB_sw (a b c : Cell) : crossB a b c = crossB b a c := by
  unfold crossB
  rw [isCrossed_sw a b c, Bool.or_comm]
theorem span_sw (x y : Int) : span x y = span y x := by
  unfold span
  rw [show max x y = max y x by omega, show min x y = min y x by omega]
theorem crossed_sw (a b : Cell) : crossedL a b = crossedL b a := by
  unfold crossedL crossRow
  rw [span_sw a.1 b.1, span_sw a.2 b.2]
  simp only [crossB_sw a b]
theorem near_sw (h : Hl) (a b : Cell) : nearB h a b = nearB h b a := by
  unfold nearB
  rw [show (a.1 - b.1) * (a.1 - b.1) + (a.2 - b.2) * (a.2 - b.2) = (b.1 - a.1) * (b.1 - a.1) + (b.2 - a.2) * (b.2 - a.2) by grind]
theorem sees_sw (h : Hl) (a b : Cell) : seesB h a b = seesB h b a := by
  unfold seesB
  rw [crossed_sw a b, near_sw h a b, Bool.and_comm (freeB h a)]
theorem sideOf_self (a s : Cell) : sideOf a a s = 0 := by unfold sideOf; grind
theorem crossed_self (a : Cell) : crossedL a a = [] := by
  rw [List.eq_nil_iff_forall_not_mem]
  intro c hc
  obtain ⟨_, _, h3⟩ := mem_crossed.mp hc
  unfold crossB at h3
  have : isCrossed a a c = true := by
    rw [Bool.and_eq_true] at h3; exact h3.2
  rw [crossed_iff, sideOf_self, sideOf_self, sideOf_self, sideOf_self] at this
  omega
theorem near_self {h : Hl} (ok : HOk h) (a : Cell) : nearB h a a = true := by
  unfold nearB
  have := ok.f0
  rw [show a.1 - a.1 = 0 by omega, show a.2 - a.2 = 0 by omega, Bool.or_eq_true, decide_eq_true_eq, decide_eq_true_eq]
  exact .inr (by omega)
theorem sees_self {h : Hl} (ok : HOk h) (a : Cell) : seesB h a a = freeB h a := by
  unfold seesB
  rw [crossed_self, near_self ok, List.all_nil, Bool.and_true, Bool.and_true, Bool.and_self]
theorem sees_iff {h : Hl} {a b : Cell} : seesB h a b = true ↔ freeB h a = true ∧ freeB h b = true ∧ nearB h a b = true ∧ ∀ c ∈ crossedL a b, freeB h c = true := by
  unfold seesB
  simp only [Bool.and_eq_true, List.all_eq_true, and_assoc]
theorem mem_seen {h : Hl} {a b : Cell} : b ∈ seenL h a ↔ b ∈ floorsL h ∧ seesB h a b = true := by
  unfold seenL
  rw [List.mem_filter]
theorem seen_le {h : Hl} (ok : HOk h) (a : Cell) : (seenL h a).length ≤ 64 := Nat.le_trans (List.length_filter_le _ _) (floors_le ok)
theorem rise_seen (h : Hl) (a : Cell) : Rise (seenL h a) := (rise_floors h).filter _
theorem self_seen {h : Hl} (ok : HOk h) {a : Cell} (ha : a ∈ floorsL h) : a ∈ seenL h a := mem_seen.mpr ⟨ha, by rw [sees_self ok]; exact floor_free ha⟩
theorem rise_span (x y : Int) : (span x y).Pairwise (· < ·) := by
  unfold span
  rw [List.pairwise_map]
  exact List.pairwise_lt_range.imp fun {a b} h => by omega
theorem rise_crossed (a b : Cell) : Rise (crossedL a b) := by
  unfold crossedL
  have : ∀ l : List Int, l.Pairwise (· < ·) → Rise (l.flatMap (crossRow a b)) := by
    intro l
    induction l with
    | nil => intro _; exact .nil
    | cons r l ih =>
      intro h
      obtain ⟨h1, h2⟩ := List.pairwise_cons.mp h
      rw [List.flatMap_cons]
      refine List.pairwise_append.mpr ⟨?_, ih h2, fun c hc d hd => ?_⟩
      · unfold crossRow
        rw [List.pairwise_map]
        exact (List.Pairwise.filter _ (rise_span _ _)).imp fun {a b} h => .inr ⟨rfl, h⟩
      · obtain ⟨r', hr', hd'⟩ := List.mem_flatMap.mp hd
        unfold crossRow at hc hd'
        obtain ⟨x, _, rfl⟩ := List.mem_map.mp hc
        obtain ⟨y, _, rfl⟩ := List.mem_map.mp hd'
        exact .inl (h1 r' hr')
  exact this _ (rise_span _ _)
theorem sees_mono {h p : Hl} {a b : Cell} (hs : seesB h a b = true) (ff : ∀ c, c = a ∨ c = b ∨ c ∈ crossedL a b → freeB h c = true → freeB p c = true) (fn : nearB h a b = true → nearB p a b = true) : seesB p a b = true := by
  rw [sees_iff] at hs ⊢
  obtain ⟨h1, h2, h3, h4⟩ := hs
  exact ⟨ff a (.inl rfl) h1, ff b (.inr (.inl rfl)) h2, fn h3, fun c hc => ff c (.inr (.inr hc)) (h4 c hc)⟩
/-- sight by rows alone, where as near -/
theorem sees_far {h p : Hl} (e : h.1 = p.1) {a b : Cell} (n : nearB h a b = nearB p a b) : seesB h a b = seesB p a b := by
  have : freeB h = freeB p := by funext c; unfold freeB sg rowN; rw [e]
  unfold seesB
  rw [this, n]
end PV
/-! M3: what a script is made into: numbers, a hall, some floor cells -/
namespace PV
def cellAt (ns : List Int) (k : Nat) : Int := (ns[k]?).getD 0
def mixed (ns : List Int) (k : Nat) : Int :=
  let d := (cellAt ns k + 7919 * (k : Int) + 1) * 48271 % 2147483647
  (d * d + 7 * d + k) % 2147483629
def drawn (n k : Int) : Int :=
  let d := (n + 104729 * k + 17) * 69621 % 2147483647
  (d * d + 3 * d + k) % 2147483629
theorem mixed_nn (ns : List Int) (k : Nat) : 0 ≤ mixed ns k := Int.emod_nonneg _ (by decide)
theorem mixed_lt (ns : List Int) (k : Nat) : mixed ns k < 2147483629 := Int.emod_lt_of_pos _ (by decide)
theorem drawn_nn (n k : Int) : 0 ≤ drawn n k := Int.emod_nonneg _ (by decide)
theorem drawn_lt (n k : Int) : drawn n k < 2147483629 := Int.emod_lt_of_pos _ (by decide)
theorem s_cell_at (ns : List Int) (k : Nat) : Lk.l_cell_at ns k = .ok (cellAt ns k) := by
  unfold Lk.l_cell_at cellAt
  by_cases h : k < ns.length
  · rw [if_pos (by rw [decide_eq_true_eq]; omega)]
    refine ixR_ok (by omega) ?_
    rw [Int.toNat_natCast, List.getElem?_eq_getElem h]; rfl
  · rw [if_neg (by rw [decide_eq_true_eq]; omega), List.getElem?_eq_none (by omega)]; rfl
theorem s_mixedN (ns : List Int) (k : Nat) : Lk.l_mixed ns k = .ok (mixed ns k) := by
  unfold Lk.l_mixed mixed
  rw [s_cell_at]
  simp only [Res.ok_bind]
  have h1 := Int.emod_nonneg ((cellAt ns k + 7919 * (k : Int) + 1) * 48271) (show (2147483647 : Int) ≠ 0 by decide)
  have h2 := Int.emod_lt_of_pos ((cellAt ns k + 7919 * (k : Int) + 1) * 48271) (show (0 : Int) < 2147483647 by decide)
  rw [mulR_l (by omega) (by omega)]
  simp only [Res.ok_bind]
theorem s_mixed (ns : List Int) (k : Int) (hk : 0 ≤ k) : Lk.l_mixed ns k = .ok (mixed ns k.toNat) := by
  obtain ⟨n, rfl⟩ : ∃ n : Nat, k = n := ⟨k.toNat, (Int.toNat_of_nonneg hk).symm⟩
  rw [s_mixedN, Int.toNat_natCast]
theorem s_drawn (n k : Int) : Lk.l_drawn n k = .ok (drawn n k) := by
  unfold Lk.l_drawn drawn
  simp only [Res.ok_bind]
  have h1 := Int.emod_nonneg ((n + 104729 * k + 17) * 69621) (show (2147483647 : Int) ≠ 0 by decide)
  have h2 := Int.emod_lt_of_pos ((n + 104729 * k + 17) * 69621) (show (0 : Int) < 2147483647 by decide)
  rw [mulR_l (by omega) (by omega)]
  simp only [Res.ok_bind]
/-- an item there is -/
theorem ix_some {α : Type} {xs : List α} {i : Int} (h0 : 0 ≤ i) (h1 : i < xs.length) : ∃ x ∈ xs, ixR xs i = .ok x := by
  have h : i.toNat < xs.length := by omega
  exact ⟨xs[i.toNat], List.getElem_mem _, ixR_ok h0 (List.getElem?_eq_getElem h)⟩
theorem ix_mod {α : Type} {xs : List α} (n : Int) (h : 0 < xs.length) : ∃ x ∈ xs, (modR n (xs.length : Int)).bind (fun i => ixR xs i) = .ok x := by
  obtain ⟨x, hx, e⟩ := ix_some (xs := xs) (i := n % (xs.length : Int)) (Int.emod_nonneg _ (by omega)) (Int.emod_lt_of_pos _ (by omega))
  exact ⟨x, hx, by rw [modR_ok (by omega)]; exact e⟩
def SgR (r : Tx) : Prop := ∀ x ∈ r, x ∈ sgs
def signsL : List Tx := [['.', '.', '.', '.', '.', '#', '#', 'o'], ['.', '.', '.', '#', '#', '.', 'x', '.'], ['.', '.', '.', '.', '.', '.', '.', '#'], ['.', '#', '.', '#', '.', 'o', 'x', '.']]
theorem signs_sg : ∀ r ∈ signsL, r.length = 8 ∧ SgR r := by
  unfold SgR; decide
def farsL : List Int := [0, 0, 4, 9, 2, 1, 25]
theorem range_int {n : Nat} {p q : List Int} {a : Int} (e : (List.range n).map (fun i : Nat => (i : Int)) = p ++ a :: q) : a = (p.length : Int) ∧ p.length < n := by
  have hp : p.length < n := by
    have := congrArg List.length e
    simp at this; omega
  have := congrArg (fun l => l[p.length]?) e
  rw [List.getElem?_map, List.getElem?_range hp] at this
  exact ⟨by simpa [eq_comm] using this, hp⟩
theorem s_hall (n m : Int) (hn : 0 ≤ n) (hm : 1 ≤ m) (hm8 : m ≤ 8) : ∃ h : Hl, Lk.l_hall n m = .ok h ∧ HOk h ∧ (hgt h : Int) ≤ m ∧ (wid h : Int) ≤ m ∧ h.2 ∈ farsL := by
  have b1 := Int.emod_nonneg n (show m ≠ 0 by omega)
  have b2 := Int.emod_lt_of_pos n (show 0 < m by omega)
  have b3 := Int.emod_nonneg (n / 8) (show m ≠ 0 by omega)
  have b4 := Int.emod_lt_of_pos (n / 8) (show 0 < m by omega)
  obtain ⟨sg, hsg, q8⟩ := ix_some (xs := signsL) (i := n / 64 % 4) (by omega) (by simp [signsL]; omega)
  obtain ⟨fr, hfr, q9⟩ := ix_some (xs := farsL) (i := n / 512 % 7) (by omega) (by simp [farsL]; omega)
  obtain ⟨sl, ss⟩ := signs_sg sg hsg
  obtain ⟨hi, ehi⟩ : ∃ hi : Nat, (hi : Int) = 1 + n % m := ⟨(1 + n % m).toNat, by omega⟩
  obtain ⟨wi, ewi⟩ : ∃ wi : Nat, (wi : Int) = 1 + n / 8 % m := ⟨(1 + n / 8 % m).toNat, by omega⟩
  have key : ∃ y : Hl, Lk.l_hall n m = .ok y ∧ y.2 = fr ∧ y.1.length = hi ∧ ∀ r ∈ y.1, r.length = wi ∧ SgR r := by
    unfold Lk.l_hall
    rw [modR_ok (by omega), Res.ok_bind, Res.ok_bind, modR_ok (by omega), Res.ok_bind, Res.ok_bind, ← ehi, ← ewi]
    rw [show ixR [['.', '.', '.', '.', '.', '#', '#', 'o'], ['.', '.', '.', '#', '#', '.', 'x', '.'], ['.', '.', '.', '.', '.', '.', '.', '#'], ['.', '#', '.', '#', '.', 'o', 'x', '.']] (n / 64 % 4) = .ok sg from q8]
    rw [show ixR [0, 0, 4, 9, 2, 1, 25] (n / 512 % 7) = .ok fr from q9]
    rw [Res.ok_bind, Res.ok_bind, rngR_ok (by omega), Res.ok_bind, rngR_ok (by omega)]
    simp only [Res.ok_bind]
    refine foldR_exI (fun p (rows : List Tx) => rows.length = p.length ∧ ∀ r ∈ rows, r.length = wi ∧ SgR r) ⟨rfl, fun _ z => by cases z⟩ ?_ ?_
    · rintro p a q rows e ⟨h1, h2⟩
      obtain ⟨rfl, hp⟩ := range_int e
      refine foldR_exI (fun p (r : Tx) => r.length = p.length ∧ SgR r) ⟨rfl, fun _ z => by cases z⟩ ?_ ?_
      · rintro p' a' q' r e' ⟨h3, h4⟩
        obtain ⟨rfl, hp'⟩ := range_int e'
        rw [s_drawn]
        simp only [Res.ok_bind]
        have c1 := Int.emod_nonneg (drawn n (8 * (p.length : Int) + p'.length) / 16) (show (8 : Int) ≠ 0 by omega)
        have c2 := Int.emod_lt_of_pos (drawn n (8 * (p.length : Int) + p'.length) / 16) (show (0 : Int) < 8 by omega)
        have hk : (drawn n (8 * (p.length : Int) + p'.length) / 16 % 8).toNat < sg.length := by omega
        rw [txIx_ok (by omega) c1 (List.getElem?_eq_getElem hk), Res.ok_bind, addTx_ok (by simp; omega), Res.ok_bind]
        refine ⟨_, rfl, by simp [h3], fun x hx => ?_⟩
        rcases List.mem_append.mp hx with z | z
        · exact h4 x z
        · rw [List.mem_singleton.mp z]; exact ss _ (List.getElem_mem hk)
      · rintro r ⟨h3, h4⟩
        rw [addL_ok (by rw [List.length_singleton]; omega), Res.ok_bind]
        refine ⟨_, rfl, by simp [h1], fun x hx => ?_⟩
        rcases List.mem_append.mp hx with z | z
        · exact h2 x z
        · rw [List.mem_singleton.mp z]; exact ⟨by simpa using h3, h4⟩
    · rintro rows ⟨h1, h2⟩
      exact ⟨_, rfl, rfl, by simpa using h1, h2⟩
  obtain ⟨⟨rows, fr'⟩, hd, rfl, hr, hrs⟩ := key
  dsimp only at hfr q9 hr hrs
  have w0 : wid (rows, fr') = wi := by
    have : 0 < rows.length := by omega
    show ((rows[0]?).getD []).length = wi
    rw [List.getElem?_eq_getElem this]
    exact (hrs _ (List.getElem_mem _)).1
  have fb : 0 ≤ fr' ∧ fr' ≤ 98 := by
    unfold farsL at hfr
    simp only [List.mem_cons, List.not_mem_nil, or_false] at hfr
    omega
  refine ⟨(rows, fr'), hd, ⟨by show 1 ≤ rows.length; omega, by show rows.length ≤ 8; omega, by rw [w0]; omega, by rw [w0]; omega, fun r hr => by rw [w0]; exact (hrs r hr).1, fun r hr => (hrs r hr).2, fb.1, fb.2⟩, ?_, by rw [w0]; omega, hfr⟩
  show ((rows.length : Nat) : Int) ≤ m
  omega
/-! floor cells, as the laws take them -/
theorem enumZ_split {α : Type} {xs : List α} {p q : List (Int × α)} {a : Int × α} (e : enumZ xs = p ++ a :: q) : a.1 = (p.length : Int) ∧ xs[p.length]? = some a.2 ∧ p.length < xs.length := by
  have := congrArg (fun l => l[p.length]?) e
  rw [List.getElem?_append_right (Nat.le_refl _), Nat.sub_self, List.getElem?_cons_zero] at this
  obtain ⟨h1, h2⟩ := enumZ_get.mp this
  exact ⟨h1, h2, (List.getElem?_eq_some_iff.mp h2).1⟩
theorem row_floors {h : Hl} (ok : HOk h) {i : Nat} (hi : i < hgt h) : ((enumZ (charsZ (rowN h i))).filter fun z => eqB z.2 ['.']).map (fun z => ((i : Int), z.1)) = (rowCells i (wid h)).filter fun c => decide (sg h c = '.') := by
  have e : enumZ (charsZ (rowN h i)) = (List.range (wid h)).map fun k : Nat => ((k : Int), [(((rowN h i)[k]?).getD ' ')]) := by
    apply List.ext_getElem?
    intro k
    by_cases hk : k < wid h
    · rw [List.getElem?_map, List.getElem?_range hk]
      rw [Option.map_some, enumZ_get]
      refine ⟨rfl, ?_⟩
      unfold charsZ
      have := ok.rowLen hi
      rw [List.getElem?_map, List.getElem?_eq_getElem (by omega)]; rfl
    · have l1 : (enumZ (charsZ (rowN h i))).length ≤ k := by
        rw [enumZ_len]
        unfold charsZ
        rw [List.length_map, ok.rowLen hi]; omega
      rw [List.getElem?_eq_none l1, List.getElem?_eq_none (by rw [List.length_map, List.length_range]; omega)]
  rw [e]
  unfold rowCells
  rw [List.filter_map, List.filter_map, List.map_map]
  have e2 : ((fun z : Int × Tx => eqB z.2 ['.']) ∘ fun k : Nat => ((k : Int), [(((rowN h i)[k]?).getD ' ')])) = ((fun c => decide (sg h c = '.')) ∘ fun c : Nat => ((i : Int), ((c : Nat) : Int))) := by
    funext k
    unfold eqB
    show decide _ = decide _
    unfold sg
    rw [show ((((i : Int), ((k : Nat) : Int)) : Cell).1).toNat = i from Int.toNat_natCast i, show ((((i : Int), ((k : Nat) : Int)) : Cell).2).toNat = k from Int.toNat_natCast k]
    simp
  rw [e2]; rfl
theorem s_l_floors {h : Hl} (ok : HOk h) : Lk.l_floors h = .ok (floorsL h) := by
  unfold Lk.l_floors
  have h8 := ok.h8
  have w8 := ok.w8
  rw [Res.ok_bind, foldR_by (fun pre => (List.range pre.length).flatMap fun r => (rowCells r (wid h)).filter fun c => decide (sg h c = '.'))]
  · rw [Res.ok_bind, enumZ_len]
    unfold floorsL cellsL hgt
    rw [List.filter_flatMap]
  · rfl
  · intro p a q e
    obtain ⟨h1, h2, h3⟩ := enumZ_split e
    have hp : p.length < hgt h := h3
    have ea : a.2 = rowN h p.length := by unfold rowN; rw [h2]; rfl
    rw [h1, ea]
    rw [lcR_eq (fun z : Int × Tx => eqB z.2 ['.']) (fun z => ((p.length : Int), z.1)) (fun _ _ => rfl) (fun _ _ _ => rfl) (by
      have l1 := List.length_filter_le (fun z : Int × Tx => eqB z.2 ['.']) (enumZ (charsZ (rowN h p.length)))
      rw [enumZ_len] at l1
      unfold charsZ at l1
      rw [List.length_map, ok.rowLen hp] at l1
      unfold charsZ
      rw [SZ]; omega), Res.ok_bind, row_floors ok hp, addL_ok, Res.ok_bind, List.length_append, List.length_singleton, List.range_succ, List.flatMap_append]
    · simp
    · have l1 := List.length_filter_le (fun c => decide (sg h c = '.')) (rowCells p.length (wid h))
      rw [rowCells_len] at l1
      have l2 : ((List.range p.length).flatMap fun r => (rowCells r (wid h)).filter fun c => decide (sg h c = '.')).length ≤ (List.range p.length).length * 8 := flatMap_len _ 8 _ fun r _ => by
        have := List.length_filter_le (fun c => decide (sg h c = '.')) (rowCells r (wid h))
        rw [rowCells_len] at this; omega
      rw [List.length_range] at l2
      omega
def someL (h : Hl) (n : Int) : List Cell := ((enumZ (floorsL h)).filter fun z => decide (drawn n z.1 / 16 % 4 = 0)).map (·.2)
theorem s_some {h : Hl} (ok : HOk h) (n : Int) : Lk.l_some h n = .ok (someL h n) := by
  unfold Lk.l_some
  have := floors_le ok
  rw [s_l_floors ok, Res.ok_bind, Res.ok_bind, lcR_eq (fun z : Int × Cell => decide (drawn n z.1 / 16 % 4 = 0)) (fun z => z.2) (fun z _ => by rw [s_drawn]; rfl) (fun _ _ _ => rfl) (by
    have l1 := List.length_filter_le (fun z : Int × Cell => decide (drawn n z.1 / 16 % 4 = 0)) (enumZ (floorsL h))
    rw [enumZ_len] at l1
    rw [SZ]; omega), Res.ok_bind]; rfl
theorem some_sub (h : Hl) (n : Int) : (someL h n).Sublist (floorsL h) := by
  unfold someL
  have e : (enumZ (floorsL h)).map (·.2) = floorsL h := by
    apply List.ext_getElem?
    intro i
    rw [List.getElem?_map]
    cases z : (floorsL h)[i]? with
    | none =>
      rw [List.getElem?_eq_none]; · rfl
      rw [enumZ_len]; exact List.getElem?_eq_none_iff.mp z
    | some c =>
      rw [show (enumZ (floorsL h))[i]? = some ((i : Int), c) from enumZ_get.mpr ⟨rfl, z⟩]; rfl
  have h2 := List.Sublist.map (·.2) (List.filter_sublist (p := fun z : Int × Cell => decide (drawn n z.1 / 16 % 4 = 0)) (l := enumZ (floorsL h)))
  rw [e] at h2
  exact h2
/-- lookers of a hall -/
structure Lkr (h : Hl) (l : List Cell) : Prop where
  rise : Rise l
  fl : ∀ c ∈ l, c ∈ floorsL h
theorem Lkr.le {h : Hl} {l : List Cell} (ok : HOk h) (k : Lkr h l) : l.length ≤ 64 := by
  have e : l = (floorsL h).filter fun c => decide (c ∈ l) := rise_ext k.rise ((rise_floors h).filter _) fun c => by
    rw [List.mem_filter, decide_eq_true_eq]
    exact ⟨fun z => ⟨k.fl c z, z⟩, fun z => z.2⟩
  rw [e]
  exact Nat.le_trans (List.length_filter_le _ _) (floors_le ok)
theorem some_lkr (h : Hl) (n : Int) : Lkr h (someL h n) := ⟨(rise_floors h).sublist (some_sub h n), fun c hc => (some_sub h n).subset hc⟩
end PV
/-! M4: lookers, over what each floor cell sees -/
namespace PV
/-! dicts -/
theorem keys_put {β : Type} (l : List (Cell × β)) (k : Cell) (v : β) : keysZ (putZ l k v) = if k ∈ keysZ l then keysZ l else keysZ l ++ [k] := by
  unfold putZ keysZ
  have e : (l.any fun p => decide (p.1 = k)) = decide (k ∈ l.map (·.1)) := by
    rw [Bool.eq_iff_iff, List.any_eq_true, decide_eq_true_eq, List.mem_map]
    simp
  rw [e]
  by_cases h : k ∈ l.map (·.1)
  · rw [if_pos (decide_eq_true h), if_pos h, List.map_map]
    apply List.map_congr_left
    intro p _
    simp only [Function.comp]
    split <;> rfl
  · rw [if_neg (by simpa using h), if_neg h, List.map_append]; rfl
theorem dictZ_go {β : Type} : ∀ (l acc : List (Cell × β)), (keysZ (acc ++ l)).Nodup → l.foldl (fun acc p => putZ acc p.1 p.2) acc = acc ++ l
  | [], acc, _ => by simp
  | p :: l, acc, h => by
    have hk : p.1 ∉ keysZ acc := by
      unfold keysZ at h ⊢
      rw [List.map_append, List.nodup_append] at h
      exact fun z => h.2.2 _ z _ (by simp) rfl
    have e : putZ acc p.1 p.2 = acc ++ [p] := by
      unfold putZ
      rw [if_neg]
      rw [List.any_eq_true]
      rintro ⟨q, hq, z⟩
      rw [decide_eq_true_eq] at z
      exact hk (by unfold keysZ; rw [← z]; exact List.mem_map_of_mem hq)
    show l.foldl _ (putZ acc p.1 p.2) = _
    rw [e, dictZ_go l (acc ++ [p]) (by rw [List.append_assoc]; exact h), List.append_assoc]; rfl
theorem dictZ_nodup {β : Type} {l : List (Cell × β)} (h : (keysZ l).Nodup) : dictZ l = l := dictZ_go l [] h
theorem getZ_map {β : Type} (f : Cell → β) (k : Cell) : ∀ l : List Cell, getZ (l.map fun c => (c, f c)) k = if k ∈ l then some (f k) else none
  | [] => by simp [getZ]
  | c :: l => by
    have ih := getZ_map f k l
    unfold getZ at ih ⊢
    rw [List.map_cons, List.find?_cons]
    by_cases h : c = k
    · subst h; simp
    · rw [decide_eq_false h]
      dsimp only
      rw [ih]
      simp [Ne.symm h]
theorem getK_map {β : Type} (f : Cell → β) {k : Cell} {l : List Cell} (h : k ∈ l) : getK (l.map fun c => (c, f c)) k = .ok (f k) := by
  unfold getK; rw [getZ_map, if_pos h]; rfl
/-! what is seen by some -/
structure View (fl : List Cell) (see : Cell → List Cell) : Prop where
  rise : Rise fl
  le : fl.length ≤ 64
  sub : ∀ c ∈ fl, ∀ d ∈ see c, d ∈ fl
  rises : ∀ c ∈ fl, Rise (see c)
  self : ∀ c ∈ fl, c ∈ see c
  symm : ∀ c ∈ fl, ∀ d ∈ see c, c ∈ see d
theorem hall_view {h : Hl} (ok : HOk h) : View (floorsL h) (seenL h) :=
  ⟨rise_floors h, floors_le ok, fun c hc d hd => (mem_seen.mp hd).1, fun c _ => rise_seen h c, fun c hc => self_seen ok hc, fun c hc d hd => mem_seen.mpr ⟨hc, by rw [sees_sw]; exact (mem_seen.mp hd).2⟩⟩
def covF (fl : List Cell) (see : Cell → List Cell) (ls : List Cell) : List Cell := fl.filter fun c => ls.any fun l => decide (c ∈ see l)
def wo (ls : List Cell) (one : Cell) : List Cell := ls.filter fun c => !eqB c one
def needF (fl : List Cell) (see : Cell → List Cell) (ls : List Cell) : List Cell := ls.filter fun one => eqB (covF fl see (wo ls one)) (covF fl see ls)
def thinF (fl : List Cell) (see : Cell → List Cell) (ls : List Cell) : List Cell := ls.reverse.foldl (fun found one => if covF fl see (wo found one) = covF fl see found then wo found one else found) ls
def many (see : Cell → List Cell) (left : List Cell) (c : Cell) : Nat := ((see c).filter fun d => memB d left).length
def pickF (see : Cell → List Cell) (left : List Cell) : List Cell → Option (Int × Cell) → Option (Int × Cell)
  | [], b => b
  | c :: l, b => pickF see left l (match b with
    | none => some ((many see left c : Int), c)
    | some x => if x.1 < (many see left c : Int) then some ((many see left c : Int), c) else some x)
def growF (fl : List Cell) (see : Cell → List Cell) : Nat → List Cell → List Cell → List Cell
  | 0, found, _ => found
  | n + 1, found, left => if left = [] then found else match pickF see left fl none with
    | none => found
    | some (_, c) => growF fl see n (found ++ [c]) (left.filter fun d => !memB d (see c))
def darkF (fl : List Cell) (see : Cell → List Cell) (ls : List Cell) : List Cell := fl.filter fun c => !memB c (covF fl see ls)
def grownF (fl : List Cell) (see : Cell → List Cell) (ls : List Cell) : List Cell := growF fl see 64 ls (darkF fl see ls)
theorem mem_cov {fl : List Cell} {see : Cell → List Cell} {ls : List Cell} {c : Cell} : c ∈ covF fl see ls ↔ c ∈ fl ∧ ∃ l ∈ ls, c ∈ see l := by
  unfold covF
  rw [List.mem_filter, List.any_eq_true]
  simp
theorem rise_cov {fl : List Cell} {see : Cell → List Cell} (v : View fl see) (ls : List Cell) : Rise (covF fl see ls) := v.rise.filter _
theorem cov_le {fl : List Cell} {see : Cell → List Cell} (v : View fl see) (ls : List Cell) : (covF fl see ls).length ≤ 64 := Nat.le_trans (List.length_filter_le _ _) v.le
theorem sub_le {fl l : List Cell} (hf : Rise fl) (h : l.Nodup) (hs : ∀ c ∈ l, c ∈ fl) : l.length ≤ fl.length := by
  have e : sortC l = fl.filter fun c => decide (c ∈ l) := sort_eq h (hf.filter _) fun c => by
    rw [List.mem_filter, decide_eq_true_eq]
    exact ⟨fun z => ⟨hs c z, z⟩, fun z => z.2⟩
  rw [← (sort_perm l).length_eq, e]
  exact List.length_filter_le _ _
abbrev viewL (fl : List Cell) (see : Cell → List Cell) : List (Cell × List Cell) := fl.map fun c => (c, see c)
section
variable {fl : List Cell} {see : Cell → List Cell} (v : View fl see)
include v
theorem s_covered_by {ls : List Cell} (hl : ∀ l ∈ ls, l ∈ fl) : Lk.covered_by (viewL fl see) ls = .ok (covF fl see ls) := by
  unfold Lk.covered_by
  rw [Res.ok_bind]
  obtain ⟨found, e, h1, h2⟩ := foldR_inv0 (b := fun (looker : Cell) (found : (List (Cell × Bool))) => (((getK (viewL fl see) looker).bind fun l3 => foldR (fun (cell : Cell) (found : (List (Cell × Bool))) => ((Res.ok true).bind fun x1 => (Res.ok cell).bind fun x2 => (putR found x2 x1).bind fun (found : (List (Cell × Bool))) => (Res.ok found))) l3 found).bind (fun (found : (List (Cell × Bool))) => (Res.ok found)))) (xs := ls) (x0 := []) (fun p found => (keysZ found).Nodup ∧ ∀ c, c ∈ keysZ found ↔ ∃ l ∈ p, c ∈ see l) ⟨.nil, fun c => by simp [keysZ]⟩ (fun p a q found e ⟨h1, h2⟩ => by
    have ha : a ∈ fl := hl a (by rw [e]; simp)
    have hp : ∀ l ∈ p, l ∈ fl := fun l hl' => hl l (by rw [e]; simp [hl'])
    rw [getK_map see ha, Res.ok_bind]
    obtain ⟨f2, e2, h3, h4⟩ := foldR_inv0 (b := fun (cell : Cell) (found : (List (Cell × Bool))) => ((Res.ok true).bind fun x1 => (Res.ok cell).bind fun x2 => (putR found x2 x1).bind fun (found : (List (Cell × Bool))) => (Res.ok found))) (xs := see a) (x0 := found) (fun p2 f2 => (keysZ f2).Nodup ∧ ∀ c, c ∈ keysZ f2 ↔ (∃ l ∈ p, c ∈ see l) ∨ c ∈ p2) ⟨h1, fun c => by rw [h2 c]; simp⟩ (fun p2 c q2 f2 e2 ⟨h3, h4⟩ => by
      have hlen : f2.length ≤ 64 := by
        have : (keysZ f2).length ≤ fl.length := sub_le v.rise h3 fun d hd => by
          rcases (h4 d).mp hd with ⟨l, hl', z⟩ | z
          · exact v.sub l (hp l hl') d z
          · exact v.sub a ha d (by rw [e2]; simp [z])
        unfold keysZ at this
        rw [List.length_map] at this
        have := v.le
        omega
      refine ⟨putZ f2 c true, ?_, ?_, fun d => ?_⟩
      · rw [Res.ok_bind, Res.ok_bind]
        unfold putR
        rw [if_pos (by rw [SZ]; omega)]; rfl
      · rw [keys_put]
        split
        · exact h3
        · rename_i hn
          exact List.nodup_append.mpr ⟨h3, by simp, fun x hx y hy z => hn (by rw [List.mem_singleton] at hy; rw [← hy, ← z]; exact hx)⟩
      · rw [keys_put]
        split
        · rename_i hc
          rw [h4 d, List.mem_append, List.mem_singleton]
          constructor
          · rintro (z | z)
            · exact .inl z
            · exact .inr (.inl z)
          · rintro (z | z | z)
            · exact .inl z
            · exact .inr z
            · subst z; exact (h4 d).mp hc
        · rw [List.mem_append, h4 d, List.mem_append, List.mem_singleton, or_assoc])
    refine ⟨f2, by rw [e2]; rfl, h3, fun c => ?_⟩
    rw [h4 c]
    simp only [List.mem_append, List.mem_singleton, or_and_right, exists_or, exists_eq_left])
  rw [e, Res.ok_bind]
  congr 1
  refine sort_eq h1 (rise_cov v ls) fun c => ?_
  rw [h2 c, mem_cov]
  exact ⟨fun ⟨l, hl', z⟩ => ⟨v.sub l (hl l hl') c z, l, hl', z⟩, fun z => z.2⟩
omit v in
theorem s_without {ls : List Cell} (one : Cell) (h : ls.length ≤ 1000) : Lk.without ls one = .ok (wo ls one) := by
  unfold Lk.without wo
  rw [lcR_filter (by omega)]; rfl
omit v in
theorem mem_wo {ls : List Cell} {one c : Cell} : c ∈ wo ls one ↔ c ∈ ls ∧ c ≠ one := by unfold wo eqB; simp
omit v in
theorem wo_le (ls : List Cell) (one : Cell) : (wo ls one).length ≤ ls.length := List.length_filter_le _ _
end
section
variable {h : Hl} (ok : HOk h)
include ok
theorem s_views : Lk.views h = .ok (viewL (floorsL h) (seenL h)) := by
  unfold Lk.views
  have := floors_le ok
  rw [s_floors ok, Res.ok_bind, lcR_all (fun c => (c, seenL h c)) (fun c hc => by rw [s_seen ok (floor_in hc)]; rfl) (by rw [SZ]; omega), Res.ok_bind, dictZ_nodup]
  unfold keysZ
  rw [List.map_map]
  have e : ((fun x : Cell × List Cell => x.1) ∘ fun c => (c, seenL h c)) = id := rfl
  rw [e, List.map_id]
  exact (rise_floors h).nodup
theorem s_covered {ls : List Cell} (hl : ∀ l ∈ ls, l ∈ floorsL h) : Lk.covered h ls = .ok (covF (floorsL h) (seenL h) ls) := by
  unfold Lk.covered
  rw [s_views ok, Res.ok_bind, s_covered_by (hall_view ok) hl]
theorem s_unseen {ls : List Cell} (hl : ∀ l ∈ ls, l ∈ floorsL h) : Lk.unseen h ls = .ok (darkF (floorsL h) (seenL h) ls) := by
  unfold Lk.unseen
  have := floors_le ok
  rw [s_covered ok hl, Res.ok_bind, s_floors ok, Res.ok_bind, lcR_filter (by omega)]
  rfl
theorem s_needless {ls : List Cell} (hl : ∀ l ∈ ls, l ∈ floorsL h) (hz : ls.length ≤ 1000) : Lk.needless h ls = .ok (needF (floorsL h) (seenL h) ls) := by
  unfold Lk.needless
  rw [s_views ok, Res.ok_bind, s_covered_by (hall_view ok) hl, Res.ok_bind, lcR_fil (fun one => eqB (covF (floorsL h) (seenL h) (wo ls one)) (covF (floorsL h) (seenL h) ls)) (fun c _ => ?_) (by omega), Res.ok_bind]
  · rfl
  · rw [s_without c hz, Res.ok_bind, s_covered_by (hall_view ok) fun l hl' => hl l (mem_wo.mp hl').1]; rfl
theorem s_thinned {ls : List Cell} (hl : ∀ l ∈ ls, l ∈ floorsL h) (hz : ls.length ≤ 1000) : Lk.thinned h ls = .ok (thinF (floorsL h) (seenL h) ls) := by
  unfold Lk.thinned
  rw [s_views ok, Res.ok_bind, Res.ok_bind]
  have key : ∀ (xs found : List Cell), (∀ l ∈ found, l ∈ floorsL h) → found.length ≤ 1000 → foldR (fun (one : Cell) (found : (List Cell)) => ((((Lk.without found one).bind fun x1 => (Lk.covered_by (viewL (floorsL h) (seenL h)) x1)).bind fun x2 => ((Lk.covered_by (viewL (floorsL h) (seenL h)) found).bind fun x3 => Res.ok (eqB x2 x3))).bind fun p4 => if p4 = true then ((Lk.without found one).bind fun (found : (List Cell)) => (Res.ok found)) else (Res.ok found))) xs found = .ok (xs.foldl (fun found one => if covF (floorsL h) (seenL h) (wo found one) = covF (floorsL h) (seenL h) found then wo found one else found) found) := by
    intro xs
    induction xs with
    | nil => intro found _ _; rfl
    | cons x xs ih =>
      intro found hf hz
      show Res.bind _ _ = _
      dsimp only
      rw [s_without x hz, Res.ok_bind, s_covered_by (hall_view ok) (fun l hl' => hf l (mem_wo.mp hl').1), Res.ok_bind, s_covered_by (hall_view ok) hf, Res.ok_bind, Res.ok_bind, Res.ok_bind, List.foldl_cons]
      by_cases c : covF (floorsL h) (seenL h) (wo found x) = covF (floorsL h) (seenL h) found
      · rw [if_pos (by rw [eqB_iff]; exact c), Res.ok_bind, if_pos c]
        exact ih _ (fun l hl' => hf l (mem_wo.mp hl').1) (Nat.le_trans (wo_le _ _) hz)
      · rw [if_neg (by rw [eqB_iff]; exact c), Res.ok_bind, if_neg c]
        exact ih _ hf hz
  rw [key _ _ hl hz]; rfl
end
end PV
/-! M5: lookers found step by step -/
namespace PV
theorem growF_succ (fl : List Cell) (see : Cell → List Cell) (n : Nat) (found left : List Cell) : growF fl see (n + 1) found left = if left = [] then found else match pickF see left fl none with
    | none => found
    | some (_, c) => growF fl see n (found ++ [c]) (left.filter fun d => !memB d (see c)) := rfl
def pickS (see : Cell → List Cell) (left : List Cell) (b : Option (Int × Cell)) (c : Cell) : Option (Int × Cell) := match b with
  | none => some ((many see left c : Int), c)
  | some x => if x.1 < (many see left c : Int) then some ((many see left c : Int), c) else some x
theorem pickF_cons (see : Cell → List Cell) (left : List Cell) (c : Cell) (l : List Cell) (b : Option (Int × Cell)) : pickF see left (c :: l) b = pickF see left l (pickS see left b c) := rfl
/-- what is picked sees most, and is the first such -/
theorem pick_spec (see : Cell → List Cell) (left : List Cell) : ∀ (l : List Cell) (b : Option (Int × Cell)), (l ≠ [] ∨ b ≠ none) → (∀ x, b = some x → x.1 = (many see left x.2 : Int)) →
    ∃ m c, pickF see left l b = some (m, c) ∧ m = (many see left c : Int) ∧ (c ∈ l ∨ ∃ x, b = some x ∧ c = x.2) ∧ (∀ d ∈ l, many see left d ≤ many see left c) ∧ (∀ x, b = some x → x.1 ≤ m)
  | [], b, h, hb => by
    rcases h with h | h
    · exact absurd rfl h
    · cases b with
      | none => exact absurd rfl h
      | some x =>
      refine ⟨x.1, x.2, rfl, hb x rfl, .inr ⟨x, rfl, rfl⟩, ?_, ?_⟩
      · intro _ z; cases z
      · intro y z; cases z; exact Int.le_refl _
  | c :: l, b, h, hb => by
    have hs : ∀ x, pickS see left b c = some x → x.1 = (many see left x.2 : Int) := by
      intro x hx
      unfold pickS at hx
      split at hx
      · cases hx; rfl
      · rename_i y
        split at hx
        · cases hx; rfl
        · cases hx; exact hb _ rfl
    have hn : pickS see left b c ≠ none := by
      unfold pickS
      split
      · simp
      · split <;> simp
    obtain ⟨m, d, e, em, hd, hm, hx⟩ := pick_spec see left l (pickS see left b c) (.inr hn) hs
    rw [pickF_cons]
    have hc : (many see left c : Int) ≤ m ∧ ∀ x, b = some x → x.1 ≤ m := by
      cases hb' : b with
      | none =>
        have e1 : pickS see left b c = some ((many see left c : Int), c) := by rw [hb']; rfl
        exact ⟨hx _ e1, fun x z => by cases z⟩
      | some y =>
        by_cases k : y.1 < (many see left c : Int)
        · have e1 : pickS see left b c = some ((many see left c : Int), c) := by rw [hb']; exact if_pos k
          have := hx _ e1
          dsimp only at this
          exact ⟨this, fun x z => by cases z; omega⟩
        · have e1 : pickS see left b c = some y := by rw [hb']; exact if_neg k
          have := hx _ e1
          exact ⟨by omega, fun x z => by cases z; omega⟩
    refine ⟨m, d, e, em, ?_, fun x hx' => ?_, hc.2⟩
    · rcases hd with z | ⟨x, z, rfl⟩
      · exact .inl (List.mem_cons_of_mem _ z)
      · unfold pickS at z
        split at z
        · cases z; exact .inl List.mem_cons_self
        · rename_i y
          split at z
          · cases z; exact .inl List.mem_cons_self
          · cases z; exact .inr ⟨_, rfl, rfl⟩
    · rcases List.mem_cons.mp hx' with rfl | z
      · have := hc.1; omega
      · exact hm x z
section
variable {fl : List Cell} {see : Cell → List Cell} (v : View fl see)
include v
/-- while some are left: one is picked that sees some of them -/
theorem pick_some {left : List Cell} (hl : ∀ c ∈ left, c ∈ fl) (hn : left ≠ []) : ∃ m c, pickF see left fl none = some (m, c) ∧ c ∈ fl ∧ 1 ≤ many see left c ∧ (∀ d ∈ fl, many see left d ≤ many see left c) := by
  obtain ⟨a, ha⟩ : ∃ a, a ∈ left := by
    cases left with
    | nil => exact absurd rfl hn
    | cons a l => exact ⟨a, List.mem_cons_self⟩
  have hfl : fl ≠ [] := fun z => by have := hl a ha; rw [z] at this; cases this
  obtain ⟨m, c, e, em, hc, hm, _⟩ := pick_spec see left fl none (.inl hfl) (fun x z => by cases z)
  have hc : c ∈ fl := by
    rcases hc with z | ⟨x, z, _⟩
    · exact z
    · cases z
  refine ⟨m, c, e, hc, ?_, hm⟩
  have h1 := hm a (hl a ha)
  have h2 : 1 ≤ many see left a := by
    unfold many
    apply List.length_pos_of_mem (a := a)
    rw [List.mem_filter]
    exact ⟨v.self a (hl a ha), memB_t ha⟩
  omega
omit v in
theorem many_pos {left : List Cell} {c : Cell} (h : 1 ≤ many see left c) : ∃ d ∈ left, d ∈ see c := by
  unfold many at h
  obtain ⟨d, hd⟩ := List.exists_mem_of_length_pos h
  rw [List.mem_filter, memB_iff] at hd
  exact ⟨d, hd.2, hd.1⟩
omit v in
theorem left_lt {left : List Cell} {c : Cell} (h : 1 ≤ many see left c) : (left.filter fun d => !memB d (see c)).length < left.length := by
  obtain ⟨d, h1, h2⟩ := many_pos h
  have : (left.filter fun d => !memB d (see c)).length ≠ left.length := fun z => by
    have := List.length_filter_eq_length_iff.mp z d h1
    rw [memB_t h2] at this
    cases this
  have := List.length_filter_le (fun d => !memB d (see c)) left
  omega
/-- growing, told by its steps: P of found and left is kept, and at the end none is left -/
theorem grow_ind (P : List Cell → List Cell → Prop) (hs : ∀ found left c, (∀ d ∈ left, d ∈ fl) → P found left → left ≠ [] → c ∈ fl → 1 ≤ many see left c → (∀ d ∈ fl, many see left d ≤ many see left c) → P (found ++ [c]) (left.filter fun d => !memB d (see c))) :
    ∀ (n : Nat) (found left : List Cell), left.length ≤ n → (∀ d ∈ left, d ∈ fl) → P found left → P (growF fl see n found left) []
  | 0, found, left, h, _, hp => by
    have : left = [] := List.length_eq_zero_iff.mp (by omega)
    subst this; exact hp
  | n + 1, found, left, h, hl, hp => by
    unfold growF
    by_cases hn : left = []
    · rw [if_pos hn]; subst hn; exact hp
    · rw [if_neg hn]
      obtain ⟨m, c, e, hc, h1, h2⟩ := pick_some v hl hn
      rw [e]
      have := left_lt h1
      exact grow_ind P hs n _ _ (by omega) (fun d hd => hl d ((List.mem_filter.mp hd).1)) (hs found left c hl hp hn hc h1 h2)
theorem grow_stable : ∀ (n m : Nat) (found left : List Cell), left.length ≤ n → n ≤ m → (∀ d ∈ left, d ∈ fl) → growF fl see m found left = growF fl see n found left
  | 0, m, found, left, h, _, _ => by
    have : left = [] := List.length_eq_zero_iff.mp (by omega)
    subst this
    cases m with
    | zero => rfl
    | succ m => unfold growF; rw [if_pos rfl]
  | n + 1, 0, _, _, _, h, _ => by omega
  | n + 1, m + 1, found, left, h, hm, hl => by
    unfold growF
    by_cases hn : left = []
    · rw [if_pos hn, if_pos hn]
    · rw [if_neg hn, if_neg hn]
      obtain ⟨k, c, e, hc, h1, h2⟩ := pick_some v hl hn
      rw [e]
      have := left_lt h1
      exact grow_stable n m _ _ (by omega) (by omega) fun d hd => hl d ((List.mem_filter.mp hd).1)
theorem dark_sub {ls : List Cell} : ∀ d ∈ darkF fl see ls, d ∈ fl := fun d hd => (List.mem_filter.mp hd).1
theorem dark_le {ls : List Cell} : (darkF fl see ls).length ≤ 64 := Nat.le_trans (List.length_filter_le _ _) v.le
theorem mem_dark {ls : List Cell} {c : Cell} : c ∈ darkF fl see ls ↔ c ∈ fl ∧ ∀ l ∈ ls, c ∉ see l := by
  unfold darkF
  rw [List.mem_filter, Bool.not_eq_true', ← Bool.not_eq_true, memB_iff, mem_cov]
  constructor
  · rintro ⟨h1, h2⟩; exact ⟨h1, fun l hl z => h2 ⟨h1, l, hl, z⟩⟩
  · rintro ⟨h1, h2⟩; exact ⟨h1, fun ⟨_, l, hl, z⟩ => h2 l hl z⟩
/-- what holds of the grown ones -/
theorem grown_ind {ls : List Cell} (P : List Cell → List Cell → Prop) (h0 : P ls (darkF fl see ls)) (hs : ∀ found left c, (∀ d ∈ left, d ∈ fl) → P found left → left ≠ [] → c ∈ fl → 1 ≤ many see left c → (∀ d ∈ fl, many see left d ≤ many see left c) → P (found ++ [c]) (left.filter fun d => !memB d (see c))) : P (grownF fl see ls) [] :=
  grow_ind v P hs 64 ls _ (dark_le v) (dark_sub v) h0
theorem grown_fl {ls : List Cell} (hl : ∀ l ∈ ls, l ∈ fl) : ∀ l ∈ grownF fl see ls, l ∈ fl :=
  grown_ind v (fun found _ => ∀ l ∈ found, l ∈ fl) hl fun found left c _ h _ hc _ _ l hl' => by
    rcases List.mem_append.mp hl' with z | z
    · exact h l z
    · rw [List.mem_singleton.mp z]; exact hc
theorem grown_pre {ls : List Cell} : ∃ t, grownF fl see ls = ls ++ t :=
  grown_ind v (fun found _ => ∃ t, found = ls ++ t) ⟨[], by simp⟩ fun found left c _ ⟨t, h⟩ _ _ _ _ => ⟨t ++ [c], by rw [h, List.append_assoc]⟩
theorem grown_all {ls : List Cell} : ∀ c ∈ fl, ∃ l ∈ grownF fl see ls, c ∈ see l := by
  have := grown_ind v (ls := ls) (fun found left => ∀ c ∈ fl, (∃ l ∈ found, c ∈ see l) ∨ c ∈ left) (fun c hc => by
    by_cases h : ∃ l ∈ ls, c ∈ see l
    · exact .inl h
    · exact .inr ((mem_dark v).mpr ⟨hc, fun l hl z => h ⟨l, hl, z⟩⟩)) fun found left c _ h _ _ _ _ d hd => by
    rcases h d hd with ⟨l, hl, z⟩ | z
    · exact .inl ⟨l, List.mem_append_left _ hl, z⟩
    · by_cases k : d ∈ see c
      · exact .inl ⟨c, by simp, k⟩
      · exact .inr (List.mem_filter.mpr ⟨z, by rw [memB_f k]; rfl⟩)
  intro c hc
  rcases this c hc with z | z
  · exact z
  · cases z
theorem grown_cov {ls : List Cell} : covF fl see (grownF fl see ls) = fl := by
  unfold covF
  rw [List.filter_eq_self]
  intro c hc
  obtain ⟨l, hl, z⟩ := grown_all v (ls := ls) c hc
  rw [List.any_eq_true]
  exact ⟨l, hl, decide_eq_true z⟩
theorem grown_nodup {ls : List Cell} (hn : ls.Nodup) : (grownF fl see ls).Nodup := by
  have := grown_ind v (ls := ls) (fun found left => found.Nodup ∧ ∀ c ∈ left, ∀ l ∈ found, c ∉ see l) ⟨hn, fun c hc l hl => ((mem_dark v).mp hc).2 l hl⟩ fun found left c _ ⟨h1, h2⟩ _ hc h3 _ => by
    obtain ⟨d, hd, hdc⟩ := many_pos h3
    refine ⟨List.nodup_append.mpr ⟨h1, by simp, fun a ha b hb e => ?_⟩, fun x hx l hl => ?_⟩
    · rw [List.mem_singleton.mp hb] at e
      subst e
      exact h2 d hd a ha hdc
    · rw [List.mem_filter, Bool.not_eq_true', ← Bool.not_eq_true, memB_iff] at hx
      rcases List.mem_append.mp hl with z | z
      · exact h2 x hx.1 l z
      · rw [List.mem_singleton.mp z]; exact hx.2
  exact this.1
theorem grown_le {ls : List Cell} (hn : ls.Nodup) (hl : ∀ l ∈ ls, l ∈ fl) : (grownF fl see ls).length ≤ 64 :=
  Nat.le_trans (sub_le v.rise (grown_nodup v hn) (grown_fl v hl)) v.le
end
/-! growing, as the program does -/
theorem pick_fold {fl : List Cell} {see : Cell → List Cell} {left : List Cell} (hz : ∀ c ∈ fl, (see c).length ≤ 64) {b : Cell → Option (Int × Cell) → Res (Option (Int × Cell))} (hb : ∀ c ∈ fl, ∀ o, b c o = .ok (pickS see left o c)) : ∀ (l : List Cell) (o : Option (Int × Cell)), (∀ c ∈ l, c ∈ fl) → foldR b l o = .ok (pickF see left l o)
  | [], o, _ => rfl
  | c :: l, o, h => by
    show (b c o).bind _ = _
    rw [hb c (h c List.mem_cons_self), Res.ok_bind, pickF_cons]
    exact pick_fold hz hb l _ fun d hd => h d (List.mem_cons_of_mem _ hd)
section
variable {h : Hl} (ok : HOk h)
include ok
theorem s_grown {ls : List Cell} (hl : ∀ l ∈ ls, l ∈ floorsL h) (hz : ls.length ≤ 1000) : Lk.grown h ls = .ok (grownF (floorsL h) (seenL h) ls) := by
  unfold Lk.grown
  have f64 := floors_le ok
  have v := hall_view ok
  rw [s_views ok, Res.ok_bind, Res.ok_bind, s_floors ok, Res.ok_bind]
  rw [lcR_fil (fun c => !memB c (covF (floorsL h) (seenL h) ls)) (fun c _ => by rw [s_covered_by v hl]; rfl) (by omega), Res.ok_bind]
  simp only [Res.ok_bind]
  unfold grownF darkF
  have key : ∀ (n : Nat) (found left : List Cell), left.length < n → (∀ d ∈ left, d ∈ floorsL h) → (∀ d ∈ found, d ∈ floorsL h) → left.length ≤ 64 → found.length + left.length ≤ 2000 → ∀ {c : (List Cell × List Cell) → Res Bool} {b : (List Cell × List Cell) → Res (List Cell × List Cell)},
      (∀ f l : List Cell, c (f, l) = .ok (decide (0 < (l.length : Int)))) →
      (∀ (f l : List Cell) (m : Int) (p : Cell), (∀ d ∈ l, d ∈ floorsL h) → l.length ≤ 64 → f.length ≤ 2000 → pickF (seenL h) l (floorsL h) none = some (m, p) → p ∈ floorsL h → b (f, l) = .ok (f ++ [p], l.filter fun d => !memB d (seenL h p))) →
      whileR c b n (found, left) = .ok (growF (floorsL h) (seenL h) left.length found left, []) := by
    intro n
    induction n with
    | zero => intro _ _ h; omega
    | succ n ih =>
      intro found left hn hl' hf h64 h2000 c b hc hb
      unfold whileR
      rw [hc, Res.ok_bind]
      by_cases hne : left = []
      · subst hne
        rw [if_neg (by simp)]
        rfl
      · have hpos : 0 < left.length := List.length_pos_iff.mpr hne
        rw [if_pos (by rw [decide_eq_true_eq]; omega)]
        obtain ⟨m, p, e, hp, h1, h2⟩ := pick_some v hl' hne
        have hlt := left_lt h1
        rw [hb found left m p hl' h64 (by omega) e hp, Res.ok_bind]
        rw [ih (found ++ [p]) _ (by omega) (fun d hd => hl' d ((List.mem_filter.mp hd).1)) (fun d hd => by
          rcases List.mem_append.mp hd with z | z
          · exact hf d z
          · rw [List.mem_singleton.mp z]; exact hp) (by omega) (by rw [List.length_append, List.length_singleton]; omega) hc hb]
        congr 2
        obtain ⟨k, hk⟩ : ∃ k, left.length = k + 1 := ⟨left.length - 1, by omega⟩
        rw [hk, growF_succ, if_neg hne, e]
        have hk2 : (left.filter fun d => !memB d (seenL h p)).length ≤ k := by omega
        have hk3 : ∀ d ∈ left.filter fun d => !memB d (seenL h p), d ∈ floorsL h := fun d hd => hl' d (List.mem_filter.mp hd).1
        exact (grow_stable v _ k (found ++ [p]) _ (Nat.le_refl _) hk2 hk3).symm
  rw [key 200 ls _ (by have := dark_le v (ls := ls); unfold darkF at this; omega) (fun d hd => (List.mem_filter.mp hd).1) hl (dark_le v) (by have := dark_le v (ls := ls); unfold darkF at this; omega) (fun _ _ => rfl)]
  · rw [Res.ok_bind]
    congr 1
    exact (grow_stable v _ 64 _ _ (Nat.le_refl _) (dark_le v) fun d hd => (List.mem_filter.mp hd).1).symm
  · intro f l m p hl' h64 h2000 e hp
    dsimp only
    rw [pick_fold (see := seenL h) (left := l) (fun c _ => seen_le ok c) ?_ (floorsL h) none (fun _ z => z), Res.ok_bind, e]
    · simp only [optR, Res.ok_bind]
      rw [addL_ok (by simp; omega), Res.ok_bind]
      rw [lcR_fil (fun d => !memB d (seenL h p)) (fun d _ => by rw [getK_map (seenL h) hp]; rfl) (by omega), Res.ok_bind]
    · intro c hc o
      rw [getK_map (seenL h) hc, Res.ok_bind, lcR_filter (by have := seen_le ok c; omega)]
      simp only [Res.ok_bind]
      unfold pickS
      cases o with
      | none => rfl
      | some x =>
        simp only [optR, Res.ok_bind, Option.isNone_some, Bool.false_eq_true, if_false]
        unfold many
        by_cases k : x.1 < ((((seenL h c).filter fun d => memB d l).length : Nat) : Int)
        · rw [if_pos (decide_eq_true k), if_pos k]
        · rw [if_neg (by rw [decide_eq_true_eq]; exact k), if_neg k]
theorem s_stepwise : Lk.stepwise h = .ok (grownF (floorsL h) (seenL h) []) := s_grown ok (fun _ z => by cases z) (by simp)
end
/-! all of it by what is seen of the floor cells alone -/
theorem cov_congr {fl : List Cell} {see see' : Cell → List Cell} {ls : List Cell} (hl : ∀ l ∈ ls, l ∈ fl) (e : ∀ c ∈ fl, see c = see' c) : covF fl see ls = covF fl see' ls := by
  unfold covF
  apply List.filter_congr
  intro c _
  rw [Bool.eq_iff_iff, List.any_eq_true, List.any_eq_true]
  constructor
  · rintro ⟨l, h1, h2⟩; exact ⟨l, h1, by rw [← e l (hl l h1)]; exact h2⟩
  · rintro ⟨l, h1, h2⟩; exact ⟨l, h1, by rw [e l (hl l h1)]; exact h2⟩
theorem need_congr {fl : List Cell} {see see' : Cell → List Cell} {ls : List Cell} (hl : ∀ l ∈ ls, l ∈ fl) (e : ∀ c ∈ fl, see c = see' c) : needF fl see ls = needF fl see' ls := by
  unfold needF
  apply List.filter_congr
  intro c _
  rw [cov_congr hl e, cov_congr (fun l h => hl l (mem_wo.mp h).1) e]
theorem many_congr {fl : List Cell} {see see' : Cell → List Cell} {left : List Cell} {c : Cell} (hc : c ∈ fl) (e : ∀ c ∈ fl, see c = see' c) : many see left c = many see' left c := by unfold many; rw [e c hc]
theorem pick_congr {fl : List Cell} {see see' : Cell → List Cell} {left : List Cell} (e : ∀ c ∈ fl, see c = see' c) : ∀ (l : List Cell) (b : Option (Int × Cell)), (∀ c ∈ l, c ∈ fl) → pickF see left l b = pickF see' left l b
  | [], b, _ => rfl
  | c :: l, b, h => by
    rw [pickF_cons, pickF_cons]
    have : pickS see left b c = pickS see' left b c := by unfold pickS; rw [many_congr (h c List.mem_cons_self) e]
    rw [this]
    exact pick_congr e l _ fun d hd => h d (List.mem_cons_of_mem _ hd)
theorem pick_mem {see : Cell → List Cell} {left : List Cell} : ∀ (l : List Cell) (b : Option (Int × Cell)) {m : Int} {c : Cell}, pickF see left l b = some (m, c) → c ∈ l ∨ ∃ x, b = some x ∧ c = x.2
  | [], b, m, c, h => .inr ⟨_, h, rfl⟩
  | d :: l, b, m, c, h => by
    rw [pickF_cons] at h
    rcases pick_mem l _ h with z | ⟨x, z, rfl⟩
    · exact .inl (List.mem_cons_of_mem _ z)
    · unfold pickS at z
      split at z
      · cases z; exact .inl List.mem_cons_self
      · rename_i y
        split at z
        · cases z; exact .inl List.mem_cons_self
        · cases z; exact .inr ⟨_, rfl, rfl⟩
theorem grow_congr {fl : List Cell} {see see' : Cell → List Cell} (e : ∀ c ∈ fl, see c = see' c) : ∀ (n : Nat) (found left : List Cell), growF fl see n found left = growF fl see' n found left
  | 0, _, _ => rfl
  | n + 1, found, left => by
    unfold growF
    rw [pick_congr e fl none fun _ z => z]
    split
    · rfl
    · split
      · rfl
      · rename_i m c hc
        have : c ∈ fl := by
          rcases pick_mem fl none hc with z | ⟨x, z, _⟩
          · exact z
          · cases z
        rw [e c this]
        exact grow_congr e n _ _
theorem grown_congr {fl : List Cell} {see see' : Cell → List Cell} {ls : List Cell} (hl : ∀ l ∈ ls, l ∈ fl) (e : ∀ c ∈ fl, see c = see' c) : grownF fl see ls = grownF fl see' ls := by
  unfold grownF darkF
  rw [cov_congr hl e]
  exact grow_congr e _ _ _
end PV
/-! M7: where a line goes in and out of a cell -/
namespace PV
/-- a loop that only looks for a turn that hands r back -/
theorem foldS_any {α X R : Type} {b : α → X → Res (Stp X R)} {x : X} {r : R} (p : α → Bool) {xs : List α} (h : ∀ a ∈ xs, b a x = .ok (if p a = true then .rt r else .nx x)) : foldS b xs x = .ok (if xs.any p = true then .rt r else .nx x) := by
  rw [foldS_find (fun a => if p a = true then some r else none) (fun a ha => by rw [h a ha]; split <;> simp_all)]
  congr 1
  induction xs with
  | nil => rfl
  | cons a l ih =>
    rw [List.findSome?_cons, List.any_cons]
    cases e : p a with
    | true => rfl
    | false => exact ih fun a ha => h a (List.mem_cons_of_mem _ ha)
/-- the first place of the cell's side, behind the begin, in the way's direction; e: the way's length -/
def pO (x y c : Int) : Int := if x < y then 2 * (c - x) - 1 else 2 * (x - c) - 1
def eO (x y : Int) : Int := if x < y then 2 * (y - x) else 2 * (x - y)
def spanO (x y c : Int) : Option (List Cell) :=
  if x = y then (if c = x then some [(0, 1), (1, 1)] else none) else some [(pO x y c * eO x y, eO x y * eO x y), ((pO x y c + 2) * eO x y, eO x y * eO x y)]
def SmZ (x : Int) : Prop := -1000 ≤ x ∧ x ≤ 1000
theorem s_in {a b : Cell} {k c : Int} {x y : Int} (hk : ixR [a.1, a.2] k = .ok x) (hk2 : ixR [b.1, b.2] k = .ok y) (hx : SmZ x) (hy : SmZ y) (hc : SmZ c) : Lk.l_in a b (2 * c) (2 * c + 2) k = .ok (spanO x y c) := by
  obtain ⟨x1, x2⟩ := hx
  obtain ⟨y1, y2⟩ := hy
  obtain ⟨c1, c2⟩ := hc
  unfold Lk.l_in spanO
  rw [hk, hk2]
  simp only [okb]
  by_cases e : x = y
  · subst e
    rw [if_pos rfl, if_pos (by rw [eqB_iff]; omega)]
    by_cases f : c = x
    · subst f
      rw [if_pos rfl, if_pos (by rw [Bool.and_eq_true, decide_eq_true_eq, decide_eq_true_eq]; omega)]; rfl
    · rw [if_neg f, if_neg (by rw [Bool.and_eq_true, decide_eq_true_eq, decide_eq_true_eq]; omega)]; rfl
  · rw [if_neg e, if_neg (by rw [eqB_iff]; omega)]
    rw [mulR_l (by omega) (by omega), mulR_l (by omega) (by omega), mulR_l (by omega) (by omega)]
    simp only [okb]
    unfold pO eO
    by_cases f : x < y
    · simp only [if_pos f]
      have h : (2 * c - (2 * x + 1)) * (2 * (y - x)) < (2 * c + 2 - (2 * x + 1)) * (2 * (y - x)) := Int.mul_lt_mul_of_pos_right (by omega) (by omega)
      have hs : sortI [(2 * c - (2 * x + 1)) * (2 * (y - x)), (2 * c + 2 - (2 * x + 1)) * (2 * (y - x))] = [(2 * c - (2 * x + 1)) * (2 * (y - x)), (2 * c + 2 - (2 * x + 1)) * (2 * (y - x))] := by
        show (if ltZ _ _ = true then _ else _) = _
        rw [if_neg (by unfold ltZ; rw [decide_eq_true_eq]; omega)]
      rw [hs]
      rw [ixR_ok (i := 0) (x := (2 * c - (2 * x + 1)) * (2 * (y - x))) (by decide) rfl, ixR_ok (i := 1) (x := (2 * c + 2 - (2 * x + 1)) * (2 * (y - x))) (by decide) rfl]
      simp only [okb]
      rw [show 2 * c - (2 * x + 1) = 2 * (c - x) - 1 by omega, show 2 * c + 2 - (2 * x + 1) = 2 * (c - x) - 1 + 2 by omega]
    · simp only [if_neg f]
      have h : (2 * c + 2 - (2 * x + 1)) * (2 * (y - x)) < (2 * c - (2 * x + 1)) * (2 * (y - x)) := Int.mul_lt_mul_of_neg_right (by omega) (by omega)
      have hs : sortI [(2 * c - (2 * x + 1)) * (2 * (y - x)), (2 * c + 2 - (2 * x + 1)) * (2 * (y - x))] = [(2 * c + 2 - (2 * x + 1)) * (2 * (y - x)), (2 * c - (2 * x + 1)) * (2 * (y - x))] := by
        show (if ltZ _ _ = true then _ else _) = _
        rw [if_pos (by unfold ltZ; rw [decide_eq_true_eq]; omega)]; rfl
      rw [hs]
      rw [ixR_ok (i := 0) (x := (2 * c + 2 - (2 * x + 1)) * (2 * (y - x))) (by decide) rfl, ixR_ok (i := 1) (x := (2 * c - (2 * x + 1)) * (2 * (y - x))) (by decide) rfl]
      simp only [okb]
      have n1 : ∀ u v : Int, u * v = (-u) * (-v) := fun u v => by rw [Int.neg_mul_neg]
      rw [n1 (2 * c + 2 - (2 * x + 1)), n1 (2 * c - (2 * x + 1)), n1 (2 * (y - x)) (2 * (y - x))]
      rw [show -(2 * (y - x)) = 2 * (x - y) by omega, show -(2 * c + 2 - (2 * x + 1)) = 2 * (x - c) - 1 by omega, show -(2 * c - (2 * x + 1)) = 2 * (x - c) - 1 + 2 by omega]
/-- two spans meet -/
def hitS (h t : List Cell) : Bool := decide (((t[1]?).getD (0, 0)).1 * ((h[0]?).getD (0, 0)).2 ≤ ((h[0]?).getD (0, 0)).1 * ((t[1]?).getD (0, 0)).2)
def lawX (a b c : Cell) : Bool := match spanO a.1 b.1 c.1, spanO a.2 b.2 c.2 with
  | some s, some t => !([[((0 : Int), (1 : Int)), (1, 1)], s, t].any fun h => [[((0 : Int), (1 : Int)), (1, 1)], s, t].any fun t => hitS h t)
  | _, _ => false
theorem span_shape {x y c : Int} (hx : SmZ x) (hy : SmZ y) (hc : SmZ c) {s : List Cell} (h : spanO x y c = some s) : ∃ p q : Cell, s = [p, q] ∧ (0 < p.2 ∧ p.2 < 100000000) ∧ (0 < q.2 ∧ q.2 < 100000000) := by
  obtain ⟨x1, x2⟩ := hx
  obtain ⟨y1, y2⟩ := hy
  unfold spanO at h
  split at h
  · split at h
    · cases h; exact ⟨_, _, rfl, by decide, by decide⟩
    · cases h
  · rename_i e
    cases h
    have he : 0 < eO x y ∧ eO x y ≤ 4000 := by unfold eO; split <;> omega
    have h1 : 0 < eO x y * eO x y := Int.mul_pos he.1 he.1
    have h2 : eO x y * eO x y ≤ 4000 * 4000 := Int.mul_le_mul he.2 he.2 (by omega) (by omega)
    exact ⟨_, _, rfl, by dsimp only; omega, by dsimp only; omega⟩
theorem s_l_crosses {a b c : Cell} (ha : Bd a) (hb : Bd b) (hc : Bd c) : Lk.l_crosses a b c = .ok (lawX a b c) := by
  unfold Lk.l_crosses
  have i0 : ∀ z : Cell, ixR [z.1, z.2] 0 = .ok z.1 := fun z => ixR_ok (by decide) rfl
  have i1 : ∀ z : Cell, ixR [z.1, z.2] 1 = .ok z.2 := fun z => ixR_ok (by decide) rfl
  have e0 := s_in (i0 a) (i0 b) ha.1 hb.1 hc.1
  have e1 := s_in (i1 a) (i1 b) ha.2 hb.2 hc.2
  simp only [okb, foldS, i0, i1, e0, e1]
  unfold lawX
  cases s0 : spanO a.1 b.1 c.1 with
  | none => rfl
  | some s =>
    simp only [Option.isNone_some, Bool.false_eq_true, if_false, optR, okb, pushL_ok (a := [[((0 : Int), (1 : Int)), (1, 1)]]) (x := s) (by decide), List.cons_append, List.nil_append]
    cases s1 : spanO a.2 b.2 c.2 with
    | none => rfl
    | some t =>
      simp only [Option.isNone_some, Bool.false_eq_true, if_false, optR, okb, pushL_ok (a := [[((0 : Int), (1 : Int)), (1, 1)], s]) (x := t) (show 2 < 16777216 by decide), List.cons_append, List.nil_append]
      rw [bindS_nx]
      have sh : ∀ u ∈ [[((0 : Int), (1 : Int)), (1, 1)], s, t], ∃ p q : Cell, u = [p, q] ∧ (0 < p.2 ∧ p.2 < 100000000) ∧ (0 < q.2 ∧ q.2 < 100000000) := by
        intro u hu
        simp only [List.mem_cons, List.not_mem_nil, or_false] at hu
        rcases hu with rfl | rfl | rfl
        · exact ⟨_, _, rfl, by decide, by decide⟩
        · exact span_shape ha.1 hb.1 hc.1 s0
        · exact span_shape ha.2 hb.2 hc.2 s1
      generalize [[((0 : Int), (1 : Int)), (1, 1)], s, t] = l at sh
      rw [foldS_any (r := false) (fun h => l.any fun t => hitS h t)]
      · cases l.any fun h => l.any fun t => hitS h t <;> rfl
      · intro h hh
        rw [foldS_any (r := false) (fun t => hitS h t)]
        · cases l.any fun t => hitS h t <;> rfl
        · intro t ht
          obtain ⟨p, q, rfl, ⟨p1, p2⟩, q1, q2⟩ := sh h hh
          obtain ⟨u, v, rfl, ⟨u1, u2⟩, v1, v2⟩ := sh t ht
          rw [ixR_ok (i := 0) (x := p) (by decide) rfl, ixR_ok (xs := [u, v]) (i := 1) (x := v) (by decide) rfl]
          simp only [okb]
          rw [mulR_r (by omega) (by omega), mulR_r (by omega) (by omega)]
          simp only [okb]
          show (if decide (v.1 * p.2 ≤ p.1 * v.2) = true then _ else _) = Res.ok (if decide (v.1 * p.2 ≤ p.1 * v.2) = true then _ else _)
          split <;> rfl
theorem mulle {x y k : Int} (h : 0 < k) : x * k ≤ y * k ↔ x ≤ y := ⟨fun q => Int.le_of_mul_le_mul_right q h, fun q => Int.mul_le_mul_of_nonneg_right q (by omega)⟩
def S0 : List Cell := [(0, 1), (1, 1)]
def sp (p e : Int) : List Cell := [(p * e, e * e), ((p + 2) * e, e * e)]
theorem hit00 : hitS S0 S0 = false := by decide
theorem hit0 {p e : Int} (h : 0 < e) : hitS S0 (sp p e) = decide (p + 2 ≤ 0) := by
  show decide ((p + 2) * e * 1 ≤ 0 * (e * e)) = _
  have := mulle (x := p + 2) (y := 0) h
  rw [Int.mul_one, Int.zero_mul]
  rw [Int.zero_mul] at this
  simp only [this]
theorem hit1 {p e : Int} (h : 0 < e) : hitS (sp p e) S0 = decide (e ≤ p) := by
  show decide (1 * (e * e) ≤ p * e * 1) = _
  rw [Int.one_mul, Int.mul_one]
  simp only [mulle h]
theorem hits {p e : Int} (h : 0 < e) : hitS (sp p e) (sp p e) = false := by
  show decide ((p + 2) * e * (e * e) ≤ p * e * (e * e)) = _
  simp only [mulle (Int.mul_pos h h), mulle h]
  exact decide_eq_false (by omega)
theorem hitx {p e q f : Int} (he : 0 < e) (hf : 0 < f) : hitS (sp p e) (sp q f) = decide ((q + 2) * e ≤ p * f) := by
  show decide ((q + 2) * f * (e * e) ≤ p * e * (f * f)) = _
  have h1 : (q + 2) * f * (e * e) = (q + 2) * e * (e * f) := by rw [Int.mul_assoc, Int.mul_assoc, ← Int.mul_assoc f e e, Int.mul_comm f e, ← Int.mul_assoc e e f, Int.mul_assoc e e f, Int.mul_comm (e * f) e]
  have h2 : p * e * (f * f) = p * f * (e * f) := by rw [Int.mul_assoc, Int.mul_assoc, ← Int.mul_assoc e f f, ← Int.mul_assoc f e f, Int.mul_comm e f]
  rw [h1, h2]
  simp only [mulle (Int.mul_pos he hf)]
theorem eO_pos {x y : Int} (h : x ≠ y) : 0 < eO x y := by unfold eO; split <;> omega
theorem spanO_ne {x y c : Int} (h : x ≠ y) : spanO x y c = some (sp (pO x y c) (eO x y)) := if_neg h
theorem box_iff {x y c : Int} (h : x ≠ y) : (min x y ≤ c ∧ c ≤ max x y) ↔ ¬pO x y c + 2 ≤ 0 ∧ ¬eO x y ≤ pO x y c := by
  unfold pO eO; split <;> omega
/-- the corners' sides -/
theorem cross_iff {a b c : Cell} (h1 : a.1 ≠ b.1) (h2 : a.2 ≠ b.2) : isCrossed a b c = true ↔ ¬(pO a.2 b.2 c.2 + 2) * eO a.1 b.1 ≤ pO a.1 b.1 c.1 * eO a.2 b.2 ∧ ¬(pO a.1 b.1 c.1 + 2) * eO a.2 b.2 ≤ pO a.2 b.2 c.2 * eO a.1 b.1 := by
  rw [crossed_iff]
  unfold sideOf pO eO
  dsimp only
  generalize a.1 = x at *
  generalize b.1 = y at *
  generalize c.1 = u at *
  generalize a.2 = z at *
  generalize b.2 = t at *
  generalize c.2 = v at *
  have d : ∀ p q r : Int, (p + q) * r = p * r + q * r := fun p q r => Int.add_mul p q r
  split <;> split <;> grind
theorem any3 (s t : List Cell) : ([S0, s, t].any fun h => [S0, s, t].any fun t => hitS h t) = (hitS S0 S0 || hitS S0 s || hitS S0 t || (hitS s S0 || hitS s s || hitS s t) || (hitS t S0 || hitS t s || hitS t t)) := by
  simp only [List.any_cons, List.any_nil, Bool.or_false, Bool.or_assoc]
theorem mem_cr {a b c : Cell} (h1 : c ≠ a) (h2 : c ≠ b) : c ∈ crossedL a b ↔ (min a.1 b.1 ≤ c.1 ∧ c.1 ≤ max a.1 b.1) ∧ (min a.2 b.2 ≤ c.2 ∧ c.2 ≤ max a.2 b.2) ∧ isCrossed a b c = true := by
  rw [mem_crossed]
  have : crossB a b c = isCrossed a b c := by
    unfold crossB
    rw [decide_eq_false h1, decide_eq_false h2]; rfl
  rw [this]
theorem cross_v {a b c : Cell} (h1 : a.1 = b.1) (h2 : a.2 ≠ b.2) (h3 : c.1 = a.1) : isCrossed a b c = true := by
  rw [crossed_iff]
  unfold sideOf
  dsimp only
  rw [h3, ← h1]
  have e : ∀ k : Int, 2 * (a.1 - a.1) * k = 0 := fun k => by rw [Int.sub_self, Int.mul_zero, Int.zero_mul]
  simp only [e]
  have e1 : ∀ k : Int, 2 * (b.2 - a.2) * (2 * a.1 - 2 * a.1 - 1) = -(2 * (b.2 - a.2)) := fun _ => by grind
  have e2 : ∀ k : Int, 2 * (b.2 - a.2) * (2 * a.1 + 2 - 2 * a.1 - 1) = 2 * (b.2 - a.2) := fun _ => by grind
  rw [e1 0, e2 0]
  omega
theorem cross_h {a b c : Cell} (h1 : a.1 ≠ b.1) (h2 : a.2 = b.2) (h3 : c.2 = a.2) : isCrossed a b c = true := by
  rw [crossed_iff]
  unfold sideOf
  dsimp only
  rw [h3, ← h2]
  have e : ∀ k : Int, 2 * (a.2 - a.2) * k = 0 := fun k => by rw [Int.sub_self, Int.mul_zero, Int.zero_mul]
  simp only [e]
  have e1 : ∀ k : Int, 2 * (b.1 - a.1) * (2 * a.2 - 2 * a.2 - 1) = -(2 * (b.1 - a.1)) := fun _ => by grind
  have e2 : ∀ k : Int, 2 * (b.1 - a.1) * (2 * a.2 + 2 - 2 * a.2 - 1) = 2 * (b.1 - a.1) := fun _ => by grind
  rw [e1 0, e2 0]
  omega
theorem lawX_iff {a b c : Cell} (h1 : c ≠ a) (h2 : c ≠ b) : lawX a b c = true ↔ c ∈ crossedL a b := by
  rw [mem_cr h1 h2]
  unfold lawX
  by_cases x : a.1 = b.1
  · by_cases u : c.1 = a.1
    · rw [show spanO a.1 b.1 c.1 = some S0 by unfold spanO; rw [if_pos x, if_pos u]; rfl]
      by_cases y : a.2 = b.2
      · have v : c.2 ≠ a.2 := fun v => h1 (Prod.ext u v)
        rw [show spanO a.2 b.2 c.2 = none by unfold spanO; rw [if_pos y, if_neg v]]
        dsimp only
        constructor
        · intro h; cases h
        · intro h; omega
      · rw [spanO_ne y]
        dsimp only
        show (!([S0, S0, _].any fun h => [S0, S0, _].any fun t => hitS h t)) = true ↔ _
        have e := eO_pos y
        rw [any3, hit00, hit0 e, hit1 e, hits e]
        simp only [Bool.false_or, Bool.or_false, Bool.not_eq_true', Bool.or_eq_false_iff, decide_eq_false_iff_not, cross_v x y u, and_true]
        have := box_iff (c := c.2) y
        omega
    · rw [show spanO a.1 b.1 c.1 = none by unfold spanO; rw [if_pos x, if_neg u]]
      constructor
      · intro h; cases h
      · intro h; omega
  · have ex := eO_pos x
    rw [spanO_ne x]
    by_cases y : a.2 = b.2
    · by_cases v : c.2 = a.2
      · rw [show spanO a.2 b.2 c.2 = some S0 by unfold spanO; rw [if_pos y, if_pos v]; rfl]
        dsimp only
        show (!([S0, _, S0].any fun h => [S0, _, S0].any fun t => hitS h t)) = true ↔ _
        rw [any3, hit00, hit0 ex, hit1 ex, hits ex]
        simp only [Bool.false_or, Bool.or_false, Bool.not_eq_true', Bool.or_eq_false_iff, decide_eq_false_iff_not, cross_h x y v, and_true]
        have := box_iff (c := c.1) x
        omega
      · rw [show spanO a.2 b.2 c.2 = none by unfold spanO; rw [if_pos y, if_neg v]]
        constructor
        · intro h; cases h
        · intro h; omega
    · have ey := eO_pos y
      rw [spanO_ne y]
      dsimp only
      show (!([S0, _, _].any fun h => [S0, _, _].any fun t => hitS h t)) = true ↔ _
      rw [any3, hit00, hit0 ex, hit0 ey, hit1 ex, hit1 ey, hits ex, hits ey, hitx ex ey, hitx ey ex, cross_iff x y]
      simp only [Bool.false_or, Bool.or_false, Bool.not_eq_true', Bool.or_eq_false_iff, decide_eq_false_iff_not]
      rw [box_iff (c := c.1) x, box_iff (c := c.2) y]
      constructor
      · rintro ⟨⟨⟨k1, k2⟩, k3, k4⟩, k5, k6⟩
        exact ⟨⟨k1, k3⟩, ⟨k2, k5⟩, k4, k6⟩
      · rintro ⟨⟨k1, k3⟩, ⟨k2, k5⟩, k4, k6⟩
        exact ⟨⟨⟨k1, k2⟩, k3, k4⟩, k5, k6⟩
/-- the sign of a cell, as told to stand in the way -/
theorem wayB {h : Hl} (ok : HOk h) {c : Cell} (hc : inB h c = true) : (((ixR h.1 c.1).bind fun x => txIx x c.2).bind fun x => signIn x ['#', 'x']) = .ok (!freeB h c) := by
  rw [ok.ixr hc]
  simp only [okb]
  rw [ok.ixc hc]
  simp only [okb]
  unfold signIn freeB
  simp
theorem s_l_sees {h : Hl} (ok : HOk h) {a b : Cell} (ha : inB h a = true) (hb : inB h b = true) : Lk.l_sees h a b = .ok (seesB h a b) := by
  unfold Lk.l_sees
  simp only [okb]
  rw [wayB ok ha, wayB ok hb]
  simp only [okb]
  unfold seesB
  cases fa : freeB h a with
  | false => rfl
  | true =>
    cases fb : freeB h b with
    | false => rfl
    | true =>
      simp only [Bool.not_true, Bool.false_eq_true, if_false, okb, Bool.true_and]
      obtain ⟨⟨a1, a2⟩, a3, a4⟩ := ok.bd ha
      obtain ⟨⟨b1, b2⟩, b3, b4⟩ := ok.bd hb
      have f0 := ok.f0
      rw [mulR_l (by omega) (by omega), mulR_l (by omega) (by omega)]
      simp only [okb]
      have hn : (if decide (0 < h.2) = true then Res.ok (decide (h.2 < (a.1 - b.1) * (a.1 - b.1) + (a.2 - b.2) * (a.2 - b.2))) else Res.ok false) = Res.ok (!nearB h a b) := by
        unfold nearB
        by_cases e : h.2 = 0
        · rw [if_neg (by rw [decide_eq_true_eq]; omega), decide_eq_true e]; rfl
        · rw [if_pos (by rw [decide_eq_true_eq]; omega), decide_eq_false e, Bool.false_or, ← decide_not]; simp only [Int.not_le]
      rw [hn]
      simp only [okb]
      cases nb : nearB h a b with
      | false => rfl
      | true =>
        simp only [Bool.not_true, Bool.false_eq_true, if_false, okb, Bool.true_and]
        have h8 := ok.h8
        have w8 := ok.w8
        rw [show ((h.1.length : Nat) : Int) = ((hgt h : Nat) : Int) from rfl, rngR_ok (by omega)]
        simp only [okb]
        rw [foldS_any (r := false) (fun r => (List.range (wid h)).any fun c => !freeB h (r, (c : Int)) && lawX a b (r, (c : Int)))]
        · have key : ((List.range (hgt h)).map fun i : Nat => (i : Int)).any (fun r => (List.range (wid h)).any fun c => !freeB h (r, (c : Int)) && lawX a b (r, (c : Int))) = !(crossedL a b).all (freeB h) := by
            rw [Bool.eq_iff_iff, Bool.not_eq_true', ← Bool.not_eq_true, List.all_eq_true, List.any_eq_true]
            constructor
            · rintro ⟨r, hr, h2⟩ hall
              rw [List.any_eq_true] at h2
              obtain ⟨c, hc, h3⟩ := h2
              rw [Bool.and_eq_true, Bool.not_eq_true'] at h3
              have na : ((r, (c : Int)) : Cell) ≠ a := fun e => by rw [e, fa] at h3; cases h3.1
              have nb2 : ((r, (c : Int)) : Cell) ≠ b := fun e => by rw [e, fb] at h3; cases h3.1
              have := hall _ ((lawX_iff na nb2).mp h3.2)
              rw [h3.1] at this; cases this
            · intro hn2
              have : ∃ c ∈ crossedL a b, freeB h c = false := by
                refine Classical.byContradiction fun z => hn2 fun c hc => ?_
                cases e : freeB h c with
                | true => rfl
                | false => exact absurd ⟨c, hc, e⟩ z
              obtain ⟨c, hc, e⟩ := this
              have hin := crossed_inside ha hb hc
              obtain ⟨⟨c1, c2⟩, c3, c4⟩ := in_iff.mp hin
              have na : c ≠ a := fun z => by rw [z, fa] at e; cases e
              have nb2 : c ≠ b := fun z => by rw [z, fb] at e; cases e
              refine ⟨c.1, List.mem_map.mpr ⟨c.1.toNat, List.mem_range.mpr (by omega), Int.toNat_of_nonneg c1⟩, ?_⟩
              rw [List.any_eq_true]
              refine ⟨c.2.toNat, List.mem_range.mpr (by omega), ?_⟩
              rw [Int.toNat_of_nonneg c3, Bool.and_eq_true, Bool.not_eq_true']
              exact ⟨e, (lawX_iff na nb2).mpr hc⟩
          rw [key]
          cases (crossedL a b).all (freeB h) <;> rfl
        · intro r hr
          obtain ⟨i, hi, rfl⟩ := List.mem_map.mp hr
          rw [List.mem_range] at hi
          rw [ok.ix0]
          simp only [okb]
          rw [ok.len0]
          simp only [okb]
          rw [rngR_ok (by omega)]
          simp only [okb]
          rw [foldS_any (r := false) (fun c => !freeB h ((i : Int), c) && lawX a b ((i : Int), c))]
          · rw [List.any_map]
            show bindS (.ok (if (List.range (wid h)).any (fun c => !freeB h ((i : Int), (c : Int)) && lawX a b ((i : Int), (c : Int))) = true then _ else _)) _ _ = _
            split <;> rfl
          · intro c hc
            obtain ⟨j, hj, rfl⟩ := List.mem_map.mp hc
            rw [List.mem_range] at hj
            have hin : inB h ((i : Int), (j : Int)) = true := in_iff.mpr ⟨⟨by dsimp only; omega, by dsimp only; omega⟩, by dsimp only; omega, by dsimp only; omega⟩
            have w := wayB ok hin
            dsimp only at w
            rw [w]
            simp only [okb]
            rw [s_l_crosses ⟨⟨a1, a2⟩, a3, a4⟩ ⟨⟨b1, b2⟩, b3, b4⟩ (ok.bd hin)]
            cases freeB h ((i : Int), (j : Int)) with
            | true => rfl
            | false =>
              cases lawX a b ((i : Int), (j : Int)) <;> rfl
theorem s_l_seen {h : Hl} (ok : HOk h) {a : Cell} (ha : inB h a = true) : Lk.l_seen h a = .ok (seenL h a) := by
  unfold Lk.l_seen
  rw [s_l_floors ok, Res.ok_bind, lcR_fil (fun b => seesB h a b) (fun b hb => s_l_sees ok ha (floor_in hb)) (by have := floors_le ok; omega)]
  rfl
end PV
/-! M8: sets of cells; the laws' own covering; picking by the least rank -/
namespace PV
theorem foldS_K {α X R Y : Type} {b : α → X → Res (Stp X R)} {xs : List α} {x0 : X} {ret : R → Y} {K : X → Res Y} {r : Res Y} (I : List α → X → Prop) (h0 : I [] x0) (hs : ∀ p a q x, xs = p ++ a :: q → I p x → ∃ y, b a x = .ok (.nx y) ∧ I (p ++ [a]) y) (hk : ∀ x, I xs x → K x = r) : bindS (foldS b xs x0) ret K = r := by
  obtain ⟨x, h1, h2⟩ := foldS_inv0 I h0 hs
  rw [h1, bindS_nx]
  exact hk x h2
theorem foldR_K {α X Y : Type} {b : α → X → Res X} {xs : List α} {x0 : X} {K : X → Res Y} {r : Res Y} (I : List α → X → Prop) (h0 : I [] x0) (hs : ∀ p a q x, xs = p ++ a :: q → I p x → ∃ y, b a x = .ok y ∧ I (p ++ [a]) y) (hk : ∀ x, I xs x → K x = r) : (foldR b xs x0).bind K = r := by
  obtain ⟨x, h1, h2⟩ := foldR_inv0 I h0 hs
  rw [h1]
  exact hk x h2
theorem whileR_K {X Y : Type} {c : X → Res Bool} {b : X → Res X} {n : Nat} {x0 : X} {K : X → Res Y} {r : Res Y} (I : X → Prop) (m : X → Nat) (hm : m x0 < n) (h0 : I x0) (hs : ∀ x, I x → ∃ k, c x = .ok k ∧ (k = true → ∃ y, b x = .ok y ∧ I y ∧ m y < m x) ∧ (k = false → K x = r)) : (whileR c b n x0).bind K = r := by
  obtain ⟨x, h1, _, h2⟩ := whileR_inv I m (fun x => K x = r) n x0 hm h0 hs
  rw [h1]
  exact h2
theorem mem_dedC {p : Cell} : ∀ {l : List Cell}, p ∈ dedC l ↔ p ∈ l
  | [] => Iff.rfl
  | q :: l => by
    unfold dedC
    split
    · rename_i h
      rw [mem_dedC, List.mem_cons]
      exact ⟨.inr, fun z => z.elim (fun e => e ▸ mem_dedC.mp h) id⟩
    · rw [List.mem_cons, List.mem_cons, mem_dedC]
theorem nodup_dedC : ∀ l : List Cell, (dedC l).Nodup
  | [] => .nil
  | q :: l => by
    unfold dedC
    split
    · exact nodup_dedC l
    · rename_i h
      exact List.nodup_cons.mpr ⟨h, nodup_dedC l⟩
theorem ded_perm {l m : List Cell} (hm : m.Nodup) (h : ∀ c, c ∈ l ↔ c ∈ m) : (dedC l).Perm m :=
  (List.perm_ext_iff_of_nodup (nodup_dedC l) hm).mpr fun c => by rw [mem_dedC]; exact h c
theorem setCR_of {l m : List Cell} (hi : ∀ c ∈ l, inC c = true) (hm : m.Nodup) (hz : m.length < 63) (h : ∀ c, c ∈ l ↔ c ∈ m) : setCR l = .ok (dedC l) := by
  unfold setCR
  rw [if_pos ⟨List.all_eq_true.mpr hi, by rw [(ded_perm hm h).length_eq]; exact hz⟩]
theorem setSort_of {l m : List Cell} (hi : ∀ c ∈ l, inC c = true) (hm : Rise m) (hz : m.length < 63) (h : ∀ c, c ∈ l ↔ c ∈ m) : setSortR l = .ok m := by
  unfold setSortR
  rw [setCR_of hi hm.nodup hz h, Res.ok_bind, sort_of_perm hm (ded_perm hm.nodup h)]
theorem setLen_of {l : List Cell} (hi : ∀ c ∈ l, inC c = true) (hm : l.Nodup) (hz : l.length < 63) : setLenR l = .ok (l.length : Int) := by
  unfold setLenR
  rw [setCR_of hi hm hz fun _ => Iff.rfl, Res.ok_bind, (ded_perm hm fun _ => Iff.rfl).length_eq]
theorem HOk.inC {h : Hl} (ok : HOk h) {c : Cell} (hc : inB h c = true) : PV.inC c = true := by
  obtain ⟨⟨a, b⟩, d, e⟩ := in_iff.mp hc
  have := ok.h8
  have := ok.w8
  unfold PV.inC
  rw [decide_eq_true_eq]
  omega
section
variable {fl : List Cell} {see : Cell → List Cell} (v : View fl see)
include v
/-- the laws' own covering -/
theorem s_l_all (hin : ∀ c ∈ fl, inC c = true) (h63 : fl.length < 63) {ls : List Cell} (hl : ∀ l ∈ ls, l ∈ fl) (hz : ls.length ≤ 1000) : Lk.l_all (viewL fl see) ls = .ok (covF fl see ls) := by
  unfold Lk.l_all
  have seele : ∀ c ∈ fl, (see c).length ≤ 64 := fun c hc => Nat.le_trans (sub_le v.rise (v.rises c hc).nodup (v.sub c hc)) v.le
  have key := foldR_by (xs := ls) (x0 := []) (b := fun (one : Cell) (found : List Cell) => (((getK (viewL fl see) one).bind fun x1 => (addL found x1)).bind fun (found : (List Cell)) => (Res.ok found))) (fun pre => pre.flatMap see) rfl (fun p a q e => by
    have ha : a ∈ fl := hl a (by rw [e]; simp)
    have l1 : (p.flatMap see).length ≤ p.length * 64 := flatMap_len see 64 p fun x hx => seele x (hl x (by rw [e]; simp [hx]))
    have l2 : p.length ≤ 1000 := by
      have := congrArg List.length e
      rw [List.length_append, List.length_cons] at this
      omega
    rw [getK_map see ha]
    simp only [okb]
    rw [addL_ok (by have := seele a ha; omega)]
    simp only [okb]
    rw [List.flatMap_append]
    simp)
  rw [Res.ok_bind, key]
  simp only [okb]
  refine setSort_of (fun c hc => ?_) (rise_cov v ls) (Nat.lt_of_le_of_lt (List.length_filter_le _ _) h63) fun c => ?_
  · obtain ⟨l, h1, h2⟩ := List.mem_flatMap.mp hc
    exact hin c (v.sub l (hl l h1) c h2)
  · rw [List.mem_flatMap, mem_cov]
    exact ⟨fun ⟨l, h1, h2⟩ => ⟨v.sub l (hl l h1) c h2, l, h1, h2⟩, fun ⟨_, l, h1, h2⟩ => ⟨l, h1, h2⟩⟩
end
/-- the least by rank is what is picked -/
theorem pick_min (see : Cell → List Cell) (left : List Cell) : ∀ (l : List Cell) (m : Int) (c : Cell), (∀ d ∈ l, cLt c d) → Rise l → ∃ x, pickF see left l (some (m, c)) = some x ∧ minLt (lex2 ltZ lexZ) (0 - m, c) (l.map fun d => (0 - (many see left d : Int), d)) = (0 - x.1, x.2)
  | [], m, c, _, _ => ⟨(m, c), rfl, rfl⟩
  | d :: l, m, c, h, hr => by
    obtain ⟨h1, h2⟩ := List.pairwise_cons.mp hr
    have hcd := h d List.mem_cons_self
    have e : (lex2 ltZ lexZ (0 - (many see left d : Int), d) (0 - m, c) = true) ↔ m < (many see left d : Int) := by
      unfold lex2 ltZ
      dsimp only
      split
      · rename_i k
        rw [lex_iff]
        constructor
        · intro z; exact absurd (cLt_trans z hcd) (cLt_irrefl _)
        · intro z; omega
      · rw [decide_eq_true_eq]; omega
    show ∃ x, pickF see left l (if m < (many see left d : Int) then some ((many see left d : Int), d) else some (m, c)) = some x ∧ minLt (lex2 ltZ lexZ) (if lex2 ltZ lexZ (0 - (many see left d : Int), d) (0 - m, c) = true then (0 - (many see left d : Int), d) else (0 - m, c)) _ = _
    by_cases k : m < (many see left d : Int)
    · rw [if_pos k, if_pos (e.mpr k)]
      exact pick_min see left l _ _ h1 h2
    · rw [if_neg k, if_neg (fun z => k (e.mp z))]
      exact pick_min see left l _ _ (fun x hx => h x (List.mem_cons_of_mem _ hx)) h2
theorem pick_minR {fl : List Cell} (see : Cell → List Cell) (left : List Cell) (hr : Rise fl) (hn : fl ≠ []) : ∃ x, pickF see left fl none = some x ∧ minLtR (lex2 ltZ lexZ) (fl.map fun d => (0 - (many see left d : Int), d)) = .ok (0 - x.1, x.2) := by
  cases fl with
  | nil => exact absurd rfl hn
  | cons c l =>
    obtain ⟨h1, h2⟩ := List.pairwise_cons.mp hr
    obtain ⟨x, e1, e2⟩ := pick_min see left l (many see left c : Int) c h1 h2
    exact ⟨x, e1, congrArg Res.ok e2⟩
end PV
/-! M12: neighbours, what is reached, parts -/
namespace PV
def nbrs (c : Cell) : List Cell := [(c.1 - 1, c.2), (c.1, c.2 - 1), (c.1, c.2 + 1), (c.1 + 1, c.2)]
def okC (h : Hl) (c : Cell) : Bool := inB h c && freeB h c
def nbL (h : Hl) (c : Cell) : List Cell := (nbrs c).filter (okC h)
theorem okC_iff {h : Hl} {c : Cell} : okC h c = true ↔ inB h c = true ∧ freeB h c = true := by unfold okC; rw [Bool.and_eq_true]
theorem mem_nb {h : Hl} {c d : Cell} : d ∈ nbL h c ↔ d ∈ nbrs c ∧ okC h d = true := List.mem_filter
theorem nbrs_sw {c d : Cell} (h : d ∈ nbrs c) : c ∈ nbrs d := by
  unfold nbrs at h ⊢
  simp only [List.mem_cons, List.not_mem_nil, or_false] at h ⊢
  rcases h with rfl | rfl | rfl | rfl <;> simp
theorem nb_le (h : Hl) (c : Cell) : (nbL h c).length ≤ 4 := List.length_filter_le _ _
theorem s_neighbours {h : Hl} (ok : HOk h) (c : Cell) : Lk.neighbours h c = .ok (nbL h c) := by
  unfold Lk.neighbours
  rw [lcR_all (fun z : Cell => (c.1 + z.1, c.2 + z.2)) (fun _ _ => rfl) (by decide), Res.ok_bind]
  have e : [((-1 : Int), (0 : Int)), (0, -1), (0, 1), (1, 0)].map (fun z : Cell => (c.1 + z.1, c.2 + z.2)) = nbrs c := by
    unfold nbrs
    simp only [List.map_cons, List.map_nil, Int.add_zero]
    rw [show c.1 + -1 = c.1 - 1 by omega, show c.2 + -1 = c.2 - 1 by omega]
  rw [e, lcR_fil (okC h) (fun d _ => ?_) (by simp [nbrs])]
  · rfl
  · rw [s_is_inside ok, Res.ok_bind]
    unfold okC
    cases hi : inB h d with
    | true => rw [if_pos rfl, s_is_free ok hi]; rfl
    | false => rfl
inductive Reach (h : Hl) : Cell → Cell → Prop
  | refl (a : Cell) : Reach h a a
  | step {a b c : Cell} : Reach h a b → c ∈ nbL h b → Reach h a c
section
variable {h : Hl}
theorem Reach.trans {a b c : Cell} (x : Reach h a b) (y : Reach h b c) : Reach h a c := by
  induction y with
  | refl => exact x
  | step _ z ih => exact .step ih z
theorem Reach.ok {a b : Cell} (ha : okC h a = true) (x : Reach h a b) : okC h b = true := by
  cases x with
  | refl => exact ha
  | step _ z => exact (mem_nb.mp z).2
theorem Reach.inB {a b : Cell} (ha : PV.inB h a = true) (x : Reach h a b) : PV.inB h b = true := by
  cases x with
  | refl => exact ha
  | step _ z => exact (okC_iff.mp (mem_nb.mp z).2).1
theorem Reach.symm {a b : Cell} (ha : okC h a = true) (x : Reach h a b) : Reach h b a := by
  induction x with
  | refl => exact .refl _
  | step y z ih => exact Reach.trans (.step (.refl _) (mem_nb.mpr ⟨nbrs_sw (mem_nb.mp z).1, y.ok ha⟩)) ih
open Classical in
noncomputable def partL (h : Hl) (c : Cell) : List Cell := (cellsL h).filter fun d => decide (Reach h c d)
open Classical in
theorem mem_part {c d : Cell} (hc : PV.inB h c = true) : d ∈ partL h c ↔ Reach h c d := by
  unfold partL
  rw [List.mem_filter, mem_cells, decide_eq_true_eq]
  exact ⟨fun z => z.2, fun z => ⟨z.inB hc, z⟩⟩
theorem rise_part (h : Hl) (c : Cell) : Rise (partL h c) := (rise_cells h).filter _
theorem part_eq {c d : Cell} (hc : okC h c = true) (x : Reach h c d) : partL h d = partL h c := by
  have hd := x.ok hc
  refine rise_ext (rise_part h d) (rise_part h c) fun e => ?_
  rw [mem_part (okC_iff.mp hd).1, mem_part (okC_iff.mp hc).1]
  exact ⟨fun z => x.trans z, fun z => (x.symm hc).trans z⟩
theorem part_le (ok : HOk h) (c : Cell) : (partL h c).length ≤ 64 := Nat.le_trans (List.length_filter_le _ _) ok.cells_le
end
/-! dicts' keys -/
theorem has_iff {β : Type} {l : List (Cell × β)} {k : Cell} : hasK l k = true ↔ k ∈ keysZ l := by
  unfold hasK getZ keysZ
  rw [Option.isSome_map, List.find?_isSome, List.mem_map]
  simp
theorem putR_ok {β : Type} {l : List (Cell × β)} {k : Cell} {v : β} (h : l.length < 16777216) : putR l k v = .ok (putZ l k v) := if_pos h
theorem keys_len {β : Type} (l : List (Cell × β)) : (keysZ l).length = l.length := by unfold keysZ; rw [List.length_map]
theorem nodup_cells {h : Hl} (ok : HOk h) {l : List Cell} (hn : l.Nodup) (hi : ∀ c ∈ l, inB h c = true) : l.length ≤ (cellsL h).length :=
  sub_le (rise_cells h) hn fun c hc => mem_cells.mpr (hi c hc)
theorem nodup_put {β : Type} {l : List (Cell × β)} {k : Cell} {v : β} (h : (keysZ l).Nodup) : (keysZ (putZ l k v)).Nodup := by
  rw [keys_put]
  split
  · exact h
  · rename_i hn
    exact List.nodup_append.mpr ⟨h, by simp, fun x hx y hy z => hn (by rw [List.mem_singleton] at hy; rw [← hy, ← z]; exact hx)⟩
theorem mem_put {β : Type} {l : List (Cell × β)} {k c : Cell} {v : β} : c ∈ keysZ (putZ l k v) ↔ c ∈ keysZ l ∨ c = k := by
  rw [keys_put]
  split
  · rename_i hk
    exact ⟨.inl, fun z => z.elim id (fun e => e ▸ hk)⟩
  · rw [List.mem_append, List.mem_singleton]
/-! part_of -/
structure PInv (h : Hl) (c : Cell) (found : List (Cell × Bool)) (todo : List Cell) : Prop where
  nd : (keysZ found).Nodup
  re : ∀ d ∈ keysZ found, Reach h c d
  st : c ∈ keysZ found
  sub : ∀ d ∈ todo, d ∈ keysZ found
  cl : ∀ d ∈ keysZ found, d ∉ todo → ∀ e ∈ nbL h d, e ∈ keysZ found
  le : todo.length ≤ found.length
theorem s_part_of {h : Hl} (ok : HOk h) {c : Cell} (hc : inB h c = true) : Lk.part_of h c = .ok (partL h c) := by
  have c64 := ok.cells_le
  unfold Lk.part_of
  simp only [okb]
  have lenK : ∀ {f : List (Cell × Bool)}, (keysZ f).Nodup → (∀ d ∈ keysZ f, Reach h c d) → f.length ≤ 64 := fun {f} h1 h2 => by
    have := nodup_cells ok h1 fun d hd => (h2 d hd).inB hc
    rw [keys_len] at this
    omega
  refine whileR_K (fun y => PInv h c y.1 y.2) (fun y => 2 * (64 - y.1.length) + y.2.length) (by simp) ?_ (fun y I => ?_)
  · exact ⟨by simp [keysZ], fun d hd => by simp [keysZ] at hd; subst hd; exact .refl _, by simp [keysZ], fun d hd => by simpa [keysZ] using hd, fun d hd hn => by simp [keysZ] at hd; subst hd; simp at hn, Nat.le_refl _⟩
  · obtain ⟨found, todo⟩ := y
    have I : PInv h c found todo := I
    refine ⟨_, rfl, fun hk => ?_, fun hk => ?_⟩
    · have hlen : 0 < todo.length := by
        have := of_decide_eq_true hk
        dsimp only at this
        omega
      obtain ⟨x, hx⟩ : ∃ x, todo.getLast? = some x := ⟨_, List.getLast?_eq_some_getLast (List.ne_nil_of_length_pos hlen)⟩
      have hxm : x ∈ todo := List.mem_of_getLast? hx
      have hsplit : todo = todo.dropLast ++ [x] := by
        obtain ⟨z, hz⟩ := List.getLast?_eq_some_iff.mp hx
        rw [hz]; simp
      dsimp only
      rw [show popR todo = .ok (x, todo.dropLast) by unfold popR; rw [hx]]
      simp only [okb]
      rw [s_neighbours ok]
      simp only [okb]
      have xr := I.re x (I.sub x hxm)
      have fl0 := lenK I.nd I.re
      obtain ⟨y', e1, e2⟩ := foldR_inv0 (xs := nbL h x) (x0 := (found, todo.dropLast)) (b := fun (other : Cell) (y5 : ((List (Cell × Bool)) × (List Cell))) => (if (!hasK y5.1 other) = true then ((putR y5.1 other true).bind fun (found : (List (Cell × Bool))) => ((pushL y5.2 other).bind fun (todo : (List Cell)) => (Res.ok (found, todo)))) else (Res.ok (y5.1, y5.2))))
        (fun p y => (keysZ y.1).Nodup ∧ (∀ d ∈ keysZ y.1, Reach h c d) ∧ (∀ d ∈ keysZ found, d ∈ keysZ y.1) ∧ (∀ d ∈ y.2, d ∈ keysZ y.1) ∧ (∀ d ∈ todo.dropLast, d ∈ y.2) ∧ (∀ d ∈ keysZ y.1, d ∉ keysZ found → d ∈ y.2) ∧ (∀ d ∈ p, d ∈ keysZ y.1) ∧ y.2.length + found.length = todo.dropLast.length + y.1.length ∧ found.length ≤ y.1.length)
        ⟨I.nd, I.re, fun _ z => z, fun d hd => I.sub d (by rw [hsplit]; exact List.mem_append_left _ hd), fun _ z => z, fun d h1 h2 => absurd h1 h2, fun _ z => by (cases z), rfl, Nat.le_refl _⟩ (fun p a q y e J => by
          obtain ⟨j1, j2, j3, j4, j5, j6, j7, j8, j9⟩ := J
          obtain ⟨f, t⟩ := y
          dsimp only at j1 j2 j3 j4 j5 j6 j7 j8 j9 ⊢
          have ha : a ∈ nbL h x := by rw [e]; simp
          have lf := lenK j1 j2
          by_cases hk : a ∈ keysZ f
          · rw [has_iff.mpr hk]
            refine ⟨(f, t), rfl, j1, j2, j3, j4, j5, j6, fun d hd => ?_, j8, j9⟩
            rcases List.mem_append.mp hd with z | z
            · exact j7 d z
            · rw [List.mem_singleton] at z; subst z; exact hk
          · have hf : hasK f a = false := by
              cases z : hasK f a with
              | true => exact absurd (has_iff.mp z) hk
              | false => rfl
            have kp : keysZ (putZ f a true) = keysZ f ++ [a] := by rw [keys_put, if_neg hk]
            have lp : (putZ f a true).length = f.length + 1 := by rw [← keys_len, kp, List.length_append, keys_len]; rfl
            have re2 : ∀ d ∈ keysZ (putZ f a true), Reach h c d := fun d hd => by
              rcases mem_put.mp hd with z | z
              · exact j2 d z
              · subst z; exact .step xr ha
            have nd2 : (keysZ (putZ f a true)).Nodup := nodup_put j1
            have lf2 := lenK nd2 re2
            rw [hf, Bool.not_false, if_pos rfl, putR_ok (by omega)]
            simp only [okb]
            have tl : t.length ≤ 200 := by
              have i0 := I.le
              rw [List.length_dropLast] at j8
              omega
            rw [pushL_ok (by omega)]
            refine ⟨_, rfl, nd2, re2, fun d hd => mem_put.mpr (.inl (j3 d hd)), fun d hd => ?_, fun d hd => List.mem_append_left _ (j5 d hd), fun d h1 h2 => ?_, fun d hd => ?_, ?_, ?_⟩
            · rcases List.mem_append.mp hd with z | z
              · exact mem_put.mpr (.inl (j4 d z))
              · rw [List.mem_singleton] at z; exact mem_put.mpr (.inr z)
            · rcases mem_put.mp h1 with z | z
              · exact List.mem_append_left _ (j6 d z h2)
              · subst z; simp
            · rcases List.mem_append.mp hd with z | z
              · exact mem_put.mpr (.inl (j7 d z))
              · rw [List.mem_singleton] at z; exact mem_put.mpr (.inr z)
            · rw [List.length_append, List.length_singleton, lp]; omega
            · rw [lp]; omega)
      rw [e1]
      obtain ⟨f, t⟩ := y'
      obtain ⟨j1, j2, j3, j4, j5, j6, j7, j8, j9⟩ := e2
      dsimp only at j1 j2 j3 j4 j5 j6 j7 j8 j9
      have lf := lenK j1 j2
      refine ⟨_, rfl, ⟨j1, j2, j3 c I.st, j4, fun d hd hn e he => ?_, ?_⟩, ?_⟩
      · by_cases hdx : d = x
        · subst hdx; exact j7 e he
        · by_cases hdf : d ∈ keysZ found
          · refine j3 e (I.cl d hdf (fun z => ?_) e he)
            rw [hsplit] at z
            rcases List.mem_append.mp z with z | z
            · exact hn (j5 d z)
            · rw [List.mem_singleton] at z; exact hdx z
          · exact absurd (j6 d hd hdf) hn
      · have i0 := I.le
        rw [List.length_dropLast] at j8
        dsimp only
        omega
      · dsimp only
        rw [List.length_dropLast] at j8
        omega
    · have hlen : todo = [] := by
        have := of_decide_eq_false hk
        dsimp only at this
        exact List.length_eq_zero_iff.mp (by omega)
      subst hlen
      congr 1
      refine sort_eq I.nd (rise_part h c) fun d => ?_
      rw [mem_part hc]
      refine ⟨I.re d, fun z => ?_⟩
      induction z with
      | refl => exact I.st
      | step _ y ih => exact I.cl _ ih (by simp) _ y
/-! parts -/
noncomputable def partS (h : Hl) (found : List (List Cell)) (c : Cell) : List (List Cell) := if okC h c = true ∧ (found.any fun p => memB c p) = false then found ++ [partL h c] else found
noncomputable def partsL (h : Hl) : List (List Cell) := (cellsL h).foldl (partS h) []
structure PtInv (h : Hl) (pre : List Cell) (found : List (List Cell)) : Prop where
  of : ∀ l ∈ found, ∃ c, c ∈ pre ∧ okC h c = true ∧ l = partL h c
  all : ∀ c ∈ pre, okC h c = true → partL h c ∈ found
  nd : found.Nodup
  le : found.length ≤ pre.length
theorem self_part {h : Hl} {c : Cell} (hc : okC h c = true) : c ∈ partL h c := (mem_part (okC_iff.mp hc).1).mpr (.refl c)
theorem PtInv.step {h : Hl} {pre : List Cell} {found : List (List Cell)} (I : PtInv h pre found) (c : Cell) : PtInv h (pre ++ [c]) (partS h found c) := by
  unfold partS
  by_cases hk : okC h c = true ∧ (found.any fun p => memB c p) = false
  · rw [if_pos hk]
    obtain ⟨h1, h2⟩ := hk
    refine ⟨fun l hl => ?_, fun d hd ho => ?_, ?_, ?_⟩
    · rcases List.mem_append.mp hl with z | z
      · obtain ⟨d, k1, k2, k3⟩ := I.of l z
        exact ⟨d, List.mem_append_left _ k1, k2, k3⟩
      · rw [List.mem_singleton] at z
        exact ⟨c, by simp, h1, z⟩
    · rcases List.mem_append.mp hd with z | z
      · exact List.mem_append_left _ (I.all d z ho)
      · rw [List.mem_singleton] at z; subst z; simp
    · refine List.nodup_append.mpr ⟨I.nd, by simp, fun x hx y hy e => ?_⟩
      rw [List.mem_singleton] at hy
      subst e
      subst hy
      have : (found.any fun p => memB c p) = true := List.any_eq_true.mpr ⟨_, hx, memB_t (self_part h1)⟩
      rw [h2] at this; cases this
    · rw [List.length_append, List.length_append]
      have := I.le
      simp; omega
  · rw [if_neg hk]
    refine ⟨fun l hl => ?_, fun d hd ho => ?_, I.nd, ?_⟩
    · obtain ⟨d, k1, k2, k3⟩ := I.of l hl
      exact ⟨d, List.mem_append_left _ k1, k2, k3⟩
    · rcases List.mem_append.mp hd with z | z
      · exact I.all d z ho
      · rw [List.mem_singleton] at z
        subst z
        have : (found.any fun p => memB d p) = true := by
          cases e : (found.any fun p => memB d p) with
          | true => rfl
          | false => exact absurd ⟨ho, e⟩ hk
        obtain ⟨l, k1, k2⟩ := List.any_eq_true.mp this
        obtain ⟨e, _, k3, rfl⟩ := I.of l k1
        rw [part_eq k3 ((mem_part (okC_iff.mp k3).1).mp (memB_iff.mp k2))]
        exact k1
    · rw [List.length_append]
      have := I.le
      omega
theorem parts_go {h : Hl} : ∀ (l pre : List Cell) (found : List (List Cell)), PtInv h pre found → PtInv h (pre ++ l) (l.foldl (partS h) found)
  | [], pre, found, I => by rw [List.append_nil]; exact I
  | c :: l, pre, found, I => by
    rw [List.foldl_cons, show pre ++ c :: l = (pre ++ [c]) ++ l by simp]
    exact parts_go l _ _ (I.step c)
theorem parts_inv (h : Hl) : PtInv h (cellsL h) (partsL h) := by
  have := parts_go (h := h) (cellsL h) [] [] ⟨fun l z => (by cases z), fun c z => (by cases z), .nil, Nat.le_refl _⟩
  rwa [List.nil_append] at this
theorem mem_parts {h : Hl} {l : List Cell} : l ∈ partsL h ↔ ∃ c, okC h c = true ∧ l = partL h c := by
  have I := parts_inv h
  constructor
  · intro hl
    obtain ⟨c, _, k⟩ := I.of l hl
    exact ⟨c, k⟩
  · rintro ⟨c, k1, rfl⟩
    exact I.all c (mem_cells.mpr (okC_iff.mp k1).1) k1
theorem parts_nodup (h : Hl) : (partsL h).Nodup := (parts_inv h).nd
theorem parts_le {h : Hl} (ok : HOk h) : (partsL h).length ≤ 64 := Nat.le_trans (parts_inv h).le ok.cells_le
theorem s_parts {h : Hl} (ok : HOk h) : Lk.parts h = .ok (partsL h) := by
  have c64 := ok.cells_le
  unfold Lk.parts
  rw [s_cells ok]
  simp only [okb]
  rw [foldR_by (x0 := []) (fun pre => pre.foldl (partS h) []) rfl (fun p a q e => ?_)]
  · rfl
  · have I := parts_go (h := h) p [] [] ⟨fun l z => (by cases z), fun c z => (by cases z), .nil, Nat.le_refl _⟩
    rw [List.nil_append] at I
    have lp : p.length < 64 := by
      have := congrArg List.length e
      rw [List.length_append, List.length_cons] at this
      omega
    have lf := I.le
    rw [List.foldl_append]
    generalize p.foldl (partS h) [] = found at I lf ⊢
    have hin : inB h a = true := mem_cells.mp (by rw [e]; simp)
    rw [s_is_free ok hin]
    simp only [okb]
    rw [lcR_map (by omega)]
    simp only [okb]
    show _ = Res.ok (partS h found a)
    have ea : ((found.map fun x => memB a x).any fun b => b) = found.any fun p => memB a p := by rw [List.any_map]; rfl
    unfold partS okC
    rw [hin, Bool.true_and, ea]
    cases hf : freeB h a with
    | false => rw [if_neg Bool.false_ne_true, Res.ok_bind, if_neg Bool.false_ne_true, if_neg (fun z => by cases z.1)]
    | true =>
      rw [if_pos rfl, Res.ok_bind]
      cases hx : found.any fun p => memB a p with
      | true => rw [if_neg (by decide), if_neg (fun z => by cases z.2)]
      | false =>
        rw [if_pos (by decide), s_part_of ok hin]
        simp only [okb]
        rw [pushL_ok (by omega), if_pos ⟨trivial, trivial⟩]; rfl
end PV
/-! M14: what ways cost (costs_to) -/
namespace PV
theorem getZ_mem {β : Type} {l : List (Cell × β)} {k : Cell} : k ∈ keysZ l ↔ ∃ v, getZ l k = some v := by
  rw [← has_iff]
  unfold hasK
  rw [Option.isSome_iff_exists]
theorem getK_ok {β : Type} {l : List (Cell × β)} {k : Cell} {v : β} (h : getZ l k = some v) : getK l k = .ok v := by unfold getK; rw [h]; rfl
theorem has_f {β : Type} {l : List (Cell × β)} {k : Cell} (h : k ∉ keysZ l) : hasK l k = false := by
  cases z : hasK l k with
  | true => exact absurd (has_iff.mp z) h
  | false => rfl
theorem getZ_cons {β : Type} (p : Cell × β) (l : List (Cell × β)) (k : Cell) : getZ (p :: l) k = if p.1 = k then some p.2 else getZ l k := by
  unfold getZ
  rw [List.find?_cons]
  by_cases e : p.1 = k
  · rw [if_pos e, decide_eq_true e]; rfl
  · rw [if_neg e, decide_eq_false e]
theorem getZ_app {β : Type} (k : Cell) (v : β) (d : Cell) : ∀ l : List (Cell × β), k ∉ keysZ l → getZ (l ++ [(k, v)]) d = if d = k then some v else getZ l d
  | [], _ => by
    show getZ [(k, v)] d = _
    rw [getZ_cons]
    by_cases e : d = k
    · rw [if_pos e, if_pos e.symm]
    · rw [if_neg e, if_neg (Ne.symm e)]
  | p :: l, h => by
    have h1 : p.1 ≠ k := fun z => h (by rw [← z]; exact List.mem_cons_self)
    have h2 : k ∉ keysZ l := fun z => h (List.mem_cons_of_mem _ z)
    show getZ (p :: (l ++ [(k, v)])) d = _
    rw [getZ_cons, getZ_cons, getZ_app k v d l h2]
    by_cases e : p.1 = d
    · rw [if_pos e, if_pos e, if_neg (fun z => h1 (e.trans z))]
    · rw [if_neg e, if_neg e]
theorem getZ_set {β : Type} (k : Cell) (v : β) (d : Cell) : ∀ l : List (Cell × β), k ∈ keysZ l → getZ (l.map fun p => if p.1 = k then (p.1, v) else p) d = if d = k then some v else getZ l d
  | [], h => by cases h
  | p :: l, h => by
    rw [List.map_cons, getZ_cons, getZ_cons]
    by_cases e : p.1 = k
    · rw [if_pos e]
      by_cases f : p.1 = d
      · rw [if_pos f, if_pos (f.symm.trans e)]
      · rw [if_neg f, if_neg f, if_neg (fun z => f (e.trans z.symm))]
        by_cases hk : k ∈ keysZ l
        · rw [getZ_set k v d l hk, if_neg (fun z => f (e.trans z.symm))]
        · congr 1
          refine (List.map_congr_left fun q hq => ?_).trans (List.map_id _)
          rw [if_neg (fun z => hk (by rw [← z]; exact List.mem_map_of_mem hq))]; rfl
    · rw [if_neg e]
      have hk : k ∈ keysZ l := by
        rcases List.mem_cons.mp h with z | z
        · exact absurd z.symm e
        · exact z
      by_cases f : p.1 = d
      · rw [if_pos f, if_pos f, if_neg (fun z => e (f.trans z))]
      · rw [if_neg f, if_neg f, getZ_set k v d l hk]
theorem getZ_put {β : Type} (l : List (Cell × β)) (k : Cell) (v : β) (d : Cell) : getZ (putZ l k v) d = if d = k then some v else getZ l d := by
  unfold putZ
  have hi : (l.any fun p => decide (p.1 = k)) = true ↔ k ∈ keysZ l := by
    unfold keysZ
    rw [List.any_eq_true, List.mem_map]
    simp
  by_cases h : k ∈ keysZ l
  · rw [if_pos (hi.mpr h)]; exact getZ_set k v d l h
  · rw [if_neg (fun z => h (hi.mp z))]; exact getZ_app k v d l h
/-! removal -/
theorem mem_era {x d : Cell} : ∀ {l : List Cell}, l.Nodup → (d ∈ eraT l x ↔ d ∈ l ∧ d ≠ x)
  | [], _ => by unfold eraT; simp
  | a :: l, h => by
    obtain ⟨h1, h2⟩ := List.nodup_cons.mp h
    unfold eraT
    by_cases e : a = x
    · subst e
      rw [if_pos rfl, List.mem_cons]
      exact ⟨fun z => ⟨.inr z, fun e => h1 (e ▸ z)⟩, fun ⟨z, k⟩ => z.resolve_left k⟩
    · rw [if_neg e, List.mem_cons, List.mem_cons, mem_era h2]
      constructor
      · rintro (z | ⟨z, k⟩)
        · exact ⟨.inl z, fun q => e (z ▸ q)⟩
        · exact ⟨.inr z, k⟩
      · rintro ⟨z | z, k⟩
        · exact .inl z
        · exact .inr ⟨z, k⟩
theorem nodup_era (x : Cell) : ∀ {l : List Cell}, l.Nodup → (eraT l x).Nodup
  | [], h => h
  | a :: l, h => by
    obtain ⟨h1, h2⟩ := List.nodup_cons.mp h
    unfold eraT
    by_cases e : a = x
    · rw [if_pos e]; exact h2
    · rw [if_neg e]
      exact List.nodup_cons.mpr ⟨fun z => h1 ((mem_era h2).mp z).1, nodup_era x h2⟩
theorem len_era {x : Cell} : ∀ {l : List Cell}, x ∈ l → (eraT l x).length + 1 = l.length
  | [], h => by cases h
  | a :: l, h => by
    unfold eraT
    by_cases e : a = x
    · rw [if_pos e]; rfl
    · rw [if_neg e, List.length_cons, List.length_cons, len_era ((List.mem_cons.mp h).resolve_left (Ne.symm e))]
theorem remR_ok {l : List Cell} {x : Cell} (h : x ∈ l) : remR l x = .ok (eraT l x) := by unfold remR; exact if_pos h
/-! min by a key -/
theorem keysT_ok {α κ : Type} {k : α → Res κ} (f : α → κ) : ∀ {l : List α}, (∀ x ∈ l, k x = .ok (f x)) → keysT k l = .ok (l.map f)
  | [], _ => rfl
  | a :: l, h => by
    unfold keysT
    rw [h a List.mem_cons_self, Res.ok_bind, keysT_ok f fun x hx => h x (List.mem_cons_of_mem _ hx)]; rfl
theorem minLt_by {α : Type} {lt : α → α → Bool} (as : ∀ a b, lt a b = true → lt b a = false) (tr : ∀ a b c, lt b a = false → lt c b = false → lt c a = false) :
    ∀ (l : List α) (x : α), minLt lt x l ∈ x :: l ∧ ∀ y ∈ x :: l, lt y (minLt lt x l) = false
  | [], x => ⟨List.mem_cons_self, fun y hy => by
      rw [List.mem_singleton] at hy; subst hy
      show lt y y = false
      cases e : lt y y with
      | true => have := as _ _ e; rw [e] at this; exact this
      | false => rfl⟩
  | z :: l, x => by
    have ih := minLt_by as tr l
    show minLt lt (if lt z x = true then z else x) l ∈ _ ∧ _
    by_cases c : lt z x = true
    · rw [if_pos c]
      obtain ⟨i1, i2⟩ := ih z
      refine ⟨List.mem_cons_of_mem _ i1, fun y hy => ?_⟩
      have hz := i2 z List.mem_cons_self
      rcases List.mem_cons.mp hy with e | hy
      · subst e
        show lt y (minLt lt (if lt z y = true then z else y) l) = false
        rw [if_pos c]
        exact tr _ _ _ hz (as _ _ c)
      · show lt y (minLt lt (if lt z x = true then z else x) l) = false
        rw [if_pos c]; exact i2 y hy
    · rw [if_neg c]
      obtain ⟨i1, i2⟩ := ih x
      refine ⟨?_, fun y hy => ?_⟩
      · rcases List.mem_cons.mp i1 with e | e
        · rw [e]; exact List.mem_cons_self
        · exact List.mem_cons_of_mem _ (List.mem_cons_of_mem _ e)
      · show lt y (minLt lt (if lt z x = true then z else x) l) = false
        rw [if_neg c]
        rcases List.mem_cons.mp hy with e | hy
        · subst e; exact i2 _ List.mem_cons_self
        · rcases List.mem_cons.mp hy with e | hy
          · subst e
            exact tr _ _ _ (i2 x List.mem_cons_self) (by simpa using c)
          · exact i2 y (List.mem_cons_of_mem _ hy)
theorem minKR_ok {l : List Cell} {k : Cell → Res Cell} (f : Cell → Cell) (hk : ∀ x ∈ l, k x = .ok (f x)) (hn : l ≠ []) : ∃ m ∈ l, minKR lexZ k l = .ok m ∧ ∀ y ∈ l, ¬cLt (f y) (f m) := by
  unfold minKR
  rw [keysT_ok f hk]
  show ∃ m ∈ l, minKV lexZ (l.zip (l.map f)) = .ok m ∧ _
  cases l with
  | nil => exact absurd rfl hn
  | cons a l =>
    have ez : ∀ l : List Cell, l.zip (l.map f) = l.map fun x => (x, f x) := fun l => by
      induction l with
      | nil => rfl
      | cons a l ih => rw [List.map_cons, List.zip_cons_cons, ih]; rfl
    rw [ez]
    show ∃ m ∈ a :: l, Res.ok (minLt (fun x y : Cell × Cell => lexZ x.2 y.2) (a, f a) (l.map fun x => (x, f x))).1 = .ok m ∧ _
    obtain ⟨i1, i2⟩ := minLt_by (lt := fun x y : Cell × Cell => lexZ x.2 y.2) (fun a b h => lexZ_as _ _ h) (fun a b c h g => lexZ_tr _ _ _ h g) (l.map fun x => (x, f x)) (a, f a)
    rw [show ((a, f a) :: l.map fun x => (x, f x)) = (a :: l).map (fun x => (x, f x)) from rfl, List.mem_map] at i1
    obtain ⟨m, hm, em⟩ := i1
    refine ⟨m, hm, by rw [← em], fun y hy => ?_⟩
    have := i2 (y, f y) (by
      rw [show ((a, f a) :: l.map fun x => (x, f x)) = (a :: l).map (fun x => (x, f x)) from rfl]
      exact List.mem_map_of_mem hy)
    dsimp only at this
    rw [← em] at this
    exact lex_no.mp this
/-! seen -/
def isSeenB (h : Hl) (ls : List Cell) (c : Cell) : Bool := ls.any fun l => seesB h l c
def wtS (h : Hl) (ls : List Cell) (c : Cell) : Int := if isSeenB h ls c = true then 1 else 0
theorem wtS_nn (h : Hl) (ls : List Cell) (c : Cell) : 0 ≤ wtS h ls c ∧ wtS h ls c ≤ 1 := by unfold wtS; split <;> omega
theorem s_is_seen {h : Hl} (ok : HOk h) {ls : List Cell} (hl : ∀ l ∈ ls, inB h l = true) (hz : ls.length ≤ 1000) {c : Cell} (hc : inB h c = true) : Lk.is_seen h ls c = .ok (isSeenB h ls c) := by
  unfold Lk.is_seen
  rw [lcR_all (fun l => seesB h l c) (fun l hx => s_sees ok (hl l hx) hc) (Nat.le_trans hz (by decide)), Res.ok_bind, List.any_map]
  rfl
/-! costs -/
structure Costs (h : Hl) (w : Cell → Int) (goal : Cell) (found : List (Cell × Cell)) : Prop where
  keys : ∀ d, d ∈ keysZ found ↔ Reach h goal d
  gl : getZ found goal = some (w goal, 1)
  pred : ∀ d k, getZ found d = some k → d = goal ∨ ∃ e k', e ∈ nbL h d ∧ getZ found e = some k' ∧ k = (k'.1 + w d, k'.2 + 1)
  opt : ∀ d k, getZ found d = some k → ∀ e ∈ nbL h d, ∃ k', getZ found e = some k' ∧ ¬cLt (k.1 + w e, k.2 + 1) k'
  bd : ∀ d k, getZ found d = some k → 1 ≤ k.2 ∧ k.2 ≤ 65
structure CInv (h : Hl) (w : Cell → Int) (goal : Cell) (todo : List Cell) (found : List (Cell × Cell)) : Prop where
  nd : (keysZ found).Nodup
  tn : todo.Nodup
  re : ∀ d ∈ keysZ found, Reach h goal d
  sub : ∀ d ∈ todo, d ∈ keysZ found
  gl : getZ found goal = some (w goal, 1)
  dn : ∀ c ∈ keysZ found, c ∉ todo → ∀ t ∈ todo, ∀ kc kt, getZ found c = some kc → getZ found t = some kt → ¬cLt kt kc
  pr : ∀ d k, getZ found d = some k → d = goal ∨ ∃ e k', e ∈ nbL h d ∧ e ∉ todo ∧ getZ found e = some k' ∧ k = (k'.1 + w d, k'.2 + 1)
  cl : ∀ c k, getZ found c = some k → c ∉ todo → ∀ e ∈ nbL h c, ∃ k', getZ found e = some k' ∧ ¬cLt (k.1 + w e, k.2 + 1) k'
  bd : ∀ d k, getZ found d = some k → 0 ≤ k.1 ∧ 1 ≤ k.2 ∧ k.2 + todo.length ≤ found.length + 1
structure RInv (h : Hl) (w : Cell → Int) (goal m : Cell) (km : Cell) (t0 : List Cell) (f0 : List (Cell × Cell)) (p t : List Cell) (f : List (Cell × Cell)) : Prop where
  nd : (keysZ f).Nodup
  tn : t.Nodup
  re : ∀ d ∈ keysZ f, Reach h goal d
  sub : ∀ d ∈ t, d ∈ keysZ f
  gl : getZ f goal = some (w goal, 1)
  old : ∀ d ∈ keysZ f0, d ∈ keysZ f
  tsub : ∀ d ∈ t0, d ∈ t
  keep : ∀ d ∈ keysZ f, d ∉ t → d ∈ keysZ f0 ∧ d ∉ t0 ∧ getZ f d = getZ f0 d
  le : ∀ d k0, getZ f0 d = some k0 → ∃ k, getZ f d = some k ∧ ¬cLt k0 k
  low : ∀ d ∈ t, ∀ k, getZ f d = some k → ¬cLt k km
  pr : ∀ d k, getZ f d = some k → d = goal ∨ ∃ e k', e ∈ nbL h d ∧ e ∉ t ∧ getZ f e = some k' ∧ k = (k'.1 + w d, k'.2 + 1)
  cov : ∀ d ∈ p, ∃ k, getZ f d = some k ∧ ¬cLt (km.1 + w d, km.2 + 1) k
  mt : m ∉ t
  mkm : getZ f m = some km
  len : f.length + t0.length = t.length + f0.length
  bd : ∀ d k, getZ f d = some k → 0 ≤ k.1 ∧ 1 ≤ k.2 ∧ k.2 + t0.length ≤ f0.length + 1
theorem nb_sw {h : Hl} {c d : Cell} (hc : okC h c = true) (hd : d ∈ nbL h c) : c ∈ nbL h d := mem_nb.mpr ⟨nbrs_sw (mem_nb.mp hd).1, hc⟩
theorem nb_ne {h : Hl} {c d : Cell} (hd : d ∈ nbL h c) : d ≠ c := fun e => by
  subst e
  have := (mem_nb.mp hd).1
  unfold nbrs at this
  simp only [List.mem_cons, List.not_mem_nil, or_false, Prod.ext_iff] at this
  omega
section
variable {h : Hl} {w : Cell → Int} {goal m km : Cell} {t0 p t : List Cell} {f0 f : List (Cell × Cell)}
theorem RInv.skip (I : RInv h w goal m km t0 f0 p t f) {o ko : Cell} (hk : getZ f o = some ko) (hc : ¬cLt (km.1 + w o, km.2 + 1) ko) : RInv h w goal m km t0 f0 (p ++ [o]) t f := by
  refine ⟨I.nd, I.tn, I.re, I.sub, I.gl, I.old, I.tsub, I.keep, I.le, I.low, I.pr, fun d hd => ?_, I.mt, I.mkm, I.len, I.bd⟩
  rcases List.mem_append.mp hd with z | z
  · exact I.cov d z
  · rw [List.mem_singleton] at z; subst z; exact ⟨_, hk, hc⟩
theorem RInv.put (I : RInv h w goal m km t0 f0 p t f) (hm : okC h m = true) (hr : Reach h goal m) {o : Cell} (ho : o ∈ nbL h m) (wn : 0 ≤ w o) (dn0 : ∀ c ∈ keysZ f0, c ∉ t0 → ∀ kc, getZ f0 c = some kc → ¬cLt km kc) (kb : km.2 + t0.length + 1 ≤ f0.length + 1)
    (hc : o ∉ keysZ f ∨ ∃ ko, getZ f o = some ko ∧ cLt (km.1 + w o, km.2 + 1) ko) : RInv h w goal m km t0 f0 (p ++ [o]) (if memB o t = true then t else t ++ [o]) (putZ f o (km.1 + w o, km.2 + 1)) := by
  obtain ⟨kb1, kb2, _⟩ := I.bd m km I.mkm
  have om : o ≠ m := nb_ne ho
  have up : cLt km (km.1 + w o, km.2 + 1) := by unfold cLt; dsimp only; omega
  have inT : o ∈ keysZ f → o ∈ t := fun hk => by
    rcases hc with z | ⟨ko, e, z⟩
    · exact absurd hk z
    · by_cases ht : o ∈ t
      · exact ht
      · obtain ⟨k1, k2, k3⟩ := I.keep o hk ht
        exact absurd (cLt_trans up z) (dn0 o k1 k2 ko (by rw [← k3]; exact e))
  have tm : ∀ d, d ∈ (if memB o t = true then t else t ++ [o]) ↔ d ∈ t ∨ d = o := fun d => by
    by_cases ht : o ∈ t
    · rw [if_pos (memB_iff.mpr ht)]
      exact ⟨.inl, fun z => z.elim id (fun e => e ▸ ht)⟩
    · rw [if_neg (fun z => ht (memB_iff.mp z)), List.mem_append, List.mem_singleton]
  have gne : goal ≠ o := fun e => by
    subst e
    rcases hc with z | ⟨ko, e, z⟩
    · exact z (getZ_mem.mpr ⟨_, I.gl⟩)
    · rw [I.gl] at e
      cases e
      unfold cLt at z
      dsimp only at z
      omega
  have gp : ∀ d, d ≠ o → getZ (putZ f o (km.1 + w o, km.2 + 1)) d = getZ f d := fun d hd => by rw [getZ_put, if_neg hd]
  have go : getZ (putZ f o (km.1 + w o, km.2 + 1)) o = some (km.1 + w o, km.2 + 1) := by rw [getZ_put, if_pos rfl]
  refine ⟨nodup_put I.nd, ?_, fun d hd => ?_, fun d hd => ?_, by rw [gp goal gne]; exact I.gl, fun d hd => mem_put.mpr (.inl (I.old d hd)), fun d hd => (tm d).mpr (.inl (I.tsub d hd)), fun d hd hn => ?_, fun d k0 hk => ?_, fun d hd k hk => ?_, fun d k hk => ?_, fun d hd => ?_, fun z => ?_, by rw [gp m om.symm]; exact I.mkm, ?_, fun d k hk => ?_⟩
  · by_cases ht : o ∈ t
    · rw [if_pos (memB_iff.mpr ht)]; exact I.tn
    · rw [if_neg (fun z => ht (memB_iff.mp z))]
      exact List.nodup_append.mpr ⟨I.tn, by simp, fun x hx y hy z => ht (by rw [List.mem_singleton] at hy; rw [← hy, ← z]; exact hx)⟩
  · rcases mem_put.mp hd with z | z
    · exact I.re d z
    · subst z; exact .step hr ho
  · rcases (tm d).mp hd with z | z
    · exact mem_put.mpr (.inl (I.sub d z))
    · exact mem_put.mpr (.inr z)
  · have n1 : d ∉ t := fun z => hn ((tm d).mpr (.inl z))
    have n2 : d ≠ o := fun z => hn ((tm d).mpr (.inr z))
    obtain ⟨k1, k2, k3⟩ := I.keep d ((mem_put.mp hd).resolve_right n2) n1
    exact ⟨k1, k2, by rw [gp d n2]; exact k3⟩
  · obtain ⟨k, e1, e2⟩ := I.le d k0 hk
    by_cases hd : d = o
    · subst hd
      refine ⟨_, go, fun z => ?_⟩
      rcases hc with q | ⟨ko, e, q⟩
      · exact q (getZ_mem.mpr ⟨_, e1⟩)
      · rw [e1] at e; cases e; exact e2 (cLt_trans z q)
    · exact ⟨k, by rw [gp d hd]; exact e1, e2⟩
  · by_cases hdo : d = o
    · subst hdo
      rw [go] at hk; cases hk
      exact fun z => cLt_irrefl _ (cLt_trans z up)
    · rw [gp d hdo] at hk
      exact I.low d (((tm d).mp hd).resolve_right hdo) k hk
  · by_cases hdo : d = o
    · subst hdo
      rw [go] at hk; cases hk
      refine .inr ⟨m, km, nb_sw hm ho, fun z => ?_, by rw [gp m om.symm]; exact I.mkm, rfl⟩
      exact ((tm m).mp z).elim I.mt om.symm
    · rw [gp d hdo] at hk
      rcases I.pr d k hk with z | ⟨e, k', h1, h2, h3, h4⟩
      · exact .inl z
      · have eo : e ≠ o := fun z => by
          subst z
          exact h2 (inT (getZ_mem.mpr ⟨_, h3⟩))
        exact .inr ⟨e, k', h1, fun z => ((tm e).mp z).elim h2 eo, by rw [gp e eo]; exact h3, h4⟩
  · by_cases hdo : d = o
    · subst hdo; exact ⟨_, go, cLt_irrefl _⟩
    · rcases List.mem_append.mp hd with z | z
      · obtain ⟨k, e1, e2⟩ := I.cov d z
        exact ⟨k, by rw [gp d hdo]; exact e1, e2⟩
      · exact absurd (List.mem_singleton.mp z) hdo
  · exact ((tm m).mp z).elim I.mt om.symm
  · have hl := I.len
    by_cases hk : o ∈ keysZ f
    · rw [if_pos (memB_iff.mpr (inT hk)), ← keys_len, keys_put, if_pos hk, keys_len]; exact hl
    · rw [if_neg (fun z => hk (I.sub o (memB_iff.mp z))), ← keys_len, keys_put, if_neg hk, List.length_append, List.length_append, keys_len]
      show f.length + 1 + t0.length = t.length + 1 + f0.length
      omega
  · by_cases hdo : d = o
    · subst hdo
      rw [go] at hk; cases hk
      dsimp only
      omega
    · rw [gp d hdo] at hk; exact I.bd d k hk
end
theorem s_costs {h : Hl} (ok : HOk h) {ls : List Cell} (hl : ∀ l ∈ ls, inB h l = true) (hz : ls.length ≤ 1000) {goal : Cell} (hg : okC h goal = true) : ∃ found, Lk.costs_to h ls goal = .ok found ∧ Costs h (wtS h ls) goal found := by
  have hgi := (okC_iff.mp hg).1
  have c64 := ok.cells_le
  have ple := part_le ok goal
  unfold Lk.costs_to
  rw [s_part_of ok hgi]
  simp only [okb]
  rw [lcR_all (fun c => (c, wtS h ls c)) (fun c hc => by
    rw [s_is_seen ok hl hz (((mem_part hgi).mp hc).inB hgi)]; rfl) (Nat.le_trans ple (by decide))]
  simp only [okb]
  have kw : keysZ ((partL h goal).map fun c => (c, wtS h ls c)) = partL h goal := by
    unfold keysZ; rw [List.map_map]; exact List.map_id _
  rw [dictZ_nodup (by rw [kw]; exact (rise_part h goal).nodup)]
  have gw : ∀ d, Reach h goal d → getK ((partL h goal).map fun c => (c, wtS h ls c)) d = .ok (wtS h ls d) := fun d hd => getK_map (wtS h ls) ((mem_part hgi).mpr hd)
  rw [gw goal (.refl _)]
  simp only [okb]
  have lenK : ∀ {f : List (Cell × Cell)}, (keysZ f).Nodup → (∀ d ∈ keysZ f, Reach h goal d) → f.length ≤ 64 := fun {f} h1 h2 => by
    have := nodup_cells ok h1 fun d hd => (h2 d hd).inB hgi
    rw [keys_len] at this
    omega
  have tle : ∀ {t : List Cell} {f : List (Cell × Cell)}, t.Nodup → (∀ d ∈ t, d ∈ keysZ f) → t.length ≤ f.length := fun {t f} h1 h2 => by
    rw [← keys_len f]; exact h1.length_le_of_subset h2
  suffices H : ∃ y : List Cell × List (Cell × Cell), whileR _ _ 200 ([goal], [(goal, (wtS h ls goal, 1))]) = .ok y ∧ CInv h (wtS h ls) goal y.1 y.2 ∧ y.1 = [] by
    obtain ⟨⟨t, f⟩, e1, I, e2⟩ := H
    rw [e1]
    dsimp only at I e2
    subst e2
    refine ⟨f, rfl, fun d => ⟨I.re d, fun z => ?_⟩, I.gl, fun d k hk => ?_, fun d k hk => I.cl d k hk (by simp), fun d k hk => ?_⟩
    · induction z with
      | refl => exact getZ_mem.mpr ⟨_, I.gl⟩
      | step _ y ih =>
        obtain ⟨k, hk⟩ := getZ_mem.mp ih
        obtain ⟨k', e, _⟩ := I.cl _ k hk (by simp) _ y
        exact getZ_mem.mpr ⟨_, e⟩
    · rcases I.pr d k hk with z | ⟨e, k', h1, _, h3, h4⟩
      · exact .inl z
      · exact .inr ⟨e, k', h1, h3, h4⟩
    · have := I.bd d k hk
      have := lenK I.nd I.re
      simp only [List.length_nil] at *
      omega
  refine whileR_inv (fun y : List Cell × List (Cell × Cell) => CInv h (wtS h ls) goal y.1 y.2) (fun y => 64 + y.1.length - y.2.length) (fun y => y.1 = []) 200 _ (by simp) ?_ fun y I => ?_
  · have g0 : ∀ d, getZ [(goal, (wtS h ls goal, (1 : Int)))] d = if goal = d then some (wtS h ls goal, 1) else none := fun d => getZ_cons _ _ _
    have g1 : ∀ d k, getZ [(goal, (wtS h ls goal, (1 : Int)))] d = some k → d = goal ∧ k = (wtS h ls goal, 1) := fun d k hk => by
      rw [g0] at hk
      by_cases e : goal = d
      · rw [if_pos e] at hk; cases hk; exact ⟨e.symm, rfl⟩
      · rw [if_neg e] at hk; cases hk
    refine ⟨by simp [keysZ], by simp, fun d hd => ?_, fun d hd => ?_, by rw [g0, if_pos rfl], fun c hc hn => ?_, fun d k hk => .inl (g1 d k hk).1, fun c k hk hn => ?_, fun d k hk => ?_⟩
    · simp [keysZ] at hd; subst hd; exact .refl _
    · simpa [keysZ] using hd
    · simp [keysZ] at hc; exact absurd (by simpa using hc) hn
    · exact absurd (by rw [(g1 c k hk).1]; simp) hn
    · obtain ⟨_, rfl⟩ := g1 d k hk
      have := wtS_nn h ls goal
      exact ⟨this.1, Int.le_refl _, by simp⟩
  · obtain ⟨todo, found⟩ := y
    have I : CInv h (wtS h ls) goal todo found := I
    refine ⟨_, rfl, fun hk => ?_, fun hk => ?_⟩
    · have hlen : 0 < todo.length := by
        have := of_decide_eq_true hk
        dsimp only at this
        omega
      dsimp only
      obtain ⟨m, hm, em, hmin⟩ := minKR_ok (l := todo) (k := fun one => getK found one) (fun c => (getZ found c).getD (0, 0)) (fun x hx => by
        obtain ⟨v, e⟩ := getZ_mem.mp (I.sub x hx)
        rw [getK_ok e, e]; rfl) (List.ne_nil_of_length_pos hlen)
      rw [em]
      simp only [okb]
      rw [remR_ok hm]
      simp only [okb]
      rw [s_neighbours ok]
      simp only [okb]
      obtain ⟨km, hkm⟩ := getZ_mem.mp (I.sub m hm)
      have mr := I.re m (I.sub m hm)
      have mo := mr.ok hg
      have l1 := len_era hm
      have fl := lenK I.nd I.re
      have tl := tle I.tn I.sub
      obtain ⟨b1, b2, b3⟩ := I.bd m km hkm
      have mn : ∀ t ∈ todo, ∀ kt, getZ found t = some kt → ¬cLt kt km := fun t ht kt e => by
        have := hmin t ht
        rw [e, hkm] at this
        exact this
      have dn0 : ∀ c ∈ keysZ found, c ∉ eraT todo m → ∀ kc, getZ found c = some kc → ¬cLt km kc := fun c hc hn kc e => by
        by_cases cm : c = m
        · subst cm; rw [hkm] at e; cases e; exact cLt_irrefl _
        · exact I.dn c hc (fun z => hn ((mem_era I.tn).mpr ⟨z, cm⟩)) m hm kc km e hkm
      obtain ⟨y', e1, e2⟩ := foldR_inv0 (xs := nbL h m) (x0 := (eraT todo m, found)) (b := fun (other : Cell) (y7 : ((List Cell) × (List (Cell × Cell)))) => (((((getK y7.2 m).bind fun x8 => Res.ok x8.1).bind fun x9 => ((getK ((partL h goal).map fun c => (c, wtS h ls c)) other).bind fun x10 => Res.ok (x9 + x10))).bind fun x13 => ((((getK y7.2 m).bind fun x11 => Res.ok x11.2).bind fun x12 => Res.ok (x12 + 1)).bind fun x14 => Res.ok (x13, x14))).bind fun (cost : Cell) => ((if (!hasK y7.2 other) = true then Res.ok true else ((getK y7.2 other).bind fun x15 => Res.ok (lexZ cost x15))).bind fun p19 => if p19 = true then ((putR y7.2 other cost).bind fun (found : (List (Cell × Cell))) => (if (!memB other y7.1) = true then ((pushL y7.1 other).bind fun (todo : (List Cell)) => (Res.ok (todo, found))) else (Res.ok (y7.1, found)))) else (Res.ok (y7.1, y7.2)))))
        (fun p y => RInv h (wtS h ls) goal m km (eraT todo m) found p y.1 y.2)
        ⟨I.nd, nodup_era m I.tn, I.re, fun d hd => I.sub d ((mem_era I.tn).mp hd).1, I.gl, fun _ z => z, fun _ z => z, fun d hd hn => ⟨hd, hn, rfl⟩, fun d k0 hk => ⟨k0, hk, cLt_irrefl _⟩, fun d hd k hk => mn d ((mem_era I.tn).mp hd).1 k hk, fun d k hk => by
          rcases I.pr d k hk with z | ⟨e, k', h1, h2, h3, h4⟩
          · exact .inl z
          · exact .inr ⟨e, k', h1, fun z => h2 ((mem_era I.tn).mp z).1, h3, h4⟩, fun d hd => (by cases hd), fun z => ((mem_era I.tn).mp z).2 rfl, hkm, Nat.add_comm _ _, fun d k hk => by
          obtain ⟨a1, a2, a3⟩ := I.bd d k hk
          exact ⟨a1, a2, by omega⟩⟩ (fun p a q y e J => by
          obtain ⟨t, f⟩ := y
          have J : RInv h (wtS h ls) goal m km (eraT todo m) found p t f := J
          have ha : a ∈ nbL h m := by rw [e]; simp
          have ar : Reach h goal a := .step mr ha
          dsimp only
          rw [getK_ok J.mkm, gw a ar]
          simp only [okb]
          have f64 := lenK J.nd J.re
          have ft := tle J.tn J.sub
          have kb : km.2 + (eraT todo m).length + 1 ≤ found.length + 1 := by omega
          have upd : (a ∉ keysZ f ∨ ∃ ko, getZ f a = some ko ∧ cLt (km.1 + wtS h ls a, km.2 + 1) ko) → ∃ y, ((putR f a (km.1 + wtS h ls a, km.2 + 1)).bind fun found => if (!memB a t) = true then ((pushL t a).bind fun todo => Res.ok (todo, found)) else Res.ok (t, found)) = .ok y ∧ RInv h (wtS h ls) goal m km (eraT todo m) found (p ++ [a]) y.1 y.2 := fun hc => by
            have := J.put mo mr ha (wtS_nn h ls a).1 dn0 kb hc
            rw [putR_ok (by omega)]
            simp only [okb]
            rw [pushL_ok (by omega)]
            simp only [okb]
            cases z : memB a t with
            | true => rw [z] at this; exact ⟨_, rfl, this⟩
            | false => rw [z] at this; exact ⟨_, rfl, this⟩
          by_cases hk : a ∈ keysZ f
          · obtain ⟨ko, hko⟩ := getZ_mem.mp hk
            rw [has_iff.mpr hk, getK_ok hko]
            simp only [okb, Bool.not_true, Bool.false_eq_true, if_false]
            cases z : lexZ (km.1 + wtS h ls a, km.2 + 1) ko with
            | true =>
              simp only [if_true]
              exact upd (.inr ⟨ko, hko, lex_iff.mp z⟩)
            | false =>
              simp only [Bool.false_eq_true, if_false]
              exact ⟨_, rfl, J.skip hko (lex_no.mp z)⟩
          · rw [has_f hk]
            simp only [okb, Bool.not_false, if_true]
            exact upd (.inl hk))
      rw [e1]
      obtain ⟨t, f⟩ := y'
      have J : RInv h (wtS h ls) goal m km (eraT todo m) found (nbL h m) t f := e2
      have f64 := lenK J.nd J.re
      have ft := tle J.tn J.sub
      have jl := J.len
      refine ⟨_, rfl, ⟨J.nd, J.tn, J.re, J.sub, J.gl, fun c hc hn x hx kc kx e3 e4 z => ?_, J.pr, fun c k hk hn e he => ?_, fun d k hk => ?_⟩, ?_⟩
      · obtain ⟨k1, k2, k3⟩ := J.keep c hc hn
        have a1 := dn0 c k1 k2 kc (by rw [← k3]; exact e3)
        have a2 := J.low x hx kx e4
        unfold cLt at *
        omega
      · obtain ⟨k1, k2, k3⟩ := J.keep c (getZ_mem.mpr ⟨_, hk⟩) hn
        rw [k3] at hk
        by_cases cm : c = m
        · subst cm
          rw [hkm] at hk; cases hk
          exact J.cov e he
        · obtain ⟨k', e3, e4⟩ := I.cl c k hk (fun z => k2 ((mem_era I.tn).mpr ⟨z, cm⟩)) e he
          obtain ⟨k'', e5, e6⟩ := J.le e k' e3
          refine ⟨k'', e5, fun z => ?_⟩
          unfold cLt at *
          omega
      · obtain ⟨a1, a2, a3⟩ := J.bd d k hk
        exact ⟨a1, a2, by dsimp only; omega⟩
      · dsimp only
        omega
    · have := of_decide_eq_false hk
      dsimp only at this ⊢
      exact List.length_eq_zero_iff.mp (by omega)
end PV
/-! M15: ways; slyest -/
namespace PV
def Chn (h : Hl) : List Cell → Prop
  | a :: b :: l => b ∈ nbL h a ∧ Chn h (b :: l)
  | _ => True
theorem chn_app {h : Hl} : ∀ {l m : List Cell}, Chn h (l ++ m) ↔ Chn h l ∧ Chn h m ∧ ∀ x y, l.getLast? = some x → m.head? = some y → y ∈ nbL h x
  | [], m => ⟨fun z => ⟨trivial, z, fun x y e => by cases e⟩, fun z => z.2.1⟩
  | [a], [] => ⟨fun z => ⟨trivial, trivial, fun x y _ e => by cases e⟩, fun _ => trivial⟩
  | [a], b :: m => ⟨fun z => ⟨trivial, z.2, fun x y e f => by cases e; cases f; exact z.1⟩, fun z => ⟨z.2.2 a b rfl rfl, z.2.1⟩⟩
  | a :: b :: l, m => by
    have ih := chn_app (h := h) (l := b :: l) (m := m)
    show (b ∈ nbL h a ∧ Chn h (b :: l ++ m)) ↔ (b ∈ nbL h a ∧ Chn h (b :: l)) ∧ _
    rw [ih, List.getLast?_cons_cons]
    exact ⟨fun ⟨z1, z2, z3, z4⟩ => ⟨⟨z1, z2⟩, z3, z4⟩, fun ⟨⟨z1, z2⟩, z3, z4⟩ => ⟨z1, z2, z3, z4⟩⟩
/-- a way -/
structure IsWay (h : Hl) (one other : Cell) (way : List Cell) : Prop where
  hd : way.head? = some one
  lt : way.getLast? = some other
  ch : Chn h way
def wsum (w : Cell → Int) (way : List Cell) : Int := (way.map w).sum
theorem wsum_app (w : Cell → Int) (l m : List Cell) : wsum w (l ++ m) = wsum w l + wsum w m := by unfold wsum; rw [List.map_append, List.sum_append]
theorem wsum_one (w : Cell → Int) (c : Cell) : wsum w [c] = w c := by unfold wsum; simp
theorem Chn.reach {h : Hl} {a : Cell} : ∀ {l : List Cell} {b : Cell}, Chn h (a :: l) → b ∈ a :: l → Reach h a b
  | [], b, _, hb => by rw [List.mem_singleton] at hb; subst hb; exact .refl _
  | c :: l, b, hc, hb => by
    rcases List.mem_cons.mp hb with z | z
    · subst z; exact .refl _
    · exact Reach.trans (.step (.refl _) hc.1) (Chn.reach hc.2 z)
theorem IsWay.cons {h : Hl} {one other : Cell} {way : List Cell} (W : IsWay h one other way) : ∃ l, way = one :: l := by
  obtain ⟨h1, _, _⟩ := W
  cases way with
  | nil => cases h1
  | cons a l => cases h1; exact ⟨l, rfl⟩
theorem IsWay.reach {h : Hl} {one other : Cell} {way : List Cell} (W : IsWay h one other way) {c : Cell} (hc : c ∈ way) : Reach h one c := by
  obtain ⟨l, rfl⟩ := W.cons
  exact W.ch.reach hc
theorem foldR_cons' {α X : Type} {b : α → X → Res X} {a : α} {as : List α} {x : X} : foldR b (a :: as) x = (b a x).bind fun y => foldR b as y := rfl
theorem foldU {h : Hl} {A : List Cell} {b : Cell → Unit → Res Unit} (hb : ∀ a ∈ A, b a () = .ok ()) : foldR b A () = .ok () := by
  induction A with
  | nil => rfl
  | cons a A ih =>
    show (b a ()).bind _ = _
    rw [hb a List.mem_cons_self, Res.ok_bind]
    exact ih fun x hx => hb x (List.mem_cons_of_mem _ hx)
section
variable {h : Hl} (ok : HOk h) {ls : List Cell} {one other : Cell}
include ok
theorem cell_ok {c : Cell} (hc : okC h c = true) : ((((Lk.is_inside h c).bind fun p => Res.ok (!p)).bind fun p2 => if p2 = true then Res.ok true else ((Lk.is_free h c).bind fun p => Res.ok (!p))).bind fun p3 => if p3 = true then (Res.ex "NoCell") else (Res.ok ())) = .ok () := by
  obtain ⟨h1, h2⟩ := okC_iff.mp hc
  rw [s_is_inside ok, h1]
  simp only [okb, Bool.not_true, Bool.false_eq_true, if_false]
  rw [s_is_free ok h1, h2]
  rfl
theorem cell_no {c : Cell} (hc : okC h c = false) : ((((Lk.is_inside h c).bind fun p => Res.ok (!p)).bind fun p2 => if p2 = true then Res.ok true else ((Lk.is_free h c).bind fun p => Res.ok (!p))).bind fun p3 => if p3 = true then (Res.ex "NoCell") else (Res.ok ())) = .ex "NoCell" := by
  rw [s_is_inside ok]
  cases h1 : inB h c with
  | false =>
    simp only [okb, Bool.not_false, if_true]
  | true =>
    simp only [okb, Bool.not_true, Bool.false_eq_true, if_false]
    rw [s_is_free ok h1]
    have : freeB h c = false := by
      cases z : freeB h c with
      | true => rw [okC_iff.mpr ⟨h1, z⟩] at hc; cases hc
      | false => rfl
    rw [this]
    rfl
theorem s_slyest_nocell (hc : okC h one = false ∨ okC h other = false) : Lk.slyest h ls one other = .ex "NoCell" := by
  unfold Lk.slyest
  rw [foldR_cons']
  cases h1 : okC h one with
  | false => rw [cell_no ok h1]; rfl
  | true =>
    rw [cell_ok ok h1]
    simp only [okb]
    rw [foldR_cons', cell_no ok (hc.resolve_left (by rw [h1]; decide))]; rfl
theorem s_slyest_noway (hl : ∀ l ∈ ls, inB h l = true) (hz : ls.length ≤ 1000) (h1 : okC h one = true) (h2 : okC h other = true) (hr : ¬Reach h other one) : Lk.slyest h ls one other = .ex "NoWay" := by
  unfold Lk.slyest
  rw [foldR_cons', cell_ok ok h1]
  simp only [okb]
  rw [foldR_cons', cell_ok ok h2]
  simp only [okb, foldR]
  obtain ⟨f, e, C⟩ := s_costs ok hl hz h2
  rw [e]
  simp only [okb]
  rw [has_f (fun z => hr ((C.keys one).mp z))]
  rfl
theorem s_slyest (hl : ∀ l ∈ ls, inB h l = true) (hz : ls.length ≤ 1000) (h1 : okC h one = true) (h2 : okC h other = true) (hr : Reach h other one) :
    ∃ way, Lk.slyest h ls one other = .ok way ∧ IsWay h one other way ∧ ∃ found, Costs h (wtS h ls) other found ∧ getZ found one = some (wsum (wtS h ls) way, (way.length : Int)) := by
  obtain ⟨f, e, C⟩ := s_costs ok hl hz h2
  suffices H : ∃ way, Lk.slyest h ls one other = .ok way ∧ IsWay h one other way ∧ getZ f one = some (wsum (wtS h ls) way, (way.length : Int)) by
    obtain ⟨way, a1, a2, a3⟩ := H
    exact ⟨way, a1, a2, f, C, a3⟩
  unfold Lk.slyest
  rw [foldR_cons', cell_ok ok h1]
  simp only [okb]
  rw [foldR_cons', cell_ok ok h2]
  simp only [okb, foldR]
  rw [e]
  simp only [okb]
  rw [has_iff.mpr ((C.keys one).mpr hr)]
  simp only [Bool.not_true, Bool.false_eq_true, if_false]
  obtain ⟨k1, hk1⟩ := getZ_mem.mp ((C.keys one).mpr hr)
  have key := whileR_inv (c := fun (way : List Cell) => ((ixR way (-1)).bind fun x4 => Res.ok (!eqB x4 other))) (b := fun (way : (List Cell)) => ((ixR way (-1)).bind fun (here : Cell) => (((Lk.is_seen h ls here).bind fun x5 => Res.ok (if x5 = true then 1 else 0)).bind fun (weight : Int) => (((((getK f here).bind fun x6 => Res.ok x6.1).bind fun x7 => Res.ok (x7 - weight)).bind fun x10 => ((((getK f here).bind fun x8 => Res.ok x8.2).bind fun x9 => Res.ok (x9 - 1)).bind fun x11 => Res.ok (x10, x11))).bind fun (due : Cell) => ((((((Lk.neighbours h here).bind fun l13 => lcR l13 (fun cell => ((getK f cell).bind fun x12 => Res.ok (eqB x12 due))) (fun cell => Res.ok cell)).bind fun x14 => (ixR x14 0)).bind fun x15 => Res.ok [x15]).bind fun x16 => (addL way x16)).bind fun (way : (List Cell)) => (Res.ok way))))))
    (fun way => ∃ pre here kh, way = pre ++ [here] ∧ getZ f here = some kh ∧ way.head? = some one ∧ Chn h way ∧ k1 = (wsum (wtS h ls) pre + kh.1, (pre.length : Int) + kh.2))
    (fun way => match way.getLast? with
      | some x => ((getZ f x).getD (0, 0)).2.toNat
      | none => 0) (fun way => way.getLast? = some other) 200 [one] ?_ ?_ ?_
  · obtain ⟨way, e1, ⟨pre, here, kh, rfl, hh, hd, ch, ek⟩, e2⟩ := key
    have e3 : here = other := by
      rw [List.getLast?_append] at e2
      exact Option.some.inj e2
    subst e3
    rw [C.gl] at hh
    cases hh
    refine ⟨pre ++ [here], ?_, ⟨hd, by rw [List.getLast?_append]; rfl, ch⟩, ?_⟩
    · rw [e1]; rfl
    · rw [hk1, ek, wsum_app, wsum_one, List.length_append]; rfl
  · show ((getZ f one).getD (0, 0)).2.toNat < 200
    rw [hk1]
    have := C.bd one k1 hk1
    show k1.2.toNat < 200
    omega
  · exact ⟨[], one, k1, rfl, hk1, rfl, trivial, by unfold wsum; simp⟩
  · rintro way ⟨pre, here, kh, rfl, hh, hd, ch, ek⟩
    have hlast : (pre ++ [here]).getLast? = some here := by rw [List.getLast?_append]; rfl
    refine ⟨!eqB here other, by rw [ixR_last hlast]; rfl, fun hk => ?_, fun hk => ?_⟩
    · have hne : here ≠ other := fun z => by rw [z, eqB_self] at hk; cases hk
      have hr' : Reach h other here := (C.keys here).mp (getZ_mem.mpr ⟨_, hh⟩)
      have ho := hr'.ok h2
      rw [ixR_last hlast]
      simp only [okb]
      rw [s_is_seen ok hl hz (okC_iff.mp ho).1, getK_ok hh]
      simp only [okb]
      obtain ⟨e', k', g1, g2, g3⟩ := (C.pred here kh hh).resolve_left hne
      rw [s_neighbours ok]
      simp only [okb]
      have due : (kh.1 - (if isSeenB h ls here = true then (1 : Int) else 0), kh.2 - 1) = k' := by
        rw [g3]
        show (k'.1 + wtS h ls here - wtS h ls here, k'.2 + 1 - 1) = k'
        rw [Int.add_sub_cancel, Int.add_sub_cancel]
      rw [due]
      have hkk : ∀ d ∈ nbL h here, ∃ kd, getZ f d = some kd := fun d hd => getZ_mem.mp ((C.keys d).mpr (.step hr' hd))
      rw [lcR_fil (fun d => eqB ((getZ f d).getD (0, 0)) k') (fun d hd => by
        obtain ⟨kd, ed⟩ := hkk d hd
        rw [getK_ok ed, ed]; rfl) (Nat.le_trans (nb_le h here) (by decide))]
      simp only [okb]
      cases hf : (nbL h here).filter (fun d => eqB ((getZ f d).getD (0, 0)) k') with
      | nil =>
        have : e' ∈ (nbL h here).filter (fun d => eqB ((getZ f d).getD (0, 0)) k') := List.mem_filter.mpr ⟨g1, by rw [g2]; exact eqB_self _⟩
        rw [hf] at this; cases this
      | cons x xs =>
        have hx : x ∈ (nbL h here).filter (fun d => eqB ((getZ f d).getD (0, 0)) k') := by rw [hf]; exact List.mem_cons_self
        obtain ⟨x1, x2⟩ := List.mem_filter.mp hx
        obtain ⟨kx, ex⟩ := hkk x x1
        rw [ex] at x2
        have x3 : kx = k' := eqB_iff.mp x2
        subst x3
        rw [show ixR (x :: xs) 0 = .ok x from ixR_ok (by decide) rfl]
        simp only [okb]
        have bh := C.bd here kh hh
        have bl : (pre.length : Int) + kh.2 ≤ 65 := by
          have := (C.bd one k1 hk1).2
          rw [ek] at this
          exact this
        rw [addL_ok (by rw [List.length_append, List.length_singleton, List.length_singleton]; omega)]
        refine ⟨_, rfl, ⟨pre ++ [here], x, kx, rfl, ex, ?_, ?_, ?_⟩, ?_⟩
        · rw [List.head?_append, hd]; rfl
        · exact chn_app.mpr ⟨ch, trivial, fun a b ha hb => by rw [hlast] at ha; cases ha; cases hb; exact x1⟩
        · rw [ek, wsum_app, wsum_one, List.length_append, g3]
          refine Prod.ext ?_ ?_
          · show wsum (wtS h ls) pre + (kx.1 + wtS h ls here) = wsum (wtS h ls) pre + wtS h ls here + kx.1
            omega
          · show (pre.length : Int) + (kx.2 + 1) = ((pre.length + 1 : Nat) : Int) + kx.2
            omega
        · rw [List.getLast?_append, hlast]
          show ((getZ f x).getD (0, 0)).2.toNat < ((getZ f here).getD (0, 0)).2.toNat
          rw [ex, hh]
          show kx.2.toNat < kh.2.toNat
          have := C.bd x kx ex
          rw [g3]
          show kx.2.toNat < (kx.2 + 1).toNat
          omega
    · rw [hlast]
      have : here = other := by
        cases z : eqB here other with
        | true => exact eqB_iff.mp z
        | false => rw [z] at hk; cases hk
      rw [this]
end
end PV
/-! M10: halls turned and mirrored -/
namespace PV
def mirL (h : Hl) : Hl := (h.1.map List.reverse, h.2)
def turL (h : Hl) : Hl := ((List.range (wid h)).map fun c => (List.range (hgt h)).map fun k => sg h (((hgt h - 1 - k : Nat) : Int), ((c : Nat) : Int)), h.2)
def cmir (h : Hl) (c : Cell) : Cell := (c.1, (wid h : Int) - 1 - c.2)
def ctur (h : Hl) (c : Cell) : Cell := (c.2, (hgt h : Int) - 1 - c.1)
theorem sgN (h : Hl) (i j : Nat) : sg h ((i : Int), (j : Int)) = ((rowN h i)[j]?).getD ' ' := by
  unfold sg
  rw [Int.toNat_natCast, Int.toNat_natCast]
theorem hgt_mir (h : Hl) : hgt (mirL h) = hgt h := by unfold hgt mirL; simp
theorem rowN_mir (h : Hl) (i : Nat) : rowN (mirL h) i = (rowN h i).reverse := by
  unfold rowN mirL
  rw [List.getElem?_map]
  cases h.1[i]? <;> rfl
theorem wid_mir (h : Hl) : wid (mirL h) = wid h := by unfold wid; rw [rowN_mir, List.length_reverse]
theorem hgt_tur (h : Hl) : hgt (turL h) = wid h := by unfold turL; show ((List.range (wid h)).map _).length = _; simp
theorem rowN_tur {h : Hl} {i : Nat} (hi : i < wid h) : rowN (turL h) i = (List.range (hgt h)).map fun k => sg h (((hgt h - 1 - k : Nat) : Int), ((i : Nat) : Int)) := by
  unfold rowN turL
  show (((List.range (wid h)).map _)[i]?).getD [] = _
  rw [List.getElem?_map, List.getElem?_range hi]; rfl
theorem wid_tur {h : Hl} (ok : HOk h) : wid (turL h) = hgt h := by
  have := ok.w1
  unfold wid
  rw [rowN_tur (by omega)]; simp
theorem HOk.mir {h : Hl} (ok : HOk h) : HOk (mirL h) := by
  refine ⟨by rw [hgt_mir]; exact ok.h1, by rw [hgt_mir]; exact ok.h8, by rw [wid_mir]; exact ok.w1, by rw [wid_mir]; exact ok.w8, fun r hr => ?_, fun r hr x hx => ?_, ok.f0, ok.f98⟩
  · obtain ⟨r', h1, rfl⟩ := List.mem_map.mp hr
    rw [wid_mir, List.length_reverse]; exact ok.len r' h1
  · obtain ⟨r', h1, rfl⟩ := List.mem_map.mp hr
    exact ok.sg r' h1 x (List.mem_reverse.mp hx)
theorem HOk.tur {h : Hl} (ok : HOk h) : HOk (turL h) := by
  refine ⟨by rw [hgt_tur]; exact ok.w1, by rw [hgt_tur]; exact ok.w8, by rw [wid_tur ok]; exact ok.h1, by rw [wid_tur ok]; exact ok.h8, fun r hr => ?_, fun r hr x hx => ?_, ok.f0, ok.f98⟩
  · obtain ⟨c, h1, rfl⟩ := List.mem_map.mp hr
    rw [wid_tur ok]; simp
  · obtain ⟨c, h1, rfl⟩ := List.mem_map.mp hr
    obtain ⟨k, h2, rfl⟩ := List.mem_map.mp hx
    rw [List.mem_range] at h1 h2
    exact ok.sg_in (in_iff.mpr ⟨⟨by dsimp only; omega, by dsimp only; omega⟩, by dsimp only; omega, by dsimp only; omega⟩)
theorem sg_mir {h : Hl} (ok : HOk h) {c : Cell} (hc : inB h c = true) : sg (mirL h) (cmir h c) = sg h c := by
  obtain ⟨⟨a, b⟩, d, e⟩ := in_iff.mp hc
  have hi : c.1.toNat < hgt h := by omega
  have hl := ok.rowLen hi
  unfold sg cmir
  dsimp only
  rw [rowN_mir, List.getElem?_reverse (by omega), hl]
  congr 2
  omega
theorem sg_tur {h : Hl} (ok : HOk h) {c : Cell} (hc : inB h c = true) : sg (turL h) (ctur h c) = sg h c := by
  obtain ⟨⟨a, b⟩, d, e⟩ := in_iff.mp hc
  unfold ctur
  have hj : c.2.toNat < wid h := by omega
  have e1 : sg (turL h) (c.2, (hgt h : Int) - 1 - c.1) = ((rowN (turL h) c.2.toNat)[((hgt h : Int) - 1 - c.1).toNat]?).getD ' ' := rfl
  rw [e1, rowN_tur hj, List.getElem?_map, List.getElem?_range (by omega)]
  show sg h _ = sg h c
  congr 1
  exact Prod.ext (by dsimp only; omega) (by dsimp only; omega)
theorem in_mir {h : Hl} {c : Cell} : inB (mirL h) (cmir h c) = inB h c := by
  rw [Bool.eq_iff_iff, in_iff, in_iff, hgt_mir, wid_mir]
  unfold cmir
  dsimp only
  omega
theorem in_tur {h : Hl} (ok : HOk h) {c : Cell} : inB (turL h) (ctur h c) = inB h c := by
  rw [Bool.eq_iff_iff, in_iff, in_iff, hgt_tur, wid_tur ok]
  unfold ctur
  dsimp only
  omega
/-- a hall is told by its size, its signs and how far -/
theorem hall_ext {h p : Hl} (ok : HOk h) (op : HOk p) (e1 : hgt h = hgt p) (e2 : wid h = wid p) (e3 : h.2 = p.2) (e : ∀ c, inB h c = true → sg h c = sg p c) : h = p := by
  refine Prod.ext ?_ e3
  apply List.ext_getElem?
  intro i
  by_cases hi : i < hgt h
  · have hi' : i < hgt p := by omega
    have r1 : h.1[i]? = some (rowN h i) := by unfold rowN; rw [List.getElem?_eq_getElem (show i < h.1.length from hi)]; rfl
    have r2 : p.1[i]? = some (rowN p i) := by unfold rowN; rw [List.getElem?_eq_getElem (show i < p.1.length from hi')]; rfl
    rw [r1, r2]
    congr 1
    apply List.ext_getElem?
    intro j
    have l1 := ok.rowLen hi
    have l2 := op.rowLen hi'
    by_cases hj : j < wid h
    · have := e ((i : Int), (j : Int)) (in_iff.mpr ⟨⟨by dsimp only; omega, by dsimp only; omega⟩, by dsimp only; omega, by dsimp only; omega⟩)
      rw [sgN, sgN] at this
      rw [List.getElem?_eq_getElem (show j < (rowN h i).length by omega), List.getElem?_eq_getElem (show j < (rowN p i).length by omega)] at this ⊢
      exact congrArg some this
    · rw [List.getElem?_eq_none (by omega), List.getElem?_eq_none (by omega)]
  · rw [List.getElem?_eq_none (show h.1.length ≤ i from by unfold hgt at hi; omega), List.getElem?_eq_none (show p.1.length ≤ i from by unfold hgt at hi e1; omega)]
/-! what the program tells -/
section
variable {h : Hl} (ok : HOk h)
include ok
theorem row_le {r : Tx} (hr : r ∈ h.1) : r.length ≤ 8 := by rw [ok.len r hr]; exact ok.w8
theorem rows_sz : h.1.length ≤ 8 := ok.h8
theorem s_mirrored : Lk.mirrored h = .ok (mirL h) := by
  unfold Lk.mirrored
  have := ok.h8
  unfold hgt at this
  rw [lcR_all List.reverse (fun r hr => by
    have := row_le ok hr
    unfold txRev
    rw [if_pos (show r.length ≤ SZ by rw [SZ]; omega)]) (by rw [SZ]; omega)]
  rfl
theorem s_cell_mirrored {c : Cell} (hc : inB h c = true) : Lk.cell_mirrored h c = .ok (cmir h c) := by
  unfold Lk.cell_mirrored
  rw [s_need_cell ok hc, ok.ix0]
  simp only [okb]
  rw [ok.len0]; rfl
theorem s_cell_mirrored_ex {c : Cell} (hc : inB h c = false) : Lk.cell_mirrored h c = .ex "NoCell" := by
  unfold Lk.cell_mirrored
  rw [s_need_cell_ex ok hc]; rfl
theorem s_cell_turned {c : Cell} (hc : inB h c = true) : Lk.cell_turned h c = .ok (ctur h c) := by
  unfold Lk.cell_turned
  rw [s_need_cell ok hc]; rfl
theorem s_cell_turned_ex {c : Cell} (hc : inB h c = false) : Lk.cell_turned h c = .ex "NoCell" := by
  unfold Lk.cell_turned
  rw [s_need_cell_ex ok hc]; rfl
omit ok in
theorem join_one (l : List Char) (hl : l.length ≤ 1000) : joinR [] (l.map fun c => [c]) = .ok l := by
  have e : ∀ l : List Char, joinTx [] (l.map fun c => [c]) = l := by
    intro l
    induction l with
    | nil => rfl
    | cons a l ih =>
      cases l with
      | nil => rfl
      | cons b l => show [a] ++ ([] ++ joinTx [] ((b :: l).map fun c => [c])) = _; rw [ih]; rfl
  unfold joinR
  rw [e, if_pos]
  have s : ((l.map fun c => [c]).map List.length).sum = l.length := by
    clear e hl
    induction l with
    | nil => rfl
    | cons a l ih => simp only [List.map_cons, List.sum_cons, ih]; simp; omega
  rw [s]; simp; omega
theorem col_rev (c : Nat) (hc : c < wid h) : lcR h.1.reverse (fun row => Res.ok true) (fun row => (txIx row (c : Int))) = .ok (((List.range (hgt h)).map fun k => sg h (((hgt h - 1 - k : Nat) : Int), ((c : Nat) : Int))).map fun x => [x]) := by
  have h8 := ok.h8
  have w8 := ok.w8
  rw [lcR_all (fun row => [(row[c]?).getD ' ']) (fun r hr => by
    have hl := ok.len r (List.mem_reverse.mp hr)
    refine txIx_ok (by omega) (by omega) ?_
    rw [Int.toNat_natCast, List.getElem?_eq_getElem (by omega)]; rfl) (by rw [List.length_reverse, SZ]; unfold hgt at h8; omega)]
  congr 1
  rw [List.map_map]
  apply List.ext_getElem?
  intro i
  rw [List.getElem?_map, List.getElem?_map]
  by_cases hi : i < hgt h
  · rw [List.getElem?_range hi, List.getElem?_reverse (show i < h.1.length from hi)]
    have hi2 : hgt h - 1 - i < h.1.length := by unfold hgt; unfold hgt at hi; omega
    rw [show h.1.length - 1 - i = hgt h - 1 - i from rfl, List.getElem?_eq_getElem hi2]
    show some [_] = some [_]
    congr 2
    show _ = sg h _
    rw [sgN]
    unfold rowN
    rw [List.getElem?_eq_getElem hi2]; rfl
  · rw [List.getElem?_eq_none (by rw [List.length_reverse]; unfold hgt at hi; omega), List.getElem?_eq_none (by simp; omega)]; rfl
theorem s_turned : Lk.turned h = .ok (turL h) := by
  have h8 := ok.h8
  have w8 := ok.w8
  unfold Lk.turned
  rw [ok.ix0]
  simp only [okb]
  rw [ok.len0]
  simp only [okb]
  rw [rngR_ok (by omega)]
  simp only [okb]
  rw [lcR_all (fun c : Int => (List.range (hgt h)).map fun k => sg h (((hgt h - 1 - k : Nat) : Int), c)) (fun c hc => by
    obtain ⟨j, hj, rfl⟩ := List.mem_map.mp hc
    rw [List.mem_range] at hj
    rw [col_rev ok j hj, Res.ok_bind, join_one _ (by simp; omega)]) (by simp [SZ]; omega), Res.ok_bind, List.map_map]
  rfl
theorem s_by0 : Lk.l_by h 0 = .ok (mirL h) := by
  have h8 := ok.h8
  have w8 := ok.w8
  unfold Lk.l_by
  simp only [okb]
  rw [ok.ix0]
  simp only [okb]
  rw [ok.len0]
  simp only [okb]
  rw [eqB_self, if_pos rfl, lcR_all List.reverse (fun r hr => ?_) (by rw [SZ]; unfold hgt at h8; omega)]
  · rfl
  · have hl := ok.len r hr
    rw [rngR_ok (by omega), Res.ok_bind, lcR_all (fun i : Int => [(r[wid h - 1 - i.toNat]?).getD ' ']) (fun i hi => ?_) (by simp [SZ]; omega), Res.ok_bind, List.map_map]
    · have e : (List.range (wid h)).map ((fun i : Int => [(r[wid h - 1 - i.toNat]?).getD ' ']) ∘ fun i : Nat => (i : Int)) = r.reverse.map fun c => [c] := by
        apply List.ext_getElem?
        intro i
        rw [List.getElem?_map, List.getElem?_map]
        by_cases hi : i < wid h
        · rw [List.getElem?_range hi, List.getElem?_reverse (by omega)]
          show some [(r[wid h - 1 - (i : Int).toNat]?).getD ' '] = _
          rw [Int.toNat_natCast, hl, List.getElem?_eq_getElem (by omega)]; rfl
        · rw [List.getElem?_eq_none (by simp; omega), List.getElem?_eq_none (by rw [List.length_reverse]; omega)]; rfl
      rw [e, join_one _ (by rw [List.length_reverse]; omega)]
    · obtain ⟨j, hj, rfl⟩ := List.mem_map.mp hi
      rw [List.mem_range] at hj
      refine txIx_ok (by omega) (by omega) ?_
      rw [show ((wid h : Int) - 1 - (j : Int)).toNat = wid h - 1 - (j : Int).toNat by omega, List.getElem?_eq_getElem (by omega)]; rfl
theorem s_by1 {d : Int} (hd : d ≠ 0) : Lk.l_by h d = .ok (turL h) := by
  have h8 := ok.h8
  have w8 := ok.w8
  unfold Lk.l_by
  simp only [okb]
  rw [ok.ix0]
  simp only [okb]
  rw [ok.len0]
  simp only [okb]
  rw [eqB_f hd, if_neg Bool.false_ne_true, rngR_ok (by omega)]
  simp only [okb]
  rw [foldR_by (fun pre => (List.range pre.length).map fun c => (List.range (hgt h)).map fun k => sg h (((hgt h - 1 - k : Nat) : Int), ((c : Nat) : Int))) (by rfl) (fun p a q e => ?_)]
  · simp only [okb, List.length_map, List.length_range]; rfl
  · obtain ⟨e1, e2⟩ := range_int e
    subst e1
    rw [show ((h.1.length : Nat) : Int) = (hgt h : Int) from rfl, rngR_ok (by omega)]
    simp only [okb]
    rw [lcR_all (fun i : Int => [sg h (((hgt h - 1 - i.toNat : Nat) : Int), (p.length : Int))]) (fun i hi => ?_) (by simp [SZ]; omega)]
    · simp only [okb]
      rw [List.map_map]
      have e3 : (List.range (hgt h)).map ((fun i : Int => [sg h (((hgt h - 1 - i.toNat : Nat) : Int), (p.length : Int))]) ∘ fun i : Nat => (i : Int)) = ((List.range (hgt h)).map fun k => sg h (((hgt h - 1 - k : Nat) : Int), (p.length : Int))).map fun c => [c] := by
        rw [List.map_map]
        apply List.map_congr_left
        intro i _
        show [sg h (((hgt h - 1 - (i : Int).toNat : Nat) : Int), _)] = _
        rw [Int.toNat_natCast]; rfl
      rw [e3, join_one _ (by simp; omega)]
      simp only [okb]
      rw [pushL_ok (by simp; omega), List.length_append, List.length_singleton, List.range_succ, List.map_append]
      rfl
    · obtain ⟨k, hk, rfl⟩ := List.mem_map.mp hi
      rw [List.mem_range] at hk
      rw [ix_rows (by omega) (by omega), Res.ok_bind, show ((hgt h : Int) - 1 - (k : Int)).toNat = hgt h - 1 - (k : Int).toNat by omega]
      have hl := ok.rowLen (i := hgt h - 1 - k) (by omega)
      rw [sgN]
      simp only [Int.toNat_natCast]
      refine txIx_ok (by omega) (Int.natCast_nonneg _) ?_
      rw [Int.toNat_natCast, List.getElem?_eq_getElem (by omega)]; rfl
end
/-! all eight -/
def fourL (h : Hl) : List Hl := [h, turL h, turL (turL h), turL (turL (turL h))]
def eightL (h : Hl) : List Hl := fourL h ++ fourL (mirL h)
theorem rng4 : rngR 4 = .ok [0, 1, 2, 3] := rngR_ok (n := 4) (by decide)
end PV
/-! M11: halls like one another -/
namespace PV
theorem foldS_cons {α X R : Type} (b : α → X → Res (Stp X R)) (a : α) (as : List α) (x : X) : foldS b (a :: as) x = (b a x).bind fun s => match s with | .nx y => foldS b as y | .rt r => .ok (.rt r) := rfl
theorem foldR_cons {α X : Type} (b : α → X → Res X) (a : α) (as : List α) (x : X) : foldR b (a :: as) x = (b a x).bind fun y => foldR b as y := rfl
theorem like4 {h p : Hl} (ok : HOk h) : foldS (R := Bool) (fun (turn : Int) (hall : Hl) => (if (eqB hall p) = true then ((Res.ok true).bind fun r3 => Res.ok (Stp.rt r3)) else ((Lk.turned hall).bind fun (hall : Hl) => (Res.ok (Stp.nx hall))))) [0, 1, 2, 3] h = .ok (if memB p (fourL h) = true then .rt true else .nx (turL (turL (turL (turL h))))) := by
  have step : ∀ (l : List Int) (x : Hl), HOk x → x ≠ p → ∀ a, foldS (R := Bool) (fun (turn : Int) (hall : Hl) => (if (eqB hall p) = true then ((Res.ok true).bind fun r3 => Res.ok (Stp.rt r3)) else ((Lk.turned hall).bind fun (hall : Hl) => (Res.ok (Stp.nx hall))))) (a :: l) x = foldS (fun (turn : Int) (hall : Hl) => (if (eqB hall p) = true then ((Res.ok true).bind fun r3 => Res.ok (Stp.rt r3)) else ((Lk.turned hall).bind fun (hall : Hl) => (Res.ok (Stp.nx hall))))) l (turL x) := fun l x ox hx a => by
    rw [foldS_cons, eqB_f hx, if_neg Bool.false_ne_true, s_turned ox]; rfl
  have hit : ∀ (l : List Int) a, foldS (R := Bool) (fun (turn : Int) (hall : Hl) => (if (eqB hall p) = true then ((Res.ok true).bind fun r3 => Res.ok (Stp.rt r3)) else ((Lk.turned hall).bind fun (hall : Hl) => (Res.ok (Stp.nx hall))))) (a :: l) p = .ok (.rt true) := fun l a => by
    rw [foldS_cons, eqB_self]; rfl
  have m : ∀ {x : Hl} {l : List Hl}, p = x → x ∈ l → memB p l = true := fun e h => memB_t (by rw [e]; exact h)
  unfold fourL
  by_cases h0 : h = p
  · subst h0; rw [hit, m (x := h) rfl (by simp)]; rfl
  rw [step _ _ ok h0]
  by_cases h1 : turL h = p
  · rw [h1, hit, m (x := p) rfl (by simp)]; rfl
  rw [step _ _ ok.tur h1]
  by_cases h2 : turL (turL h) = p
  · rw [h2, hit, m (x := p) rfl (by simp)]; rfl
  rw [step _ _ ok.tur.tur h2]
  by_cases h3 : turL (turL (turL h)) = p
  · rw [h3, hit, m (x := p) rfl (by simp)]; rfl
  rw [step _ _ ok.tur.tur.tur h3, memB_f (by
    simp only [List.mem_cons, List.not_mem_nil, or_false, not_or]
    exact ⟨Ne.symm h0, Ne.symm h1, Ne.symm h2, Ne.symm h3⟩)]
  rfl
theorem s_are_like {h p : Hl} (ok : HOk h) : Lk.are_like h p = .ok (memB p (eightL h)) := by
  unfold Lk.are_like
  rw [s_mirrored ok]
  simp only [okb]
  have e : ∀ {x : Hl}, HOk x → ((rngR 4).bind fun l4 => foldS (R := Bool) (fun (turn : Int) (hall : Hl) => (if (eqB hall p) = true then (Res.ok (Stp.rt true)) else ((Lk.turned hall).bind fun (hall : Hl) => (Res.ok (Stp.nx hall))))) l4 x) = .ok (if memB p (fourL x) = true then .rt true else .nx (turL (turL (turL (turL x))))) := fun ox => by
    rw [rng4, Res.ok_bind]; exact like4 ox
  have ap : memB p (eightL h) = (memB p (fourL h) || memB p (fourL (mirL h))) := by
    unfold memB eightL
    rw [Bool.eq_iff_iff, Bool.or_eq_true]
    simp
  rw [ap, foldS_cons, e ok]
  cases memB p (fourL h) with
  | true => rfl
  | false =>
    simp only [Bool.false_eq_true, if_false, bindS_nx, okb]
    rw [foldS_cons, e ok.mir]
    cases memB p (fourL (mirL h)) with
    | true => rfl
    | false => rfl
/-- a row of four -/
theorem push4 {h : Hl} (ok : HOk h) (every : List Hl) (hz : every.length ≤ 100) {b : Hl → Res Hl} (hb : ∀ {x : Hl}, HOk x → b x = .ok (turL x)) : foldR (fun (turn : Int) (y18 : ((List Hl) × Hl)) => ((pushL y18.1 y18.2).bind fun (every : (List Hl)) => ((b y18.2).bind fun (some' : Hl) => (Res.ok (every, some'))))) [0, 1, 2, 3] (every, h) = .ok (every ++ fourL h, turL (turL (turL (turL h)))) := by
  rw [foldR_cons]
  dsimp only
  rw [pushL_ok (by omega), Res.ok_bind, hb ok, Res.ok_bind, Res.ok_bind, foldR_cons]
  dsimp only
  rw [pushL_ok (by simp; omega), Res.ok_bind, hb ok.tur, Res.ok_bind, Res.ok_bind, foldR_cons]
  dsimp only
  rw [pushL_ok (by simp; omega), Res.ok_bind, hb ok.tur.tur, Res.ok_bind, Res.ok_bind, foldR_cons]
  dsimp only
  rw [pushL_ok (by simp; omega), Res.ok_bind, hb ok.tur.tur.tur, Res.ok_bind, Res.ok_bind]
  show Res.ok _ = _
  simp [fourL]
end PV
/-! M13: halls that are alike by a way to move their cells -/
namespace PV
structure Iso (h p : Hl) (f g : Cell → Cell) : Prop where
  gf : ∀ c, g (f c) = c
  fg : ∀ c, f (g c) = c
  nf : ∀ c d, d ∈ nbrs c → f d ∈ nbrs (f c)
  ng : ∀ c d, d ∈ nbrs c → g d ∈ nbrs (g c)
  inb : ∀ c, inB p (f c) = inB h c
  sg : ∀ c, inB h c = true → sg p (f c) = PV.sg h c
namespace Iso
variable {h p q : Hl} {f g f2 g2 : Cell → Cell}
theorem refl (h : Hl) : Iso h h id id := ⟨fun _ => rfl, fun _ => rfl, fun _ _ z => z, fun _ _ z => z, fun _ => rfl, fun _ _ => rfl⟩
theorem trans (x : Iso h p f g) (y : Iso p q f2 g2) : Iso h q (fun c => f2 (f c)) (fun c => g (g2 c)) :=
  ⟨fun c => by rw [y.gf, x.gf], fun c => by rw [x.fg, y.fg], fun c d z => y.nf _ _ (x.nf _ _ z), fun c d z => x.ng _ _ (y.ng _ _ z), fun c => by rw [y.inb, x.inb], fun c hc => by rw [y.sg _ (by rw [x.inb]; exact hc), x.sg c hc]⟩
theorem symm (x : Iso h p f g) : Iso p h g f := ⟨x.fg, x.gf, x.ng, x.nf, fun c => by rw [← x.inb (g c), x.fg], fun c hc => by
  have : inB h (g c) = true := by rw [← x.inb, x.fg]; exact hc
  rw [← x.sg (g c) this, x.fg]⟩
theorem inj (x : Iso h p f g) {a b : Cell} (e : f a = f b) : a = b := by rw [← x.gf a, e, x.gf]
theorem free (x : Iso h p f g) {c : Cell} (hc : inB h c = true) : freeB p (f c) = freeB h c := by unfold freeB; rw [x.sg c hc]
theorem okc (x : Iso h p f g) (c : Cell) : okC p (f c) = okC h c := by
  unfold okC
  rw [x.inb]
  cases hc : inB h c with
  | true => rw [x.free hc]
  | false => rfl
theorem nb (x : Iso h p f g) {c d : Cell} (hd : d ∈ nbL h c) : f d ∈ nbL p (f c) := by
  obtain ⟨h1, h2⟩ := mem_nb.mp hd
  exact mem_nb.mpr ⟨x.nf _ _ h1, by rw [x.okc]; exact h2⟩
theorem reach (x : Iso h p f g) {a b : Cell} (r : Reach h a b) : Reach p (f a) (f b) := by
  induction r with
  | refl => exact .refl _
  | step _ z ih => exact .step ih (x.nb z)
theorem reach_iff (x : Iso h p f g) {a b : Cell} : Reach p (f a) (f b) ↔ Reach h a b := by
  refine ⟨fun r => ?_, x.reach⟩
  have := x.symm.reach r
  rwa [x.gf, x.gf] at this
theorem mapnd (x : Iso h p f g) {l : List Cell} (hn : l.Nodup) : (l.map f).Nodup := List.pairwise_map.mpr (hn.imp fun z e => z (x.inj e))
theorem part (x : Iso h p f g) {c : Cell} (hc : inB h c = true) : partL p (f c) = sortC ((partL h c).map f) := by
  refine (sort_eq (x.mapnd (rise_part h c).nodup) (rise_part p (f c)) fun d => ?_).symm
  rw [List.mem_map, mem_part (by rw [x.inb]; exact hc)]
  constructor
  · rintro ⟨e, h1, rfl⟩
    exact x.reach ((mem_part hc).mp h1)
  · intro r
    refine ⟨g d, (mem_part hc).mpr ?_, x.fg d⟩
    rw [← x.reach_iff, x.fg]; exact r
theorem floors (x : Iso h p f g) : (floorsL p).Perm ((floorsL h).map f) := by
  refine (List.perm_ext_iff_of_nodup (rise_floors p).nodup (x.mapnd (rise_floors h).nodup)).mpr fun d => ?_
  rw [List.mem_map]
  constructor
  · intro hd
    obtain ⟨h1, h2⟩ := mem_floors.mp hd
    have hin : inB h (g d) = true := by rw [← x.inb, x.fg]; exact h1
    exact ⟨g d, mem_floors.mpr ⟨hin, by rw [← x.sg _ hin, x.fg]; exact h2⟩, x.fg d⟩
  · rintro ⟨e, h1, rfl⟩
    obtain ⟨h2, h3⟩ := mem_floors.mp h1
    exact mem_floors.mpr ⟨by rw [x.inb]; exact h2, by rw [x.sg _ h2]; exact h3⟩
theorem parts (x : Iso h p f g) : (partsL p).Perm ((partsL h).map fun l => sortC (l.map f)) := by
  refine (List.perm_ext_iff_of_nodup (parts_nodup p) ?_).mpr fun l => ?_
  · refine List.pairwise_map.mpr ((parts_nodup h).imp_of_mem fun {a b} ha hb n e => n ?_)
    obtain ⟨c, _, rfl⟩ := mem_parts.mp ha
    obtain ⟨d, _, rfl⟩ := mem_parts.mp hb
    refine rise_ext (rise_part h c) (rise_part h d) fun z => ?_
    have m : ∀ l : List Cell, z ∈ l ↔ f z ∈ sortC (l.map f) := fun l => by
      rw [mem_sort, List.mem_map]
      exact ⟨fun k => ⟨z, k, rfl⟩, fun ⟨w, k, k2⟩ => x.inj k2 ▸ k⟩
    rw [m, e, ← m]
  · rw [mem_parts, List.mem_map]
    constructor
    · rintro ⟨c, h1, rfl⟩
      have ho : okC h (g c) = true := by rw [← x.okc, x.fg]; exact h1
      refine ⟨partL h (g c), mem_parts.mpr ⟨g c, ho, rfl⟩, ?_⟩
      rw [← x.part (okC_iff.mp ho).1, x.fg]
    · rintro ⟨m, h1, rfl⟩
      obtain ⟨c, h2, rfl⟩ := mem_parts.mp h1
      exact ⟨f c, by rw [x.okc]; exact h2, (x.part (okC_iff.mp h2).1).symm⟩
theorem sizes (x : Iso h p f g) : ((partsL p).map fun l => (l.length : Int)).Perm ((partsL h).map fun l => (l.length : Int)) := by
  have := x.parts.map fun l => (l.length : Int)
  rw [List.map_map] at this
  have e : ((partsL h).map ((fun l : List Cell => (l.length : Int)) ∘ fun l => sortC (l.map f))) = (partsL h).map fun l => (l.length : Int) := by
    apply List.map_congr_left
    intro l _
    show ((sortC (l.map f)).length : Int) = _
    rw [(sort_perm _).length_eq, List.length_map]
  rwa [e] at this
end Iso
theorem sortI_perm {l m : List Int} (p : l.Perm m) : sortI l = sortI m :=
  sd_uniq ltZ_an (isort_sd ltZ_tr ltZ_as l) (isort_sd ltZ_tr ltZ_as m) (((isort_perm ltZ l).trans p).trans (isort_perm ltZ m).symm)
def ctuq (h : Hl) (c : Cell) : Cell := ((hgt h : Int) - 1 - c.2, c.1)
theorem nbrs_iff {c d : Cell} : d ∈ nbrs c ↔ (d.1 = c.1 - 1 ∧ d.2 = c.2) ∨ (d.1 = c.1 ∧ d.2 = c.2 - 1) ∨ (d.1 = c.1 ∧ d.2 = c.2 + 1) ∨ (d.1 = c.1 + 1 ∧ d.2 = c.2) := by
  obtain ⟨x, y⟩ := d
  unfold nbrs
  simp only [List.mem_cons, Prod.mk.injEq, List.not_mem_nil, or_false]
theorem iso_tur {h : Hl} (ok : HOk h) : Iso h (turL h) (ctur h) (ctuq h) :=
  ⟨fun c => Prod.ext (by unfold ctur ctuq; dsimp only; omega) (by unfold ctur ctuq; dsimp only), fun c => Prod.ext (by unfold ctur ctuq; dsimp only) (by unfold ctur ctuq; dsimp only; omega),
    fun c d z => by rw [nbrs_iff] at z ⊢; unfold ctur; dsimp only; omega, fun c d z => by rw [nbrs_iff] at z ⊢; unfold ctuq; dsimp only; omega, fun c => in_tur ok, fun c hc => sg_tur ok hc⟩
theorem iso_mir {h : Hl} (ok : HOk h) : Iso h (mirL h) (cmir h) (cmir h) :=
  ⟨fun c => Prod.ext (by unfold cmir; dsimp only) (by unfold cmir; dsimp only; omega), fun c => Prod.ext (by unfold cmir; dsimp only) (by unfold cmir; dsimp only; omega),
    fun c d z => by rw [nbrs_iff] at z ⊢; unfold cmir; dsimp only; omega, fun c d z => by rw [nbrs_iff] at z ⊢; unfold cmir; dsimp only; omega, fun c => in_mir, fun c hc => sg_mir ok hc⟩
/-- what is the same by ways to move is the same -/
theorem iso_eq {h p q : Hl} {f g f2 g2 : Cell → Cell} (op : HOk p) (oq : HOk q) (x : Iso h p f g) (y : Iso h q f2 g2) (e : ∀ c, f c = f2 c) (e1 : hgt p = hgt q) (e2 : wid p = wid q) (e3 : p.2 = q.2) : p = q :=
  hall_ext op oq e1 e2 e3 fun c hc => by
    have hin : inB h (g c) = true := by rw [← x.inb, x.fg]; exact hc
    have h1 := x.sg (g c) hin
    have h2 := y.sg (g c) hin
    rw [← e, x.fg] at h2
    rw [x.fg] at h1
    rw [h1, h2]
section
variable {h : Hl} (ok : HOk h)
include ok
theorem wt : wid (turL h) = hgt h := wid_tur ok
theorem wtt : hgt (turL (turL h)) = hgt h ∧ wid (turL (turL h)) = wid h := ⟨by rw [hgt_tur, wt ok], by rw [wid_tur ok.tur, hgt_tur]⟩
theorem tur4 : turL (turL (turL (turL h))) = h := by
  have a := wtt ok
  have b := wtt ok.tur.tur
  refine iso_eq ok.tur.tur.tur.tur ok ((((iso_tur ok).trans (iso_tur ok.tur)).trans (iso_tur ok.tur.tur)).trans (iso_tur ok.tur.tur.tur)) (Iso.refl h) (fun c => ?_) (by rw [b.1, a.1]) (by rw [b.2, a.2]) rfl
  unfold ctur
  dsimp only [id]
  simp only [hgt_tur, a.2, wid_tur ok]
  exact Prod.ext (by dsimp only; omega) (by dsimp only; omega)
theorem tur4c (c : Cell) : ctur (turL (turL (turL h))) (ctur (turL (turL h)) (ctur (turL h) (ctur h c))) = c := by
  have a := wtt ok
  unfold ctur
  dsimp only
  simp only [hgt_tur, a.2, wid_tur ok]
  exact Prod.ext (by dsimp only; omega) (by dsimp only; omega)
theorem mir2 : mirL (mirL h) = h :=
  iso_eq ok.mir.mir ok ((iso_mir ok).trans (iso_mir ok.mir)) (Iso.refl h) (fun c => by
    unfold cmir
    dsimp only [id]
    rw [wid_mir]
    exact Prod.ext rfl (by dsimp only; omega)) (by rw [hgt_mir, hgt_mir]) (by rw [wid_mir, wid_mir]) rfl
theorem mirtc (c : Cell) : cmir (turL h) (ctur h c) = ctur (turL (turL (mirL h))) (ctur (turL (mirL h)) (ctur (mirL h) (cmir h c))) := by
  have a := wtt ok.mir
  unfold ctur cmir
  dsimp only
  simp only [hgt_tur, hgt_mir, wid_mir, wid_tur ok, wid_tur ok.mir]
  exact Prod.ext (by dsimp only <;> omega) (by dsimp only <;> omega)
theorem mirt : mirL (turL h) = turL (turL (turL (mirL h))) := by
  have a := wtt ok.mir
  refine iso_eq ok.tur.mir ok.mir.tur.tur.tur ((iso_tur ok).trans (iso_mir ok.tur)) ((((iso_mir ok).trans (iso_tur ok.mir)).trans (iso_tur ok.mir.tur)).trans (iso_tur ok.mir.tur.tur)) (mirtc ok) ?_ ?_ rfl
  · rw [hgt_mir, hgt_tur, hgt_tur, a.2, wid_mir]
  · rw [wid_mir, wid_tur ok, wid_tur ok.mir.tur.tur, a.1, hgt_mir]
theorem eight_far {p : Hl} (hp : p ∈ eightL h) : p.2 = h.2 := by
  unfold eightL fourL at hp
  simp only [List.cons_append, List.nil_append, List.mem_cons, List.not_mem_nil, or_false] at hp
  rcases hp with rfl | rfl | rfl | rfl | rfl | rfl | rfl | rfl <;> rfl
/-- each of the eight: well made, with a way to move its cells, and like back -/
theorem eight_ok {p : Hl} (hp : p ∈ eightL h) : HOk p ∧ (∃ f g, Iso h p f g) ∧ h ∈ eightL p := by
  have t1 := iso_tur ok
  have t2 := t1.trans (iso_tur ok.tur)
  have t3 := t2.trans (iso_tur ok.tur.tur)
  have m1 := iso_mir ok
  have m2 := m1.trans (iso_tur ok.mir)
  have m3 := m2.trans (iso_tur ok.mir.tur)
  have m4 := m3.trans (iso_tur ok.mir.tur.tur)
  have k1 : mirL (turL (mirL h)) = turL (turL (turL h)) := by rw [mirt ok.mir, mir2 ok]
  have k2 : mirL (turL (turL (mirL h))) = turL (turL h) := by rw [mirt ok.mir.tur, k1, tur4 ok.tur.tur]
  have k3 : mirL (turL (turL (turL (mirL h)))) = turL h := by rw [mirt ok.mir.tur.tur, k2, tur4 ok.tur]
  have f4 := tur4 ok
  unfold eightL fourL at hp
  simp only [List.cons_append, List.nil_append, List.mem_cons, List.not_mem_nil, or_false] at hp
  rcases hp with rfl | rfl | rfl | rfl | rfl | rfl | rfl | rfl
  · exact ⟨ok, ⟨_, _, Iso.refl _⟩, by simp [eightL, fourL]⟩
  · exact ⟨ok.tur, ⟨_, _, t1⟩, by simp [eightL, fourL, f4]⟩
  · exact ⟨ok.tur.tur, ⟨_, _, t2⟩, by simp [eightL, fourL, f4]⟩
  · exact ⟨ok.tur.tur.tur, ⟨_, _, t3⟩, by simp [eightL, fourL, f4]⟩
  · exact ⟨ok.mir, ⟨_, _, m1⟩, by simp [eightL, fourL, mir2 ok]⟩
  · exact ⟨ok.mir.tur, ⟨_, _, m2⟩, by simp [eightL, fourL, k1, f4]⟩
  · exact ⟨ok.mir.tur.tur, ⟨_, _, m3⟩, by simp [eightL, fourL, k2, f4]⟩
  · exact ⟨ok.mir.tur.tur.tur, ⟨_, _, m4⟩, by simp [eightL, fourL, k3, f4]⟩
end
end PV
/-! X50: law_k50 -/
namespace PV
theorem told_ok {α : Type} {t : Res α} {a : α} (h : t = .ok a) : toldR t = .ok (.told a) := by subst h; rfl
theorem told_no {α : Type} {t : Res α} (h : t = .ex "NoCell") : toldR t = .ok (.ref 0) := by
  subst h
  show (match toldIx "NoCell" with | some k => Res.ok (Told.ref k) | none => .no) = _
  rw [show toldIx "NoCell" = some 0 from rfl]; rfl
theorem s_by {h : Hl} (ok : HOk h) (d : Int) : ∃ p, Lk.l_by h d = .ok p ∧ HOk p := by
  by_cases e : d = 0
  · subst e; exact ⟨_, s_by0 ok, ok.mir⟩
  · exact ⟨_, s_by1 ok e, ok.tur⟩
theorem law_k50_ok (ns : List Int) : Lk.law_k50 ns = .ok true := by
  unfold Lk.law_k50
  rw [s_mixed ns 0 (by decide), s_mixed ns 1 (by decide), s_mixed ns 2 (by decide)]
  obtain ⟨h, q2, ok, hm, wm, _⟩ := s_hall (mixed ns (0 : Int).toNat) 8 (mixed_nn _ _) (by omega) (by omega)
  simp only [okb]
  rw [q2]
  simp only [okb]
  generalize mixed ns (1 : Int).toNat = n
  rw [s_mirrored ok, s_by0 ok]
  simp only [okb]
  rw [eqB_self]
  simp only [Bool.not_true, Bool.false_eq_true, if_false, okb]
  rw [s_turned ok, s_by1 ok (by decide)]
  simp only [okb]
  rw [eqB_self]
  simp only [Bool.not_true, Bool.false_eq_true, if_false, okb]
  rw [ok.ix0]
  simp only [okb]
  rw [ok.len0]
  simp only [okb]
  generalize n % 10 - 1 = x
  generalize n / 16 % 10 - 1 = y
  rw [show ((decide (0 ≤ x) && decide (x < (h.1.length : Int))) && (decide (0 ≤ y) && decide (y < (wid h : Int)))) = inB h (x, y) from rfl]
  have key : ∃ one other, toldR (Lk.cell_mirrored h (x, y)) = .ok one ∧ toldR (Lk.cell_turned h (x, y)) = .ok other ∧ (if inB h (x, y) = true then one = .told (cmir h (x, y)) ∧ other = .told (ctur h (x, y)) else one = .ref 0 ∧ other = .ref 0) := by
    cases hi : inB h (x, y) with
    | true => exact ⟨_, _, told_ok (s_cell_mirrored ok hi), told_ok (s_cell_turned ok hi), by simp⟩
    | false => exact ⟨_, _, told_no (s_cell_mirrored_ex ok hi), told_no (s_cell_turned_ex ok hi), by simp⟩
  obtain ⟨one, other, k1, k2, k3⟩ := key
  rw [k1, k2]
  simp only [okb]
  have e1 : (Told.told (x, ((wid h : Int) - 1) - y) : Told Cell) = .told (cmir h (x, y)) := rfl
  have e2 : (Told.told (y, (((h.1.length : Nat) : Int) - 1) - x) : Told Cell) = .told (ctur h (x, y)) := rfl
  rw [e1, e2]
  have fin : ∀ K : Unit → Res Bool, bindS (if inB h (x, y) = true then (if ((!eqB one (.told (cmir h (x, y)))) || (!eqB other (.told (ctur h (x, y))))) = true then (Res.ok (Stp.rt false)) else (Res.ok (Stp.nx ()))) else (if ((!eqB one (.ref 0)) || (!eqB other (.ref 0))) = true then (Res.ok (Stp.rt false)) else (Res.ok (Stp.nx ())))) (fun r => r) K = K () := fun K => by
    cases hi : inB h (x, y) with
    | true =>
      rw [hi, if_pos rfl] at k3
      rw [k3.1, k3.2, eqB_self, eqB_self]; rfl
    | false =>
      rw [hi, if_neg Bool.false_ne_true] at k3
      rw [k3.1, k3.2, eqB_self]; rfl
  rw [fin]
  -- another hall
  have cnt : 0 ≤ n / 256 % 5 := by omega
  rw [show (n / 256 % 5) = ((n / 256 % 5).toNat : Int) by omega, rngR_ok (by omega)]
  simp only [okb]
  refine foldR_K (fun _ p => HOk p) ok (fun p a q x _ ox => ?_) (fun p op => ?_)
  · rw [s_drawn]
    simp only [okb]
    obtain ⟨y, e, oy⟩ := s_by ox (drawn n a / 16 % 2)
    exact ⟨y, by rw [e]; rfl, oy⟩
  · obtain ⟨g, q3, og, _⟩ := s_hall (mixed ns (2 : Int).toNat) 3 (mixed_nn _ _) (by omega) (by omega)
    rw [q3]
    simp only [okb]
    have gen : ∀ there : Hl, (foldR (fun (some' : Hl) (every : (List Hl)) => (((rngR 4).bind fun l20 => foldR (fun (turn : Int) (y18 : ((List Hl) × Hl)) => ((pushL y18.1 y18.2).bind fun (every : (List Hl)) => ((Lk.l_by y18.2 1).bind fun (some' : Hl) => (Res.ok (every, some'))))) l20 (every, some')).bind (fun (y18 : ((List Hl) × Hl)) => (Res.ok y18.1)))) [h, mirL h] []).bind (fun (every : (List Hl)) => ((Lk.are_like h there).bind fun (got : Bool) => (Res.ok (true && (eqB got (memB there every)))))) = .ok true := fun there => by
      rw [foldR_cons, rng4, Res.ok_bind, push4 ok [] (by simp) (fun ox => s_by1 ox (by decide)), Res.ok_bind, Res.ok_bind, foldR_cons, Res.ok_bind, push4 ok.mir _ (by simp [fourL]) (fun ox => s_by1 ox (by decide)), Res.ok_bind, Res.ok_bind]
      show (Lk.are_like h there).bind _ = _
      rw [s_are_like ok, Res.ok_bind]
      show Res.ok (true && eqB (memB there (eightL h)) (memB there (eightL h))) = _
      rw [eqB_self]; rfl
    cases (eqB ((n / 4096) % 3) 1) <;> cases (eqB ((n / 4096) % 3) 2) <;> simp only [Bool.false_eq_true, if_false, if_true, okb] <;> exact gen _
end PV
/-! X33: law_k33 -/
namespace PV
theorem cut_sub {α : Type} (xs : List α) (lo hi : Option Int) : (cutZ xs lo hi).Sublist xs := (List.take_sublist ..).trans (List.drop_sublist ..)
theorem told_ex {α : Type} {t : Res α} {c : PySem.Str} {k : Nat} (h : t = .ex c) (hk : toldIx c = some k) : toldR t = .ok (.ref k) := by
  subst h
  show (match toldIx c with | some k => Res.ok (Told.ref k) | none => .no) = _
  rw [hk]
theorem told_way {α : Type} {t : Res α} (h : t = .ex "NoWay") : toldR t = .ok (.ref 2) := told_ex (k := 2) h rfl
theorem sign_open {h : Hl} (ok : HOk h) {c : Cell} (hc : inB h c = true) : signIn [sg h c] ['.', 'o'] = .ok (freeB h c) := by
  have hs : sg h c ∈ sgs := ok.sg_in hc
  unfold signIn freeB
  unfold sgs at hs
  simp only [List.mem_cons, List.not_mem_nil, or_false] at hs
  rcases hs with e | e | e | e <;> rw [e] <;> exact congrArg Res.ok (by decide)
theorem s_far_off {h : Hl} (ok : HOk h) (n : Int) : ∃ f, Lk.l_far_off h n = .ok f ∧ inB h f = false := by
  have a1 := ok.h1
  have a8 := ok.h8
  have b1 := ok.w1
  have b8 := ok.w8
  unfold Lk.l_far_off
  rw [ok.ix0]
  simp only [okb]
  rw [ok.len0]
  simp only [okb]
  obtain ⟨x, hx, e⟩ := ix_some (xs := [((-1), 0), (0, (-1)), ((h.1.length : Int), 0), (0, (wid h : Int)), ((h.1.length : Int), (wid h : Int)), (8, 8)]) (i := n % 6) (by omega) (by show n % 6 < 6; omega)
  refine ⟨x, e, ?_⟩
  cases z : inB h x with
  | false => rfl
  | true =>
    obtain ⟨⟨c1, c2⟩, c3, c4⟩ := in_iff.mp z
    unfold hgt at *
    simp only [List.mem_cons, List.not_mem_nil, or_false] at hx
    rcases hx with e | e | e | e | e | e <;> subst e <;> dsimp only at * <;> omega
theorem law_k33_ok (ns : List Int) : Lk.law_k33 ns = .ok true := by
  unfold Lk.law_k33
  rw [s_mixed ns 0 (by decide), s_mixed ns 1 (by decide), s_mixed ns 2 (by decide)]
  obtain ⟨h, q2, ok, hm, wm, _⟩ := s_hall (mixed ns (0 : Int).toNat) 6 (mixed_nn _ _) (by omega) (by omega)
  simp only [okb]
  rw [q2]
  simp only [okb]
  rw [s_some ok]
  simp only [okb]
  generalize hL : cutZ (someL h (mixed ns (1 : Int).toNat)) none (some 3) = ls
  have hl : ∀ l ∈ ls, inB h l = true := fun l hx => floor_in ((some_sub h _).subset ((cut_sub _ _ _).subset (by rw [hL]; exact hx)))
  have hz : ls.length ≤ 1000 := by
    have l1 := (cut_sub (someL h (mixed ns (1 : Int).toNat)) none (some 3)).length_le
    have l2 := (some_sub h (mixed ns (1 : Int).toNat)).length_le
    have l3 : (floorsL h).length ≤ (cellsL h).length := List.length_filter_le _ _
    have := ok.cells_le
    rw [hL] at l1
    omega
  generalize mixed ns (2 : Int).toNat = n
  obtain ⟨f, ef, hf⟩ := s_far_off ok (n / 64)
  have c64 := ok.cells_le
  rw [s_l_cells ok, ef]
  simp only [okb]
  rw [addL_ok (by rw [List.length_singleton]; omega)]
  simp only [okb]
  obtain ⟨one, hone, e1⟩ := ix_mod (xs := cellsL h ++ [f]) n (by simp)
  rw [e1]
  simp only [okb]
  rw [cutZ_init, List.dropLast_concat, lcR_fil (fun c => freeB h c) (fun c hc => by
    rw [s_sign_at ok (mem_cells.mp hc)]
    simp only [okb]
    exact sign_open ok (mem_cells.mp hc)) (by omega)]
  simp only [okb]
  have inside : ∀ c, memB c ((cellsL h).filter fun c => freeB h c) = okC h c := fun c => by
    cases z : okC h c with
    | true => obtain ⟨z1, z2⟩ := okC_iff.mp z; exact memB_t (List.mem_filter.mpr ⟨mem_cells.mpr z1, z2⟩)
    | false =>
      refine memB_f fun k => ?_
      obtain ⟨z1, z2⟩ := List.mem_filter.mp k
      rw [okC_iff.mpr ⟨mem_cells.mp z1, z2⟩] at z
      cases z
  unfold stepR
  rw [if_pos (by omega)]
  simp only [okb]
  rw [foldS_all, bindS_nx]
  intro other _
  rw [inside, inside]
  cases h1 : okC h one with
  | false =>
    rw [told_no (s_slyest_nocell ok (.inl h1))]
    simp only [okb]
    rw [eqB_self]; rfl
  | true =>
    cases h2 : okC h other with
    | false =>
      rw [told_no (s_slyest_nocell ok (.inr h2))]
      simp only [okb]
      rw [eqB_self]; rfl
    | true =>
      simp only [Bool.not_true, Bool.or_self, Bool.false_eq_true, if_false]
      rw [s_parts ok]
      simp only [okb]
      rw [lcR_filter (by have := parts_le ok; omega)]
      by_cases hr : Reach h other one
      · obtain ⟨way, e2, W, _⟩ := s_slyest ok hl hz h1 h2 hr
        have hne : (partsL h).filter (fun part => memB one part && memB other part) ≠ [] := fun z => by
          have : partL h other ∈ (partsL h).filter (fun part => memB one part && memB other part) := List.mem_filter.mpr ⟨mem_parts.mpr ⟨other, h2, rfl⟩, by
            rw [memB_t ((mem_part (okC_iff.mp h2).1).mpr hr), memB_t (self_part h2)]; rfl⟩
          rw [z] at this; cases this
        rw [told_ok e2]
        simp only [okb]
        rw [eqB_f hne]
        simp only [Bool.false_eq_true, if_false]
        obtain ⟨l, ew⟩ := W.cons
        have i0 : ixR way 0 = .ok one := ixR_ok (by decide) (by rw [ew]; rfl)
        have i1 : ixR way (-1) = .ok other := ixR_last W.lt
        rw [show Told.tag (Told.told way) = ['t', 'o', 'l', 'd'] from rfl, eqB_self]
        simp only [Bool.not_true, Bool.false_eq_true, if_false]
        rw [show Told.val (Told.told way) = .ok way from rfl]
        simp only [okb]
        rw [i0, i1]
        simp only [okb]
        rw [eqB_self, eqB_self]; rfl
      · have he : (partsL h).filter (fun part => memB one part && memB other part) = [] := by
          rw [List.filter_eq_nil_iff]
          intro p hp z
          rw [Bool.and_eq_true] at z
          obtain ⟨c, hc, rfl⟩ := mem_parts.mp hp
          have z1 := (mem_part (okC_iff.mp hc).1).mp (memB_iff.mp z.1)
          have z2 := (mem_part (okC_iff.mp hc).1).mp (memB_iff.mp z.2)
          exact hr ((z2.symm hc).trans z1)
        rw [told_way (s_slyest_noway ok hl hz h1 h2 hr), he]
        simp only [okb]
        rw [eqB_self, eqB_self]; rfl
end PV
set_option maxHeartbeats 4000000
namespace Lw
open PySem PySem.Spec L2 PV
def topS (i : Nat) : Stmt := PySem.Challenge.pw_lookhalls_k33_whole_where_no_way_leads.main.body.getD i (.Pass ⟨0, 0, 0, 0⟩)
section
variable {P : Program} {w : World} {K : PySem.W.Frag} {mg : Str → Option Value} {base : Heap} {T : Tbs}
abbrev s__law_told : Stmt := topS 34
theorem td__law_told : ToldDef s__law_told where
  b := fun _ _ _ _ _ _ us hl => match us, hl with | [_], _ => rfl
  s := ⟨rfl, rfl, rfl, by decide +kernel, rfl, by decide +kernel, by decide +kernel⟩
  n := ⟨rfl, rfl, rfl, rfl, rfl, rfl, rfl, rfl, rfl, rfl, rfl, rfl⟩
  g := fun X C0 c0 c1 c2 c3 c4 g cdg q h1 h2 T => told_gives5 (sg := defScope s__law_told) ⟨rfl, rfl, rfl, rfl, rfl, rfl, rfl, rfl, rfl, rfl, rfl, rfl⟩ h1 h2 T rfl rfl rfl
abbrev s_is_inside : Stmt := topS 11
abbrev N_is_inside : List Str := ["hall", "cell"]
theorem sc_is_inside : FnScope N_is_inside ["hall", "cell"] (defScope s_is_inside) := ⟨rfl, rfl, rfl, by decide +kernel, rfl, by decide +kernel, by decide +kernel⟩
def b_is_inside : Sl → Res Fl :=
  (sRet (eAnd (eChain leI ltI (eC (.int 0)) (e2 ixD (eV 1) (eC (.int 0))) (e1 lenD (e2 ixD (eV 0) (eC (.int 0))))) (eChain leI ltI (eC (.int 0)) (e2 ixD (eV 1) (eC (.int 1))) (e1 lenD (e2 ixD (e2 ixD (eV 0) (eC (.int 0))) (eC (.int 0)))))))
def h_is_inside : List D → Res D := runF N_is_inside 2 b_is_inside
theorem ok_is_inside (F : DefAt K mg "is_inside" s_is_inside) (B : BI mg) : Cal P w K mg base T "is_inside" ["hall", "cell"] 1 h_is_inside := by
  refine fn_cal 0 F sc_is_inside (by decide) (M := []) (by decide) (fun _ _ _ _ _ _ us hl => match us, hl with | [_, _], _ => rfl) (fun f cdv A outer s H E hr tk => ?_)
  have po := passes_po (X := cxOf (L2.CX P w) P w K mg base N_is_inside "is_inside" (defScope s_is_inside) f cdv A outer s H E) rfl
  have hu := hr.units
  have hu5 := hu5_of hr
  have hu1 := hu_of hr
  exact (sss_one (ss_ret (px_and (px_chain o_le o_lt (by with_unfolding_all rfl) px_int (px_ix_r o_ix_r (fun _ _ => rfl) (PXg.r (px_var (pv 1) (by decide))) (PXg.r px_int)) (px_b1 (o_len) rfl B.len PySem.boot_len (PXg.r (px_ix_r o_ix_r (fun _ _ => rfl) (PXg.r (px_var (pv 0) (by decide))) (PXg.r px_int))))) (px_one (px_chain o_le o_lt (by with_unfolding_all rfl) px_int (px_ix_r o_ix_r (fun _ _ => rfl) (PXg.r (px_var (pv 1) (by decide))) (PXg.r px_int)) (px_b1 (o_len) rfl B.len PySem.boot_len (PXg.r (px_ix_r o_ix_r (fun _ _ => rfl) (PXg.r (px_ix_r o_ix_r (fun _ _ => rfl) (PXg.r (px_var (pv 0) (by decide))) (PXg.r px_int))) (PXg.r px_int)))))))))
abbrev s_need_cell : Stmt := topS 12
abbrev N_need_cell : List Str := ["hall", "cell"]
theorem sc_need_cell : FnScope N_need_cell ["hall", "cell"] (defScope s_need_cell) := ⟨rfl, rfl, rfl, by decide +kernel, rfl, by decide +kernel, by decide +kernel⟩
def b_need_cell : Sl → Res Fl :=
  (sIf (bNot (eB (eCall h_is_inside (eCons (eV 0) (eCons (eV 1) eNil))))) (sRaise "NoCell") sNil)
def h_need_cell : List D → Res D := runF N_need_cell 2 b_need_cell
theorem ok_need_cell (F : DefAt K mg "need_cell" s_need_cell) (B : BI mg) (G_is_inside : Cal P w K mg base T "is_inside" ["hall", "cell"] 1 h_is_inside) (Z_NoCell : ExcAt K mg "NoCell") : Cal P w K mg base T "need_cell" ["hall", "cell"] 2 h_need_cell := by
  refine fn_cal 1 F sc_need_cell (by decide) (M := []) (by decide) (fun _ _ _ _ _ _ us hl => match us, hl with | [_, _], _ => rfl) (fun f cdv A outer s H E hr tk => ?_)
  have po := passes_po (X := cxOf (L2.CX P w) P w K mg base N_need_cell "need_cell" (defScope s_need_cell) f cdv A outer s H E) rfl
  have hu := hr.units
  have hu5 := hu5_of hr
  have hu1 := hu_of hr
  exact (sss_one (ss_if (pxt_not (pxt_val (px_callC G_is_inside (hr.mono (by decide)) rfl tk (pxs_cons (px_var (pv 0) (by decide)) (pxs_cons (px_var (pv 1) (by decide)) pxs_nil))))) (sss_one (ss_raiseC rfl tk Z_NoCell rfl)) sss_nil))
abbrev s_sign_at : Stmt := topS 13
abbrev N_sign_at : List Str := ["hall", "cell"]
theorem sc_sign_at : FnScope N_sign_at ["hall", "cell"] (defScope s_sign_at) := ⟨rfl, rfl, rfl, by decide +kernel, rfl, by decide +kernel, by decide +kernel⟩
def b_sign_at : Sl → Res Fl :=
  (sSeq (sDrop (eCall h_need_cell (eCons (eV 0) (eCons (eV 1) eNil))))
  (sRet (e2 ixD (e2 ixD (e2 ixD (eV 0) (eC (.int 0))) (e2 ixD (eV 1) (eC (.int 0)))) (e2 ixD (eV 1) (eC (.int 1))))))
def h_sign_at : List D → Res D := runF N_sign_at 2 b_sign_at
theorem ok_sign_at (F : DefAt K mg "sign_at" s_sign_at) (B : BI mg) (G_need_cell : Cal P w K mg base T "need_cell" ["hall", "cell"] 2 h_need_cell) : Cal P w K mg base T "sign_at" ["hall", "cell"] 3 h_sign_at := by
  refine fn_cal 2 F sc_sign_at (by decide) (M := []) (by decide) (fun _ _ _ _ _ _ us hl => match us, hl with | [_, _], _ => rfl) (fun f cdv A outer s H E hr tk => ?_)
  have po := passes_po (X := cxOf (L2.CX P w) P w K mg base N_sign_at "sign_at" (defScope s_sign_at) f cdv A outer s H E) rfl
  have hu := hr.units
  have hu5 := hu5_of hr
  have hu1 := hu_of hr
  exact (sss_cons (ss_drop (px_callC G_need_cell (hr.mono (by decide)) rfl tk (pxs_cons (px_var (pv 0) (by decide)) (pxs_cons (px_var (pv 1) (by decide)) pxs_nil))))
    (sss_one (ss_ret (px_ix_r o_ix_r (fun _ _ => rfl) (PXg.r (px_ix_r o_ix_r (fun _ _ => rfl) (PXg.r (px_ix_r o_ix_r (fun _ _ => rfl) (PXg.r (px_var (pv 0) (by decide))) (PXg.r px_int))) (PXg.r (px_ix_r o_ix_r (fun _ _ => rfl) (PXg.r (px_var (pv 1) (by decide))) (PXg.r px_int))))) (PXg.r (px_ix_r o_ix_r (fun _ _ => rfl) (PXg.r (px_var (pv 1) (by decide))) (PXg.r px_int)))))))
abbrev s_is_free : Stmt := topS 14
abbrev N_is_free : List Str := ["hall", "cell"]
theorem sc_is_free : FnScope N_is_free ["hall", "cell"] (defScope s_is_free) := ⟨rfl, rfl, rfl, by decide +kernel, rfl, by decide +kernel, by decide +kernel⟩
def b_is_free : Sl → Res Fl :=
  (sRet (e2 notInD (e2 ixD (e2 ixD (e2 ixD (eV 0) (eC (.int 0))) (e2 ixD (eV 1) (eC (.int 0)))) (e2 ixD (eV 1) (eC (.int 1)))) (eC (.ctup [.str "#", .str "x"]))))
def h_is_free : List D → Res D := runF N_is_free 2 b_is_free
theorem ok_is_free (F : DefAt K mg "is_free" s_is_free) (B : BI mg) (C_BLOCKING : CstAt K mg "BLOCKING" (.ctup [.str "#", .str "x"])) : Cal P w K mg base T "is_free" ["hall", "cell"] 1 h_is_free := by
  refine fn_cal 0 F sc_is_free (by decide) (M := []) (by decide) (fun _ _ _ _ _ _ us hl => match us, hl with | [_, _], _ => rfl) (fun f cdv A outer s H E hr tk => ?_)
  have po := passes_po (X := cxOf (L2.CX P w) P w K mg base N_is_free "is_free" (defScope s_is_free) f cdv A outer s H E) rfl
  have hu := hr.units
  have hu5 := hu5_of hr
  have hu1 := hu_of hr
  exact (sss_one (ss_ret (px_cmp_r (o_notIn_r hu5) (by with_unfolding_all rfl) (PXg.r (px_ix_r o_ix_r (fun _ _ => rfl) (PXg.r (px_ix_r o_ix_r (fun _ _ => rfl) (PXg.r (px_ix_r o_ix_r (fun _ _ => rfl) (PXg.r (px_var (pv 0) (by decide))) (PXg.r px_int))) (PXg.r (px_ix_r o_ix_r (fun _ _ => rfl) (PXg.r (px_var (pv 1) (by decide))) (PXg.r px_int))))) (PXg.r (px_ix_r o_ix_r (fun _ _ => rfl) (PXg.r (px_var (pv 1) (by decide))) (PXg.r px_int))))) (PXg.r (px_cst C_BLOCKING rfl)))))
abbrev s_cells : Stmt := topS 15
abbrev N_cells : List Str := ["hall", "found", "row", "column"]
theorem sc_cells : FnScope N_cells ["hall"] (defScope s_cells) := ⟨rfl, rfl, rfl, by decide +kernel, rfl, by decide +kernel, by decide +kernel⟩
def b_cells : Sl → Res Fl :=
  (sSeq (sSet 1 (eLst eNil))
  (sSeq (sFor (eRng1 (eCons (e1 lenD (e2 ixD (eV 0) (eC (.int 0)))) eNil)) (gtN 2) (sExt 1 (eLc (eRng1 (eCons (e1 lenD (e2 ixD (e2 ixD (eV 0) (eC (.int 0))) (eC (.int 0)))) eNil)) (gtN 3) bYes (eTup (eCons (eV 2) (eCons (eV 3) eNil))) [3])))
  (sRet (eV 1))))
def h_cells : List D → Res D := runF N_cells 1 b_cells
theorem ok_cells (F : DefAt K mg "cells" s_cells) (B : BI mg) : Cal P w K mg base T "cells" ["hall"] 1 h_cells := by
  refine fn_cal 0 F sc_cells (by decide) (M := [1]) (by decide) (fun _ _ _ _ _ _ us hl => match us, hl with | [_], _ => rfl) (fun f cdv A outer s H E hr tk => ?_)
  have po := passes_po (X := cxOf (L2.CX P w) P w K mg base N_cells "cells" (defScope s_cells) f cdv A outer s H E) rfl
  have hu := hr.units
  have hu5 := hu5_of hr
  have hu1 := hu_of hr
  exact (sss_cons (ss_own (i := 1) sc_cells.nd rfl (Or.inl rfl) (by decide) (pxf_lst pxs_nil))
    (sss_cons (ss_for po rfl (ix_rng1 rfl B.range (pxs_cons (px_b1 (o_len) rfl B.len PySem.boot_len (PXg.r (px_ix_r o_ix_r (fun _ _ => rfl) (PXg.r (px_var (pv 0) (by decide))) (PXg.r px_int)))) pxs_nil)) (gx_name (pg_name (i := 2) sc_cells.nd rfl (Or.inr rfl)) (by decide)) (sss_one (ss_extend (i := 1) (pv 1) (by decide) (PXl.fr (pxl_lc (own := [("column", 3)]) rfl sc_cells.nd (PIg.up (ix_rng1 rfl B.range (pxs_cons (px_b1 (o_len) rfl B.len PySem.boot_len (PXg.r (px_ix_r o_ix_r (fun _ _ => rfl) (PXg.r (px_ix_r o_ix_r (fun _ _ => rfl) (PXg.r (px_var (pv 0) (by decide))) (PXg.r px_int))) (PXg.r px_int)))) pxs_nil))) (blkOk_by (N := N_cells) (sc := defScope s_cells) (by decide +kernel)) (fun _ _ _ _ _ => (gx_name (pg_name (i := 3) sc_cells.nd rfl (Or.inl rfl)) (by decide))) (fun _ _ _ _ _ => pxts_nil) (fun _ _ _ _ _ => (px_tup (pxs_cons (px_var (pv 2) (by decide)) (pxs_cons (px_var (pv 3) (by decide)) pxs_nil)))) (by decide))))))
    (sss_one (ss_retOwn (pv 1) (by decide)))))
abbrev s_side_of : Stmt := topS 17
abbrev N_side_of : List Str := ["one", "other", "spot", "high", "wide"]
theorem sc_side_of : FnScope N_side_of ["one", "other", "spot"] (defScope s_side_of) := ⟨rfl, rfl, rfl, by decide +kernel, rfl, by decide +kernel, by decide +kernel⟩
def b_side_of : Sl → Res Fl :=
  (sSeq (sSet 3 (e2 mulI (eC (.int 2)) (e2 subD (e2 ixD (eV 1) (eC (.int 0))) (e2 ixD (eV 0) (eC (.int 0))))))
  (sSeq (sSet 4 (e2 mulI (eC (.int 2)) (e2 subD (e2 ixD (eV 1) (eC (.int 1))) (e2 ixD (eV 0) (eC (.int 1))))))
  (sRet (e2 subD (e2 mulI (eV 3) (e2 subD (e2 subD (e2 ixD (eV 2) (eC (.int 1))) (e2 mulI (eC (.int 2)) (e2 ixD (eV 0) (eC (.int 1))))) (eC (.int 1)))) (e2 mulI (eV 4) (e2 subD (e2 subD (e2 ixD (eV 2) (eC (.int 0))) (e2 mulI (eC (.int 2)) (e2 ixD (eV 0) (eC (.int 0))))) (eC (.int 1))))))))
def h_side_of : List D → Res D := runF N_side_of 3 b_side_of
theorem ok_side_of (F : DefAt K mg "side_of" s_side_of) (B : BI mg) : Cal P w K mg base T "side_of" ["one", "other", "spot"] 1 h_side_of := by
  refine fn_cal 0 F sc_side_of (by decide) (M := []) (by decide) (fun _ _ _ _ _ _ us hl => match us, hl with | [_, _, _], _ => rfl) (fun f cdv A outer s H E hr tk => ?_)
  have po := passes_po (X := cxOf (L2.CX P w) P w K mg base N_side_of "side_of" (defScope s_side_of) f cdv A outer s H E) rfl
  have hu := hr.units
  have hu5 := hu5_of hr
  have hu1 := hu_of hr
  exact (sss_cons (ss_set (i := 3) sc_side_of.nd rfl (Or.inl rfl) (by decide) (px_op o_mul px_int (px_op o_sub (px_ix_r o_ix_r (fun _ _ => rfl) (PXg.r (px_var (pv 1) (by decide))) (PXg.r px_int)) (px_ix_r o_ix_r (fun _ _ => rfl) (PXg.r (px_var (pv 0) (by decide))) (PXg.r px_int)))))
    (sss_cons (ss_set (i := 4) sc_side_of.nd rfl (Or.inl rfl) (by decide) (px_op o_mul px_int (px_op o_sub (px_ix_r o_ix_r (fun _ _ => rfl) (PXg.r (px_var (pv 1) (by decide))) (PXg.r px_int)) (px_ix_r o_ix_r (fun _ _ => rfl) (PXg.r (px_var (pv 0) (by decide))) (PXg.r px_int)))))
    (sss_one (ss_ret (px_op o_sub (px_op o_mul (px_var (pv 3) (by decide)) (px_op o_sub (px_op o_sub (px_ix_r o_ix_r (fun _ _ => rfl) (PXg.r (px_var (pv 2) (by decide))) (PXg.r px_int)) (px_op o_mul px_int (px_ix_r o_ix_r (fun _ _ => rfl) (PXg.r (px_var (pv 0) (by decide))) (PXg.r px_int)))) px_int)) (px_op o_mul (px_var (pv 4) (by decide)) (px_op o_sub (px_op o_sub (px_ix_r o_ix_r (fun _ _ => rfl) (PXg.r (px_var (pv 2) (by decide))) (PXg.r px_int)) (px_op o_mul px_int (px_ix_r o_ix_r (fun _ _ => rfl) (PXg.r (px_var (pv 0) (by decide))) (PXg.r px_int)))) px_int)))))))
abbrev s_is_crossed : Stmt := topS 18
abbrev N_is_crossed : List Str := ["one", "other", "cell", "row", "column", "spots", "sides", "spot"]
theorem sc_is_crossed : FnScope N_is_crossed ["one", "other", "cell"] (defScope s_is_crossed) := ⟨rfl, rfl, rfl, by decide +kernel, rfl, by decide +kernel, by decide +kernel⟩
def b_is_crossed : Sl → Res Fl :=
  (sSeq (sAsg (eV 2) (gtT (gtsCons (gtN 3) (gtsCons (gtN 4) gtsNil))))
  (sSeq (sSet 5 (eLst (eCons (eTup (eCons (e2 mulI (eC (.int 2)) (eV 3)) (eCons (e2 mulI (eC (.int 2)) (eV 4)) eNil))) (eCons (eTup (eCons (e2 mulI (eC (.int 2)) (eV 3)) (eCons (e2 addD (e2 mulI (eC (.int 2)) (eV 4)) (eC (.int 2))) eNil))) (eCons (eTup (eCons (e2 addD (e2 mulI (eC (.int 2)) (eV 3)) (eC (.int 2))) (eCons (e2 mulI (eC (.int 2)) (eV 4)) eNil))) (eCons (eTup (eCons (e2 addD (e2 mulI (eC (.int 2)) (eV 3)) (eC (.int 2))) (eCons (e2 addD (e2 mulI (eC (.int 2)) (eV 4)) (eC (.int 2))) eNil))) eNil))))))
  (sSeq (sSet 6 (eLc (eSeq (eV 5)) (gtN 7) bYes (eCall h_side_of (eCons (eV 0) (eCons (eV 1) (eCons (eV 7) eNil)))) [7]))
  (sRet (eChain ltI ltI (e1 minD (eV 6)) (eC (.int 0)) (e1 maxD (eV 6)))))))
def h_is_crossed : List D → Res D := runF N_is_crossed 3 b_is_crossed
theorem ok_is_crossed (F : DefAt K mg "is_crossed" s_is_crossed) (B : BI mg) (G_side_of : Cal P w K mg base T "side_of" ["one", "other", "spot"] 1 h_side_of) : Cal P w K mg base T "is_crossed" ["one", "other", "cell"] 2 h_is_crossed := by
  refine fn_cal 1 F sc_is_crossed (by decide) (M := []) (by decide) (fun _ _ _ _ _ _ us hl => match us, hl with | [_, _, _], _ => rfl) (fun f cdv A outer s H E hr tk => ?_)
  have po := passes_po (X := cxOf (L2.CX P w) P w K mg base N_is_crossed "is_crossed" (defScope s_is_crossed) f cdv A outer s H E) rfl
  have hu := hr.units
  have hu5 := hu5_of hr
  have hu1 := hu_of hr
  exact (sss_cons (ss_asg (px_var (pv 2) (by decide)) (gx_tup rfl (gsx_cons (gx_name (pg_name (i := 3) sc_is_crossed.nd rfl (Or.inl rfl)) (by decide)) (gsx_cons (gx_name (pg_name (i := 4) sc_is_crossed.nd rfl (Or.inl rfl)) (by decide)) gsx_nil)) gts_len2))
    (sss_cons (ss_set (i := 5) sc_is_crossed.nd rfl (Or.inl rfl) (by decide) (PXf.x (pxf_lst (pxs_cons (px_tup (pxs_cons (px_op o_mul px_int (px_var (pv 3) (by decide))) (pxs_cons (px_op o_mul px_int (px_var (pv 4) (by decide))) pxs_nil))) (pxs_cons (px_tup (pxs_cons (px_op o_mul px_int (px_var (pv 3) (by decide))) (pxs_cons (px_op o_add (px_op o_mul px_int (px_var (pv 4) (by decide))) px_int) pxs_nil))) (pxs_cons (px_tup (pxs_cons (px_op o_add (px_op o_mul px_int (px_var (pv 3) (by decide))) px_int) (pxs_cons (px_op o_mul px_int (px_var (pv 4) (by decide))) pxs_nil))) (pxs_cons (px_tup (pxs_cons (px_op o_add (px_op o_mul px_int (px_var (pv 3) (by decide))) px_int) (pxs_cons (px_op o_add (px_op o_mul px_int (px_var (pv 4) (by decide))) px_int) pxs_nil))) pxs_nil)))))))
    (sss_cons (ss_setLc (i := 6) rfl rfl (sw_true rfl rfl rfl (by decide +kernel)) (by decide) (pxl_lc (own := [("spot", 7)]) rfl sc_is_crossed.nd (ixr_seq (PXg.r (px_var (pv 5) (by decide)))) (blkOk_by (N := N_is_crossed) (sc := defScope s_is_crossed) (by decide +kernel)) (fun _ _ _ _ _ => (gx_name (pg_name (i := 7) sc_is_crossed.nd rfl (Or.inl rfl)) (by decide))) (fun _ _ _ _ _ => pxts_nil) (fun _ _ _ _ _ => (px_callC G_side_of (hr.mono (by decide)) rfl LamX.takes0 (pxs_cons (px_var (pv 0) (by decide)) (pxs_cons (px_var (pv 1) (by decide)) (pxs_cons (px_var (pv 7) (by decide)) pxs_nil))))) (by decide)))
    (sss_one (ss_ret (px_chain o_lt o_lt (by with_unfolding_all rfl) (px_b1 (o_min rfl) rfl B.min (by decide +kernel) (PXg.r (px_var (pv 6) (by decide)))) px_int (px_b1 (o_max rfl) rfl B.max (by decide +kernel) (PXg.r (px_var (pv 6) (by decide))))))))))
abbrev s_crossed : Stmt := topS 19
abbrev N_crossed : List Str := ["one", "other", "found", "row", "column"]
theorem sc_crossed : FnScope N_crossed ["one", "other"] (defScope s_crossed) := ⟨rfl, rfl, rfl, by decide +kernel, rfl, by decide +kernel, by decide +kernel⟩
def b_crossed : Sl → Res Fl :=
  (sSeq (sSet 2 (eLst eNil))
  (sSeq (sFor (eRng2 (eCons (eN min2D (eCons (e2 ixD (eV 0) (eC (.int 0))) (eCons (e2 ixD (eV 1) (eC (.int 0))) eNil))) (eCons (e2 addD (eN max2D (eCons (e2 ixD (eV 0) (eC (.int 0))) (eCons (e2 ixD (eV 1) (eC (.int 0))) eNil))) (eC (.int 1))) eNil))) (gtN 3) (sFor (eRng2 (eCons (eN min2D (eCons (e2 ixD (eV 0) (eC (.int 1))) (eCons (e2 ixD (eV 1) (eC (.int 1))) eNil))) (eCons (e2 addD (eN max2D (eCons (e2 ixD (eV 0) (eC (.int 1))) (eCons (e2 ixD (eV 1) (eC (.int 1))) eNil))) (eC (.int 1))) eNil))) (gtN 4) (sIf (bAnd (eB (e2 notInD (eTup (eCons (eV 3) (eCons (eV 4) eNil))) (eTup (eCons (eV 0) (eCons (eV 1) eNil))))) (eB (eCall h_is_crossed (eCons (eV 0) (eCons (eV 1) (eCons (eTup (eCons (eV 3) (eCons (eV 4) eNil))) eNil)))))) (sApp 2 (eTup (eCons (eV 3) (eCons (eV 4) eNil)))) sNil)))
  (sRet (e1 tupleD (eV 2)))))
def h_crossed : List D → Res D := runF N_crossed 2 b_crossed
theorem ok_crossed (F : DefAt K mg "crossed" s_crossed) (B : BI mg) (G_is_crossed : Cal P w K mg base T "is_crossed" ["one", "other", "cell"] 2 h_is_crossed) : Cal P w K mg base T "crossed" ["one", "other"] 3 h_crossed := by
  refine fn_cal 2 F sc_crossed (by decide) (M := [2]) (by decide) (fun _ _ _ _ _ _ us hl => match us, hl with | [_, _], _ => rfl) (fun f cdv A outer s H E hr tk => ?_)
  have po := passes_po (X := cxOf (L2.CX P w) P w K mg base N_crossed "crossed" (defScope s_crossed) f cdv A outer s H E) rfl
  have hu := hr.units
  have hu5 := hu5_of hr
  have hu1 := hu_of hr
  exact (sss_cons (ss_own (i := 2) sc_crossed.nd rfl (Or.inl rfl) (by decide) (pxf_lst pxs_nil))
    (sss_cons (ss_for po rfl (ix_rng2 rfl B.range (pxs_cons (px_bN (o_min2 rfl) rfl B.min (by decide +kernel) (pxs_cons (px_ix_r o_ix_r (fun _ _ => rfl) (PXg.r (px_var (pv 0) (by decide))) (PXg.r px_int)) (pxs_cons (px_ix_r o_ix_r (fun _ _ => rfl) (PXg.r (px_var (pv 1) (by decide))) (PXg.r px_int)) pxs_nil))) (pxs_cons (px_op o_add (px_bN (o_max2 rfl) rfl B.max (by decide +kernel) (pxs_cons (px_ix_r o_ix_r (fun _ _ => rfl) (PXg.r (px_var (pv 0) (by decide))) (PXg.r px_int)) (pxs_cons (px_ix_r o_ix_r (fun _ _ => rfl) (PXg.r (px_var (pv 1) (by decide))) (PXg.r px_int)) pxs_nil))) px_int) pxs_nil))) (gx_name (pg_name (i := 3) sc_crossed.nd rfl (Or.inl rfl)) (by decide)) (sss_one (ss_for po rfl (ix_rng2 rfl B.range (pxs_cons (px_bN (o_min2 rfl) rfl B.min (by decide +kernel) (pxs_cons (px_ix_r o_ix_r (fun _ _ => rfl) (PXg.r (px_var (pv 0) (by decide))) (PXg.r px_int)) (pxs_cons (px_ix_r o_ix_r (fun _ _ => rfl) (PXg.r (px_var (pv 1) (by decide))) (PXg.r px_int)) pxs_nil))) (pxs_cons (px_op o_add (px_bN (o_max2 rfl) rfl B.max (by decide +kernel) (pxs_cons (px_ix_r o_ix_r (fun _ _ => rfl) (PXg.r (px_var (pv 0) (by decide))) (PXg.r px_int)) (pxs_cons (px_ix_r o_ix_r (fun _ _ => rfl) (PXg.r (px_var (pv 1) (by decide))) (PXg.r px_int)) pxs_nil))) px_int) pxs_nil))) (gx_name (pg_name (i := 4) sc_crossed.nd rfl (Or.inl rfl)) (by decide)) (sss_one (ss_if (pxt_w (pxw_and (pxt_cmp_r (o_notIn_r hu5) (by with_unfolding_all rfl) (PXg.r (px_tup (pxs_cons (px_var (pv 3) (by decide)) (pxs_cons (px_var (pv 4) (by decide)) pxs_nil)))) (PXg.r (px_tup (pxs_cons (px_var (pv 0) (by decide)) (pxs_cons (px_var (pv 1) (by decide)) pxs_nil))))) (pxw_and1 (pxt_val (px_callC G_is_crossed (hr.mono (by decide)) rfl tk (pxs_cons (px_var (pv 0) (by decide)) (pxs_cons (px_var (pv 1) (by decide)) (pxs_cons (px_tup (pxs_cons (px_var (pv 3) (by decide)) (pxs_cons (px_var (pv 4) (by decide)) pxs_nil))) pxs_nil)))))))) (sss_one (ss_append (i := 2) (pv 2) (by decide) (px_tup (pxs_cons (px_var (pv 3) (by decide)) (pxs_cons (px_var (pv 4) (by decide)) pxs_nil))))) sss_nil)))))
    (sss_one (ss_ret (px_t1 o_tuple rfl B.tuple (by decide +kernel) (pxr_own (pv 2) (by decide)))))))
abbrev s_is_near : Stmt := topS 20
abbrev N_is_near : List Str := ["hall", "one", "other", "high", "wide"]
theorem sc_is_near : FnScope N_is_near ["hall", "one", "other"] (defScope s_is_near) := ⟨rfl, rfl, rfl, by decide +kernel, rfl, by decide +kernel, by decide +kernel⟩
def b_is_near : Sl → Res Fl :=
  (sSeq (sSet 3 (e2 subD (e2 ixD (eV 1) (eC (.int 0))) (e2 ixD (eV 2) (eC (.int 0)))))
  (sSeq (sSet 4 (e2 subD (e2 ixD (eV 1) (eC (.int 1))) (e2 ixD (eV 2) (eC (.int 1)))))
  (sRet (eOr (e2 eqD (e2 ixD (eV 0) (eC (.int 1))) (eC (.int 0))) (e2 leI (e2 addD (e2 mulI (eV 3) (eV 3)) (e2 mulI (eV 4) (eV 4))) (e2 ixD (eV 0) (eC (.int 1))))))))
def h_is_near : List D → Res D := runF N_is_near 3 b_is_near
theorem ok_is_near (F : DefAt K mg "is_near" s_is_near) (B : BI mg) : Cal P w K mg base T "is_near" ["hall", "one", "other"] 1 h_is_near := by
  refine fn_cal 0 F sc_is_near (by decide) (M := []) (by decide) (fun _ _ _ _ _ _ us hl => match us, hl with | [_, _, _], _ => rfl) (fun f cdv A outer s H E hr tk => ?_)
  have po := passes_po (X := cxOf (L2.CX P w) P w K mg base N_is_near "is_near" (defScope s_is_near) f cdv A outer s H E) rfl
  have hu := hr.units
  have hu5 := hu5_of hr
  have hu1 := hu_of hr
  exact (sss_cons (ss_set (i := 3) sc_is_near.nd rfl (Or.inl rfl) (by decide) (px_op o_sub (px_ix_r o_ix_r (fun _ _ => rfl) (PXg.r (px_var (pv 1) (by decide))) (PXg.r px_int)) (px_ix_r o_ix_r (fun _ _ => rfl) (PXg.r (px_var (pv 2) (by decide))) (PXg.r px_int))))
    (sss_cons (ss_set (i := 4) sc_is_near.nd rfl (Or.inl rfl) (by decide) (px_op o_sub (px_ix_r o_ix_r (fun _ _ => rfl) (PXg.r (px_var (pv 1) (by decide))) (PXg.r px_int)) (px_ix_r o_ix_r (fun _ _ => rfl) (PXg.r (px_var (pv 2) (by decide))) (PXg.r px_int))))
    (sss_one (ss_ret (px_or (px_cmp_r (o_eq_r hu) (nomark _) (PXg.r (px_ix_r o_ix_r (fun _ _ => rfl) (PXg.r (px_var (pv 0) (by decide))) (PXg.r px_int))) (PXg.r px_int)) (px_one (px_cmp o_le (nomark _) (px_op o_add (px_op o_mul (px_var (pv 3) (by decide)) (px_var (pv 3) (by decide))) (px_op o_mul (px_var (pv 4) (by decide)) (px_var (pv 4) (by decide)))) (px_ix_r o_ix_r (fun _ _ => rfl) (PXg.r (px_var (pv 0) (by decide))) (PXg.r px_int)))))))))
abbrev s_sees : Stmt := topS 21
abbrev N_sees : List Str := ["hall", "one", "other", "cell"]
theorem sc_sees : FnScope N_sees ["hall", "one", "other"] (defScope s_sees) := ⟨rfl, rfl, rfl, by decide +kernel, rfl, by decide +kernel, by decide +kernel⟩
def b_sees : Sl → Res Fl :=
  (sSeq (sDrop (eCall h_need_cell (eCons (eV 0) (eCons (eV 1) eNil))))
  (sSeq (sDrop (eCall h_need_cell (eCons (eV 0) (eCons (eV 2) eNil))))
  (sSeq (sIf (bOr (bNot (eB (eCall h_is_free (eCons (eV 0) (eCons (eV 1) eNil))))) (bOr (bNot (eB (eCall h_is_free (eCons (eV 0) (eCons (eV 2) eNil))))) (bNot (eB (eCall h_is_near (eCons (eV 0) (eCons (eV 1) (eCons (eV 2) eNil)))))))) (sRet (eC (.bl false))) sNil)
  (sRet (e1 allD (eLc (eSeq (eCall h_crossed (eCons (eV 1) (eCons (eV 2) eNil)))) (gtN 3) bYes (eCall h_is_free (eCons (eV 0) (eCons (eV 3) eNil))) [3]))))))
def h_sees : List D → Res D := runF N_sees 3 b_sees
theorem ok_sees (F : DefAt K mg "sees" s_sees) (B : BI mg) (G_need_cell : Cal P w K mg base T "need_cell" ["hall", "cell"] 2 h_need_cell) (G_is_near : Cal P w K mg base T "is_near" ["hall", "one", "other"] 1 h_is_near) (G_is_free : Cal P w K mg base T "is_free" ["hall", "cell"] 1 h_is_free) (G_crossed : Cal P w K mg base T "crossed" ["one", "other"] 3 h_crossed) : Cal P w K mg base T "sees" ["hall", "one", "other"] 4 h_sees := by
  refine fn_cal 3 F sc_sees (by decide) (M := []) (by decide) (fun _ _ _ _ _ _ us hl => match us, hl with | [_, _, _], _ => rfl) (fun f cdv A outer s H E hr tk => ?_)
  have po := passes_po (X := cxOf (L2.CX P w) P w K mg base N_sees "sees" (defScope s_sees) f cdv A outer s H E) rfl
  have hu := hr.units
  have hu5 := hu5_of hr
  have hu1 := hu_of hr
  exact (sss_cons (ss_drop (px_callC G_need_cell (hr.mono (by decide)) rfl tk (pxs_cons (px_var (pv 0) (by decide)) (pxs_cons (px_var (pv 1) (by decide)) pxs_nil))))
    (sss_cons (ss_drop (px_callC G_need_cell (hr.mono (by decide)) rfl tk (pxs_cons (px_var (pv 0) (by decide)) (pxs_cons (px_var (pv 2) (by decide)) pxs_nil))))
    (sss_cons (ss_if (pxt_w (pxw_or (pxt_not (pxt_val (px_callC G_is_free (hr.mono (by decide)) rfl tk (pxs_cons (px_var (pv 0) (by decide)) (pxs_cons (px_var (pv 1) (by decide)) pxs_nil))))) (pxw_or (pxt_not (pxt_val (px_callC G_is_free (hr.mono (by decide)) rfl tk (pxs_cons (px_var (pv 0) (by decide)) (pxs_cons (px_var (pv 2) (by decide)) pxs_nil))))) (pxw_or1 (pxt_not (pxt_val (px_callC G_is_near (hr.mono (by decide)) rfl tk (pxs_cons (px_var (pv 0) (by decide)) (pxs_cons (px_var (pv 1) (by decide)) (pxs_cons (px_var (pv 2) (by decide)) pxs_nil)))))))))) (sss_one (ss_ret px_bl)) sss_nil)
    (sss_one (ss_ret (px_b1 (o_all rfl) rfl B.all (by decide +kernel) (PXg.r (PXf.x (PXl.fr (pxl_lc (own := [("cell", 3)]) rfl sc_sees.nd (ixr_seq (PXg.r (px_callC G_crossed (hr.mono (by decide)) rfl tk (pxs_cons (px_var (pv 1) (by decide)) (pxs_cons (px_var (pv 2) (by decide)) pxs_nil))))) (blkOk_by (N := N_sees) (sc := defScope s_sees) (by decide +kernel)) (fun _ _ _ _ _ => (gx_name (pg_name (i := 3) sc_sees.nd rfl (Or.inl rfl)) (by decide))) (fun _ _ _ _ _ => pxts_nil) (fun _ _ _ _ _ => (px_callC G_is_free (hr.mono (by decide)) rfl LamX.takes0 (pxs_cons (px_var (pv 0) (by decide)) (pxs_cons (px_var (pv 3) (by decide)) pxs_nil)))) (by decide)))))))))))
abbrev s_neighbours : Stmt := topS 24
abbrev N_neighbours : List Str := ["hall", "cell", "some", "high", "wide", "other"]
theorem sc_neighbours : FnScope N_neighbours ["hall", "cell"] (defScope s_neighbours) := ⟨rfl, rfl, rfl, by decide +kernel, rfl, by decide +kernel, by decide +kernel⟩
def b_neighbours : Sl → Res Fl :=
  (sSeq (sSet 2 (eLc (eSeq (eC (.ctup [.ctup [.int (-1), .int (0)], .ctup [.int (0), .int (-1)], .ctup [.int (0), .int (1)], .ctup [.int (1), .int (0)]]))) (gtT (gtsCons (gtN 3) (gtsCons (gtN 4) gtsNil))) bYes (eTup (eCons (e2 addD (e2 ixD (eV 1) (eC (.int 0))) (eV 3)) (eCons (e2 addD (e2 ixD (eV 1) (eC (.int 1))) (eV 4)) eNil))) [3, 4]))
  (sRet (eLc (eSeq (eV 2)) (gtN 5) (bAnd (eB (eCall h_is_inside (eCons (eV 0) (eCons (eV 5) eNil)))) (eB (eCall h_is_free (eCons (eV 0) (eCons (eV 5) eNil))))) (eV 5) [5])))
def h_neighbours : List D → Res D := runF N_neighbours 2 b_neighbours
theorem ok_neighbours (F : DefAt K mg "neighbours" s_neighbours) (B : BI mg) (G_is_free : Cal P w K mg base T "is_free" ["hall", "cell"] 1 h_is_free) (G_is_inside : Cal P w K mg base T "is_inside" ["hall", "cell"] 1 h_is_inside) (C_STEPS : CstAt K mg "STEPS" (.ctup [.ctup [.int (-1), .int (0)], .ctup [.int (0), .int (-1)], .ctup [.int (0), .int (1)], .ctup [.int (1), .int (0)]])) : Cal P w K mg base T "neighbours" ["hall", "cell"] 2 h_neighbours := by
  refine fn_cal 1 F sc_neighbours (by decide) (M := []) (by decide) (fun _ _ _ _ _ _ us hl => match us, hl with | [_, _], _ => rfl) (fun f cdv A outer s H E hr tk => ?_)
  have po := passes_po (X := cxOf (L2.CX P w) P w K mg base N_neighbours "neighbours" (defScope s_neighbours) f cdv A outer s H E) rfl
  have hu := hr.units
  have hu5 := hu5_of hr
  have hu1 := hu_of hr
  exact (sss_cons (ss_setLc (i := 2) rfl rfl (sw_true rfl rfl rfl (by decide +kernel)) (by decide) (pxl_lc (own := [("high", 3), ("wide", 4)]) rfl sc_neighbours.nd (ixr_seq (PXg.r (px_cst C_STEPS rfl))) (blkOk_by (N := N_neighbours) (sc := defScope s_neighbours) (by decide +kernel)) (fun _ _ _ _ _ => (gx_tup rfl (gsx_cons (gx_name (pg_name (i := 3) sc_neighbours.nd rfl (Or.inl rfl)) (by decide)) (gsx_cons (gx_name (pg_name (i := 4) sc_neighbours.nd rfl (Or.inl rfl)) (by decide)) gsx_nil)) gts_len2)) (fun _ _ _ _ _ => pxts_nil) (fun _ _ _ _ _ => (px_tup (pxs_cons (px_op o_add (px_ix_r o_ix_r (fun _ _ => rfl) (PXg.r (px_var (pv 1) (by decide))) (PXg.r px_int)) (px_var (pv 3) (by decide))) (pxs_cons (px_op o_add (px_ix_r o_ix_r (fun _ _ => rfl) (PXg.r (px_var (pv 1) (by decide))) (PXg.r px_int)) (px_var (pv 4) (by decide))) pxs_nil)))) (by decide)))
    (sss_one (ss_ret (PXf.x (PXl.fr (pxl_lc (own := [("other", 5)]) rfl sc_neighbours.nd (ixr_seq (PXg.r (px_var (pv 2) (by decide)))) (blkOk_by (N := N_neighbours) (sc := defScope s_neighbours) (by decide +kernel)) (fun _ _ _ _ _ => (gx_name (pg_name (i := 5) sc_neighbours.nd rfl (Or.inl rfl)) (by decide))) (fun _ _ _ _ _ => (pxts_one (pxt_w (pxw_and (pxt_val (px_callC G_is_inside (hr.mono (by decide)) rfl LamX.takes0 (pxs_cons (px_var (pv 0) (by decide)) (pxs_cons (px_var (pv 5) (by decide)) pxs_nil)))) (pxw_and1 (pxt_val (px_callC G_is_free (hr.mono (by decide)) rfl LamX.takes0 (pxs_cons (px_var (pv 0) (by decide)) (pxs_cons (px_var (pv 5) (by decide)) pxs_nil))))))))) (fun _ _ _ _ _ => (px_var (pv 5) (by decide))) (by decide)))))))
abbrev s_part_of : Stmt := topS 25
abbrev N_part_of : List Str := ["hall", "cell", "found", "todo", "other"]
theorem sc_part_of : FnScope N_part_of ["hall", "cell"] (defScope s_part_of) := ⟨rfl, rfl, rfl, by decide +kernel, rfl, by decide +kernel, by decide +kernel⟩
def b_part_of : Sl → Res Fl :=
  (sSeq (sSet 2 (eD1 (eV 1) (eC (.bl true))))
  (sSeq (sSet 3 (eLst (eCons (eV 1) eNil)))
  (sSeq (whileGo (eB (e2 gtI (e1 lenD (eV 3)) (eC (.int 0)))) (sForM (mSeq (mCall h_neighbours (mCons (mP (eV 0)) (mCons (mPop 3) mNil)))) (gtN 4) (sIf (eB (e2 dninD (eV 4) (eV 2))) (sSeq (sPut 2 (eV 4) (eC (.bl true)))
  (sApp 3 (eV 4))) sNil)) 200)
  (sRet (e1 tupleD (e1 sortD (eV 2)))))))
def h_part_of : List D → Res D := runF N_part_of 2 b_part_of
theorem ok_part_of (F : DefAt K mg "part_of" s_part_of) (B : BI mg) (G_neighbours : Cal P w K mg base T "neighbours" ["hall", "cell"] 2 h_neighbours) : Cal P w K mg base T "part_of" ["hall", "cell"] 3 h_part_of := by
  refine fn_cal 2 F sc_part_of (by decide) (M := [2, 3]) (by decide) (fun _ _ _ _ _ _ us hl => match us, hl with | [_, _], _ => rfl) (fun f cdv A outer s H E hr tk => ?_)
  have po := passes_po (X := cxOf (L2.CX P w) P w K mg base N_part_of "part_of" (defScope s_part_of) f cdv A outer s H E) rfl
  have hu := hr.units
  have hu5 := hu5_of hr
  have hu1 := hu_of hr
  exact (sss_cons (ss_own (i := 2) sc_part_of.nd rfl (Or.inl rfl) (by decide) (pxf_d1 hu5 (px_var (pv 1) (by decide)) px_bl))
    (sss_cons (ss_own (i := 3) sc_part_of.nd rfl (Or.inl rfl) (by decide) (pxf_lst (pxs_cons (px_var (pv 1) (by decide)) pxs_nil)))
    (sss_cons (ss_while 200 po (pxt_cmp o_gt (nomark _) (px_b1 (o_len) rfl B.len PySem.boot_len (pxr_own (pv 3) (by decide))) px_int) (sss_one (ss_forM po rfl (ixm_seq (pxm_call G_neighbours (hr.mono (by decide)) rfl tk (pxms_cons (pxm_of (px_var (pv 0) (by decide))) (pxms_cons (pxm_pop (i := 3) (pv 3) (by decide)) pxms_nil)))) (gx_name (pg_name (i := 4) sc_part_of.nd rfl (Or.inl rfl)) (by decide)) (sss_one (ss_if (pxt_dnotin hu1 (px_var (pv 4) (by decide)) (pxr_own (pv 2) (by decide)) (by with_unfolding_all rfl)) (sss_cons (ss_dput (i := 2) hu1 (pv 2) (by decide) (px_var (pv 4) (by decide)) px_bl)
    (sss_one (ss_append (i := 3) (pv 3) (by decide) (px_var (pv 4) (by decide))))) sss_nil)))))
    (sss_one (ss_ret (px_t1 o_tuple rfl B.tuple (by decide +kernel) (PXg.r (PXf.x (pxf_b1 (ol_sorted rfl) rfl B.sorted (by decide +kernel) (pxr_own (pv 2) (by decide)))))))))))
abbrev s_parts : Stmt := topS 26
abbrev N_parts : List Str := ["hall", "found", "cell", "part"]
theorem sc_parts : FnScope N_parts ["hall"] (defScope s_parts) := ⟨rfl, rfl, rfl, by decide +kernel, rfl, by decide +kernel, by decide +kernel⟩
def b_parts : Sl → Res Fl :=
  (sSeq (sSet 1 (eLst eNil))
  (sSeq (sFor (eSeq (eCall h_cells (eCons (eV 0) eNil))) (gtN 2) (sIf (bAnd (eB (eCall h_is_free (eCons (eV 0) (eCons (eV 2) eNil)))) (bNot (eB (e1 anyD (eLc (eSeq (eV 1)) (gtN 3) bYes (e2 inD (eV 2) (eV 3)) [3]))))) (sApp 1 (eCall h_part_of (eCons (eV 0) (eCons (eV 2) eNil)))) sNil))
  (sRet (e1 tupleD (eV 1)))))
def h_parts : List D → Res D := runF N_parts 1 b_parts
theorem ok_parts (F : DefAt K mg "parts" s_parts) (B : BI mg) (G_cells : Cal P w K mg base T "cells" ["hall"] 1 h_cells) (G_is_free : Cal P w K mg base T "is_free" ["hall", "cell"] 1 h_is_free) (G_part_of : Cal P w K mg base T "part_of" ["hall", "cell"] 3 h_part_of) : Cal P w K mg base T "parts" ["hall"] 4 h_parts := by
  refine fn_cal 3 F sc_parts (by decide) (M := [1]) (by decide) (fun _ _ _ _ _ _ us hl => match us, hl with | [_], _ => rfl) (fun f cdv A outer s H E hr tk => ?_)
  have po := passes_po (X := cxOf (L2.CX P w) P w K mg base N_parts "parts" (defScope s_parts) f cdv A outer s H E) rfl
  have hu := hr.units
  have hu5 := hu5_of hr
  have hu1 := hu_of hr
  exact (sss_cons (ss_own (i := 1) sc_parts.nd rfl (Or.inl rfl) (by decide) (pxf_lst pxs_nil))
    (sss_cons (ss_for po rfl (ix_seq (px_callC G_cells (hr.mono (by decide)) rfl tk (pxs_cons (px_var (pv 0) (by decide)) pxs_nil))) (gx_name (pg_name (i := 2) sc_parts.nd rfl (Or.inr rfl)) (by decide)) (sss_one (ss_if (pxt_w (pxw_and (pxt_val (px_callC G_is_free (hr.mono (by decide)) rfl tk (pxs_cons (px_var (pv 0) (by decide)) (pxs_cons (px_var (pv 2) (by decide)) pxs_nil)))) (pxw_and1 (pxt_not (pxt_val (px_b1 (o_any rfl) rfl B.any (by decide +kernel) (PXg.r (PXf.x (PXl.fr (pxl_lc (own := [("part", 3)]) rfl sc_parts.nd (ixr_seq (pxr_own (pv 1) (by decide))) (blkOk_by (N := N_parts) (sc := defScope s_parts) (by decide +kernel)) (fun _ _ _ _ _ => (gx_name (pg_name (i := 3) sc_parts.nd rfl (Or.inl rfl)) (by decide))) (fun _ _ _ _ _ => pxts_nil) (fun _ _ _ _ _ => (px_cmp_r (o_in_r hu5) (by with_unfolding_all rfl) (PXg.r (px_var (pv 2) (by decide))) (PXg.r (px_var (pv 3) (by decide))))) (by decide))))))))))) (sss_one (ss_append (i := 1) (pv 1) (by decide) (px_callC G_part_of (hr.mono (by decide)) rfl tk (pxs_cons (px_var (pv 0) (by decide)) (pxs_cons (px_var (pv 2) (by decide)) pxs_nil))))) sss_nil)))
    (sss_one (ss_ret (px_t1 o_tuple rfl B.tuple (by decide +kernel) (pxr_own (pv 1) (by decide)))))))
abbrev s_is_seen : Stmt := topS 27
abbrev N_is_seen : List Str := ["hall", "lookers", "cell", "looker"]
theorem sc_is_seen : FnScope N_is_seen ["hall", "lookers", "cell"] (defScope s_is_seen) := ⟨rfl, rfl, rfl, by decide +kernel, rfl, by decide +kernel, by decide +kernel⟩
def b_is_seen : Sl → Res Fl :=
  (sRet (e1 anyD (eLc (eSeq (eV 1)) (gtN 3) bYes (eCall h_sees (eCons (eV 0) (eCons (eV 3) (eCons (eV 2) eNil)))) [3])))
def h_is_seen : List D → Res D := runF N_is_seen 3 b_is_seen
theorem ok_is_seen (F : DefAt K mg "is_seen" s_is_seen) (B : BI mg) (G_sees : Cal P w K mg base T "sees" ["hall", "one", "other"] 4 h_sees) : Cal P w K mg base T "is_seen" ["hall", "lookers", "cell"] 5 h_is_seen := by
  refine fn_cal 4 F sc_is_seen (by decide) (M := []) (by decide) (fun _ _ _ _ _ _ us hl => match us, hl with | [_, _, _], _ => rfl) (fun f cdv A outer s H E hr tk => ?_)
  have po := passes_po (X := cxOf (L2.CX P w) P w K mg base N_is_seen "is_seen" (defScope s_is_seen) f cdv A outer s H E) rfl
  have hu := hr.units
  have hu5 := hu5_of hr
  have hu1 := hu_of hr
  exact (sss_one (ss_ret (px_b1 (o_any rfl) rfl B.any (by decide +kernel) (PXg.r (PXf.x (PXl.fr (pxl_lc (own := [("looker", 3)]) rfl sc_is_seen.nd (ixr_seq (PXg.r (px_var (pv 1) (by decide)))) (blkOk_by (N := N_is_seen) (sc := defScope s_is_seen) (by decide +kernel)) (fun _ _ _ _ _ => (gx_name (pg_name (i := 3) sc_is_seen.nd rfl (Or.inl rfl)) (by decide))) (fun _ _ _ _ _ => pxts_nil) (fun _ _ _ _ _ => (px_callC G_sees (hr.mono (by decide)) rfl LamX.takes0 (pxs_cons (px_var (pv 0) (by decide)) (pxs_cons (px_var (pv 3) (by decide)) (pxs_cons (px_var (pv 2) (by decide)) pxs_nil))))) (by decide))))))))
abbrev s_costs_to : Stmt := topS 28
abbrev N_costs_to : List Str := ["hall", "lookers", "goal", "cell", "weights", "todo", "other", "cost", "found", "one"]
theorem sc_costs_to : FnScope N_costs_to ["hall", "lookers", "goal"] (defScope s_costs_to) := ⟨rfl, rfl, rfl, by decide +kernel, rfl, by decide +kernel, by decide +kernel⟩
def b_costs_to : Sl → Res Fl :=
  (sSeq (sSet 4 (e1 dictD (eLc (eSeq (eCall h_part_of (eCons (eV 0) (eCons (eV 2) eNil)))) (gtN 3) bYes (eTup (eCons (eV 3) (eCons (e1 intD (eCall h_is_seen (eCons (eV 0) (eCons (eV 1) (eCons (eV 3) eNil))))) eNil))) [3])))
  (sSeq (sSet 8 (eD1 (eV 2) (eTup (eCons (e2 dgetD (eV 4) (eV 2)) (eCons (eC (.int 1)) eNil)))))
  (sSeq (sSet 5 (eLst (eCons (eV 2) eNil)))
  (sSeq (whileGo (eB (e2 gtI (e1 lenD (eV 5)) (eC (.int 0)))) (sSeq (sSet 3 (eMinK 9 (eV 5) (e2 dgetD (eV 8) (eV 9))))
  (sSeq (sRem 5 (eV 3))
  (sFor (eSeq (eCall h_neighbours (eCons (eV 0) (eCons (eV 3) eNil)))) (gtN 6) (sSeq (sSet 7 (eTup (eCons (e2 addD (e2 ixD (e2 dgetD (eV 8) (eV 3)) (eC (.int 0))) (e2 dgetD (eV 4) (eV 6))) (eCons (e2 addD (e2 ixD (e2 dgetD (eV 8) (eV 3)) (eC (.int 1))) (eC (.int 1))) eNil))))
  (sIf (bOr (eB (e2 dninD (eV 6) (eV 8))) (eB (e2 ltG (eV 7) (e2 dgetD (eV 8) (eV 6))))) (sSeq (sPut 8 (eV 6) (eV 7))
  (sIf (eB (e2 notInD (eV 6) (eV 5))) (sApp 5 (eV 6)) sNil)) sNil))))) 200)
  (sRet (eV 8))))))
def h_costs_to : List D → Res D := runF N_costs_to 3 b_costs_to
theorem ok_costs_to {cC_costs_to cP_costs_to : Addr} (F : DefAtC K mg "costs_to" s_costs_to cC_costs_to) (TB_costs_to : LamX.TabB base mg cC_costs_to cP_costs_to) (mT_costs_to : (cP_costs_to, lamQ "costs_to") ∈ T) (uT_costs_to : ∀ p ∈ T, p.1 = cP_costs_to → p.2 = lamQ "costs_to") (TK : ToldK K mg s__law_told) (B : BI mg) (G_part_of : Cal P w K mg base T "part_of" ["hall", "cell"] 3 h_part_of) (G_is_seen : Cal P w K mg base T "is_seen" ["hall", "lookers", "cell"] 5 h_is_seen) (G_neighbours : Cal P w K mg base T "neighbours" ["hall", "cell"] 2 h_neighbours) : Cal P w K mg base T "costs_to" ["hall", "lookers", "goal"] 6 h_costs_to := by
  refine fn_calC 5 F sc_costs_to (by decide) (M := [5, 8]) (by decide) (fun _ _ _ _ _ _ us hl => match us, hl with | [_, _, _], _ => rfl) (fun f A outer s H E hr tk => ?_)
  have po := passes_po (X := cxOf (L2.CX P w) P w K mg base N_costs_to "costs_to" (defScope s_costs_to) f (.ref cC_costs_to) A outer s H E) rfl
  have hu := hr.units
  have hu5 := hu5_of hr
  have hu1 := hu_of hr
  exact (sss_cons (ss_set (i := 4) sc_costs_to.nd rfl (Or.inl rfl) (by decide) (PXf.x (pxf_k1 (ok_dict rfl (hu2_of hu5)) rfl B.dict (by decide +kernel) (PXg.r (PXf.x (PXl.fr (pxl_lc (own := [("cell", 3)]) rfl sc_costs_to.nd (ixr_seq (PXg.r (px_callC G_part_of (hr.mono (by decide)) rfl tk (pxs_cons (px_var (pv 0) (by decide)) (pxs_cons (px_var (pv 2) (by decide)) pxs_nil))))) (blkOk_by (N := N_costs_to) (sc := defScope s_costs_to) (by decide +kernel)) (fun _ _ _ _ _ => (gx_name (pg_name (i := 3) sc_costs_to.nd rfl (Or.inl rfl)) (by decide))) (fun _ _ _ _ _ => pxts_nil) (fun _ _ _ _ _ => (px_tup (pxs_cons (px_var (pv 3) (by decide)) (pxs_cons (px_t1 o_int rfl B.int (by decide +kernel) (PXg.r (px_callC G_is_seen (hr.mono (by decide)) rfl LamX.takes0 (pxs_cons (px_var (pv 0) (by decide)) (pxs_cons (px_var (pv 1) (by decide)) (pxs_cons (px_var (pv 3) (by decide)) pxs_nil)))))) pxs_nil)))) (by decide))))))))
    (sss_cons (ss_own (i := 8) sc_costs_to.nd rfl (Or.inr rfl) (by decide) (pxf_d1 hu5 (px_var (pv 2) (by decide)) (px_tup (pxs_cons (px_dget hu1 (PXg.r (px_var (pv 4) (by decide))) (px_var (pv 2) (by decide)) (fun _ _ => rfl)) (pxs_cons px_int pxs_nil)))))
    (sss_cons (ss_own (i := 5) sc_costs_to.nd rfl (Or.inl rfl) (by decide) (pxf_lst (pxs_cons (px_var (pv 2) (by decide)) pxs_nil)))
    (sss_cons (ss_while 200 po (pxt_cmp o_gt (nomark _) (px_b1 (o_len) rfl B.len PySem.boot_len (pxr_own (pv 5) (by decide))) px_int) (sss_cons (ss_set (i := 3) sc_costs_to.nd rfl (Or.inl rfl) (by decide) (px_minkey (i := 9) rfl B.min TB_costs_to rfl mT_costs_to uT_costs_to (k := 0) (hr.mono (by decide)) (LamX.lamP_by (sc := defScope s_costs_to) (by decide +kernel)) rfl (fun _ _ _ _ _ _ => rfl) rfl sc_costs_to.nd (pxr_own (pv 5) (by decide)) (fun A s H f_ c_ hr => (pkb_get (hu_of hr) (pv 8) (pv 9) (by decide) (by decide)))))
    (sss_cons (ss_remove (i := 5) hu5 (pv 5) (by decide) (px_var (pv 3) (by decide)))
    (sss_one (ss_for po rfl (ix_seq (px_callC G_neighbours (hr.mono (by decide)) rfl tk (pxs_cons (px_var (pv 0) (by decide)) (pxs_cons (px_var (pv 3) (by decide)) pxs_nil)))) (gx_name (pg_name (i := 6) sc_costs_to.nd rfl (Or.inl rfl)) (by decide)) (sss_cons (ss_set (i := 7) sc_costs_to.nd rfl (Or.inl rfl) (by decide) (px_tup (pxs_cons (px_op o_add (px_ix_r o_ix_r (fun _ _ => rfl) (PXg.r (px_dget hu1 (pxr_own (pv 8) (by decide)) (px_var (pv 3) (by decide)) (fun _ _ => rfl))) (PXg.r px_int)) (px_dget hu1 (PXg.r (px_var (pv 4) (by decide))) (px_var (pv 6) (by decide)) (fun _ _ => rfl))) (pxs_cons (px_op o_add (px_ix_r o_ix_r (fun _ _ => rfl) (PXg.r (px_dget hu1 (pxr_own (pv 8) (by decide)) (px_var (pv 3) (by decide)) (fun _ _ => rfl))) (PXg.r px_int)) px_int) pxs_nil))))
    (sss_one (ss_if (pxt_w (pxw_or (pxt_dnotin hu1 (px_var (pv 6) (by decide)) (pxr_own (pv 8) (by decide)) (by with_unfolding_all rfl)) (pxw_or1 (pxt_cmp_r (o_ltG hu5) (nomark _) (PXg.r (px_var (pv 7) (by decide))) (PXg.r (px_dget hu1 (pxr_own (pv 8) (by decide)) (px_var (pv 6) (by decide)) (fun _ _ => rfl))))))) (sss_cons (ss_dput (i := 8) hu1 (pv 8) (by decide) (px_var (pv 6) (by decide)) (px_var (pv 7) (by decide)))
    (sss_one (ss_if (pxt_cmp_r (o_notIn_r hu5) (by with_unfolding_all rfl) (PXg.r (px_var (pv 6) (by decide))) (pxr_own (pv 5) (by decide))) (sss_one (ss_append (i := 5) (pv 5) (by decide) (px_var (pv 6) (by decide)))) sss_nil))) sss_nil))))))))
    (sss_one (ss_retOwn (pv 8) (by decide)))))))
abbrev s_slyest : Stmt := topS 29
abbrev N_slyest : List Str := ["hall", "lookers", "one", "other", "cell", "costs", "way", "here", "weight", "due"]
theorem sc_slyest : FnScope N_slyest ["hall", "lookers", "one", "other"] (defScope s_slyest) := ⟨rfl, rfl, rfl, by decide +kernel, rfl, by decide +kernel, by decide +kernel⟩
def b_slyest : Sl → Res Fl :=
  (sSeq (sFor (eSeq (eTup (eCons (eV 2) (eCons (eV 3) eNil)))) (gtN 4) (sIf (bOr (bNot (eB (eCall h_is_inside (eCons (eV 0) (eCons (eV 4) eNil))))) (bNot (eB (eCall h_is_free (eCons (eV 0) (eCons (eV 4) eNil)))))) (sRaise "NoCell") sNil))
  (sSeq (sSet 5 (eCall h_costs_to (eCons (eV 0) (eCons (eV 1) (eCons (eV 3) eNil)))))
  (sSeq (sIf (eB (e2 dninD (eV 2) (eV 5))) (sRaise "NoWay") sNil)
  (sSeq (sSet 6 (eTup (eCons (eV 2) eNil)))
  (sSeq (whileGo (eB (e2 neD (e2 ixD (eV 6) (e1 negD (eC (.int 1)))) (eV 3))) (sSeq (sSet 7 (e2 ixD (eV 6) (e1 negD (eC (.int 1)))))
  (sSeq (sSet 8 (e1 intD (eCall h_is_seen (eCons (eV 0) (eCons (eV 1) (eCons (eV 7) eNil))))))
  (sSeq (sSet 9 (eTup (eCons (e2 subD (e2 ixD (e2 dgetD (eV 5) (eV 7)) (eC (.int 0))) (eV 8)) (eCons (e2 subD (e2 ixD (e2 dgetD (eV 5) (eV 7)) (eC (.int 1))) (eC (.int 1))) eNil))))
  (sSet 6 (e2 addD (eV 6) (eTup (eCons (e2 ixD (eLc (eSeq (eCall h_neighbours (eCons (eV 0) (eCons (eV 7) eNil)))) (gtN 4) (eB (e2 eqD (e2 dgetD (eV 5) (eV 4)) (eV 9))) (eV 4) [4]) (eC (.int 0))) eNil))))))) 200)
  (sRet (eV 6)))))))
def h_slyest : List D → Res D := runF N_slyest 4 b_slyest
theorem ok_slyest (F : DefAt K mg "slyest" s_slyest) (B : BI mg) (G_is_free : Cal P w K mg base T "is_free" ["hall", "cell"] 1 h_is_free) (G_is_inside : Cal P w K mg base T "is_inside" ["hall", "cell"] 1 h_is_inside) (G_costs_to : Cal P w K mg base T "costs_to" ["hall", "lookers", "goal"] 6 h_costs_to) (G_neighbours : Cal P w K mg base T "neighbours" ["hall", "cell"] 2 h_neighbours) (G_is_seen : Cal P w K mg base T "is_seen" ["hall", "lookers", "cell"] 5 h_is_seen) (Z_NoCell : ExcAt K mg "NoCell") (Z_NoWay : ExcAt K mg "NoWay") : Cal P w K mg base T "slyest" ["hall", "lookers", "one", "other"] 7 h_slyest := by
  refine fn_cal 6 F sc_slyest (by decide) (M := []) (by decide) (fun _ _ _ _ _ _ us hl => match us, hl with | [_, _, _, _], _ => rfl) (fun f cdv A outer s H E hr tk => ?_)
  have po := passes_po (X := cxOf (L2.CX P w) P w K mg base N_slyest "slyest" (defScope s_slyest) f cdv A outer s H E) rfl
  have hu := hr.units
  have hu5 := hu5_of hr
  have hu1 := hu_of hr
  exact (sss_cons (ss_for po rfl (ix_seq (px_tup (pxs_cons (px_var (pv 2) (by decide)) (pxs_cons (px_var (pv 3) (by decide)) pxs_nil)))) (gx_name (pg_name (i := 4) sc_slyest.nd rfl (Or.inl rfl)) (by decide)) (sss_one (ss_if (pxt_w (pxw_or (pxt_not (pxt_val (px_callC G_is_inside (hr.mono (by decide)) rfl tk (pxs_cons (px_var (pv 0) (by decide)) (pxs_cons (px_var (pv 4) (by decide)) pxs_nil))))) (pxw_or1 (pxt_not (pxt_val (px_callC G_is_free (hr.mono (by decide)) rfl tk (pxs_cons (px_var (pv 0) (by decide)) (pxs_cons (px_var (pv 4) (by decide)) pxs_nil)))))))) (sss_one (ss_raiseC rfl tk Z_NoCell rfl)) sss_nil)))
    (sss_cons (ss_set (i := 5) sc_slyest.nd rfl (Or.inr rfl) (by decide) (px_callC G_costs_to (hr.mono (by decide)) rfl tk (pxs_cons (px_var (pv 0) (by decide)) (pxs_cons (px_var (pv 1) (by decide)) (pxs_cons (px_var (pv 3) (by decide)) pxs_nil)))))
    (sss_cons (ss_if (pxt_dnotin hu1 (px_var (pv 2) (by decide)) (PXg.r (px_var (pv 5) (by decide))) (by with_unfolding_all rfl)) (sss_one (ss_raiseC rfl tk Z_NoWay rfl)) sss_nil)
    (sss_cons (ss_set (i := 6) sc_slyest.nd rfl (Or.inl rfl) (by decide) (px_tup (pxs_cons (px_var (pv 2) (by decide)) pxs_nil)))
    (sss_cons (ss_while 200 po (pxt_cmp_r (o_ne_r hu) (nomark _) (PXg.r (px_ix_r o_ix_r (fun _ _ => rfl) (PXg.r (px_var (pv 6) (by decide))) (PXg.r (px_un o_neg px_int)))) (PXg.r (px_var (pv 3) (by decide)))) (sss_cons (ss_set (i := 7) sc_slyest.nd rfl (Or.inl rfl) (by decide) (px_ix_r o_ix_r (fun _ _ => rfl) (PXg.r (px_var (pv 6) (by decide))) (PXg.r (px_un o_neg px_int))))
    (sss_cons (ss_set (i := 8) sc_slyest.nd rfl (Or.inl rfl) (by decide) (px_t1 o_int rfl B.int (by decide +kernel) (PXg.r (px_callC G_is_seen (hr.mono (by decide)) rfl tk (pxs_cons (px_var (pv 0) (by decide)) (pxs_cons (px_var (pv 1) (by decide)) (pxs_cons (px_var (pv 7) (by decide)) pxs_nil)))))))
    (sss_cons (ss_set (i := 9) sc_slyest.nd rfl (Or.inr rfl) (by decide) (px_tup (pxs_cons (px_op o_sub (px_ix_r o_ix_r (fun _ _ => rfl) (PXg.r (px_dget hu1 (PXg.r (px_var (pv 5) (by decide))) (px_var (pv 7) (by decide)) (fun _ _ => rfl))) (PXg.r px_int)) (px_var (pv 8) (by decide))) (pxs_cons (px_op o_sub (px_ix_r o_ix_r (fun _ _ => rfl) (PXg.r (px_dget hu1 (PXg.r (px_var (pv 5) (by decide))) (px_var (pv 7) (by decide)) (fun _ _ => rfl))) (PXg.r px_int)) px_int) pxs_nil))))
    (sss_one (ss_set (i := 6) sc_slyest.nd rfl (Or.inl rfl) (by decide) (px_op o_add (px_var (pv 6) (by decide)) (px_tup (pxs_cons (px_ix_r o_ix_r (fun _ _ => rfl) (PXg.r (PXf.x (PXl.fr (pxl_lc (own := [("cell", 4)]) rfl sc_slyest.nd (ixr_seq (PXg.r (px_callC G_neighbours (hr.mono (by decide)) rfl tk (pxs_cons (px_var (pv 0) (by decide)) (pxs_cons (px_var (pv 7) (by decide)) pxs_nil))))) (blkOk_by (N := N_slyest) (sc := defScope s_slyest) (by decide +kernel)) (fun _ _ _ _ _ => (gx_name (pg_name (i := 4) sc_slyest.nd rfl (Or.inl rfl)) (by decide))) (fun _ _ _ _ _ => (pxts_one (pxt_cmp_r (o_eq_r hu) (nomark _) (PXg.r (px_dget hu1 (PXg.r (px_var (pv 5) (by decide))) (px_var (pv 4) (by decide)) (fun _ _ => rfl))) (PXg.r (px_var (pv 9) (by decide)))))) (fun _ _ _ _ _ => (px_var (pv 4) (by decide))) (by decide))))) (PXg.r px_int)) pxs_nil)))))))))
    (sss_one (ss_ret (px_var (pv 6) (by decide)))))))))
abbrev s__law_cell_at : Stmt := topS 31
abbrev N__law_cell_at : List Str := ["_law_script", "_law_k"]
theorem sc__law_cell_at : FnScope N__law_cell_at ["_law_script", "_law_k"] (defScope s__law_cell_at) := ⟨rfl, rfl, rfl, by decide +kernel, rfl, by decide +kernel, by decide +kernel⟩
def b__law_cell_at : Sl → Res Fl :=
  (sSeq (sIf (eB (e2 ltI (eV 1) (e1 lenD (eV 0)))) (sRet (e2 ixD (eV 0) (eV 1))) sNil)
  (sRet (eC (.int 0))))
def h__law_cell_at : List D → Res D := runF N__law_cell_at 2 b__law_cell_at
theorem ok__law_cell_at (F : DefAt K mg "_law_cell_at" s__law_cell_at) (B : BI mg) : Cal P w K mg base T "_law_cell_at" ["_law_script", "_law_k"] 1 h__law_cell_at := by
  refine fn_cal 0 F sc__law_cell_at (by decide) (M := []) (by decide) (fun _ _ _ _ _ _ us hl => match us, hl with | [_, _], _ => rfl) (fun f cdv A outer s H E hr tk => ?_)
  have po := passes_po (X := cxOf (L2.CX P w) P w K mg base N__law_cell_at "_law_cell_at" (defScope s__law_cell_at) f cdv A outer s H E) rfl
  have hu := hr.units
  have hu5 := hu5_of hr
  have hu1 := hu_of hr
  exact (sss_cons (ss_if (pxt_cmp o_lt (nomark _) (px_var (pv 1) (by decide)) (px_b1 (o_len) rfl B.len PySem.boot_len (PXg.r (px_var (pv 0) (by decide))))) (sss_one (ss_ret (px_ix_r o_ix_r (fun _ _ => rfl) (PXg.r (px_var (pv 0) (by decide))) (PXg.r (px_var (pv 1) (by decide)))))) sss_nil)
    (sss_one (ss_ret px_int)))
abbrev s__law_mixed : Stmt := topS 32
abbrev N__law_mixed : List Str := ["_law_script", "_law_k", "_law_drawn_here"]
theorem sc__law_mixed : FnScope N__law_mixed ["_law_script", "_law_k"] (defScope s__law_mixed) := ⟨rfl, rfl, rfl, by decide +kernel, rfl, by decide +kernel, by decide +kernel⟩
def b__law_mixed : Sl → Res Fl :=
  (sSeq (sSet 2 (e2 modD (e2 mulI (e2 addD (e2 addD (eCall h__law_cell_at (eCons (eV 0) (eCons (eV 1) eNil))) (e2 mulI (eC (.int 7919)) (eV 1))) (eC (.int 1))) (eC (.int 48271))) (eC (.int 2147483647))))
  (sRet (e2 modD (e2 addD (e2 addD (e2 mulI (eV 2) (eV 2)) (e2 mulI (eC (.int 7)) (eV 2))) (eV 1)) (eC (.int 2147483629)))))
def h__law_mixed : List D → Res D := runF N__law_mixed 2 b__law_mixed
theorem ok__law_mixed (F : DefAt K mg "_law_mixed" s__law_mixed) (B : BI mg) (G__law_cell_at : Cal P w K mg base T "_law_cell_at" ["_law_script", "_law_k"] 1 h__law_cell_at) : Cal P w K mg base T "_law_mixed" ["_law_script", "_law_k"] 2 h__law_mixed := by
  refine fn_cal 1 F sc__law_mixed (by decide) (M := []) (by decide) (fun _ _ _ _ _ _ us hl => match us, hl with | [_, _], _ => rfl) (fun f cdv A outer s H E hr tk => ?_)
  have po := passes_po (X := cxOf (L2.CX P w) P w K mg base N__law_mixed "_law_mixed" (defScope s__law_mixed) f cdv A outer s H E) rfl
  have hu := hr.units
  have hu5 := hu5_of hr
  have hu1 := hu_of hr
  exact (sss_cons (ss_set (i := 2) sc__law_mixed.nd rfl (Or.inl rfl) (by decide) (px_op o_mod (px_op o_mul (px_op o_add (px_op o_add (px_callC G__law_cell_at (hr.mono (by decide)) rfl tk (pxs_cons (px_var (pv 0) (by decide)) (pxs_cons (px_var (pv 1) (by decide)) pxs_nil))) (px_op o_mul px_int (px_var (pv 1) (by decide)))) px_int) px_int) px_int))
    (sss_one (ss_ret (px_op o_mod (px_op o_add (px_op o_add (px_op o_mul (px_var (pv 2) (by decide)) (px_var (pv 2) (by decide))) (px_op o_mul px_int (px_var (pv 2) (by decide)))) (px_var (pv 1) (by decide))) px_int))))
abbrev s__law_drawn : Stmt := topS 33
abbrev N__law_drawn : List Str := ["_law_number", "_law_k", "_law_drawn_here"]
theorem sc__law_drawn : FnScope N__law_drawn ["_law_number", "_law_k"] (defScope s__law_drawn) := ⟨rfl, rfl, rfl, by decide +kernel, rfl, by decide +kernel, by decide +kernel⟩
def b__law_drawn : Sl → Res Fl :=
  (sSeq (sSet 2 (e2 modD (e2 mulI (e2 addD (e2 addD (eV 0) (e2 mulI (eC (.int 104729)) (eV 1))) (eC (.int 17))) (eC (.int 69621))) (eC (.int 2147483647))))
  (sRet (e2 modD (e2 addD (e2 addD (e2 mulI (eV 2) (eV 2)) (e2 mulI (eC (.int 3)) (eV 2))) (eV 1)) (eC (.int 2147483629)))))
def h__law_drawn : List D → Res D := runF N__law_drawn 2 b__law_drawn
theorem ok__law_drawn (F : DefAt K mg "_law_drawn" s__law_drawn) (B : BI mg) : Cal P w K mg base T "_law_drawn" ["_law_number", "_law_k"] 1 h__law_drawn := by
  refine fn_cal 0 F sc__law_drawn (by decide) (M := []) (by decide) (fun _ _ _ _ _ _ us hl => match us, hl with | [_, _], _ => rfl) (fun f cdv A outer s H E hr tk => ?_)
  have po := passes_po (X := cxOf (L2.CX P w) P w K mg base N__law_drawn "_law_drawn" (defScope s__law_drawn) f cdv A outer s H E) rfl
  have hu := hr.units
  have hu5 := hu5_of hr
  have hu1 := hu_of hr
  exact (sss_cons (ss_set (i := 2) sc__law_drawn.nd rfl (Or.inl rfl) (by decide) (px_op o_mod (px_op o_mul (px_op o_add (px_op o_add (px_var (pv 0) (by decide)) (px_op o_mul px_int (px_var (pv 1) (by decide)))) px_int) px_int) px_int))
    (sss_one (ss_ret (px_op o_mod (px_op o_add (px_op o_add (px_op o_mul (px_var (pv 2) (by decide)) (px_var (pv 2) (by decide))) (px_op o_mul px_int (px_var (pv 2) (by decide)))) (px_var (pv 1) (by decide))) px_int))))
abbrev s__law_hall : Stmt := topS 35
abbrev N__law_hall : List Str := ["_law_number", "_law_most", "_law_high", "_law_wide", "_law_signs", "_law_rows", "_law_row", "_law_line", "_law_column"]
theorem sc__law_hall : FnScope N__law_hall ["_law_number", "_law_most"] (defScope s__law_hall) := ⟨rfl, rfl, rfl, by decide +kernel, rfl, by decide +kernel, by decide +kernel⟩
def b__law_hall : Sl → Res Fl :=
  (sSeq (sSet 2 (e2 addD (eC (.int 1)) (e2 modD (eV 0) (eV 1))))
  (sSeq (sSet 3 (e2 addD (eC (.int 1)) (e2 modD (e2 fdivD (eV 0) (eC (.int 8))) (eV 1))))
  (sSeq (sSet 4 (e2 ixD (eTup (eCons (eC (.str ".....##o")) (eCons (eC (.str "...##.x.")) (eCons (eC (.str ".......#")) (eCons (eC (.str ".#.#.ox.")) eNil))))) (e2 modD (e2 fdivD (eV 0) (eC (.int 64))) (eC (.int 4)))))
  (sSeq (sSet 5 (eTup eNil))
  (sSeq (sFor (eRng1 (eCons (eV 2) eNil)) (gtN 6) (sSeq (sSet 7 (eC (.str "")))
  (sSeq (sFor (eRng1 (eCons (eV 3) eNil)) (gtN 8) (sSet 7 (e2 addD (eV 7) (e2 ixD (eV 4) (e2 modD (e2 fdivD (eCall h__law_drawn (eCons (eV 0) (eCons (e2 addD (e2 mulI (eC (.int 8)) (eV 6)) (eV 8)) eNil))) (eC (.int 16))) (eC (.int 8)))))))
  (sSet 5 (e2 addD (eV 5) (eTup (eCons (eV 7) eNil)))))))
  (sRet (eTup (eCons (eV 5) (eCons (e2 ixD (eTup (eCons (eC (.int 0)) (eCons (eC (.int 0)) (eCons (eC (.int 4)) (eCons (eC (.int 9)) (eCons (eC (.int 2)) (eCons (eC (.int 1)) (eCons (eC (.int 25)) eNil)))))))) (e2 modD (e2 fdivD (eV 0) (eC (.int 512))) (eC (.int 7)))) eNil)))))))))
def h__law_hall : List D → Res D := runF N__law_hall 2 b__law_hall
theorem ok__law_hall (F : DefAt K mg "_law_hall" s__law_hall) (B : BI mg) (G__law_drawn : Cal P w K mg base T "_law_drawn" ["_law_number", "_law_k"] 1 h__law_drawn) : Cal P w K mg base T "_law_hall" ["_law_number", "_law_most"] 2 h__law_hall := by
  refine fn_cal 1 F sc__law_hall (by decide) (M := []) (by decide) (fun _ _ _ _ _ _ us hl => match us, hl with | [_, _], _ => rfl) (fun f cdv A outer s H E hr tk => ?_)
  have po := passes_po (X := cxOf (L2.CX P w) P w K mg base N__law_hall "_law_hall" (defScope s__law_hall) f cdv A outer s H E) rfl
  have hu := hr.units
  have hu5 := hu5_of hr
  have hu1 := hu_of hr
  exact (sss_cons (ss_set (i := 2) sc__law_hall.nd rfl (Or.inl rfl) (by decide) (px_op o_add px_int (px_op o_mod (px_var (pv 0) (by decide)) (px_var (pv 1) (by decide)))))
    (sss_cons (ss_set (i := 3) sc__law_hall.nd rfl (Or.inl rfl) (by decide) (px_op o_add px_int (px_op o_mod (px_op o_fdiv (px_var (pv 0) (by decide)) px_int) (px_var (pv 1) (by decide)))))
    (sss_cons (ss_set (i := 4) sc__law_hall.nd rfl (Or.inl rfl) (by decide) (px_ix_r o_ix_r (fun _ _ => rfl) (PXg.r (px_tup (pxs_cons px_str (pxs_cons px_str (pxs_cons px_str (pxs_cons px_str pxs_nil)))))) (PXg.r (px_op o_mod (px_op o_fdiv (px_var (pv 0) (by decide)) px_int) px_int))))
    (sss_cons (ss_set (i := 5) sc__law_hall.nd rfl (Or.inl rfl) (by decide) (px_tup pxs_nil))
    (sss_cons (ss_for po rfl (ix_rng1 rfl B.range (pxs_cons (px_var (pv 2) (by decide)) pxs_nil)) (gx_name (pg_name (i := 6) sc__law_hall.nd rfl (Or.inl rfl)) (by decide)) (sss_cons (ss_set (i := 7) sc__law_hall.nd rfl (Or.inl rfl) (by decide) px_str)
    (sss_cons (ss_for po rfl (ix_rng1 rfl B.range (pxs_cons (px_var (pv 3) (by decide)) pxs_nil)) (gx_name (pg_name (i := 8) sc__law_hall.nd rfl (Or.inl rfl)) (by decide)) (sss_one (ss_set (i := 7) sc__law_hall.nd rfl (Or.inl rfl) (by decide) (px_op o_add (px_var (pv 7) (by decide)) (px_ix_r o_ix_r (fun _ _ => rfl) (PXg.r (px_var (pv 4) (by decide))) (PXg.r (px_op o_mod (px_op o_fdiv (px_callC G__law_drawn (hr.mono (by decide)) rfl tk (pxs_cons (px_var (pv 0) (by decide)) (pxs_cons (px_op o_add (px_op o_mul px_int (px_var (pv 6) (by decide))) (px_var (pv 8) (by decide))) pxs_nil))) px_int) px_int)))))))
    (sss_one (ss_set (i := 5) sc__law_hall.nd rfl (Or.inl rfl) (by decide) (px_op o_add (px_var (pv 5) (by decide)) (px_tup (pxs_cons (px_var (pv 7) (by decide)) pxs_nil))))))))
    (sss_one (ss_ret (px_tup (pxs_cons (px_var (pv 5) (by decide)) (pxs_cons (px_ix_r o_ix_r (fun _ _ => rfl) (PXg.r (px_tup (pxs_cons px_int (pxs_cons px_int (pxs_cons px_int (pxs_cons px_int (pxs_cons px_int (pxs_cons px_int (pxs_cons px_int pxs_nil))))))))) (PXg.r (px_op o_mod (px_op o_fdiv (px_var (pv 0) (by decide)) px_int) px_int))) pxs_nil))))))))))
abbrev s__law_floors : Stmt := topS 36
abbrev N__law_floors : List Str := ["_law_hall_here", "_law_found", "_law_row", "_law_line", "_law_column", "_law_sign"]
theorem sc__law_floors : FnScope N__law_floors ["_law_hall_here"] (defScope s__law_floors) := ⟨rfl, rfl, rfl, by decide +kernel, rfl, by decide +kernel, by decide +kernel⟩
def b__law_floors : Sl → Res Fl :=
  (sSeq (sSet 1 (eLst eNil))
  (sSeq (sFor (eEnum (e2 ixD (eV 0) (eC (.int 0)))) (gtT (gtsCons (gtN 2) (gtsCons (gtN 3) gtsNil))) (sSet 1 (e2 addD (eV 1) (eLc (eEnum (eV 3)) (gtT (gtsCons (gtN 4) (gtsCons (gtN 5) gtsNil))) (eB (e2 eqD (eV 5) (eC (.str ".")))) (eTup (eCons (eV 2) (eCons (eV 4) eNil))) [4, 5]))))
  (sRet (eV 1))))
def h__law_floors : List D → Res D := runF N__law_floors 1 b__law_floors
theorem ok__law_floors (F : DefAt K mg "_law_floors" s__law_floors) (B : BI mg) : Cal P w K mg base T "_law_floors" ["_law_hall_here"] 1 h__law_floors := by
  refine fn_cal 0 F sc__law_floors (by decide) (M := []) (by decide) (fun _ _ _ _ _ _ us hl => match us, hl with | [_], _ => rfl) (fun f cdv A outer s H E hr tk => ?_)
  have po := passes_po (X := cxOf (L2.CX P w) P w K mg base N__law_floors "_law_floors" (defScope s__law_floors) f cdv A outer s H E) rfl
  have hu := hr.units
  have hu5 := hu5_of hr
  have hu1 := hu_of hr
  exact (sss_cons (ss_set (i := 1) sc__law_floors.nd rfl (Or.inl rfl) (by decide) (PXf.x (pxf_lst pxs_nil)))
    (sss_cons (ss_for po rfl (ix_enum rfl B.enumerate (px_ix_r o_ix_r (fun _ _ => rfl) (PXg.r (px_var (pv 0) (by decide))) (PXg.r px_int))) (gx_tup rfl (gsx_cons (gx_name (pg_name (i := 2) sc__law_floors.nd rfl (Or.inr rfl)) (by decide)) (gsx_cons (gx_name (pg_name (i := 3) sc__law_floors.nd rfl (Or.inl rfl)) (by decide)) gsx_nil)) gts_len2) (sss_one (ss_set (i := 1) sc__law_floors.nd rfl (Or.inl rfl) (by decide) (px_op o_add (px_var (pv 1) (by decide)) (PXf.x (PXl.fr (pxl_lc (own := [("_law_column", 4), ("_law_sign", 5)]) rfl sc__law_floors.nd (PIg.up (ix_enum rfl B.enumerate (px_var (pv 3) (by decide)))) (blkOk_by (N := N__law_floors) (sc := defScope s__law_floors) (by decide +kernel)) (fun _ _ _ _ _ => (gx_tup rfl (gsx_cons (gx_name (pg_name (i := 4) sc__law_floors.nd rfl (Or.inl rfl)) (by decide)) (gsx_cons (gx_name (pg_name (i := 5) sc__law_floors.nd rfl (Or.inl rfl)) (by decide)) gsx_nil)) gts_len2)) (fun _ _ _ _ _ => (pxts_one (pxt_cmp_r (o_eq_r hu) (nomark _) (PXg.r (px_var (pv 5) (by decide))) (PXg.r px_str)))) (fun _ _ _ _ _ => (px_tup (pxs_cons (px_var (pv 2) (by decide)) (pxs_cons (px_var (pv 4) (by decide)) pxs_nil)))) (by decide))))))))
    (sss_one (ss_ret (px_var (pv 1) (by decide))))))
abbrev s__law_some : Stmt := topS 37
abbrev N__law_some : List Str := ["_law_hall_here", "_law_number", "_law_k", "_law_cell"]
theorem sc__law_some : FnScope N__law_some ["_law_hall_here", "_law_number"] (defScope s__law_some) := ⟨rfl, rfl, rfl, by decide +kernel, rfl, by decide +kernel, by decide +kernel⟩
def b__law_some : Sl → Res Fl :=
  (sRet (e1 tupleD (eLc (eEnum (eCall h__law_floors (eCons (eV 0) eNil))) (gtT (gtsCons (gtN 2) (gtsCons (gtN 3) gtsNil))) (eB (e2 eqD (e2 modD (e2 fdivD (eCall h__law_drawn (eCons (eV 1) (eCons (eV 2) eNil))) (eC (.int 16))) (eC (.int 4))) (eC (.int 0)))) (eV 3) [2, 3])))
def h__law_some : List D → Res D := runF N__law_some 2 b__law_some
theorem ok__law_some (F : DefAt K mg "_law_some" s__law_some) (B : BI mg) (G__law_floors : Cal P w K mg base T "_law_floors" ["_law_hall_here"] 1 h__law_floors) (G__law_drawn : Cal P w K mg base T "_law_drawn" ["_law_number", "_law_k"] 1 h__law_drawn) : Cal P w K mg base T "_law_some" ["_law_hall_here", "_law_number"] 2 h__law_some := by
  refine fn_cal 1 F sc__law_some (by decide) (M := []) (by decide) (fun _ _ _ _ _ _ us hl => match us, hl with | [_, _], _ => rfl) (fun f cdv A outer s H E hr tk => ?_)
  have po := passes_po (X := cxOf (L2.CX P w) P w K mg base N__law_some "_law_some" (defScope s__law_some) f cdv A outer s H E) rfl
  have hu := hr.units
  have hu5 := hu5_of hr
  have hu1 := hu_of hr
  exact (sss_one (ss_ret (px_t1 o_tuple rfl B.tuple (by decide +kernel) (PXg.r (PXf.x (PXl.fr (pxl_lc (own := [("_law_k", 2), ("_law_cell", 3)]) rfl sc__law_some.nd (PIg.up (ix_enum rfl B.enumerate (px_callC G__law_floors (hr.mono (by decide)) rfl tk (pxs_cons (px_var (pv 0) (by decide)) pxs_nil)))) (blkOk_by (N := N__law_some) (sc := defScope s__law_some) (by decide +kernel)) (fun _ _ _ _ _ => (gx_tup rfl (gsx_cons (gx_name (pg_name (i := 2) sc__law_some.nd rfl (Or.inl rfl)) (by decide)) (gsx_cons (gx_name (pg_name (i := 3) sc__law_some.nd rfl (Or.inl rfl)) (by decide)) gsx_nil)) gts_len2)) (fun _ _ _ _ _ => (pxts_one (pxt_cmp_r (o_eq_r hu) (nomark _) (PXg.r (px_op o_mod (px_op o_fdiv (px_callC G__law_drawn (hr.mono (by decide)) rfl LamX.takes0 (pxs_cons (px_var (pv 1) (by decide)) (pxs_cons (px_var (pv 2) (by decide)) pxs_nil))) px_int) px_int)) (PXg.r px_int)))) (fun _ _ _ _ _ => (px_var (pv 3) (by decide))) (by decide))))))))
abbrev s__law_cells : Stmt := topS 38
abbrev N__law_cells : List Str := ["_law_hall_here", "_law_found", "_law_row", "_law_column"]
theorem sc__law_cells : FnScope N__law_cells ["_law_hall_here"] (defScope s__law_cells) := ⟨rfl, rfl, rfl, by decide +kernel, rfl, by decide +kernel, by decide +kernel⟩
def b__law_cells : Sl → Res Fl :=
  (sSeq (sSet 1 (eLst eNil))
  (sSeq (sFor (eRng1 (eCons (e1 lenD (e2 ixD (eV 0) (eC (.int 0)))) eNil)) (gtN 2) (sSet 1 (e2 addD (eV 1) (eLc (eRng1 (eCons (e1 lenD (e2 ixD (e2 ixD (eV 0) (eC (.int 0))) (eC (.int 0)))) eNil)) (gtN 3) bYes (eTup (eCons (eV 2) (eCons (eV 3) eNil))) [3]))))
  (sRet (eV 1))))
def h__law_cells : List D → Res D := runF N__law_cells 1 b__law_cells
theorem ok__law_cells (F : DefAt K mg "_law_cells" s__law_cells) (B : BI mg) : Cal P w K mg base T "_law_cells" ["_law_hall_here"] 1 h__law_cells := by
  refine fn_cal 0 F sc__law_cells (by decide) (M := []) (by decide) (fun _ _ _ _ _ _ us hl => match us, hl with | [_], _ => rfl) (fun f cdv A outer s H E hr tk => ?_)
  have po := passes_po (X := cxOf (L2.CX P w) P w K mg base N__law_cells "_law_cells" (defScope s__law_cells) f cdv A outer s H E) rfl
  have hu := hr.units
  have hu5 := hu5_of hr
  have hu1 := hu_of hr
  exact (sss_cons (ss_set (i := 1) sc__law_cells.nd rfl (Or.inl rfl) (by decide) (PXf.x (pxf_lst pxs_nil)))
    (sss_cons (ss_for po rfl (ix_rng1 rfl B.range (pxs_cons (px_b1 (o_len) rfl B.len PySem.boot_len (PXg.r (px_ix_r o_ix_r (fun _ _ => rfl) (PXg.r (px_var (pv 0) (by decide))) (PXg.r px_int)))) pxs_nil)) (gx_name (pg_name (i := 2) sc__law_cells.nd rfl (Or.inr rfl)) (by decide)) (sss_one (ss_set (i := 1) sc__law_cells.nd rfl (Or.inl rfl) (by decide) (px_op o_add (px_var (pv 1) (by decide)) (PXf.x (PXl.fr (pxl_lc (own := [("_law_column", 3)]) rfl sc__law_cells.nd (PIg.up (ix_rng1 rfl B.range (pxs_cons (px_b1 (o_len) rfl B.len PySem.boot_len (PXg.r (px_ix_r o_ix_r (fun _ _ => rfl) (PXg.r (px_ix_r o_ix_r (fun _ _ => rfl) (PXg.r (px_var (pv 0) (by decide))) (PXg.r px_int))) (PXg.r px_int)))) pxs_nil))) (blkOk_by (N := N__law_cells) (sc := defScope s__law_cells) (by decide +kernel)) (fun _ _ _ _ _ => (gx_name (pg_name (i := 3) sc__law_cells.nd rfl (Or.inl rfl)) (by decide))) (fun _ _ _ _ _ => pxts_nil) (fun _ _ _ _ _ => (px_tup (pxs_cons (px_var (pv 2) (by decide)) (pxs_cons (px_var (pv 3) (by decide)) pxs_nil)))) (by decide))))))))
    (sss_one (ss_ret (px_var (pv 1) (by decide))))))
abbrev s__law_far_off : Stmt := topS 39
abbrev N__law_far_off : List Str := ["_law_hall_here", "_law_number", "_law_high", "_law_wide"]
theorem sc__law_far_off : FnScope N__law_far_off ["_law_hall_here", "_law_number"] (defScope s__law_far_off) := ⟨rfl, rfl, rfl, by decide +kernel, rfl, by decide +kernel, by decide +kernel⟩
def b__law_far_off : Sl → Res Fl :=
  (sSeq (sPar 2 3 (eCons (e1 lenD (e2 ixD (eV 0) (eC (.int 0)))) (eCons (e1 lenD (e2 ixD (e2 ixD (eV 0) (eC (.int 0))) (eC (.int 0)))) eNil)))
  (sRet (e2 ixD (eTup (eCons (eTup (eCons (e1 negD (eC (.int 1))) (eCons (eC (.int 0)) eNil))) (eCons (eTup (eCons (eC (.int 0)) (eCons (e1 negD (eC (.int 1))) eNil))) (eCons (eTup (eCons (eV 2) (eCons (eC (.int 0)) eNil))) (eCons (eTup (eCons (eC (.int 0)) (eCons (eV 3) eNil))) (eCons (eTup (eCons (eV 2) (eCons (eV 3) eNil))) (eCons (eTup (eCons (eC (.int 8)) (eCons (eC (.int 8)) eNil))) eNil))))))) (e2 modD (eV 1) (eC (.int 6))))))
def h__law_far_off : List D → Res D := runF N__law_far_off 2 b__law_far_off
theorem ok__law_far_off (F : DefAt K mg "_law_far_off" s__law_far_off) (B : BI mg) : Cal P w K mg base T "_law_far_off" ["_law_hall_here", "_law_number"] 1 h__law_far_off := by
  refine fn_cal 0 F sc__law_far_off (by decide) (M := []) (by decide) (fun _ _ _ _ _ _ us hl => match us, hl with | [_, _], _ => rfl) (fun f cdv A outer s H E hr tk => ?_)
  have po := passes_po (X := cxOf (L2.CX P w) P w K mg base N__law_far_off "_law_far_off" (defScope s__law_far_off) f cdv A outer s H E) rfl
  have hu := hr.units
  have hu5 := hu5_of hr
  have hu1 := hu_of hr
  exact (sss_cons (ss_par (i := 2) (j := 3) rfl sc__law_far_off.nd rfl rfl (by decide) rfl rfl (by decide) (by decide) (pxs_cons (px_b1 (o_len) rfl B.len PySem.boot_len (PXg.r (px_ix_r o_ix_r (fun _ _ => rfl) (PXg.r (px_var (pv 0) (by decide))) (PXg.r px_int)))) (pxs_cons (px_b1 (o_len) rfl B.len PySem.boot_len (PXg.r (px_ix_r o_ix_r (fun _ _ => rfl) (PXg.r (px_ix_r o_ix_r (fun _ _ => rfl) (PXg.r (px_var (pv 0) (by decide))) (PXg.r px_int))) (PXg.r px_int)))) pxs_nil)) (by rfl))
    (sss_one (ss_ret (px_ix_r o_ix_r (fun _ _ => rfl) (PXg.r (px_tup (pxs_cons (px_tup (pxs_cons (px_un o_neg px_int) (pxs_cons px_int pxs_nil))) (pxs_cons (px_tup (pxs_cons px_int (pxs_cons (px_un o_neg px_int) pxs_nil))) (pxs_cons (px_tup (pxs_cons (px_var (pv 2) (by decide)) (pxs_cons px_int pxs_nil))) (pxs_cons (px_tup (pxs_cons px_int (pxs_cons (px_var (pv 3) (by decide)) pxs_nil))) (pxs_cons (px_tup (pxs_cons (px_var (pv 2) (by decide)) (pxs_cons (px_var (pv 3) (by decide)) pxs_nil))) (pxs_cons (px_tup (pxs_cons px_int (pxs_cons px_int pxs_nil))) pxs_nil)))))))) (PXg.r (px_op o_mod (px_var (pv 1) (by decide)) px_int))))))
abbrev s_law : Stmt := topS 40
abbrev N_law : List Str := ["_law_script", "_law_number", "_law_spots", "_law_inside", "_law_found", "_law_together", "_law_hall_here", "_law_one", "_law_other", "_law_some_here", "_law_cell", "_law_part"]
theorem sc_law : FnScope N_law ["_law_script"] (defScope s_law) := ⟨rfl, rfl, rfl, by decide +kernel, rfl, by decide +kernel, by decide +kernel⟩
def b_law : Sl → Res Fl :=
  (sSeq (sSet 6 (eCall h__law_hall (eCons (eCall h__law_mixed (eCons (eV 0) (eCons (eC (.int 0)) eNil))) (eCons (eC (.int 6)) eNil))))
  (sSeq (sSet 9 (eSl (eCall h__law_some (eCons (eV 6) (eCons (eCall h__law_mixed (eCons (eV 0) (eCons (eC (.int 1)) eNil))) eNil))) pNo (pSo (eC (.int 3)))))
  (sSeq (sSet 1 (eCall h__law_mixed (eCons (eV 0) (eCons (eC (.int 2)) eNil))))
  (sSeq (sSet 2 (e2 addD (eCall h__law_cells (eCons (eV 6) eNil)) (eLst (eCons (eCall h__law_far_off (eCons (eV 6) (eCons (e2 fdivD (eV 1) (eC (.int 64))) eNil))) eNil))))
  (sSeq (sSet 7 (e2 ixD (eV 2) (e2 modD (eV 1) (e1 lenD (eV 2)))))
  (sSeq (sSet 3 (eLc (eSeq (eSl (eV 2) pNo (pSo (e1 negD (eC (.int 1)))))) (gtN 10) (eB (e2 inD (eCall h_sign_at (eCons (eV 6) (eCons (eV 10) eNil))) (eC (.str ".o")))) (eV 10) [10]))
  (sSeq (sFor (eSeq (e2 stepD (eV 2) (e2 addD (eC (.int 1)) (e2 fdivD (e1 lenD (eV 2)) (eC (.int 12)))))) (gtN 8) (sSeq (sSet 4 (eTold [] (eCall h_slyest (eCons (eV 6) (eCons (eV 9) (eCons (eV 7) (eCons (eV 8) eNil)))))))
  (sSeq (sIf (bOr (eB (e2 notInD (eV 7) (eV 3))) (eB (e2 notInD (eV 8) (eV 3)))) (sSeq (sIf (eB (e2 neD (eV 4) (eTup (eCons (eC (.str "refused")) (eCons (eC (.int 0)) eNil))))) (sRet (eC (.bl false))) sNil)
  sCont) sNil)
  (sSeq (sSet 5 (eLc (eSeq (eCall h_parts (eCons (eV 6) eNil))) (gtN 11) (bAnd (eB (e2 inD (eV 7) (eV 11))) (eB (e2 inD (eV 8) (eV 11)))) (eV 11) [11]))
  (sIf (eB (e2 eqD (eV 5) (eLst eNil))) (sIf (eB (e2 neD (eV 4) (eTup (eCons (eC (.str "refused")) (eCons (eC (.int 2)) eNil))))) (sRet (eC (.bl false))) sNil) (sIf (bOr (eB (e2 neD (e2 ixD (eV 4) (eC (.int 0))) (eC (.str "told")))) (bOr (eB (e2 neD (e2 ixD (e2 ixD (eV 4) (eC (.int 1))) (eC (.int 0))) (eV 7))) (eB (e2 neD (e2 ixD (e2 ixD (eV 4) (eC (.int 1))) (e1 negD (eC (.int 1)))) (eV 8))))) (sRet (eC (.bl false))) sNil))))))
  (sRet (eC (.bl true))))))))))
def h_law : List D → Res D := runF N_law 1 b_law
theorem ok_law {cC_law cP_law : Addr} (F : DefAtC K mg "law" s_law cC_law) (TB_law : LamX.TabB base mg cC_law cP_law) (mT_law : (cP_law, lamQ "law") ∈ T) (uT_law : ∀ p ∈ T, p.1 = cP_law → p.2 = lamQ "law") (TK : ToldK K mg s__law_told) (B : BI mg) (G__law_hall : Cal P w K mg base T "_law_hall" ["_law_number", "_law_most"] 2 h__law_hall) (G__law_mixed : Cal P w K mg base T "_law_mixed" ["_law_script", "_law_k"] 2 h__law_mixed) (G__law_some : Cal P w K mg base T "_law_some" ["_law_hall_here", "_law_number"] 2 h__law_some) (G__law_cells : Cal P w K mg base T "_law_cells" ["_law_hall_here"] 1 h__law_cells) (G__law_far_off : Cal P w K mg base T "_law_far_off" ["_law_hall_here", "_law_number"] 1 h__law_far_off) (G_sign_at : Cal P w K mg base T "sign_at" ["hall", "cell"] 3 h_sign_at) (G_parts : Cal P w K mg base T "parts" ["hall"] 4 h_parts) (G_slyest : Cal P w K mg base T "slyest" ["hall", "lookers", "one", "other"] 7 h_slyest) : Cal P w K mg base T "law" ["_law_script"] 10 h_law := by
  refine fn_calC 9 F sc_law (by decide) (M := []) (by decide) (fun _ _ _ _ _ _ us hl => match us, hl with | [_], _ => rfl) (fun f A outer s H E hr tk => ?_)
  have po := passes_po (X := cxOf (L2.CX P w) P w K mg base N_law "law" (defScope s_law) f (.ref cC_law) A outer s H E) rfl
  have hu := hr.units
  have hu5 := hu5_of hr
  have hu1 := hu_of hr
  exact (sss_cons (ss_set (i := 6) sc_law.nd rfl (Or.inr rfl) (by decide) (px_callC G__law_hall (hr.mono (by decide)) rfl tk (pxs_cons (px_callC G__law_mixed (hr.mono (by decide)) rfl tk (pxs_cons (px_var (pv 0) (by decide)) (pxs_cons px_int pxs_nil))) (pxs_cons px_int pxs_nil))))
    (sss_cons (ss_set (i := 9) sc_law.nd rfl (Or.inr rfl) (by decide) (px_slice (PXg.r (px_callC G__law_some (hr.mono (by decide)) rfl tk (pxs_cons (px_var (pv 6) (by decide)) (pxs_cons (px_callC G__law_mixed (hr.mono (by decide)) rfl tk (pxs_cons (px_var (pv 0) (by decide)) (pxs_cons px_int pxs_nil))) pxs_nil)))) pxo_none (pxo_some px_int)))
    (sss_cons (ss_set (i := 1) sc_law.nd rfl (Or.inl rfl) (by decide) (px_callC G__law_mixed (hr.mono (by decide)) rfl tk (pxs_cons (px_var (pv 0) (by decide)) (pxs_cons px_int pxs_nil))))
    (sss_cons (ss_set (i := 2) sc_law.nd rfl (Or.inl rfl) (by decide) (px_op o_add (px_callC G__law_cells (hr.mono (by decide)) rfl tk (pxs_cons (px_var (pv 6) (by decide)) pxs_nil)) (PXf.x (pxf_lst (pxs_cons (px_callC G__law_far_off (hr.mono (by decide)) rfl tk (pxs_cons (px_var (pv 6) (by decide)) (pxs_cons (px_op o_fdiv (px_var (pv 1) (by decide)) px_int) pxs_nil))) pxs_nil)))))
    (sss_cons (ss_set (i := 7) sc_law.nd rfl (Or.inr rfl) (by decide) (px_ix_r o_ix_r (fun _ _ => rfl) (PXg.r (px_var (pv 2) (by decide))) (PXg.r (px_op o_mod (px_var (pv 1) (by decide)) (px_b1 (o_len) rfl B.len PySem.boot_len (PXg.r (px_var (pv 2) (by decide))))))))
    (sss_cons (ss_setLc (i := 3) rfl rfl (sw_true rfl rfl rfl (by decide +kernel)) (by decide) (pxl_lc (own := [("_law_cell", 10)]) rfl sc_law.nd (ixr_seq (PXg.r (px_slice (PXg.r (px_var (pv 2) (by decide))) pxo_none (pxo_some (px_un o_neg px_int))))) (blkOk_by (N := N_law) (sc := defScope s_law) (by decide +kernel)) (fun _ _ _ _ _ => (gx_name (pg_name (i := 10) sc_law.nd rfl (Or.inl rfl)) (by decide))) (fun _ _ _ _ _ => (pxts_one (pxt_cmp_r (o_in_r hu5) (by with_unfolding_all rfl) (PXg.r (px_callC G_sign_at (hr.mono (by decide)) rfl LamX.takes0 (pxs_cons (px_var (pv 6) (by decide)) (pxs_cons (px_var (pv 10) (by decide)) pxs_nil)))) (PXg.r px_str)))) (fun _ _ _ _ _ => (px_var (pv 10) (by decide))) (by decide)))
    (sss_cons (ss_for po rfl (ix_seq (px_step (PXg.r (px_var (pv 2) (by decide))) (px_op o_add px_int (px_op o_fdiv (px_b1 (o_len) rfl B.len PySem.boot_len (PXg.r (px_var (pv 2) (by decide)))) px_int)))) (gx_name (pg_name (i := 8) sc_law.nd rfl (Or.inr rfl)) (by decide)) (sss_cons (ss_set (i := 4) sc_law.nd rfl (Or.inl rfl) (by decide) (px_told TK rfl TB_law rfl mT_law uT_law (k := 7) (hr.mono (by decide)) (LamX.lamS_by (sc := defScope s_law) (by decide +kernel)) rfl (fun _ _ _ _ _ => rfl) (fun A outer s H E f_ c_ hr tk => (have hu := hr.units; have hu5 := hu5_of hr; have hu1 := hu_of hr; (px_callC G_slyest (hr.mono (by decide)) rfl tk (pxs_cons (px_var (pv 6) (by decide)) (pxs_cons (px_var (pv 9) (by decide)) (pxs_cons (px_var (pv 7) (by decide)) (pxs_cons (px_var (pv 8) (by decide)) pxs_nil)))))))))
    (sss_cons (ss_if (pxt_w (pxw_or (pxt_cmp_r (o_notIn_r hu5) (by with_unfolding_all rfl) (PXg.r (px_var (pv 7) (by decide))) (PXg.r (px_var (pv 3) (by decide)))) (pxw_or1 (pxt_cmp_r (o_notIn_r hu5) (by with_unfolding_all rfl) (PXg.r (px_var (pv 8) (by decide))) (PXg.r (px_var (pv 3) (by decide))))))) (sss_cons (ss_if (pxt_cmp_r (o_ne_r hu) (nomark _) (PXg.r (px_var (pv 4) (by decide))) (PXg.r (px_tup (pxs_cons px_str (pxs_cons px_int pxs_nil))))) (sss_one (ss_ret px_bl)) sss_nil)
    (sss_one ss_continue)) sss_nil)
    (sss_cons (ss_setLc (i := 5) rfl rfl (sw_true rfl rfl rfl (by decide +kernel)) (by decide) (pxl_lc (own := [("_law_part", 11)]) rfl sc_law.nd (ixr_seq (PXg.r (px_callC G_parts (hr.mono (by decide)) rfl tk (pxs_cons (px_var (pv 6) (by decide)) pxs_nil)))) (blkOk_by (N := N_law) (sc := defScope s_law) (by decide +kernel)) (fun _ _ _ _ _ => (gx_name (pg_name (i := 11) sc_law.nd rfl (Or.inl rfl)) (by decide))) (fun _ _ _ _ _ => (pxts_one (pxt_w (pxw_and (pxt_cmp_r (o_in_r hu5) (by with_unfolding_all rfl) (PXg.r (px_var (pv 7) (by decide))) (PXg.r (px_var (pv 11) (by decide)))) (pxw_and1 (pxt_cmp_r (o_in_r hu5) (by with_unfolding_all rfl) (PXg.r (px_var (pv 8) (by decide))) (PXg.r (px_var (pv 11) (by decide))))))))) (fun _ _ _ _ _ => (px_var (pv 11) (by decide))) (by decide)))
    (sss_one (ss_if (pxt_cmp_r (o_eq_r hu) (nomark _) (PXg.r (px_var (pv 5) (by decide))) (PXg.r (PXf.x (pxf_lst pxs_nil)))) (sss_one (ss_if (pxt_cmp_r (o_ne_r hu) (nomark _) (PXg.r (px_var (pv 4) (by decide))) (PXg.r (px_tup (pxs_cons px_str (pxs_cons px_int pxs_nil))))) (sss_one (ss_ret px_bl)) sss_nil)) (sss_one (ss_if (pxt_w (pxw_or (pxt_cmp_r (o_ne_r hu) (nomark _) (PXg.r (px_ix_r o_ix_r (fun _ _ => rfl) (PXg.r (px_var (pv 4) (by decide))) (PXg.r px_int))) (PXg.r px_str)) (pxw_or (pxt_cmp_r (o_ne_r hu) (nomark _) (PXg.r (px_ix_r o_ix_r (fun _ _ => rfl) (PXg.r (px_ix_r o_ix_r (fun _ _ => rfl) (PXg.r (px_var (pv 4) (by decide))) (PXg.r px_int))) (PXg.r px_int))) (PXg.r (px_var (pv 7) (by decide)))) (pxw_or1 (pxt_cmp_r (o_ne_r hu) (nomark _) (PXg.r (px_ix_r o_ix_r (fun _ _ => rfl) (PXg.r (px_ix_r o_ix_r (fun _ _ => rfl) (PXg.r (px_var (pv 4) (by decide))) (PXg.r px_int))) (PXg.r (px_un o_neg px_int)))) (PXg.r (px_var (pv 8) (by decide)))))))) (sss_one (ss_ret px_bl)) sss_nil))))))))
    (sss_one (ss_ret px_bl)))))))))
theorem all_ok {cC_costs_to cP_costs_to : Addr} {cC_law cP_law : Addr} (B : BI mg)
    (D_is_inside : DefAt K mg "is_inside" s_is_inside)
    (D_need_cell : DefAt K mg "need_cell" s_need_cell)
    (D_sign_at : DefAt K mg "sign_at" s_sign_at)
    (D_is_free : DefAt K mg "is_free" s_is_free)
    (D_cells : DefAt K mg "cells" s_cells)
    (D_side_of : DefAt K mg "side_of" s_side_of)
    (D_is_crossed : DefAt K mg "is_crossed" s_is_crossed)
    (D_crossed : DefAt K mg "crossed" s_crossed)
    (D_is_near : DefAt K mg "is_near" s_is_near)
    (D_sees : DefAt K mg "sees" s_sees)
    (D_neighbours : DefAt K mg "neighbours" s_neighbours)
    (D_part_of : DefAt K mg "part_of" s_part_of)
    (D_parts : DefAt K mg "parts" s_parts)
    (D_is_seen : DefAt K mg "is_seen" s_is_seen)
    (D_costs_to : DefAtC K mg "costs_to" s_costs_to cC_costs_to)
    (D_slyest : DefAt K mg "slyest" s_slyest)
    (D__law_cell_at : DefAt K mg "_law_cell_at" s__law_cell_at)
    (D__law_mixed : DefAt K mg "_law_mixed" s__law_mixed)
    (D__law_drawn : DefAt K mg "_law_drawn" s__law_drawn)
    (D__law_hall : DefAt K mg "_law_hall" s__law_hall)
    (D__law_floors : DefAt K mg "_law_floors" s__law_floors)
    (D__law_some : DefAt K mg "_law_some" s__law_some)
    (D__law_cells : DefAt K mg "_law_cells" s__law_cells)
    (D__law_far_off : DefAt K mg "_law_far_off" s__law_far_off)
    (D_law : DefAtC K mg "law" s_law cC_law)
    (C_BLOCKING : CstAt K mg "BLOCKING" (.ctup [.str "#", .str "x"]))
    (C_STEPS : CstAt K mg "STEPS" (.ctup [.ctup [.int (-1), .int (0)], .ctup [.int (0), .int (-1)], .ctup [.int (0), .int (1)], .ctup [.int (1), .int (0)]]))
    (Z_NoCell : ExcAt K mg "NoCell")
    (Z_NoWay : ExcAt K mg "NoWay")
    (TB_costs_to : LamX.TabB base mg cC_costs_to cP_costs_to) (mT_costs_to : (cP_costs_to, lamQ "costs_to") ∈ T) (uT_costs_to : ∀ p ∈ T, p.1 = cP_costs_to → p.2 = lamQ "costs_to")
    (TB_law : LamX.TabB base mg cC_law cP_law) (mT_law : (cP_law, lamQ "law") ∈ T) (uT_law : ∀ p ∈ T, p.1 = cP_law → p.2 = lamQ "law")
    (TK : ToldK K mg s__law_told) : Cal P w K mg base T "law" ["_law_script"] 10 h_law := by
  have G_is_inside := ok_is_inside (P := P) (w := w) (base := base) (T := T) D_is_inside B
  have G_need_cell := ok_need_cell (P := P) (w := w) (base := base) (T := T) D_need_cell B G_is_inside Z_NoCell
  have G_sign_at := ok_sign_at (P := P) (w := w) (base := base) (T := T) D_sign_at B G_need_cell
  have G_is_free := ok_is_free (P := P) (w := w) (base := base) (T := T) D_is_free B C_BLOCKING
  have G_cells := ok_cells (P := P) (w := w) (base := base) (T := T) D_cells B
  have G_side_of := ok_side_of (P := P) (w := w) (base := base) (T := T) D_side_of B
  have G_is_crossed := ok_is_crossed (P := P) (w := w) (base := base) (T := T) D_is_crossed B G_side_of
  have G_crossed := ok_crossed (P := P) (w := w) (base := base) (T := T) D_crossed B G_is_crossed
  have G_is_near := ok_is_near (P := P) (w := w) (base := base) (T := T) D_is_near B
  have G_sees := ok_sees (P := P) (w := w) (base := base) (T := T) D_sees B G_need_cell G_is_near G_is_free G_crossed
  have G_neighbours := ok_neighbours (P := P) (w := w) (base := base) (T := T) D_neighbours B G_is_free G_is_inside C_STEPS
  have G_part_of := ok_part_of (P := P) (w := w) (base := base) (T := T) D_part_of B G_neighbours
  have G_parts := ok_parts (P := P) (w := w) (base := base) (T := T) D_parts B G_cells G_is_free G_part_of
  have G_is_seen := ok_is_seen (P := P) (w := w) (base := base) (T := T) D_is_seen B G_sees
  have G_costs_to := ok_costs_to (P := P) (w := w) (base := base) (T := T) D_costs_to TB_costs_to mT_costs_to uT_costs_to TK B G_part_of G_is_seen G_neighbours
  have G_slyest := ok_slyest (P := P) (w := w) (base := base) (T := T) D_slyest B G_is_free G_is_inside G_costs_to G_neighbours G_is_seen Z_NoCell Z_NoWay
  have G__law_cell_at := ok__law_cell_at (P := P) (w := w) (base := base) (T := T) D__law_cell_at B
  have G__law_mixed := ok__law_mixed (P := P) (w := w) (base := base) (T := T) D__law_mixed B G__law_cell_at
  have G__law_drawn := ok__law_drawn (P := P) (w := w) (base := base) (T := T) D__law_drawn B
  have G__law_hall := ok__law_hall (P := P) (w := w) (base := base) (T := T) D__law_hall B G__law_drawn
  have G__law_floors := ok__law_floors (P := P) (w := w) (base := base) (T := T) D__law_floors B
  have G__law_some := ok__law_some (P := P) (w := w) (base := base) (T := T) D__law_some B G__law_floors G__law_drawn
  have G__law_cells := ok__law_cells (P := P) (w := w) (base := base) (T := T) D__law_cells B
  have G__law_far_off := ok__law_far_off (P := P) (w := w) (base := base) (T := T) D__law_far_off B
  have G_law := ok_law (P := P) (w := w) (base := base) (T := T) D_law TB_law mT_law uT_law TK B G__law_hall G__law_mixed G__law_some G__law_cells G__law_far_off G_sign_at G_parts G_slyest
  exact G_law
end
end Lw
set_option maxHeartbeats 4000000
namespace Lw
open PySem PV
theorem lit_116_111_108_100 : D.str "told" = sE ['t', 'o', 'l', 'd'] := congrArg D.str (by decide +kernel)
theorem lit_120 : D.str "x" = sE ['x'] := congrArg D.str (by decide +kernel)
theorem lit_35 : D.str "#" = sE ['#'] := congrArg D.str (by decide +kernel)
theorem lit_46 : D.str "." = sE ['.'] := congrArg D.str (by decide +kernel)
theorem lit_46_111 : D.str ".o" = sE ['.', 'o'] := congrArg D.str (by decide +kernel)
theorem lit_46_35_46_35_46_111_120_46 : D.str ".#.#.ox." = sE ['.', '#', '.', '#', '.', 'o', 'x', '.'] := congrArg D.str (by decide +kernel)
theorem lit_46_46_46_35_35_46_120_46 : D.str "...##.x." = sE ['.', '.', '.', '#', '#', '.', 'x', '.'] := congrArg D.str (by decide +kernel)
theorem lit_46_46_46_46_46_35_35_111 : D.str ".....##o" = sE ['.', '.', '.', '.', '.', '#', '#', 'o'] := congrArg D.str (by decide +kernel)
theorem lit_46_46_46_46_46_46_46_35 : D.str ".......#" = sE ['.', '.', '.', '.', '.', '.', '.', '#'] := congrArg D.str (by decide +kernel)
theorem lit_e : D.str "" = sE [] := congrArg D.str (by decide +kernel)
theorem R_is_inside (hall : Hl) (cell : Cell) : Rf bE (h_is_inside [hE hall, cE2 cell]) (Lk.is_inside hall cell) := by
  unfold h_is_inside b_is_inside Lk.is_inside
  exact (rf_run rfl (rt_last (rt_rets (rf_And (ev_chain ev_C (ev_2 (ev_V rfl) ev_C (ixF2_0)) rfl (fun _ => (ev_1 (ev_2 (ev_V rfl) ev_C (ixF2_0)) (len_t hall.1))) (fun _ => rfl)) fun _ => (rf_chain (rk_p ev_C (rk_p (ev_2 (ev_V rfl) ev_C (ixF2_1)) (rf_chK rfl (rk_m (rf_1 (rk_m (rf_2 (rk_p (ev_2 (ev_V rfl) ev_C (ixF2_0)) (rk_p ev_C (rf_ix_t hall.1 0)))) fun x1 => (rf_len_s x1))) fun x2 => (rf_some rfl))))))) poF)))
theorem R_need_cell (hall : Hl) (cell : Cell) : Rf uE (h_need_cell [hE hall, cE2 cell]) (Lk.need_cell hall cell) := by
  unfold h_need_cell b_need_cell Lk.need_cell
  exact (rf_run rfl (rt_last (rt_ifM (rt_NotM (rt_B (rf_call (ra_p (ev_V rfl) (ra_p (ev_V rfl) (ra_nil (R_is_inside hall cell))))))) rt_raise (rt_nilS (rt_nil (poFn rfl))))))
theorem R_sign_at (hall : Hl) (cell : Cell) : Rf sE (h_sign_at [hE hall, cE2 cell]) (Lk.sign_at hall cell) := by
  unfold h_sign_at b_sign_at Lk.sign_at
  exact (rf_run rfl (rt_drop (ea := uE) (rf_call (ra_p (ev_V rfl) (ra_p (ev_V rfl) (ra_nil (R_need_cell hall cell))))) fun u2 => (rt_last (rt_rets (rf_2 (rk_m (rf_2 (rk_p (ev_2 (ev_V rfl) ev_C (ixF2_0)) (rk_p (ev_2 (ev_V rfl) ev_C (ixF2_0)) (rf_ix_t hall.1 cell.1)))) fun x1 => (rk_p (ev_2 (ev_V rfl) ev_C (ixF2_1)) (rf_ix_s x1 cell.2)))) poF))))
theorem R_is_free (hall : Hl) (cell : Cell) : Rf bE (h_is_free [hE hall, cE2 cell]) (Lk.is_free hall cell) := by
  unfold h_is_free b_is_free Lk.is_free
  exact (rf_run rfl (rt_last (rt_rets (rf_2 (rk_m (rf_2 (rk_m (rf_2 (rk_p (ev_2 (ev_V rfl) ev_C (ixF2_0)) (rk_p (ev_2 (ev_V rfl) ev_C (ixF2_0)) (rf_ix_t hall.1 cell.1)))) fun x1 => (rk_p (ev_2 (ev_V rfl) ev_C (ixF2_1)) (rf_ix_s x1 cell.2)))) fun x2 => (rk_p (ev_Ce (e := cE sE [['#'], ['x']]) (by first | (rw [lit_35, lit_120]; done) | (rw [lit_35, lit_120]; rfl))) (rf_some (nin_c eq_str))))) poF)))
theorem R_cells (hall : Hl) : Rf (lE cE2) (h_cells [hE hall]) (Lk.cells hall) := by
  unfold h_cells b_cells Lk.cells
  exact (rf_run rfl (rt_set (ea := (lE cE2)) (fun found => [some (hE hall), some ((lE cE2) found), none, none]) (rf_p (ev_as ((lE cE2) []) (ev_lst ev_nil))) (fun _ => rfl) fun found => (rt_join (I := (fun (found : (List Cell)) (σ : Sl) => ∃ d2 : Option D, σ = [some (hE hall), some ((lE cE2) found), d2, none])) (K := (fun (found : (List Cell)) => (Res.ok found))) (rt_forM (I := (fun (found : (List Cell)) (σ : Sl) => ∃ d2 : Option D, σ = [some (hE hall), some ((lE cE2) found), d2, none])) (body := (fun (row : Int) (found : (List Cell)) => (((((ixR hall.1 0).bind fun x1 => (txLen x1)).bind fun x2 => (rngR x2)).bind fun l3 => lcR l3 (fun column => Res.ok true) (fun column => Res.ok (row, column))).bind fun x4 => (addL found x4).bind fun (found : (List Cell)) => (Res.ok found)))) (ri_rng1 (ra_p (ev_1 (ev_2 (ev_V rfl) ev_C (ixF2_0)) (len_t hall.1)) (ra_nil (rf_rng (hall.1.length : Int))))) ⟨_, rfl⟩ (fun row found _ => by rintro ⟨d2, rfl⟩; exact ⟨[some (hE hall), some ((lE cE2) found), some (iE row), none], rfl, (rt_last (rt_ext (e := cE2) (l := found) (fun found => [some (hE hall), some ((lE cE2) found), some (iE row), none]) rfl (rf_lcM (ri_rng1 (ra_m (rf_1 (rk_m (rf_2 (rk_p (ev_2 (ev_V rfl) ev_C (ixF2_0)) (rk_p ev_C (rf_ix_t hall.1 0)))) fun x1 => (rf_len_s x1))) fun x2 => (ra_nil (rf_rng x2)))) (fun column => ⟨[some (hE hall), some ((lE cE2) found), some (iE row), some (iE column)], rfl, (rf_p (e := tI) (f := bYes) rfl), (rf_p (ev_as (cE2 (row, column)) (ev_tup (ev_cons (ev_V rfl) (ev_cons (ev_V rfl) ev_nil)))))⟩)) (fun _ => rfl) fun found => (rt_nil (poL ⟨_, rfl⟩))))⟩)) (fun found _ => by rintro ⟨d2, rfl⟩; exact (rt_last (rt_rets (rf_p (ev_V rfl)) poF))))))
theorem R_side_of (one : Cell) (other : Cell) (spot : Cell) : Rf iE (h_side_of [cE2 one, cE2 other, cE2 spot]) (Lk.side_of one other spot) := by
  unfold h_side_of b_side_of Lk.side_of
  exact (rf_run rfl (rt_set (ea := iE) (fun high => [some (cE2 one), some (cE2 other), some (cE2 spot), some (iE high), none]) (rf_p (ev_2 ev_C (ev_2 (ev_2 (ev_V rfl) ev_C (ixF2_0)) (ev_2 (ev_V rfl) ev_C (ixF2_0)) rfl) (mulI_cl (by decide)))) (fun _ => rfl) fun high => (rt_set (ea := iE) (fun wide => [some (cE2 one), some (cE2 other), some (cE2 spot), some (iE high), some (iE wide)]) (rf_p (ev_2 ev_C (ev_2 (ev_2 (ev_V rfl) ev_C (ixF2_1)) (ev_2 (ev_V rfl) ev_C (ixF2_1)) rfl) (mulI_cl (by decide)))) (fun _ => rfl) fun wide => (rt_last (rt_rets (rf_2 (rk_m (rf_2 (rk_p (ev_V rfl) (rk_p (ev_2 (ev_2 (ev_2 (ev_V rfl) ev_C (ixF2_1)) (ev_2 ev_C (ev_2 (ev_V rfl) ev_C (ixF2_1)) (mulI_cl (by decide))) rfl) ev_C rfl) (rf_mul high ((spot.2 - (2 * one.2)) - 1))))) fun x1 => (rk_m (rf_2 (rk_p (ev_V rfl) (rk_p (ev_2 (ev_2 (ev_2 (ev_V rfl) ev_C (ixF2_0)) (ev_2 ev_C (ev_2 (ev_V rfl) ev_C (ixF2_0)) (mulI_cl (by decide))) rfl) ev_C rfl) (rf_mul wide ((spot.1 - (2 * one.1)) - 1))))) fun x2 => (rf_some rfl)))) poF)))))
theorem R_is_crossed (one : Cell) (other : Cell) (cell : Cell) : Rf bE (h_is_crossed [cE2 one, cE2 other, cE2 cell]) (Lk.is_crossed one other cell) := by
  unfold h_is_crossed b_is_crossed Lk.is_crossed
  exact (rf_run rfl (rt_asg (ea := cE2) (fun y1 => [some (cE2 one), some (cE2 other), some (cE2 cell), some (iE y1.1), some (iE y1.2), none, none, none]) (rf_p (ev_V rfl)) (fun _ => rfl) fun y1 => (rt_set (ea := (lE cE2)) (fun spots => [some (cE2 one), some (cE2 other), some (cE2 cell), some (iE y1.1), some (iE y1.2), some ((lE cE2) spots), none, none]) (rf_p (ev_as ((lE cE2) [((2 * y1.1), (2 * y1.2)), ((2 * y1.1), ((2 * y1.2) + 2)), (((2 * y1.1) + 2), (2 * y1.2)), (((2 * y1.1) + 2), ((2 * y1.2) + 2))]) (ev_lst (ev_cons (ev_as (cE2 ((2 * y1.1), (2 * y1.2))) (ev_tup (ev_cons (ev_2 ev_C (ev_V rfl) (mulI_cl (by decide))) (ev_cons (ev_2 ev_C (ev_V rfl) (mulI_cl (by decide))) ev_nil)))) (ev_cons (ev_as (cE2 ((2 * y1.1), ((2 * y1.2) + 2))) (ev_tup (ev_cons (ev_2 ev_C (ev_V rfl) (mulI_cl (by decide))) (ev_cons (ev_2 (ev_2 ev_C (ev_V rfl) (mulI_cl (by decide))) ev_C rfl) ev_nil)))) (ev_cons (ev_as (cE2 (((2 * y1.1) + 2), (2 * y1.2))) (ev_tup (ev_cons (ev_2 (ev_2 ev_C (ev_V rfl) (mulI_cl (by decide))) ev_C rfl) (ev_cons (ev_2 ev_C (ev_V rfl) (mulI_cl (by decide))) ev_nil)))) (ev_cons (ev_as (cE2 (((2 * y1.1) + 2), ((2 * y1.2) + 2))) (ev_tup (ev_cons (ev_2 (ev_2 ev_C (ev_V rfl) (mulI_cl (by decide))) ev_C rfl) (ev_cons (ev_2 (ev_2 ev_C (ev_V rfl) (mulI_cl (by decide))) ev_C rfl) ev_nil)))) ev_nil))))))) (fun _ => rfl) fun spots => (rt_set (ea := (lE iE)) (fun sides => [some (cE2 one), some (cE2 other), some (cE2 cell), some (iE y1.1), some (iE y1.2), some ((lE cE2) spots), some ((lE iE) sides), none]) (rf_lcV (it_l (ev_V rfl)) (fun spot => ⟨[some (cE2 one), some (cE2 other), some (cE2 cell), some (iE y1.1), some (iE y1.2), some ((lE cE2) spots), none, some (cE2 spot)], rfl, (rf_p (e := tI) (f := bYes) rfl), (rf_call (ra_p (ev_V rfl) (ra_p (ev_V rfl) (ra_p (ev_V rfl) (ra_nil (R_side_of one other spot))))))⟩)) (fun _ => rfl) fun sides => (rt_last (rt_rets (rf_chain (rk_m (rf_1 (rk_p (ev_V rfl) (rf_minl sides))) fun x3 => (rk_p ev_C (rf_chK rfl (rk_m (rf_1 (rk_p (ev_V rfl) (rf_maxl sides))) fun x2 => (rf_some rfl)))))) poF))))))
theorem R_crossed (one : Cell) (other : Cell) : Rf (tE cE2) (h_crossed [cE2 one, cE2 other]) (Lk.crossed one other) := by
  unfold h_crossed b_crossed Lk.crossed
  exact (rf_run rfl (rt_set (ea := (lE cE2)) (fun found => [some (cE2 one), some (cE2 other), some ((lE cE2) found), none, none]) (rf_p (ev_as ((lE cE2) []) (ev_lst ev_nil))) (fun _ => rfl) fun found => (rt_join (I := (fun (found : (List Cell)) (σ : Sl) => ∃ d3 : Option D, ∃ d4 : Option D, σ = [some (cE2 one), some (cE2 other), some ((lE cE2) found), d3, d4])) (K := (fun (found : (List Cell)) => (Res.ok found))) (rt_forM (I := (fun (found : (List Cell)) (σ : Sl) => ∃ d3 : Option D, ∃ d4 : Option D, σ = [some (cE2 one), some (cE2 other), some ((lE cE2) found), d3, d4])) (body := (fun (row : Int) (found : (List Cell)) => (((rngR2 (min one.2 other.2) ((max one.2 other.2) + 1)).bind fun l3 => foldR (fun (column : Int) (found : (List Cell)) => ((if (!memB (row, column) [one, other]) = true then (Lk.is_crossed one other (row, column)) else Res.ok false).bind fun p2 => if p2 = true then ((Res.ok (row, column)).bind fun x1 => (pushL found x1).bind fun (found : (List Cell)) => (Res.ok found)) else (Res.ok found))) l3 found).bind (fun (found : (List Cell)) => (Res.ok found))))) (ri_rng2 (ra_p (ev_N (ev_cons (ev_2 (ev_V rfl) ev_C (ixF2_0)) (ev_cons (ev_2 (ev_V rfl) ev_C (ixF2_0)) ev_nil)) (min2E one.1 other.1)) (ra_p (ev_2 (ev_N (ev_cons (ev_2 (ev_V rfl) ev_C (ixF2_0)) (ev_cons (ev_2 (ev_V rfl) ev_C (ixF2_0)) ev_nil)) (max2E one.1 other.1)) ev_C rfl) (ra_nil (rf_rng2 (min one.1 other.1) ((max one.1 other.1) + 1)))))) ⟨_, _, rfl⟩ (fun row found _ => by rintro ⟨d3, d4, rfl⟩; exact ⟨[some (cE2 one), some (cE2 other), some ((lE cE2) found), some (iE row), d4], rfl, (rt_last (rt_join (I := (fun (found : (List Cell)) (σ : Sl) => ∃ d4 : Option D, σ = [some (cE2 one), some (cE2 other), some ((lE cE2) found), some (iE row), d4])) (K := (fun (found : (List Cell)) => (Res.ok found))) (rt_forM (I := (fun (found : (List Cell)) (σ : Sl) => ∃ d4 : Option D, σ = [some (cE2 one), some (cE2 other), some ((lE cE2) found), some (iE row), d4])) (body := (fun (column : Int) (found : (List Cell)) => ((if (!memB (row, column) [one, other]) = true then (Lk.is_crossed one other (row, column)) else Res.ok false).bind fun p2 => if p2 = true then ((Res.ok (row, column)).bind fun x1 => (pushL found x1).bind fun (found : (List Cell)) => (Res.ok found)) else (Res.ok found)))) (ri_rng2 (ra_p (ev_N (ev_cons (ev_2 (ev_V rfl) ev_C (ixF2_1)) (ev_cons (ev_2 (ev_V rfl) ev_C (ixF2_1)) ev_nil)) (min2E one.2 other.2)) (ra_p (ev_2 (ev_N (ev_cons (ev_2 (ev_V rfl) ev_C (ixF2_1)) (ev_cons (ev_2 (ev_V rfl) ev_C (ixF2_1)) ev_nil)) (max2E one.2 other.2)) ev_C rfl) (ra_nil (rf_rng2 (min one.2 other.2) ((max one.2 other.2) + 1)))))) ⟨_, rfl⟩ (fun column found _ => by rintro ⟨d4, rfl⟩; exact ⟨[some (cE2 one), some (cE2 other), some ((lE cE2) found), some (iE row), some (iE column)], rfl, (rt_last (rt_ifM (rt_And (ev_B (ev_2 (ev_as (cE2 (row, column)) (ev_tup (ev_cons (ev_V rfl) (ev_cons (ev_V rfl) ev_nil)))) (ev_as ((tE cE2) [one, other]) (ev_tup (ev_cons (ev_V rfl) (ev_cons (ev_V rfl) ev_nil)))) (nin_t (eq_p2 eq_int eq_int)))) fun _ => (rt_B (rf_call (ra_p (ev_V rfl) (ra_p (ev_V rfl) (ra_p (ev_as (cE2 (row, column)) (ev_tup (ev_cons (ev_V rfl) (ev_cons (ev_V rfl) ev_nil)))) (ra_nil (R_is_crossed one other (row, column))))))))) (rt_app (e := cE2) (l := found) (fun found => [some (cE2 one), some (cE2 other), some ((lE cE2) found), some (iE row), some (iE column)]) rfl (rf_p (ev_as (cE2 (row, column)) (ev_tup (ev_cons (ev_V rfl) (ev_cons (ev_V rfl) ev_nil))))) (fun _ => rfl) fun found => (rt_nil (poL ⟨_, rfl⟩))) (rt_nilS (rt_nil (poL ⟨_, rfl⟩)))))⟩)) (fun found _ => by rintro ⟨d4, rfl⟩; exact (rt_nil (poL ⟨_, _, rfl⟩)))))⟩)) (fun found _ => by rintro ⟨d3, d4, rfl⟩; exact (rt_last (rt_rets (rf_p (ev_1 (ev_V rfl) rfl)) poF))))))
theorem R_is_near (hall : Hl) (one : Cell) (other : Cell) : Rf bE (h_is_near [hE hall, cE2 one, cE2 other]) (Lk.is_near hall one other) := by
  unfold h_is_near b_is_near Lk.is_near
  exact (rf_run rfl (rt_set (ea := iE) (fun high => [some (hE hall), some (cE2 one), some (cE2 other), some (iE high), none]) (rf_p (ev_2 (ev_2 (ev_V rfl) ev_C (ixF2_0)) (ev_2 (ev_V rfl) ev_C (ixF2_0)) rfl)) (fun _ => rfl) fun high => (rt_set (ea := iE) (fun wide => [some (hE hall), some (cE2 one), some (cE2 other), some (iE high), some (iE wide)]) (rf_p (ev_2 (ev_2 (ev_V rfl) ev_C (ixF2_1)) (ev_2 (ev_V rfl) ev_C (ixF2_1)) rfl)) (fun _ => rfl) fun wide => (rt_last (rt_rets (rf_Or (ev_2 (ev_2 (ev_V rfl) ev_C (ixF2_1)) ev_C (eqE eq_int)) fun _ => (rf_2 (rk_m (rf_2 (rk_m (rf_2 (rk_p (ev_V rfl) (rk_p (ev_V rfl) (rf_mul high high)))) fun x1 => (rk_m (rf_2 (rk_p (ev_V rfl) (rk_p (ev_V rfl) (rf_mul wide wide)))) fun x2 => (rf_some rfl)))) fun x3 => (rk_p (ev_2 (ev_V rfl) ev_C (ixF2_1)) (rf_some rfl))))) poF)))))
theorem R_sees (hall : Hl) (one : Cell) (other : Cell) : Rf bE (h_sees [hE hall, cE2 one, cE2 other]) (Lk.sees hall one other) := by
  unfold h_sees b_sees Lk.sees
  exact (rf_run rfl (rt_drop (ea := uE) (rf_call (ra_p (ev_V rfl) (ra_p (ev_V rfl) (ra_nil (R_need_cell hall one))))) fun u7 => (rt_drop (ea := uE) (rf_call (ra_p (ev_V rfl) (ra_p (ev_V rfl) (ra_nil (R_need_cell hall other))))) fun u6 => (rt_ifM (rt_OrM (rt_NotM (rt_B (rf_call (ra_p (ev_V rfl) (ra_p (ev_V rfl) (ra_nil (R_is_free hall one))))))) (rt_OrM (rt_NotM (rt_B (rf_call (ra_p (ev_V rfl) (ra_p (ev_V rfl) (ra_nil (R_is_free hall other))))))) (rt_NotM (rt_B (rf_call (ra_p (ev_V rfl) (ra_p (ev_V rfl) (ra_p (ev_V rfl) (ra_nil (R_is_near hall one other)))))))))) (rt_rets (rf_p ev_C) poF) (rt_nilS (rt_last (rt_rets (rf_1 (rk_m (rf_lcM (ri_t (rf_call (ra_p (ev_V rfl) (ra_p (ev_V rfl) (ra_nil (R_crossed one other)))))) (fun cell => ⟨[some (hE hall), some (cE2 one), some (cE2 other), some (cE2 cell)], rfl, (rf_p (e := tI) (f := bYes) rfl), (rf_call (ra_p (ev_V rfl) (ra_p (ev_V rfl) (ra_nil (R_is_free hall cell)))))⟩)) fun x4 => (rf_some (all_l x4)))) poF)))))))
theorem R_neighbours (hall : Hl) (cell : Cell) : Rf (lE cE2) (h_neighbours [hE hall, cE2 cell]) (Lk.neighbours hall cell) := by
  unfold h_neighbours b_neighbours Lk.neighbours
  exact (rf_run rfl (rt_set (ea := (lE cE2)) (fun some' => [some (hE hall), some (cE2 cell), some ((lE cE2) some'), none, none, none]) (rf_lcV (it_c (ev_as ((cE (c2E iE iE)) [((-1), (0)), ((0), (-1)), ((0), (1)), ((1), (0))]) ev_C)) (fun z1 => ⟨[some (hE hall), some (cE2 cell), none, some (iE z1.1), some (iE z1.2), none], rfl, (rf_p (e := tI) (f := bYes) rfl), (rf_p (ev_as (cE2 ((cell.1 + z1.1), (cell.2 + z1.2))) (ev_tup (ev_cons (ev_2 (ev_2 (ev_V rfl) ev_C (ixF2_0)) (ev_V rfl) rfl) (ev_cons (ev_2 (ev_2 (ev_V rfl) ev_C (ixF2_1)) (ev_V rfl) rfl) ev_nil)))))⟩)) (fun _ => rfl) fun some' => (rt_last (rt_rets (rf_lcV (it_l (ev_V rfl)) (fun other => ⟨[some (hE hall), some (cE2 cell), some ((lE cE2) some'), none, none, some (cE2 other)], rfl, (rt_AndM (rt_B (rf_call (ra_p (ev_V rfl) (ra_p (ev_V rfl) (ra_nil (R_is_inside hall other)))))) (rt_B (rf_call (ra_p (ev_V rfl) (ra_p (ev_V rfl) (ra_nil (R_is_free hall other))))))), (rf_p (ev_V rfl))⟩)) poF))))
theorem R_part_of (hall : Hl) (cell : Cell) : Rf (tE cE2) (h_part_of [hE hall, cE2 cell]) (Lk.part_of hall cell) := by
  unfold h_part_of b_part_of Lk.part_of
  exact (rf_run rfl (rt_set (ea := (dE bE)) (fun found => [some (hE hall), some (cE2 cell), some ((dE bE) found), none, none]) (rf_d1 (rf_p (ev_V rfl)) (rf_p ev_C)) (fun _ => rfl) fun found => (rt_set (ea := (lE cE2)) (fun todo => [some (hE hall), some (cE2 cell), some ((dE bE) found), some ((lE cE2) todo), none]) (rf_p (ev_as ((lE cE2) [cell]) (ev_lst (ev_cons (ev_V rfl) ev_nil)))) (fun _ => rfl) fun todo => (rt_join (I := (fun (y1 : ((List (Cell × Bool)) × (List Cell))) (σ : Sl) => ∃ d4 : Option D, σ = [some (hE hall), some (cE2 cell), some ((dE bE) y1.1), some ((lE cE2) y1.2), d4])) (K := (fun (y1 : ((List (Cell × Bool)) × (List Cell))) => (Res.ok (sortC (keysZ y1.1))))) (rt_while (I := (fun (y1 : ((List (Cell × Bool)) × (List Cell))) (σ : Sl) => ∃ d4 : Option D, σ = [some (hE hall), some (cE2 cell), some ((dE bE) y1.1), some ((lE cE2) y1.2), d4])) (ct := (fun (y1 : ((List (Cell × Bool)) × (List Cell))) => Res.ok (decide (0 < (y1.2.length : Int))))) (body := (fun (y1 : ((List (Cell × Bool)) × (List Cell))) => ((((popR y1.2).bind fun z2 => ((Lk.neighbours hall z2.1).bind fun x4 => Res.ok (x4, z2.2))).bind fun (b9 : ((List Cell) × (List Cell))) => foldR (fun (other : Cell) (y5 : ((List (Cell × Bool)) × (List Cell))) => (if (!hasK y5.1 other) = true then ((Res.ok true).bind fun x7 => (Res.ok other).bind fun x8 => (putR y5.1 x8 x7).bind fun (found : (List (Cell × Bool))) => ((Res.ok other).bind fun x6 => (pushL y5.2 x6).bind fun (todo : (List Cell)) => (Res.ok (found, todo)))) else (Res.ok (y5.1, y5.2)))) b9.1 (y1.1, b9.2)).bind (fun (y5 : ((List (Cell × Bool)) × (List Cell))) => (Res.ok (y5.1, y5.2)))))) (fun y1 _ => by rintro ⟨d4, rfl⟩; exact (rf_p (ev_B (ev_2 (ev_1 (ev_V rfl) (len_l y1.2)) ev_C rfl)))) (fun y1 _ => by rintro ⟨d4, rfl⟩; exact (rt_last (rt_join (I := (fun (y5 : ((List (Cell × Bool)) × (List Cell))) (σ : Sl) => ∃ d4 : Option D, σ = [some (hE hall), some (cE2 cell), some ((dE bE) y5.1), some ((lE cE2) y5.2), d4])) (K := (fun (y5 : ((List (Cell × Bool)) × (List Cell))) => (Res.ok (y5.1, y5.2)))) (rt_forMx (I := (fun (y5 : ((List (Cell × Bool)) × (List Cell))) (σ : Sl) => ∃ d4 : Option D, σ = [some (hE hall), some (cE2 cell), some ((dE bE) y5.1), some ((lE cE2) y5.2), d4])) (ex := cE2) (body := (fun (other : Cell) (y5 : ((List (Cell × Bool)) × (List Cell))) => (if (!hasK y5.1 other) = true then ((Res.ok true).bind fun x7 => (Res.ok other).bind fun x8 => (putR y5.1 x8 x7).bind fun (found : (List (Cell × Bool))) => ((Res.ok other).bind fun x6 => (pushL y5.2 x6).bind fun (todo : (List Cell)) => (Res.ok (found, todo)))) else (Res.ok (y5.1, y5.2))))) (it := fun (b9 : ((List Cell) × (List Cell))) => b9.1) (y := fun (b9 : ((List Cell) × (List Cell))) => (y1.1, b9.2)) (σ2 := fun (b9 : ((List Cell) × (List Cell))) => [some (hE hall), some (cE2 cell), some ((dE bE) y1.1), some ((lE cE2) b9.2), d4]) (rm_seq (e := fun (b9 : ((List Cell) × (List Cell))) => (lE cE2) b9.1) (g := fun (b9 : ((List Cell) × (List Cell))) => b9.1) (fun _ => rfl) (rm_call (rma_cons (rm_p (ev_V rfl) (rma_cons (rm_bind (rm_pop (ea := cE2) (fun m3 => [some (hE hall), some (cE2 cell), some ((dE bE) y1.1), some ((lE cE2) m3), d4]) rfl (fun _ => rfl)) fun z2 => (rma_nil (rm_rf (R_neighbours hall z2.1) fun x4 => (Rm.ok rfl))))))))) (fun (b9 : ((List Cell) × (List Cell))) => ⟨_, rfl⟩) (fun other y5 _ => by rintro ⟨d4, rfl⟩; exact ⟨[some (hE hall), some (cE2 cell), some ((dE bE) y5.1), some ((lE cE2) y5.2), some (cE2 other)], rfl, (rt_last (rt_if (ev_B (ev_2 (ev_V rfl) (ev_V rfl) (dnotinE other y5.1))) (fun _ => (rt_assoc (rt_dput (ev := bE) (l := y5.1) (fun found => [some (hE hall), some (cE2 cell), some ((dE bE) found), some ((lE cE2) y5.2), some (cE2 other)]) rfl (rf_p ev_C) (rf_p (ev_V rfl)) (fun _ => rfl) fun found => (rt_app (e := cE2) (l := y5.2) (fun todo => [some (hE hall), some (cE2 cell), some ((dE bE) found), some ((lE cE2) todo), some (cE2 other)]) rfl (rf_p (ev_V rfl)) (fun _ => rfl) fun todo => (rt_nil (poL ⟨_, rfl⟩)))))) (fun _ => (rt_nilS (rt_nil (poL ⟨_, rfl⟩))))))⟩)) (fun y5 _ => by rintro ⟨d4, rfl⟩; exact (rt_nil (poL ⟨_, rfl⟩)))))) 200 _ _ ⟨_, rfl⟩) (fun y1 _ => by rintro ⟨d4, rfl⟩; exact (rt_last (rt_rets (rf_p (ev_1 (ev_1 (ev_V rfl) (sortC_d y1.1)) rfl)) poF)))))))
theorem R_parts (hall : Hl) : Rf (tE (tE cE2)) (h_parts [hE hall]) (Lk.parts hall) := by
  unfold h_parts b_parts Lk.parts
  exact (rf_run rfl (rt_set (ea := (lE (tE cE2))) (fun found => [some (hE hall), some ((lE (tE cE2)) found), none, none]) (rf_p (ev_as ((lE (tE cE2)) []) (ev_lst ev_nil))) (fun _ => rfl) fun found => (rt_join (I := (fun (found : (List (List Cell))) (σ : Sl) => ∃ d2 : Option D, σ = [some (hE hall), some ((lE (tE cE2)) found), d2, none])) (K := (fun (found : (List (List Cell))) => (Res.ok found))) (rt_forM (I := (fun (found : (List (List Cell))) (σ : Sl) => ∃ d2 : Option D, σ = [some (hE hall), some ((lE (tE cE2)) found), d2, none])) (body := (fun (cell : Cell) (found : (List (List Cell))) => (((Lk.is_free hall cell).bind fun p2 => if p2 = true then (((lcR found (fun part => Res.ok true) (fun part => Res.ok (memB cell part))).bind fun x1 => Res.ok (x1.any fun b => b)).bind fun p => Res.ok (!p)) else Res.ok false).bind fun p4 => if p4 = true then ((Lk.part_of hall cell).bind fun x3 => (pushL found x3).bind fun (found : (List (List Cell))) => (Res.ok found)) else (Res.ok found)))) (ri_l (rf_call (ra_p (ev_V rfl) (ra_nil (R_cells hall))))) ⟨_, rfl⟩ (fun cell found _ => by rintro ⟨d2, rfl⟩; exact ⟨[some (hE hall), some ((lE (tE cE2)) found), some (cE2 cell), none], rfl, (rt_last (rt_ifM (rt_AndM (rt_B (rf_call (ra_p (ev_V rfl) (ra_p (ev_V rfl) (ra_nil (R_is_free hall cell)))))) (rt_NotM (rt_B (rf_1 (rk_m (rf_lcV (it_l (ev_V rfl)) (fun part => ⟨[some (hE hall), some ((lE (tE cE2)) found), some (cE2 cell), some ((tE cE2) part)], rfl, (rf_p (e := tI) (f := bYes) rfl), (rf_p (ev_2 (ev_V rfl) (ev_V rfl) (in_t (eq_p2 eq_int eq_int))))⟩)) fun x1 => (rf_some (any_l x1))))))) (rt_app (e := (tE cE2)) (l := found) (fun found => [some (hE hall), some ((lE (tE cE2)) found), some (cE2 cell), none]) rfl (rf_call (ra_p (ev_V rfl) (ra_p (ev_V rfl) (ra_nil (R_part_of hall cell))))) (fun _ => rfl) fun found => (rt_nil (poL ⟨_, rfl⟩))) (rt_nilS (rt_nil (poL ⟨_, rfl⟩)))))⟩)) (fun found _ => by rintro ⟨d2, rfl⟩; exact (rt_last (rt_rets (rf_p (ev_1 (ev_V rfl) rfl)) poF))))))
theorem R_is_seen (hall : Hl) (lookers : (List Cell)) (cell : Cell) : Rf bE (h_is_seen [hE hall, (tE cE2) lookers, cE2 cell]) (Lk.is_seen hall lookers cell) := by
  unfold h_is_seen b_is_seen Lk.is_seen
  exact (rf_run rfl (rt_last (rt_rets (rf_1 (rk_m (rf_lcV (it_t (ev_V rfl)) (fun looker => ⟨[some (hE hall), some ((tE cE2) lookers), some (cE2 cell), some (cE2 looker)], rfl, (rf_p (e := tI) (f := bYes) rfl), (rf_call (ra_p (ev_V rfl) (ra_p (ev_V rfl) (ra_p (ev_V rfl) (ra_nil (R_sees hall looker cell))))))⟩)) fun x1 => (rf_some (any_l x1)))) poF)))
theorem R_costs_to (hall : Hl) (lookers : (List Cell)) (goal : Cell) : Rf (dE cE2) (h_costs_to [hE hall, (tE cE2) lookers, cE2 goal]) (Lk.costs_to hall lookers goal) := by
  unfold h_costs_to b_costs_to Lk.costs_to
  exact (rf_run rfl (rt_set (ea := (dE iE)) (fun weights => [some (hE hall), some ((tE cE2) lookers), some (cE2 goal), none, some ((dE iE) weights), none, none, none, none, none]) (rf_1 (rk_m (rf_lcM (ri_t (rf_call (ra_p (ev_V rfl) (ra_p (ev_V rfl) (ra_nil (R_part_of hall goal)))))) (fun cell => ⟨[some (hE hall), some ((tE cE2) lookers), some (cE2 goal), some (cE2 cell), none, none, none, none, none, none], rfl, (rf_p (e := tI) (f := bYes) rfl), (rf_tup (ra_p (ev_V rfl) (ra_m (rf_1 (rk_m (rf_call (ra_p (ev_V rfl) (ra_p (ev_V rfl) (ra_p (ev_V rfl) (ra_nil (R_is_seen hall lookers cell)))))) fun x1 => (rf_some rfl))) fun x2 => (ra_nil (Rf.ok rfl)))))⟩)) fun x4 => (rf_some (dict_l x4)))) (fun _ => rfl) fun weights => (rt_set (ea := (dE cE2)) (fun found => [some (hE hall), some ((tE cE2) lookers), some (cE2 goal), none, some ((dE iE) weights), none, none, none, some ((dE cE2) found), none]) (rf_d1 (rf_p (ev_V rfl)) (rf_tup (ra_m (rf_2 (rk_p (ev_V rfl) (rk_p (ev_V rfl) (rf_getK weights goal)))) fun x5 => (ra_p ev_C (ra_nil (Rf.ok rfl)))))) (fun _ => rfl) fun found => (rt_set (ea := (lE cE2)) (fun todo => [some (hE hall), some ((tE cE2) lookers), some (cE2 goal), none, some ((dE iE) weights), some ((lE cE2) todo), none, none, some ((dE cE2) found), none]) (rf_p (ev_as ((lE cE2) [goal]) (ev_lst (ev_cons (ev_V rfl) ev_nil)))) (fun _ => rfl) fun todo => (rt_join (I := (fun (y6 : ((List Cell) × (List (Cell × Cell)))) (σ : Sl) => ∃ d3 : Option D, ∃ d6 : Option D, ∃ d7 : Option D, σ = [some (hE hall), some ((tE cE2) lookers), some (cE2 goal), d3, some ((dE iE) weights), some ((lE cE2) y6.1), d6, d7, some ((dE cE2) y6.2), none])) (K := (fun (y6 : ((List Cell) × (List (Cell × Cell)))) => (Res.ok y6.2))) (rt_while (I := (fun (y6 : ((List Cell) × (List (Cell × Cell)))) (σ : Sl) => ∃ d3 : Option D, ∃ d6 : Option D, ∃ d7 : Option D, σ = [some (hE hall), some ((tE cE2) lookers), some (cE2 goal), d3, some ((dE iE) weights), some ((lE cE2) y6.1), d6, d7, some ((dE cE2) y6.2), none])) (ct := (fun (y6 : ((List Cell) × (List (Cell × Cell)))) => Res.ok (decide (0 < (y6.1.length : Int))))) (body := (fun (y6 : ((List Cell) × (List (Cell × Cell)))) => ((minKR lexZ (fun one => (getK y6.2 one)) y6.1).bind fun (cell : Cell) => ((Res.ok cell).bind fun x21 => (remR y6.1 x21).bind fun (todo : (List Cell)) => (((Lk.neighbours hall cell).bind fun l20 => foldR (fun (other : Cell) (y7 : ((List Cell) × (List (Cell × Cell)))) => (((((getK y7.2 cell).bind fun x8 => Res.ok x8.1).bind fun x9 => ((getK weights other).bind fun x10 => Res.ok (x9 + x10))).bind fun x13 => ((((getK y7.2 cell).bind fun x11 => Res.ok x11.2).bind fun x12 => Res.ok (x12 + 1)).bind fun x14 => Res.ok (x13, x14))).bind fun (cost : Cell) => ((if (!hasK y7.2 other) = true then Res.ok true else ((getK y7.2 other).bind fun x15 => Res.ok (lexZ cost x15))).bind fun p19 => if p19 = true then ((Res.ok cost).bind fun x17 => (Res.ok other).bind fun x18 => (putR y7.2 x18 x17).bind fun (found : (List (Cell × Cell))) => (if (!memB other y7.1) = true then ((Res.ok other).bind fun x16 => (pushL y7.1 x16).bind fun (todo : (List Cell)) => (Res.ok (todo, found))) else (Res.ok (y7.1, found)))) else (Res.ok (y7.1, y7.2))))) l20 (todo, y6.2)).bind (fun (y7 : ((List Cell) × (List (Cell × Cell)))) => (Res.ok (y7.1, y7.2)))))))) (fun y6 _ => by rintro ⟨d3, d6, d7, rfl⟩; exact (rf_p (ev_B (ev_2 (ev_1 (ev_V rfl) (len_l y6.1)) ev_C rfl)))) (fun y6 _ => by rintro ⟨d3, d6, d7, rfl⟩; exact (rt_set (ea := cE2) (fun cell => [some (hE hall), some ((tE cE2) lookers), some (cE2 goal), some (cE2 cell), some ((dE iE) weights), some ((lE cE2) y6.1), d6, d7, some ((dE cE2) y6.2), none]) (rf_minKey_l lt_cell (ev_V rfl) (fun one => ⟨[some (hE hall), some ((tE cE2) lookers), some (cE2 goal), d3, some ((dE iE) weights), some ((lE cE2) y6.1), d6, d7, some ((dE cE2) y6.2), some (cE2 one)], rfl, (rf_2 (rk_p (ev_V rfl) (rk_p (ev_V rfl) (rf_getK y6.2 one))))⟩)) (fun _ => rfl) fun cell => (rt_remC (l := y6.1) (fun todo => [some (hE hall), some ((tE cE2) lookers), some (cE2 goal), some (cE2 cell), some ((dE iE) weights), some ((lE cE2) todo), d6, d7, some ((dE cE2) y6.2), none]) rfl (rf_p (ev_V rfl)) (fun _ => rfl) fun todo => (rt_last (rt_join (I := (fun (y7 : ((List Cell) × (List (Cell × Cell)))) (σ : Sl) => ∃ d6 : Option D, ∃ d7 : Option D, σ = [some (hE hall), some ((tE cE2) lookers), some (cE2 goal), some (cE2 cell), some ((dE iE) weights), some ((lE cE2) y7.1), d6, d7, some ((dE cE2) y7.2), none])) (K := (fun (y7 : ((List Cell) × (List (Cell × Cell)))) => (Res.ok (y7.1, y7.2)))) (rt_forM (I := (fun (y7 : ((List Cell) × (List (Cell × Cell)))) (σ : Sl) => ∃ d6 : Option D, ∃ d7 : Option D, σ = [some (hE hall), some ((tE cE2) lookers), some (cE2 goal), some (cE2 cell), some ((dE iE) weights), some ((lE cE2) y7.1), d6, d7, some ((dE cE2) y7.2), none])) (body := (fun (other : Cell) (y7 : ((List Cell) × (List (Cell × Cell)))) => (((((getK y7.2 cell).bind fun x8 => Res.ok x8.1).bind fun x9 => ((getK weights other).bind fun x10 => Res.ok (x9 + x10))).bind fun x13 => ((((getK y7.2 cell).bind fun x11 => Res.ok x11.2).bind fun x12 => Res.ok (x12 + 1)).bind fun x14 => Res.ok (x13, x14))).bind fun (cost : Cell) => ((if (!hasK y7.2 other) = true then Res.ok true else ((getK y7.2 other).bind fun x15 => Res.ok (lexZ cost x15))).bind fun p19 => if p19 = true then ((Res.ok cost).bind fun x17 => (Res.ok other).bind fun x18 => (putR y7.2 x18 x17).bind fun (found : (List (Cell × Cell))) => (if (!memB other y7.1) = true then ((Res.ok other).bind fun x16 => (pushL y7.1 x16).bind fun (todo : (List Cell)) => (Res.ok (todo, found))) else (Res.ok (y7.1, found)))) else (Res.ok (y7.1, y7.2)))))) (ri_l (rf_call (ra_p (ev_V rfl) (ra_p (ev_V rfl) (ra_nil (R_neighbours hall cell)))))) ⟨_, _, rfl⟩ (fun other y7 _ => by rintro ⟨d6, d7, rfl⟩; exact ⟨[some (hE hall), some ((tE cE2) lookers), some (cE2 goal), some (cE2 cell), some ((dE iE) weights), some ((lE cE2) y7.1), some (cE2 other), d7, some ((dE cE2) y7.2), none], rfl, (rt_set (ea := cE2) (fun cost => [some (hE hall), some ((tE cE2) lookers), some (cE2 goal), some (cE2 cell), some ((dE iE) weights), some ((lE cE2) y7.1), some (cE2 other), some (cE2 cost), some ((dE cE2) y7.2), none]) (rf_tup (ra_m (rf_2 (rk_m (rf_2 (rk_m (rf_2 (rk_p (ev_V rfl) (rk_p (ev_V rfl) (rf_getK y7.2 cell)))) fun x8 => (rk_p ev_C (rf_some (ixF2_0))))) fun x9 => (rk_m (rf_2 (rk_p (ev_V rfl) (rk_p (ev_V rfl) (rf_getK weights other)))) fun x10 => (rf_some rfl)))) fun x13 => (ra_m (rf_2 (rk_m (rf_2 (rk_m (rf_2 (rk_p (ev_V rfl) (rk_p (ev_V rfl) (rf_getK y7.2 cell)))) fun x11 => (rk_p ev_C (rf_some (ixF2_1))))) fun x12 => (rk_p ev_C (rf_some rfl)))) fun x14 => (ra_nil (Rf.ok rfl))))) (fun _ => rfl) fun cost => (rt_last (rt_ifM (rt_Or (ev_B (ev_2 (ev_V rfl) (ev_V rfl) (dnotinE other y7.2))) fun _ => (rt_B (rf_2 (rk_p (ev_V rfl) (rk_m (rf_2 (rk_p (ev_V rfl) (rk_p (ev_V rfl) (rf_getK y7.2 other)))) fun x15 => (rf_some (ltGE lt_cell))))))) (rt_assoc (rt_dput (ev := cE2) (l := y7.2) (fun found => [some (hE hall), some ((tE cE2) lookers), some (cE2 goal), some (cE2 cell), some ((dE iE) weights), some ((lE cE2) y7.1), some (cE2 other), some (cE2 cost), some ((dE cE2) found), none]) rfl (rf_p (ev_V rfl)) (rf_p (ev_V rfl)) (fun _ => rfl) fun found => (rt_if (ev_B (ev_2 (ev_V rfl) (ev_V rfl) (nin_l (eq_p2 eq_int eq_int)))) (fun _ => (rt_app (e := cE2) (l := y7.1) (fun todo => [some (hE hall), some ((tE cE2) lookers), some (cE2 goal), some (cE2 cell), some ((dE iE) weights), some ((lE cE2) todo), some (cE2 other), some (cE2 cost), some ((dE cE2) found), none]) rfl (rf_p (ev_V rfl)) (fun _ => rfl) fun todo => (rt_nil (poL ⟨_, _, rfl⟩)))) (fun _ => (rt_nilS (rt_nil (poL ⟨_, _, rfl⟩))))))) (rt_nilS (rt_nil (poL ⟨_, _, rfl⟩))))))⟩)) (fun y7 _ => by rintro ⟨d6, d7, rfl⟩; exact (rt_nil (poL ⟨_, _, _, rfl⟩)))))))) 200 _ _ ⟨_, _, _, rfl⟩) (fun y6 _ => by rintro ⟨d3, d6, d7, rfl⟩; exact (rt_last (rt_rets (rf_p (ev_V rfl)) poF))))))))
theorem R_slyest (hall : Hl) (lookers : (List Cell)) (one : Cell) (other : Cell) : Rf (tE cE2) (h_slyest [hE hall, (tE cE2) lookers, cE2 one, cE2 other]) (Lk.slyest hall lookers one other) := by
  unfold h_slyest b_slyest Lk.slyest
  exact (rf_run rfl (rt_join (I := (fun (y1 : Unit) (σ : Sl) => ∃ d4 : Option D, σ = [some (hE hall), some ((tE cE2) lookers), some (cE2 one), some (cE2 other), d4, none, none, none, none, none])) (K := (fun (y1 : Unit) => ((Lk.costs_to hall lookers other).bind fun (costs : (List (Cell × Cell))) => (if (!hasK costs one) = true then (Res.ex "NoWay") else ((Res.ok [one]).bind fun (way : (List Cell)) => ((whileR (fun (way : (List Cell)) => ((ixR way (-1)).bind fun x4 => Res.ok (!eqB x4 other))) (fun (way : (List Cell)) => ((ixR way (-1)).bind fun (here : Cell) => (((Lk.is_seen hall lookers here).bind fun x5 => Res.ok (if x5 = true then 1 else 0)).bind fun (weight : Int) => (((((getK costs here).bind fun x6 => Res.ok x6.1).bind fun x7 => Res.ok (x7 - weight)).bind fun x10 => ((((getK costs here).bind fun x8 => Res.ok x8.2).bind fun x9 => Res.ok (x9 - 1)).bind fun x11 => Res.ok (x10, x11))).bind fun (due : Cell) => ((((((Lk.neighbours hall here).bind fun l13 => lcR l13 (fun cell => ((getK costs cell).bind fun x12 => Res.ok (eqB x12 due))) (fun cell => Res.ok cell)).bind fun x14 => (ixR x14 0)).bind fun x15 => Res.ok [x15]).bind fun x16 => (addL way x16)).bind fun (way : (List Cell)) => (Res.ok way)))))) 200 way).bind (fun (way : (List Cell)) => (Res.ok way)))))))) (rt_for (I := (fun (y1 : Unit) (σ : Sl) => ∃ d4 : Option D, σ = [some (hE hall), some ((tE cE2) lookers), some (cE2 one), some (cE2 other), d4, none, none, none, none, none])) (body := (fun (cell : Cell) (y1 : Unit) => ((((Lk.is_inside hall cell).bind fun p => Res.ok (!p)).bind fun p2 => if p2 = true then Res.ok true else ((Lk.is_free hall cell).bind fun p => Res.ok (!p))).bind fun p3 => if p3 = true then (Res.ex "NoCell") else (Res.ok ())))) (it_t (ev_as ((tE cE2) [one, other]) (ev_tup (ev_cons (ev_V rfl) (ev_cons (ev_V rfl) ev_nil))))) ⟨_, rfl⟩ (fun cell y1 _ => by rintro ⟨d4, rfl⟩; exact ⟨[some (hE hall), some ((tE cE2) lookers), some (cE2 one), some (cE2 other), some (cE2 cell), none, none, none, none, none], rfl, (rt_last (rt_ifM (rt_OrM (rt_NotM (rt_B (rf_call (ra_p (ev_V rfl) (ra_p (ev_V rfl) (ra_nil (R_is_inside hall cell))))))) (rt_NotM (rt_B (rf_call (ra_p (ev_V rfl) (ra_p (ev_V rfl) (ra_nil (R_is_free hall cell)))))))) rt_raise (rt_nilS (rt_nil (poL ⟨_, rfl⟩)))))⟩)) (fun y1 _ => by rintro ⟨d4, rfl⟩; exact (rt_set (ea := (dE cE2)) (fun costs => [some (hE hall), some ((tE cE2) lookers), some (cE2 one), some (cE2 other), d4, some ((dE cE2) costs), none, none, none, none]) (rf_call (ra_p (ev_V rfl) (ra_p (ev_V rfl) (ra_p (ev_V rfl) (ra_nil (R_costs_to hall lookers other)))))) (fun _ => rfl) fun costs => (rt_if (ev_B (ev_2 (ev_V rfl) (ev_V rfl) (dnotinE one costs))) (fun _ => rt_raise) (fun _ => (rt_nilS (rt_set (ea := (tE cE2)) (fun way => [some (hE hall), some ((tE cE2) lookers), some (cE2 one), some (cE2 other), d4, some ((dE cE2) costs), some ((tE cE2) way), none, none, none]) (rf_p (ev_as ((tE cE2) [one]) (ev_tup (ev_cons (ev_V rfl) ev_nil)))) (fun _ => rfl) fun way => (rt_join (I := (fun (way : (List Cell)) (σ : Sl) => ∃ d7 : Option D, ∃ d8 : Option D, ∃ d9 : Option D, σ = [some (hE hall), some ((tE cE2) lookers), some (cE2 one), some (cE2 other), d4, some ((dE cE2) costs), some ((tE cE2) way), d7, d8, d9])) (K := (fun (way : (List Cell)) => (Res.ok way))) (rt_while (I := (fun (way : (List Cell)) (σ : Sl) => ∃ d7 : Option D, ∃ d8 : Option D, ∃ d9 : Option D, σ = [some (hE hall), some ((tE cE2) lookers), some (cE2 one), some (cE2 other), d4, some ((dE cE2) costs), some ((tE cE2) way), d7, d8, d9])) (ct := (fun (way : (List Cell)) => ((ixR way (-1)).bind fun x4 => Res.ok (!eqB x4 other)))) (body := (fun (way : (List Cell)) => ((ixR way (-1)).bind fun (here : Cell) => (((Lk.is_seen hall lookers here).bind fun x5 => Res.ok (if x5 = true then 1 else 0)).bind fun (weight : Int) => (((((getK costs here).bind fun x6 => Res.ok x6.1).bind fun x7 => Res.ok (x7 - weight)).bind fun x10 => ((((getK costs here).bind fun x8 => Res.ok x8.2).bind fun x9 => Res.ok (x9 - 1)).bind fun x11 => Res.ok (x10, x11))).bind fun (due : Cell) => ((((((Lk.neighbours hall here).bind fun l13 => lcR l13 (fun cell => ((getK costs cell).bind fun x12 => Res.ok (eqB x12 due))) (fun cell => Res.ok cell)).bind fun x14 => (ixR x14 0)).bind fun x15 => Res.ok [x15]).bind fun x16 => (addL way x16)).bind fun (way : (List Cell)) => (Res.ok way))))))) (fun way _ => by rintro ⟨d7, d8, d9, rfl⟩; exact (rt_B (rf_2 (rk_m (rf_2 (rk_p (ev_V rfl) (rk_p (ev_1 ev_C rfl) (rf_ix_t way (-1))))) fun x4 => (rk_p (ev_V rfl) (rf_some (neE (eq_p2 eq_int eq_int)))))))) (fun way _ => by rintro ⟨d7, d8, d9, rfl⟩; exact (rt_set (ea := cE2) (fun here => [some (hE hall), some ((tE cE2) lookers), some (cE2 one), some (cE2 other), d4, some ((dE cE2) costs), some ((tE cE2) way), some (cE2 here), d8, d9]) (rf_2 (rk_p (ev_V rfl) (rk_p (ev_1 ev_C rfl) (rf_ix_t way (-1))))) (fun _ => rfl) fun here => (rt_set (ea := iE) (fun weight => [some (hE hall), some ((tE cE2) lookers), some (cE2 one), some (cE2 other), d4, some ((dE cE2) costs), some ((tE cE2) way), some (cE2 here), some (iE weight), d9]) (rf_1 (rk_m (rf_call (ra_p (ev_V rfl) (ra_p (ev_V rfl) (ra_p (ev_V rfl) (ra_nil (R_is_seen hall lookers here)))))) fun x5 => (rf_some rfl))) (fun _ => rfl) fun weight => (rt_set (ea := cE2) (fun due => [some (hE hall), some ((tE cE2) lookers), some (cE2 one), some (cE2 other), d4, some ((dE cE2) costs), some ((tE cE2) way), some (cE2 here), some (iE weight), some (cE2 due)]) (rf_tup (ra_m (rf_2 (rk_m (rf_2 (rk_m (rf_2 (rk_p (ev_V rfl) (rk_p (ev_V rfl) (rf_getK costs here)))) fun x6 => (rk_p ev_C (rf_some (ixF2_0))))) fun x7 => (rk_p (ev_V rfl) (rf_some rfl)))) fun x10 => (ra_m (rf_2 (rk_m (rf_2 (rk_m (rf_2 (rk_p (ev_V rfl) (rk_p (ev_V rfl) (rf_getK costs here)))) fun x8 => (rk_p ev_C (rf_some (ixF2_1))))) fun x9 => (rk_p ev_C (rf_some rfl)))) fun x11 => (ra_nil (Rf.ok rfl))))) (fun _ => rfl) fun due => (rt_last (rt_set (ea := (tE cE2)) (fun way => [some (hE hall), some ((tE cE2) lookers), some (cE2 one), some (cE2 other), d4, some ((dE cE2) costs), some ((tE cE2) way), some (cE2 here), some (iE weight), some (cE2 due)]) (rf_2 (rk_p (ev_V rfl) (rk_m (rf_tup (ra_m (rf_2 (rk_m (rf_lcM (ri_l (rf_call (ra_p (ev_V rfl) (ra_p (ev_V rfl) (ra_nil (R_neighbours hall here)))))) (fun cell => ⟨[some (hE hall), some ((tE cE2) lookers), some (cE2 one), some (cE2 other), some (cE2 cell), some ((dE cE2) costs), some ((tE cE2) way), some (cE2 here), some (iE weight), some (cE2 due)], rfl, (rt_B (rf_2 (rk_m (rf_2 (rk_p (ev_V rfl) (rk_p (ev_V rfl) (rf_getK costs cell)))) fun x12 => (rk_p (ev_V rfl) (rf_some (eqE (eq_p2 eq_int eq_int))))))), (rf_p (ev_V rfl))⟩)) fun x14 => (rk_p ev_C (rf_ix_l x14 0)))) fun x15 => (ra_nil (Rf.ok rfl)))) fun x16 => (rf_addT way x16)))) (fun _ => rfl) fun way => (rt_nil (poL ⟨_, _, _, rfl⟩)))))))) 200 _ _ ⟨_, _, _, rfl⟩) (fun way _ => by rintro ⟨d7, d8, d9, rfl⟩; exact (rt_last (rt_rets (rf_p (ev_V rfl)) poF))))))))))))
theorem R__law_cell_at (script : (List Int)) (k : Int) : Rf iE (h__law_cell_at [nE script, iE k]) (Lk.l_cell_at script k) := by
  unfold h__law_cell_at b__law_cell_at Lk.l_cell_at
  exact (rf_run rfl (rt_if (ev_B (ev_2 (ev_V rfl) (ev_1 (ev_V rfl) (len_n script)) rfl)) (fun _ => (rt_rets (rf_2 (rk_p (ev_V rfl) (rk_p (ev_V rfl) (rf_ix_n script k)))) poF)) (fun _ => (rt_nilS (rt_last (rt_rets (rf_p ev_C) poF))))))
theorem R__law_mixed (script : (List Int)) (k : Int) : Rf iE (h__law_mixed [nE script, iE k]) (Lk.l_mixed script k) := by
  unfold h__law_mixed b__law_mixed Lk.l_mixed
  exact (rf_run rfl (rt_set (ea := iE) (fun drawn => [some (nE script), some (iE k), some (iE drawn)]) (rf_2 (rk_m (rf_2 (rk_m (rf_2 (rk_m (rf_2 (rk_m (rf_call (ra_p (ev_V rfl) (ra_p (ev_V rfl) (ra_nil (R__law_cell_at script k))))) fun x1 => (rk_p (ev_2 ev_C (ev_V rfl) (mulI_cl (by decide))) (rf_some rfl)))) fun x2 => (rk_p ev_C (rf_some rfl)))) fun x3 => (rk_p ev_C (rf_some (mulI_cr (by decide)))))) fun x4 => (rk_p ev_C (rf_some (modI_c (by decide)))))) (fun _ => rfl) fun drawn => (rt_last (rt_rets (rf_2 (rk_m (rf_2 (rk_m (rf_2 (rk_m (rf_2 (rk_p (ev_V rfl) (rk_p (ev_V rfl) (rf_mul drawn drawn)))) fun x5 => (rk_p (ev_2 ev_C (ev_V rfl) (mulI_cl (by decide))) (rf_some rfl)))) fun x6 => (rk_p (ev_V rfl) (rf_some rfl)))) fun x7 => (rk_p ev_C (rf_some (modI_c (by decide)))))) poF))))
theorem R__law_drawn (number : Int) (k : Int) : Rf iE (h__law_drawn [iE number, iE k]) (Lk.l_drawn number k) := by
  unfold h__law_drawn b__law_drawn Lk.l_drawn
  exact (rf_run rfl (rt_set (ea := iE) (fun drawn => [some (iE number), some (iE k), some (iE drawn)]) (rf_p (ev_2 (ev_2 (ev_2 (ev_2 (ev_V rfl) (ev_2 ev_C (ev_V rfl) (mulI_cl (by decide))) rfl) ev_C rfl) ev_C (mulI_cr (by decide))) ev_C (modI_c (by decide)))) (fun _ => rfl) fun drawn => (rt_last (rt_rets (rf_2 (rk_m (rf_2 (rk_m (rf_2 (rk_m (rf_2 (rk_p (ev_V rfl) (rk_p (ev_V rfl) (rf_mul drawn drawn)))) fun x1 => (rk_p (ev_2 ev_C (ev_V rfl) (mulI_cl (by decide))) (rf_some rfl)))) fun x2 => (rk_p (ev_V rfl) (rf_some rfl)))) fun x3 => (rk_p ev_C (rf_some (modI_c (by decide)))))) poF))))
theorem R__law_hall (number : Int) (most : Int) : Rf hE (h__law_hall [iE number, iE most]) (Lk.l_hall number most) := by
  unfold h__law_hall b__law_hall Lk.l_hall
  exact (rf_run rfl (rt_set (ea := iE) (fun high => [some (iE number), some (iE most), some (iE high), none, none, none, none, none, none]) (rf_2 (rk_p ev_C (rk_m (rf_2 (rk_p (ev_V rfl) (rk_p (ev_V rfl) (rf_mod number most)))) fun x1 => (rf_some rfl)))) (fun _ => rfl) fun high => (rt_set (ea := iE) (fun wide => [some (iE number), some (iE most), some (iE high), some (iE wide), none, none, none, none, none]) (rf_2 (rk_p ev_C (rk_m (rf_2 (rk_p (ev_2 (ev_V rfl) ev_C (fdivI_c (by decide))) (rk_p (ev_V rfl) (rf_mod (number / 8) most)))) fun x2 => (rf_some rfl)))) (fun _ => rfl) fun wide => (rt_set (ea := sE) (fun signs => [some (iE number), some (iE most), some (iE high), some (iE wide), some (sE signs), none, none, none, none]) (rf_2 (rk_p (ev_as ((tE sE) [['.', '.', '.', '.', '.', '#', '#', 'o'], ['.', '.', '.', '#', '#', '.', 'x', '.'], ['.', '.', '.', '.', '.', '.', '.', '#'], ['.', '#', '.', '#', '.', 'o', 'x', '.']]) (ev_tup (ev_cons (ev_Ce lit_46_46_46_46_46_35_35_111) (ev_cons (ev_Ce lit_46_46_46_35_35_46_120_46) (ev_cons (ev_Ce lit_46_46_46_46_46_46_46_35) (ev_cons (ev_Ce lit_46_35_46_35_46_111_120_46) ev_nil)))))) (rk_p (ev_2 (ev_2 (ev_V rfl) ev_C (fdivI_c (by decide))) ev_C (modI_c (by decide))) (rf_ix_t [['.', '.', '.', '.', '.', '#', '#', 'o'], ['.', '.', '.', '#', '#', '.', 'x', '.'], ['.', '.', '.', '.', '.', '.', '.', '#'], ['.', '#', '.', '#', '.', 'o', 'x', '.']] ((number / 64) % 4))))) (fun _ => rfl) fun signs => (rt_set (ea := (tE sE)) (fun rows => [some (iE number), some (iE most), some (iE high), some (iE wide), some (sE signs), some ((tE sE) rows), none, none, none]) (rf_p (ev_as ((tE sE) []) (ev_tup ev_nil))) (fun _ => rfl) fun rows => (rt_join (I := (fun (rows : (List Tx)) (σ : Sl) => ∃ d6 : Option D, ∃ d7 : Option D, ∃ d8 : Option D, σ = [some (iE number), some (iE most), some (iE high), some (iE wide), some (sE signs), some ((tE sE) rows), d6, d7, d8])) (K := (fun (rows : (List Tx)) => ((ixR [0, 0, 4, 9, 2, 1, 25] ((number / 512) % 7)).bind fun x9 => Res.ok (rows, x9)))) (rt_forM (I := (fun (rows : (List Tx)) (σ : Sl) => ∃ d6 : Option D, ∃ d7 : Option D, ∃ d8 : Option D, σ = [some (iE number), some (iE most), some (iE high), some (iE wide), some (sE signs), some ((tE sE) rows), d6, d7, d8])) (body := (fun (row : Int) (rows : (List Tx)) => ((Res.ok []).bind fun (line : Tx) => (((rngR wide).bind fun l7 => foldR (fun (column : Int) (line : Tx) => ((((((Lk.l_drawn number ((8 * row) + column)).bind fun x3 => Res.ok (x3 / 16)).bind fun x4 => Res.ok (x4 % 8)).bind fun x5 => (txIx signs x5)).bind fun x6 => (addTx line x6)).bind fun (line : Tx) => (Res.ok line))) l7 line).bind (fun (line : Tx) => ((addL rows [line]).bind fun (rows : (List Tx)) => (Res.ok rows))))))) (ri_rng1 (ra_p (ev_V rfl) (ra_nil (rf_rng high)))) ⟨_, _, _, rfl⟩ (fun row rows _ => by rintro ⟨d6, d7, d8, rfl⟩; exact ⟨[some (iE number), some (iE most), some (iE high), some (iE wide), some (sE signs), some ((tE sE) rows), some (iE row), d7, d8], rfl, (rt_set (ea := sE) (fun line => [some (iE number), some (iE most), some (iE high), some (iE wide), some (sE signs), some ((tE sE) rows), some (iE row), some (sE line), d8]) (rf_p (ev_Ce lit_e)) (fun _ => rfl) fun line => (rt_join (I := (fun (line : Tx) (σ : Sl) => ∃ d8 : Option D, σ = [some (iE number), some (iE most), some (iE high), some (iE wide), some (sE signs), some ((tE sE) rows), some (iE row), some (sE line), d8])) (K := (fun (line : Tx) => ((addL rows [line]).bind fun (rows : (List Tx)) => (Res.ok rows)))) (rt_forM (I := (fun (line : Tx) (σ : Sl) => ∃ d8 : Option D, σ = [some (iE number), some (iE most), some (iE high), some (iE wide), some (sE signs), some ((tE sE) rows), some (iE row), some (sE line), d8])) (body := (fun (column : Int) (line : Tx) => ((((((Lk.l_drawn number ((8 * row) + column)).bind fun x3 => Res.ok (x3 / 16)).bind fun x4 => Res.ok (x4 % 8)).bind fun x5 => (txIx signs x5)).bind fun x6 => (addTx line x6)).bind fun (line : Tx) => (Res.ok line)))) (ri_rng1 (ra_p (ev_V rfl) (ra_nil (rf_rng wide)))) ⟨_, rfl⟩ (fun column line _ => by rintro ⟨d8, rfl⟩; exact ⟨[some (iE number), some (iE most), some (iE high), some (iE wide), some (sE signs), some ((tE sE) rows), some (iE row), some (sE line), some (iE column)], rfl, (rt_last (rt_set (ea := sE) (fun line => [some (iE number), some (iE most), some (iE high), some (iE wide), some (sE signs), some ((tE sE) rows), some (iE row), some (sE line), some (iE column)]) (rf_2 (rk_p (ev_V rfl) (rk_m (rf_2 (rk_p (ev_V rfl) (rk_m (rf_2 (rk_m (rf_2 (rk_m (rf_call (ra_p (ev_V rfl) (ra_p (ev_2 (ev_2 ev_C (ev_V rfl) (mulI_cl (by decide))) (ev_V rfl) rfl) (ra_nil (R__law_drawn number ((8 * row) + column)))))) fun x3 => (rk_p ev_C (rf_some (fdivI_c (by decide)))))) fun x4 => (rk_p ev_C (rf_some (modI_c (by decide)))))) fun x5 => (rf_ix_s signs x5)))) fun x6 => (rf_addTx line x6)))) (fun _ => rfl) fun line => (rt_nil (poL ⟨_, rfl⟩))))⟩)) (fun line _ => by rintro ⟨d8, rfl⟩; exact (rt_last (rt_set (ea := (tE sE)) (fun rows => [some (iE number), some (iE most), some (iE high), some (iE wide), some (sE signs), some ((tE sE) rows), some (iE row), some (sE line), d8]) (rf_2 (rk_p (ev_V rfl) (rk_p (ev_as ((tE sE) [line]) (ev_tup (ev_cons (ev_V rfl) ev_nil))) (rf_addT rows [line])))) (fun _ => rfl) fun rows => (rt_nil (poL ⟨_, _, _, rfl⟩)))))))⟩)) (fun rows _ => by rintro ⟨d6, d7, d8, rfl⟩; exact (rt_last (rt_rets (rf_tup (ra_p (ev_V rfl) (ra_m (rf_2 (rk_p (ev_as ((tE iE) [0, 0, 4, 9, 2, 1, 25]) (ev_tup (ev_cons ev_C (ev_cons ev_C (ev_cons ev_C (ev_cons ev_C (ev_cons ev_C (ev_cons ev_C (ev_cons ev_C ev_nil))))))))) (rk_p (ev_2 (ev_2 (ev_V rfl) ev_C (fdivI_c (by decide))) ev_C (modI_c (by decide))) (rf_ix_t [0, 0, 4, 9, 2, 1, 25] ((number / 512) % 7))))) fun x9 => (ra_nil (Rf.ok rfl))))) poF)))))))))
theorem R__law_floors (hall : Hl) : Rf (lE cE2) (h__law_floors [hE hall]) (Lk.l_floors hall) := by
  unfold h__law_floors b__law_floors Lk.l_floors
  exact (rf_run rfl (rt_set (ea := (lE cE2)) (fun found => [some (hE hall), some ((lE cE2) found), none, none, none, none]) (rf_p (ev_as ((lE cE2) []) (ev_lst ev_nil))) (fun _ => rfl) fun found => (rt_join (I := (fun (found : (List Cell)) (σ : Sl) => ∃ d2 : Option D, ∃ d3 : Option D, σ = [some (hE hall), some ((lE cE2) found), d2, d3, none, none])) (K := (fun (found : (List Cell)) => (Res.ok found))) (rt_for (I := (fun (found : (List Cell)) (σ : Sl) => ∃ d2 : Option D, ∃ d3 : Option D, σ = [some (hE hall), some ((lE cE2) found), d2, d3, none, none])) (body := (fun (z1 : (Int × Tx)) (found : (List Cell)) => (((lcR (enumZ (charsZ z1.2)) (fun z2 => Res.ok (eqB z2.2 ['.'])) (fun z2 => Res.ok (z1.1, z2.1))).bind fun x3 => (addL found x3)).bind fun (found : (List Cell)) => (Res.ok found)))) (it_enum_t (ev_2 (ev_V rfl) ev_C (ixF2_0))) ⟨_, _, rfl⟩ (fun z1 found _ => by rintro ⟨d2, d3, rfl⟩; exact ⟨[some (hE hall), some ((lE cE2) found), some (iE z1.1), some (sE z1.2), none, none], rfl, (rt_last (rt_set (ea := (lE cE2)) (fun found => [some (hE hall), some ((lE cE2) found), some (iE z1.1), some (sE z1.2), none, none]) (rf_2 (rk_p (ev_V rfl) (rk_m (rf_lcV (it_enum_s (ev_V rfl)) (fun z2 => ⟨[some (hE hall), some ((lE cE2) found), some (iE z1.1), some (sE z1.2), some (iE z2.1), some (sE z2.2)], rfl, (rf_p (ev_B (ev_2 (ev_V rfl) (ev_Ce lit_46) (eqE eq_str)))), (rf_p (ev_as (cE2 (z1.1, z2.1)) (ev_tup (ev_cons (ev_V rfl) (ev_cons (ev_V rfl) ev_nil)))))⟩)) fun x3 => (rf_addLs found x3)))) (fun _ => rfl) fun found => (rt_nil (poL ⟨_, _, rfl⟩))))⟩)) (fun found _ => by rintro ⟨d2, d3, rfl⟩; exact (rt_last (rt_rets (rf_p (ev_V rfl)) poF))))))
theorem R__law_some (hall : Hl) (number : Int) : Rf (tE cE2) (h__law_some [hE hall, iE number]) (Lk.l_some hall number) := by
  unfold h__law_some b__law_some Lk.l_some
  exact (rf_run rfl (rt_last (rt_rets (rf_1 (rk_m (rf_lcM (ri_enum_l (rf_call (ra_p (ev_V rfl) (ra_nil (R__law_floors hall))))) (fun z2 => ⟨[some (hE hall), some (iE number), some (iE z2.1), some (cE2 z2.2)], rfl, (rt_B (rf_2 (rk_m (rf_2 (rk_m (rf_2 (rk_m (rf_call (ra_p (ev_V rfl) (ra_p (ev_V rfl) (ra_nil (R__law_drawn number z2.1))))) fun x3 => (rk_p ev_C (rf_some (fdivI_c (by decide)))))) fun x4 => (rk_p ev_C (rf_some (modI_c (by decide)))))) fun x5 => (rk_p ev_C (rf_some (eqE eq_int)))))), (rf_p (ev_V rfl))⟩)) fun x7 => (rf_some rfl))) poF)))
theorem R__law_cells (hall : Hl) : Rf (lE cE2) (h__law_cells [hE hall]) (Lk.l_cells hall) := by
  unfold h__law_cells b__law_cells Lk.l_cells
  exact (rf_run rfl (rt_set (ea := (lE cE2)) (fun found => [some (hE hall), some ((lE cE2) found), none, none]) (rf_p (ev_as ((lE cE2) []) (ev_lst ev_nil))) (fun _ => rfl) fun found => (rt_join (I := (fun (found : (List Cell)) (σ : Sl) => ∃ d2 : Option D, σ = [some (hE hall), some ((lE cE2) found), d2, none])) (K := (fun (found : (List Cell)) => (Res.ok found))) (rt_forM (I := (fun (found : (List Cell)) (σ : Sl) => ∃ d2 : Option D, σ = [some (hE hall), some ((lE cE2) found), d2, none])) (body := (fun (row : Int) (found : (List Cell)) => ((((((ixR hall.1 0).bind fun x1 => (txLen x1)).bind fun x2 => (rngR x2)).bind fun l3 => lcR l3 (fun column => Res.ok true) (fun column => Res.ok (row, column))).bind fun x4 => (addL found x4)).bind fun (found : (List Cell)) => (Res.ok found)))) (ri_rng1 (ra_p (ev_1 (ev_2 (ev_V rfl) ev_C (ixF2_0)) (len_t hall.1)) (ra_nil (rf_rng (hall.1.length : Int))))) ⟨_, rfl⟩ (fun row found _ => by rintro ⟨d2, rfl⟩; exact ⟨[some (hE hall), some ((lE cE2) found), some (iE row), none], rfl, (rt_last (rt_set (ea := (lE cE2)) (fun found => [some (hE hall), some ((lE cE2) found), some (iE row), none]) (rf_2 (rk_p (ev_V rfl) (rk_m (rf_lcM (ri_rng1 (ra_m (rf_1 (rk_m (rf_2 (rk_p (ev_2 (ev_V rfl) ev_C (ixF2_0)) (rk_p ev_C (rf_ix_t hall.1 0)))) fun x1 => (rf_len_s x1))) fun x2 => (ra_nil (rf_rng x2)))) (fun column => ⟨[some (hE hall), some ((lE cE2) found), some (iE row), some (iE column)], rfl, (rf_p (e := tI) (f := bYes) rfl), (rf_p (ev_as (cE2 (row, column)) (ev_tup (ev_cons (ev_V rfl) (ev_cons (ev_V rfl) ev_nil)))))⟩)) fun x4 => (rf_addLs found x4)))) (fun _ => rfl) fun found => (rt_nil (poL ⟨_, rfl⟩))))⟩)) (fun found _ => by rintro ⟨d2, rfl⟩; exact (rt_last (rt_rets (rf_p (ev_V rfl)) poF))))))
theorem R__law_far_off (hall : Hl) (number : Int) : Rf cE2 (h__law_far_off [hE hall, iE number]) (Lk.l_far_off hall number) := by
  unfold h__law_far_off b__law_far_off Lk.l_far_off
  exact (rf_run rfl (rt_par (u := fun (y : (Int × Int)) => iE y.1) (w := fun y => iE y.2) (fun y2 => [some (hE hall), some (iE number), some (iE y2.1), some (iE y2.2)]) (ra_done (ra_p (ev_1 (ev_2 (ev_V rfl) ev_C (ixF2_0)) (len_t hall.1)) (ra_m (rf_1 (rk_m (rf_2 (rk_p (ev_2 (ev_V rfl) ev_C (ixF2_0)) (rk_p ev_C (rf_ix_t hall.1 0)))) fun x1 => (rf_len_s x1))) fun x3 => (ra_nil (Rf.ok rfl))))) (fun _ => rfl) fun y2 => (rt_last (rt_rets (rf_2 (rk_p (ev_as ((tE cE2) [((-1), 0), (0, (-1)), (y2.1, 0), (0, y2.2), (y2.1, y2.2), (8, 8)]) (ev_tup (ev_cons (ev_as (cE2 ((-1), 0)) (ev_tup (ev_cons (ev_1 ev_C rfl) (ev_cons ev_C ev_nil)))) (ev_cons (ev_as (cE2 (0, (-1))) (ev_tup (ev_cons ev_C (ev_cons (ev_1 ev_C rfl) ev_nil)))) (ev_cons (ev_as (cE2 (y2.1, 0)) (ev_tup (ev_cons (ev_V rfl) (ev_cons ev_C ev_nil)))) (ev_cons (ev_as (cE2 (0, y2.2)) (ev_tup (ev_cons ev_C (ev_cons (ev_V rfl) ev_nil)))) (ev_cons (ev_as (cE2 (y2.1, y2.2)) (ev_tup (ev_cons (ev_V rfl) (ev_cons (ev_V rfl) ev_nil)))) (ev_cons (ev_as (cE2 (8, 8)) (ev_tup (ev_cons ev_C (ev_cons ev_C ev_nil)))) ev_nil)))))))) (rk_p (ev_2 (ev_V rfl) ev_C (modI_c (by decide))) (rf_ix_t [((-1), 0), (0, (-1)), (y2.1, 0), (0, y2.2), (y2.1, y2.2), (8, 8)] (number % 6))))) poF))))
theorem R_law (script : (List Int)) : Rf bE (h_law [nE script]) (Lk.law_k33 script) := by
  unfold h_law b_law Lk.law_k33
  exact (rf_run rfl (rt_set (ea := hE) (fun hall => [some (nE script), none, none, none, none, none, some (hE hall), none, none, none, none, none]) (rf_call (ra_m (rf_call (ra_p (ev_V rfl) (ra_p ev_C (ra_nil (R__law_mixed script 0))))) fun x1 => (ra_p ev_C (ra_nil (R__law_hall x1 6))))) (fun _ => rfl) fun hall => (rt_set (ea := (tE cE2)) (fun some' => [some (nE script), none, none, none, none, none, some (hE hall), none, none, some ((tE cE2) some'), none, none]) (rf_sl (rk_m (rf_call (ra_p (ev_V rfl) (ra_m (rf_call (ra_p (ev_V rfl) (ra_p ev_C (ra_nil (R__law_mixed script 1))))) fun x2 => (ra_nil (R__law_some hall x2))))) fun x3 => (rk_p po_no (rk_p (po_so ev_C) (rf_some (cut_t x3 none (some 3))))))) (fun _ => rfl) fun some' => (rt_set (ea := iE) (fun number => [some (nE script), some (iE number), none, none, none, none, some (hE hall), none, none, some ((tE cE2) some'), none, none]) (rf_call (ra_p (ev_V rfl) (ra_p ev_C (ra_nil (R__law_mixed script 2))))) (fun _ => rfl) fun number => (rt_set (ea := (lE cE2)) (fun spots => [some (nE script), some (iE number), some ((lE cE2) spots), none, none, none, some (hE hall), none, none, some ((tE cE2) some'), none, none]) (rf_2 (rk_m (rf_call (ra_p (ev_V rfl) (ra_nil (R__law_cells hall)))) fun x5 => (rk_m (rf_lst (ra_m (rf_call (ra_p (ev_V rfl) (ra_p (ev_2 (ev_V rfl) ev_C (fdivI_c (by decide))) (ra_nil (R__law_far_off hall (number / 64)))))) fun x4 => (ra_nil (Rf.ok rfl)))) fun x6 => (rf_addLs x5 x6)))) (fun _ => rfl) fun spots => (rt_set (ea := cE2) (fun one => [some (nE script), some (iE number), some ((lE cE2) spots), none, none, none, some (hE hall), some (cE2 one), none, some ((tE cE2) some'), none, none]) (rf_2 (rk_p (ev_V rfl) (rk_m (rf_2 (rk_p (ev_V rfl) (rk_p (ev_1 (ev_V rfl) (len_l spots)) (rf_mod number (spots.length : Int))))) fun x7 => (rf_ix_l spots x7)))) (fun _ => rfl) fun one => (rt_set (ea := (lE cE2)) (fun inside => [some (nE script), some (iE number), some ((lE cE2) spots), some ((lE cE2) inside), none, none, some (hE hall), some (cE2 one), none, some ((tE cE2) some'), none, none]) (rf_lcV (it_l (ev_sl (ev_V rfl) po_no (po_so (ev_1 ev_C rfl)) (cut_l spots none (some (-1))))) (fun cell => ⟨[some (nE script), some (iE number), some ((lE cE2) spots), none, none, none, some (hE hall), some (cE2 one), none, some ((tE cE2) some'), some (cE2 cell), none], rfl, (rt_B (rf_2 (rk_m (rf_call (ra_p (ev_V rfl) (ra_p (ev_V rfl) (ra_nil (R_sign_at hall cell))))) fun x8 => (rk_p (ev_Ce lit_46_111) (rf_signIn x8 ['.', 'o']))))), (rf_p (ev_V rfl))⟩)) (fun _ => rfl) fun inside => (rt_joinS (I := (fun (y9 : Unit) (σ : Sl) => ∃ d4 : Option D, ∃ d5 : Option D, ∃ d8 : Option D, σ = [some (nE script), some (iE number), some ((lE cE2) spots), some ((lE cE2) inside), d4, d5, some (hE hall), some (cE2 one), d8, some ((tE cE2) some'), none, none])) (er := bE) (ret := (fun r => r)) (rt_forSM (I := (fun (y9 : Unit) (σ : Sl) => ∃ d4 : Option D, ∃ d5 : Option D, ∃ d8 : Option D, σ = [some (nE script), some (iE number), some ((lE cE2) spots), some ((lE cE2) inside), d4, d5, some (hE hall), some (cE2 one), d8, some ((tE cE2) some'), none, none])) (er := bE) (body := (fun (other : Cell) (y9 : Unit) => ((toldR (Lk.slyest hall some' one other)).bind fun (found : (Told (List Cell))) => (if ((!memB one inside) || (!memB other inside)) = true then (if (!eqB found (.ref 0)) = true then ((Res.ok false).bind fun r10 => Res.ok (Stp.rt r10)) else (Res.ok (Stp.nx ()))) else (((Lk.parts hall).bind fun l11 => lcR l11 (fun part => Res.ok ((memB one part) && (memB other part))) (fun part => Res.ok part)).bind fun (together : (List (List Cell))) => (if (eqB together []) = true then (if (!eqB found (.ref 2)) = true then ((Res.ok false).bind fun r12 => Res.ok (Stp.rt r12)) else (Res.ok (Stp.nx ()))) else ((if (!eqB (Told.tag found) ['t', 'o', 'l', 'd']) = true then Res.ok true else ((((Told.val found).bind fun x15 => (ixR x15 0)).bind fun x16 => Res.ok (!eqB x16 one)).bind fun p17 => if p17 = true then Res.ok true else (((Told.val found).bind fun x13 => (ixR x13 (-1))).bind fun x14 => Res.ok (!eqB x14 other)))).bind fun p19 => if p19 = true then ((Res.ok false).bind fun r18 => Res.ok (Stp.rt r18)) else (Res.ok (Stp.nx ()))))))))) (ri_l (rf_2 (rk_p (ev_V rfl) (rk_p (ev_2 ev_C (ev_2 (ev_1 (ev_V rfl) (len_l spots)) ev_C (fdivI_c (by decide))) rfl) (rf_step spots (1 + ((spots.length : Int) / 12))))))) ⟨_, _, _, rfl⟩ (fun other y9 _ => by rintro ⟨d4, d5, d8, rfl⟩; exact ⟨[some (nE script), some (iE number), some ((lE cE2) spots), some ((lE cE2) inside), d4, d5, some (hE hall), some (cE2 one), some (cE2 other), some ((tE cE2) some'), none, none], rfl, (rt_set (ea := (toldE (tE cE2))) (fun found => [some (nE script), some (iE number), some ((lE cE2) spots), some ((lE cE2) inside), some ((toldE (tE cE2)) found), d5, some (hE hall), some (cE2 one), some (cE2 other), some ((tE cE2) some'), none, none]) (rf_tolds (σ' := [some (nE script), some (iE number), some ((lE cE2) spots), some ((lE cE2) inside), d4, d5, some (hE hall), some (cE2 one), some (cE2 other), some ((tE cE2) some'), none, none]) rfl (rf_call (ra_p (ev_V rfl) (ra_p (ev_V rfl) (ra_p (ev_V rfl) (ra_p (ev_V rfl) (ra_nil (R_slyest hall some' one other)))))))) (fun _ => rfl) fun found => (rt_if (ev_bOr (ev_B (ev_2 (ev_V rfl) (ev_V rfl) (nin_l (eq_p2 eq_int eq_int)))) fun _ => (ev_B (ev_2 (ev_V rfl) (ev_V rfl) (nin_l (eq_p2 eq_int eq_int))))) (fun _ => (rt_assoc (rt_if (ev_B (ev_2 (ev_V rfl) (ev_ref ev_C) (neE (eq_told (eq_t (eq_p2 eq_int eq_int)))))) (fun _ => (rt_retw (ea := bE) (rf_p ev_C) poSr)) (fun _ => (rt_nilS (rt_cont (poS (poLc ⟨_, _, _, rfl⟩)))))))) (fun _ => (rt_nilS (rt_set (ea := (lE (tE cE2))) (fun together => [some (nE script), some (iE number), some ((lE cE2) spots), some ((lE cE2) inside), some ((toldE (tE cE2)) found), some ((lE (tE cE2)) together), some (hE hall), some (cE2 one), some (cE2 other), some ((tE cE2) some'), none, none]) (rf_lcM (ri_t (rf_call (ra_p (ev_V rfl) (ra_nil (R_parts hall))))) (fun part => ⟨[some (nE script), some (iE number), some ((lE cE2) spots), some ((lE cE2) inside), some ((toldE (tE cE2)) found), d5, some (hE hall), some (cE2 one), some (cE2 other), some ((tE cE2) some'), none, some ((tE cE2) part)], rfl, (rf_p (ev_bAnd (ev_B (ev_2 (ev_V rfl) (ev_V rfl) (in_t (eq_p2 eq_int eq_int)))) fun _ => (ev_B (ev_2 (ev_V rfl) (ev_V rfl) (in_t (eq_p2 eq_int eq_int)))))), (rf_p (ev_V rfl))⟩)) (fun _ => rfl) fun together => (rt_last (rt_if (ev_B (ev_2 (ev_V rfl) (ev_as ((lE (tE cE2)) []) (ev_lst ev_nil)) (eqE (eq_l (eq_t (eq_p2 eq_int eq_int)))))) (fun _ => (rt_if (ev_B (ev_2 (ev_V rfl) (ev_ref ev_C) (neE (eq_told (eq_t (eq_p2 eq_int eq_int)))))) (fun _ => (rt_retw (ea := bE) (rf_p ev_C) poSr)) (fun _ => (rt_nilS (rt_nil (poS (poL ⟨_, _, _, rfl⟩))))))) (fun _ => (rt_ifM (rt_Or (ev_B (ev_2 (ev_2 (ev_V rfl) ev_C (ix_tag found)) (ev_Ce lit_116_111_108_100) (neE eq_str))) fun _ => (rt_OrM (rt_B (rf_2 (rk_m (rf_2 (rk_m (rf_2 (rk_p (ev_V rfl) (rk_p ev_C (rf_toldv found)))) fun x15 => (rk_p ev_C (rf_ix_t x15 0)))) fun x16 => (rk_p (ev_V rfl) (rf_some (neE (eq_p2 eq_int eq_int))))))) (rt_B (rf_2 (rk_m (rf_2 (rk_m (rf_2 (rk_p (ev_V rfl) (rk_p ev_C (rf_toldv found)))) fun x13 => (rk_p (ev_1 ev_C rfl) (rf_ix_t x13 (-1))))) fun x14 => (rk_p (ev_V rfl) (rf_some (neE (eq_p2 eq_int eq_int))))))))) (rt_retw (ea := bE) (rf_p ev_C) poSr) (rt_nilS (rt_nil (poS (poL ⟨_, _, _, rfl⟩)))))))))))))⟩)) poF (fun y9 _ => by rintro ⟨d4, d5, d8, rfl⟩; exact (rt_last (rt_rets (rf_p ev_C) poF)))))))))))
end Lw
namespace Lw
open PV
theorem law_true (ns : List Int) (_ : ns.length ≤ 63) : h_law [.scr ns] = .ok (.bl true) := (R_law ns).to (PV.law_k33_ok ns)
end Lw
set_option maxHeartbeats 4000000
open PySem PySem.W PyProof.Rows
set_option maxRecDepth 100000 in
set_option maxHeartbeats 0 in
theorem PySem.Challenge.cw_lookhalls_k33_whole_where_no_way_leads_holds : PySem.Challenge.rw_lookhalls_k33_whole_where_no_way_leads.Holds := by
  w_on; o_law; k_head; (case hw => w_witness2)
  k_fill
  refine' PV.law_walkT (l := PySem.Challenge.rw_lookhalls_k33_whole_where_no_way_leads) (k := 10) (x := "_law_script") [("costs_to", ?c_costs_to, ?p_costs_to), ("law", ?c_law, ?p_law)] rfl rfl ⟨rfl, by decide, by decide⟩ (fun w h Y => PySem.W.km_in_of Y) ?hT ?F
  case hT =>
    intro w
    refine' List.forall_mem_cons.mpr (And.intro (PV.TabK.of (x := "costs_to") ?r_costs_to ?a_costs_to ?l_costs_to ?e_costs_to ?m_costs_to ?h_costs_to ?n_costs_to) ?_)
    (case r_costs_to => decide +kernel); (case a_costs_to => k_is); (case l_costs_to => k_is); (case e_costs_to => exact rfl); (case m_costs_to => k_is); (case h_costs_to => exact rfl); (case n_costs_to => kernel_rfl)
    refine' List.forall_mem_cons.mpr (And.intro (PV.TabK.of (x := "law") ?r_law ?a_law ?l_law ?e_law ?m_law ?h_law ?n_law) ?_)
    (case r_law => decide +kernel); (case a_law => k_is); (case l_law => k_is); (case e_law => exact rfl); (case m_law => k_is); (case h_law => exact rfl); (case n_law => kernel_rfl)
    exact fun _ h => absurd h List.not_mem_nil
  case F =>
    intro w mg fa h KX G hmg
    have b_len : mg "len" = none := by
      refine' PySem.W.mg_none_of KX G ?a
      (case a => k_is)
    have b_range : mg "range" = none := by
      refine' PySem.W.mg_none_of KX G ?a
      (case a => k_is)
    have b_tuple : mg "tuple" = none := by
      refine' PySem.W.mg_none_of KX G ?a
      (case a => k_is)
    have b_list : mg "list" = none := by
      refine' PySem.W.mg_none_of KX G ?a
      (case a => k_is)
    have b_int : mg "int" = none := by
      refine' PySem.W.mg_none_of KX G ?a
      (case a => k_is)
    have b_str : mg "str" = none := by
      refine' PySem.W.mg_none_of KX G ?a
      (case a => k_is)
    have b_bool : mg "bool" = none := by
      refine' PySem.W.mg_none_of KX G ?a
      (case a => k_is)
    have b_all : mg "all" = none := by
      refine' PySem.W.mg_none_of KX G ?a
      (case a => k_is)
    have b_any : mg "any" = none := by
      refine' PySem.W.mg_none_of KX G ?a
      (case a => k_is)
    have b_max : mg "max" = none := by
      refine' PySem.W.mg_none_of KX G ?a
      (case a => k_is)
    have b_min : mg "min" = none := by
      refine' PySem.W.mg_none_of KX G ?a
      (case a => k_is)
    have b_abs : mg "abs" = none := by
      refine' PySem.W.mg_none_of KX G ?a
      (case a => k_is)
    have b_sorted : mg "sorted" = none := by
      refine' PySem.W.mg_none_of KX G ?a
      (case a => k_is)
    have b_set : mg "set" = none := by
      refine' PySem.W.mg_none_of KX G ?a
      (case a => k_is)
    have b_dict : mg "dict" = none := by
      refine' PySem.W.mg_none_of KX G ?a
      (case a => k_is)
    have b_zip : mg "zip" = none := by
      refine' PySem.W.mg_none_of KX G ?a
      (case a => k_is)
    have b_enumerate : mg "enumerate" = none := by
      refine' PySem.W.mg_none_of KX G ?a
      (case a => k_is)
    have b_isinstance : mg "isinstance" = none := by
      refine' PySem.W.mg_none_of KX G ?a
      (case a => k_is)
    have b_repr : mg "repr" = none := by
      refine' PySem.W.mg_none_of KX G ?a
      (case a => k_is)
    have b_ValueError : mg "ValueError" = none := by
      refine' PySem.W.mg_none_of KX G ?a
      (case a => k_is)
    have B : PV.BI mg := ⟨b_len, b_range, b_tuple, b_list, b_int, b_str, b_bool, b_all, b_any, b_max, b_min, b_abs, b_sorted, b_set, b_dict, b_zip, b_enumerate, b_isinstance, b_repr⟩
    have D_is_inside : PV.DefAt (PV.KOf KX) mg "is_inside" Lw.s_is_inside := by
      refine' PV.defAt_mk KX G ?a ?l ?c ?k
      (case a => k_is); (case l => k_is); (case c => k_is); (case k => k_is)
    have D_need_cell : PV.DefAt (PV.KOf KX) mg "need_cell" Lw.s_need_cell := by
      refine' PV.defAt_mk KX G ?a ?l ?c ?k
      (case a => k_is); (case l => k_is); (case c => k_is); (case k => k_is)
    have D_sign_at : PV.DefAt (PV.KOf KX) mg "sign_at" Lw.s_sign_at := by
      refine' PV.defAt_mk KX G ?a ?l ?c ?k
      (case a => k_is); (case l => k_is); (case c => k_is); (case k => k_is)
    have D_is_free : PV.DefAt (PV.KOf KX) mg "is_free" Lw.s_is_free := by
      refine' PV.defAt_mk KX G ?a ?l ?c ?k
      (case a => k_is); (case l => k_is); (case c => k_is); (case k => k_is)
    have D_cells : PV.DefAt (PV.KOf KX) mg "cells" Lw.s_cells := by
      refine' PV.defAt_mk KX G ?a ?l ?c ?k
      (case a => k_is); (case l => k_is); (case c => k_is); (case k => k_is)
    have D_side_of : PV.DefAt (PV.KOf KX) mg "side_of" Lw.s_side_of := by
      refine' PV.defAt_mk KX G ?a ?l ?c ?k
      (case a => k_is); (case l => k_is); (case c => k_is); (case k => k_is)
    have D_is_crossed : PV.DefAt (PV.KOf KX) mg "is_crossed" Lw.s_is_crossed := by
      refine' PV.defAt_mk KX G ?a ?l ?c ?k
      (case a => k_is); (case l => k_is); (case c => k_is); (case k => k_is)
    have D_crossed : PV.DefAt (PV.KOf KX) mg "crossed" Lw.s_crossed := by
      refine' PV.defAt_mk KX G ?a ?l ?c ?k
      (case a => k_is); (case l => k_is); (case c => k_is); (case k => k_is)
    have D_is_near : PV.DefAt (PV.KOf KX) mg "is_near" Lw.s_is_near := by
      refine' PV.defAt_mk KX G ?a ?l ?c ?k
      (case a => k_is); (case l => k_is); (case c => k_is); (case k => k_is)
    have D_sees : PV.DefAt (PV.KOf KX) mg "sees" Lw.s_sees := by
      refine' PV.defAt_mk KX G ?a ?l ?c ?k
      (case a => k_is); (case l => k_is); (case c => k_is); (case k => k_is)
    have D_neighbours : PV.DefAt (PV.KOf KX) mg "neighbours" Lw.s_neighbours := by
      refine' PV.defAt_mk KX G ?a ?l ?c ?k
      (case a => k_is); (case l => k_is); (case c => k_is); (case k => k_is)
    have D_part_of : PV.DefAt (PV.KOf KX) mg "part_of" Lw.s_part_of := by
      refine' PV.defAt_mk KX G ?a ?l ?c ?k
      (case a => k_is); (case l => k_is); (case c => k_is); (case k => k_is)
    have D_parts : PV.DefAt (PV.KOf KX) mg "parts" Lw.s_parts := by
      refine' PV.defAt_mk KX G ?a ?l ?c ?k
      (case a => k_is); (case l => k_is); (case c => k_is); (case k => k_is)
    have D_is_seen : PV.DefAt (PV.KOf KX) mg "is_seen" Lw.s_is_seen := by
      refine' PV.defAt_mk KX G ?a ?l ?c ?k
      (case a => k_is); (case l => k_is); (case c => k_is); (case k => k_is)
    have D_costs_to := PV.defAtC_mk KX G (x := "costs_to") (st := Lw.s_costs_to) (by k_is) (by k_is) (by k_is) (by k_is)
    have D_slyest : PV.DefAt (PV.KOf KX) mg "slyest" Lw.s_slyest := by
      refine' PV.defAt_mk KX G ?a ?l ?c ?k
      (case a => k_is); (case l => k_is); (case c => k_is); (case k => k_is)
    have D__law_cell_at : PV.DefAt (PV.KOf KX) mg "_law_cell_at" Lw.s__law_cell_at := by
      refine' PV.defAt_mk KX G ?a ?l ?c ?k
      (case a => k_is); (case l => k_is); (case c => k_is); (case k => k_is)
    have D__law_mixed : PV.DefAt (PV.KOf KX) mg "_law_mixed" Lw.s__law_mixed := by
      refine' PV.defAt_mk KX G ?a ?l ?c ?k
      (case a => k_is); (case l => k_is); (case c => k_is); (case k => k_is)
    have D__law_drawn : PV.DefAt (PV.KOf KX) mg "_law_drawn" Lw.s__law_drawn := by
      refine' PV.defAt_mk KX G ?a ?l ?c ?k
      (case a => k_is); (case l => k_is); (case c => k_is); (case k => k_is)
    have D__law_hall : PV.DefAt (PV.KOf KX) mg "_law_hall" Lw.s__law_hall := by
      refine' PV.defAt_mk KX G ?a ?l ?c ?k
      (case a => k_is); (case l => k_is); (case c => k_is); (case k => k_is)
    have D__law_floors : PV.DefAt (PV.KOf KX) mg "_law_floors" Lw.s__law_floors := by
      refine' PV.defAt_mk KX G ?a ?l ?c ?k
      (case a => k_is); (case l => k_is); (case c => k_is); (case k => k_is)
    have D__law_some : PV.DefAt (PV.KOf KX) mg "_law_some" Lw.s__law_some := by
      refine' PV.defAt_mk KX G ?a ?l ?c ?k
      (case a => k_is); (case l => k_is); (case c => k_is); (case k => k_is)
    have D__law_cells : PV.DefAt (PV.KOf KX) mg "_law_cells" Lw.s__law_cells := by
      refine' PV.defAt_mk KX G ?a ?l ?c ?k
      (case a => k_is); (case l => k_is); (case c => k_is); (case k => k_is)
    have D__law_far_off : PV.DefAt (PV.KOf KX) mg "_law_far_off" Lw.s__law_far_off := by
      refine' PV.defAt_mk KX G ?a ?l ?c ?k
      (case a => k_is); (case l => k_is); (case c => k_is); (case k => k_is)
    have D_law := PV.defAtC_mk KX G (x := "law") (st := Lw.s_law) (by k_is) (by k_is) (by k_is) (by k_is)
    have D__law_told : PV.DefAt (PV.KOf KX) mg "_law_told" Lw.s__law_told := by
      refine' PV.defAt_mk KX G ?a ?l ?c ?k
      (case a => k_is); (case l => k_is); (case c => k_is); (case k => k_is)
    have C_BLOCKING : PV.CstAt (PV.KOf KX) mg "BLOCKING" (.ctup [.str "#", .str "x"]) := by
      refine' PV.cst_rep KX G (u := .ref _) ?a (PV.KRep.tup (us := [.str _ _, .str _ _]) ?l1 (show (2 : Nat) ≤ 100 from by decide) (.cons (.str) (.cons (.str) .nil)))
      (case a => k_is); (case l1 => k_is)
    have C_STEPS : PV.CstAt (PV.KOf KX) mg "STEPS" (.ctup [.ctup [.int (-1), .int (0)], .ctup [.int (0), .int (-1)], .ctup [.int (0), .int (1)], .ctup [.int (1), .int (0)]]) := by
      refine' PV.cst_rep KX G (u := .ref _) ?a (PV.KRep.tup (us := [.ref _, .ref _, .ref _, .ref _]) ?l5 (show (4 : Nat) ≤ 100 from by decide) (.cons (PV.KRep.tup (us := [.int _ _, .int _ _]) ?l1 (show (2 : Nat) ≤ 100 from by decide) (.cons (.int) (.cons (.int) .nil))) (.cons (PV.KRep.tup (us := [.int _ _, .int _ _]) ?l2 (show (2 : Nat) ≤ 100 from by decide) (.cons (.int) (.cons (.int) .nil))) (.cons (PV.KRep.tup (us := [.int _ _, .int _ _]) ?l3 (show (2 : Nat) ≤ 100 from by decide) (.cons (.int) (.cons (.int) .nil))) (.cons (PV.KRep.tup (us := [.int _ _, .int _ _]) ?l4 (show (2 : Nat) ≤ 100 from by decide) (.cons (.int) (.cons (.int) .nil))) .nil)))))
      (case a => k_is); (case l5 => k_is); (case l1 => k_is); (case l2 => k_is); (case l3 => k_is); (case l4 => k_is)
    have Z_NoCell : PV.ExcAt (PV.KOf KX) mg "NoCell" := by
      refine' PV.excAt_mk KX G ?a ?qx ?k ?b ?t
      (case a => k_is); (case qx => k_exc); (case k => k_is); (case b => k_is); (case t => k_is)
    have Z_NoWay : PV.ExcAt (PV.KOf KX) mg "NoWay" := by
      refine' PV.excAt_mk KX G ?a ?qx ?k ?b ?t
      (case a => k_is); (case qx => k_exc); (case k => k_is); (case b => k_is); (case t => k_is)
    have gc_LookError := PySem.W.mg_of KX G (n := "LookError") (v := .ref _) (by k_is)
    have gc_NoCell := PySem.W.mg_of KX G (n := "NoCell") (v := .ref _) (by k_is)
    have gc_TooMany := PySem.W.mg_of KX G (n := "TooMany") (v := .ref _) (by k_is)
    have gc_NoWay := PySem.W.mg_of KX G (n := "NoWay") (v := .ref _) (by k_is)
    have gc_NoDeed := PySem.W.mg_of KX G (n := "NoDeed") (v := .ref _) (by k_is)
    have gc_NoText := PySem.W.mg_of KX G (n := "NoText") (v := .ref _) (by k_is)
    have TK : PV.ToldK (PV.KOf KX) mg Lw.s__law_told := by
      refine' ⟨D__law_told, Lw.td__law_told, ⟨_, _, _, _, _, _, gc_LookError, gc_NoCell, gc_TooMany, gc_NoWay, gc_NoDeed, gc_NoText, ?k0, ?k1, ?k2, ?k3, ?k4⟩, b_isinstance, b_ValueError⟩
      (case k0 => refine' PV.toldC_mk KX ?_ ?_ ?_ ?_ ?_ ?_ ?_ ?_ ?_ ?_ ?_ ?_ ?_ ?_ ?_ <;> first | k_is | kernel_rfl)
      (case k1 => refine' PV.toldC_mk KX ?_ ?_ ?_ ?_ ?_ ?_ ?_ ?_ ?_ ?_ ?_ ?_ ?_ ?_ ?_ <;> first | k_is | kernel_rfl)
      (case k2 => refine' PV.toldC_mk KX ?_ ?_ ?_ ?_ ?_ ?_ ?_ ?_ ?_ ?_ ?_ ?_ ?_ ?_ ?_ <;> first | k_is | kernel_rfl)
      (case k3 => refine' PV.toldC_mk KX ?_ ?_ ?_ ?_ ?_ ?_ ?_ ?_ ?_ ?_ ?_ ?_ ?_ ?_ ?_ <;> first | k_is | kernel_rfl)
      (case k4 => refine' PV.toldC_mk KX ?_ ?_ ?_ ?_ ?_ ?_ ?_ ?_ ?_ ?_ ?_ ?_ ?_ ?_ ?_ <;> first | k_is | kernel_rfl)
    exact PV.law_fnT D_law.at hmg (fun _ _ _ _ _ _ _ => rfl) (fun base i => Lw.all_ok (P := PySem.Challenge.pw_lookhalls_k33_whole_where_no_way_leads) (w := w) (base := base) B D_is_inside D_need_cell D_sign_at D_is_free D_cells D_side_of D_is_crossed D_crossed D_is_near D_sees D_neighbours D_part_of D_parts D_is_seen D_costs_to D_slyest D__law_cell_at D__law_mixed D__law_drawn D__law_hall D__law_floors D__law_some D__law_cells D__law_far_off D_law C_BLOCKING C_STEPS Z_NoCell Z_NoWay (PV.csOf_hd i.2.2) PV.tbs_hd (by decide +kernel) (PV.csOf_hd (PV.csOf_tl i.2.2)) (PV.tbs_tl PV.tbs_hd) (by decide +kernel) TK) Lw.law_true

