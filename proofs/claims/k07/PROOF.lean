import PyProof.Rows.All
import Wide.All
import OpenK.AllK
import Wide.FinOn
import HandS.ForMost
import HandS.IsInst
import KE.KeyNested
import HandS.ForExc
import HandS.Iter
import HandS.Property
import HandS.Defaults
import HandS.Flow
import HandS.Star
import HandS.MakeKwOnly
import HandS.Head0
import HandS.Head1
import HandS.Head2
import HandS.HeadEnd
import HandS.HeadHook1
import HandS.HeadHook2
import PySem.Challenge.RW_alikeruns_k07_when_stopping_nodes_are_du
/-! ## ZCore -/
set_option Elab.async false
set_option linter.all false
set_option maxRecDepth 100000
/-! Z: a small language of values (tuples by value, lists, dicts and instances in a store), and what its terms compute. -/
namespace Z
open PySem

inductive U where
  | non | bl (b : Bool) | int (i : Int) | str (s : Str) | tup (l : List U) | obj (n : Nat)
  deriving Inhabited

inductive O where
  | lst (l : List U) | ro (l : List U) | dict (kvs : List (U × U)) | ins (c : Nat) (fs : List (Nat × U))
  deriving Inhabited

/-! ### the store -/
inductive Tr where
  | nil | node (l : Tr) (o : Option O) (r : Tr)
def Tr.get : Tr → Nat → Option O
  | .nil, _ => none
  | .node _ o _, 0 => o
  | .node l _ r, k + 1 => bif k % 2 == 0 then l.get (k / 2) else r.get (k / 2)
def Tr.set : Tr → Nat → O → Tr
  | .nil, 0, o => .node .nil (some o) .nil
  | .nil, _ + 1, _ => .nil
  | .node l _ r, 0, o => .node l (some o) r
  | .node l x r, k + 1, o => bif k % 2 == 0 then .node (l.set (k / 2) o) x r else .node l x (r.set (k / 2) o)
theorem Tr.get_set_ne : ∀ (t : Tr) (k j : Nat) (o : O), j ≠ k → (t.set k o).get j = t.get j
  | .nil, 0, 0, _, h => absurd rfl h
  | .nil, 0, j + 1, o, _ => by
    show (bif j % 2 == 0 then Tr.nil.get (j / 2) else Tr.nil.get (j / 2)) = none
    cases (j % 2 == 0) <;> rfl
  | .nil, _ + 1, _, _, _ => rfl
  | .node _ _ _, 0, 0, _, h => absurd rfl h
  | .node _ _ _, 0, _ + 1, _, _ => rfl
  | .node l x r, k + 1, 0, o, _ => by
    show Tr.get (bif k % 2 == 0 then .node (l.set (k / 2) o) x r else .node l x (r.set (k / 2) o)) 0 = x
    cases (k % 2 == 0) <;> rfl
  | .node l x r, k + 1, j + 1, o, h => by
    show Tr.get (bif k % 2 == 0 then .node (l.set (k / 2) o) x r else .node l x (r.set (k / 2) o)) (j + 1) = (bif j % 2 == 0 then l.get (j / 2) else r.get (j / 2))
    cases hk : (k % 2 == 0) <;> cases hj : (j % 2 == 0)
    · show (bif j % 2 == 0 then l.get (j / 2) else (r.set (k / 2) o).get (j / 2)) = r.get (j / 2)
      rw [hj]
      have h1 : ¬ k % 2 = 0 := by simpa using hk
      have h2 : ¬ j % 2 = 0 := by simpa using hj
      exact Tr.get_set_ne r (k / 2) (j / 2) o (by omega)
    · show (bif j % 2 == 0 then l.get (j / 2) else (r.set (k / 2) o).get (j / 2)) = l.get (j / 2)
      rw [hj]; rfl
    · show (bif j % 2 == 0 then (l.set (k / 2) o).get (j / 2) else r.get (j / 2)) = r.get (j / 2)
      rw [hj]; rfl
    · show (bif j % 2 == 0 then (l.set (k / 2) o).get (j / 2) else r.get (j / 2)) = l.get (j / 2)
      rw [hj]
      have h1 : k % 2 = 0 := by simpa using hk
      have h2 : j % 2 = 0 := by simpa using hj
      exact Tr.get_set_ne l (k / 2) (j / 2) o (by omega)
theorem Tr.get_set_self : ∀ (t : Tr) (k : Nat) (o : O), (∀ j, j < k → t.get j ≠ none) → (t.set k o).get k = some o
  | .nil, 0, _, _ => rfl
  | .nil, k + 1, _, h => absurd rfl (h 0 (Nat.succ_pos k))
  | .node _ _ _, 0, _, _ => rfl
  | .node l x r, k + 1, o, h => by
    show Tr.get (bif k % 2 == 0 then .node (l.set (k / 2) o) x r else .node l x (r.set (k / 2) o)) (k + 1) = some o
    cases hk : (k % 2 == 0)
    · show (bif k % 2 == 0 then l.get (k / 2) else (r.set (k / 2) o).get (k / 2)) = some o
      rw [hk]
      have h1 : ¬ k % 2 = 0 := by simpa using hk
      refine Tr.get_set_self r (k / 2) o fun j hj => ?_
      have h3 := h (2 * j + 1 + 1) (by omega)
      have h4 : Tr.get (.node l x r) (2 * j + 1 + 1) = r.get j := by
        show (bif (2 * j + 1) % 2 == 0 then l.get ((2 * j + 1) / 2) else r.get ((2 * j + 1) / 2)) = r.get j
        have e1 : ((2 * j + 1) % 2 == 0) = false := by
          have : (2 * j + 1) % 2 = 1 := by omega
          rw [this]; rfl
        have e2 : (2 * j + 1) / 2 = j := by omega
        rw [e1, e2]; rfl
      rwa [h4] at h3
    · show (bif k % 2 == 0 then (l.set (k / 2) o).get (k / 2) else r.get (k / 2)) = some o
      rw [hk]
      have h1 : k % 2 = 0 := by simpa using hk
      refine Tr.get_set_self l (k / 2) o fun j hj => ?_
      have h3 := h (2 * j + 1) (by omega)
      have h4 : Tr.get (.node l x r) (2 * j + 1) = l.get j := by
        show (bif (2 * j) % 2 == 0 then l.get ((2 * j) / 2) else r.get ((2 * j) / 2)) = l.get j
        have e1 : ((2 * j) % 2 == 0) = true := by
          have : (2 * j) % 2 = 0 := by omega
          rw [this]; rfl
        have e2 : (2 * j) / 2 = j := by omega
        rw [e1, e2]; rfl
      rwa [h4] at h3

structure Sto where
  n : Nat
  t : Tr
  ok : ∀ k, t.get k ≠ none ↔ k < n
def Sto.get (S : Sto) (k : Nat) : Option O := S.t.get k
def Sto.empty : Sto := ⟨0, .nil, fun k => ⟨fun h => absurd rfl h, fun h => absurd h (Nat.not_lt_zero k)⟩⟩
theorem Sto.lt {S : Sto} {k : Nat} {o : O} (h : S.get k = some o) : k < S.n := (S.ok k).mp (by show S.get k ≠ none; rw [h]; simp)
theorem Sto.some_of {S : Sto} {k : Nat} (h : k < S.n) : ∃ o, S.get k = some o := by
  have h1 : S.get k ≠ none := (S.ok k).mpr h
  cases e : S.get k with
  | none => exact absurd e h1
  | some o => exact ⟨o, rfl⟩
theorem Sto.get_out {S : Sto} {k : Nat} (h : S.n ≤ k) : S.get k = none := by
  cases e : S.get k with
  | none => rfl
  | some o => exact absurd (Sto.lt e) (Nat.not_lt.mpr h)
def Sto.alloc (S : Sto) (o : O) : Sto := ⟨S.n + 1, S.t.set S.n o, fun k => by
  by_cases hk : k = S.n
  · subst hk
    rw [Tr.get_set_self _ _ _ fun j hj => (S.ok j).mpr hj]
    exact ⟨fun _ => Nat.lt_succ_self _, fun _ h => nomatch h⟩
  · rw [Tr.get_set_ne _ _ _ _ hk]
    exact ⟨fun h => Nat.lt_succ_of_lt ((S.ok k).mp h), fun h => (S.ok k).mpr (by omega)⟩⟩
theorem Sto.get_alloc (S : Sto) (o : O) (k : Nat) : (S.alloc o).get k = if k = S.n then some o else S.get k := by
  by_cases hk : k = S.n
  · rw [if_pos hk]; subst hk
    exact Tr.get_set_self _ _ _ fun j hj => (S.ok j).mpr hj
  · rw [if_neg hk]; exact Tr.get_set_ne _ _ _ _ hk
theorem Sto.n_alloc (S : Sto) (o : O) : (S.alloc o).n = S.n + 1 := rfl
theorem Sto.get_alloc_self (S : Sto) (o : O) : (S.alloc o).get S.n = some o := by rw [Sto.get_alloc, if_pos rfl]
theorem Sto.get_alloc_lt {S : Sto} {o : O} {k : Nat} (h : k < S.n) : (S.alloc o).get k = S.get k := by rw [Sto.get_alloc, if_neg (by omega)]
theorem Sto.get_alloc_of {S : Sto} {o x : O} {k : Nat} (h : S.get k = some x) : (S.alloc o).get k = some x := by rw [Sto.get_alloc_lt (Sto.lt h), h]
def Sto.put (S : Sto) (k : Nat) (o : O) : Sto := if h : k < S.n then ⟨S.n, S.t.set k o, fun j => by
  by_cases hj : j = k
  · subst hj
    rw [Tr.get_set_self _ _ _ fun i hi => (S.ok i).mpr (by omega)]
    exact ⟨fun _ => h, fun _ h => nomatch h⟩
  · rw [Tr.get_set_ne _ _ _ _ hj]; exact S.ok j⟩ else S
theorem Sto.n_put (S : Sto) (k : Nat) (o : O) : (S.put k o).n = S.n := by unfold Sto.put; split <;> rfl
theorem Sto.get_put {S : Sto} {k : Nat} (h : k < S.n) (o : O) (j : Nat) : (S.put k o).get j = if j = k then some o else S.get j := by
  unfold Sto.put; rw [dif_pos h]
  by_cases hj : j = k
  · rw [if_pos hj]; subst hj
    exact Tr.get_set_self _ _ _ fun i hi => (S.ok i).mpr (by omega)
  · rw [if_neg hj]; exact Tr.get_set_ne _ _ _ _ hj
theorem Sto.get_put_self {S : Sto} {k : Nat} {x : O} (h : S.get k = some x) (o : O) : (S.put k o).get k = some o := by rw [Sto.get_put (Sto.lt h), if_pos rfl]
theorem Sto.get_put_ne {S : Sto} {k j : Nat} (o : O) (h : j ≠ k) : (S.put k o).get j = S.get j := by
  by_cases hk : k < S.n
  · rw [Sto.get_put hk, if_neg h]
  · unfold Sto.put; rw [dif_neg hk]

/-! ### results -/
inductive R (α : Type) where
  | ok (a : α) (S : Sto) | exc (c : Nat) (u : U) (S : Sto) | bad
def R.bind {α β : Type} : R α → (α → Sto → R β) → R β
  | .ok a S, k => k a S
  | .exc c u S, _ => .exc c u S
  | .bad, _ => .bad
/-- where no exception may leave -/
def R.calm {α : Type} : R α → R α
  | .exc _ _ _ => .bad
  | r => r
@[simp] theorem R.bind_ok {α β : Type} (a : α) (S : Sto) (k : α → Sto → R β) : (R.ok a S).bind k = k a S := rfl
@[simp] theorem R.bind_exc {α β : Type} (c : Nat) (u : U) (S : Sto) (k : α → Sto → R β) : (R.exc c u S).bind k = .exc c u S := rfl
@[simp] theorem R.bind_bad {α β : Type} (k : α → Sto → R β) : (R.bad : R α).bind k = .bad := rfl
@[simp] theorem R.calm_ok {α : Type} (a : α) (S : Sto) : (R.ok a S).calm = .ok a S := rfl
abbrev Ev := List (Option U)
abbrev Ora := Nat → List U → Sto → R U

/-! ### data, ==, keys -/
def mapO {α β : Type} (f : α → Option β) : List α → Option (List β)
  | [] => some []
  | a :: as => match f a with
    | some b => (mapO f as).map (b :: ·)
    | none => none
def toD (S : Sto) : Nat → U → Option PyData
  | _, .non => some .none
  | _, .bl b => some (.bool b)
  | _, .int i => some (.int i)
  | _, .str s => bif PyData.canLay0 (.str s) then some (.str s) else none
  | 0, .tup _ => none
  | 0, .obj _ => none
  | n + 1, .tup l => (mapO (toD S n) l).map .tuple
  | n + 1, .obj k => match S.get k with
    | some (.lst l) => (mapO (toD S n) l).map .list
    | _ => none
def ceq (S : Sto) (u v : U) : Option Bool := match toD S 40 u, toD S 40 v with
  | some d, some e => some (PyData.eqv d e)
  | _, _ => none
mutual
def keq : U → U → Bool
  | .non, .non => true
  | .bl a, .bl b => a == b
  | .bl a, .int b => (if a then 1 else 0) == b
  | .int a, .bl b => a == (if b then 1 else 0)
  | .int a, .int b => a == b
  | .str a, .str b => a == b
  | .tup a, .tup b => keqs a b
  | _, _ => false
def keqs : List U → List U → Bool
  | [], [] => true
  | a :: as, b :: bs => keq a b && keqs as bs
  | _, _ => false
end
def U.flat : U → Bool
  | .non => true | .bl _ => true | .int _ => true | .str _ => true | _ => false

def U.isNon : U → Bool
  | .non => true | _ => false

/-! ### truth, lengths, places -/
def tru (S : Sto) : U → Option Bool
  | .non => some false
  | .bl b => some b
  | .int i => some (i != 0)
  | .str s => bif decide (s.length ≤ sizeLine) then some ((s.length : Int) != 0) else none
  | .tup l => some (!l.isEmpty)
  | .obj k => match S.get k with
    | some (.lst l) => some (!l.isEmpty)
    | some (.ro l) => some (!l.isEmpty)
    | some (.dict l) => some (!l.isEmpty)
    | _ => none
def lenU (S : Sto) : U → Option Nat
  | .str s => bif decide (s.length ≤ sizeLine) then some s.length else none
  | .tup l => some l.length
  | .obj k => match S.get k with
    | some (.lst l) => some l.length
    | some (.ro l) => some l.length
    | some (.dict l) => some l.length
    | _ => none
  | _ => none
def small (i : Int) : Bool := decide (-(2 ^ 64) < i) && decide (i < 2 ^ 64)

inductive BOp where
  | add | sub | mul | fdiv | mod | pow | shl | shr | band | bor
  deriving DecidableEq
def bop (S : Sto) : BOp → U → U → R U
  | .add, .int i, .int j => .ok (.int (i + j)) S
  | .sub, .int i, .int j => .ok (.int (i - j)) S
  | .mul, .int i, .int j => bif small i || small j then .ok (.int (i * j)) S else .bad
  | .fdiv, .int i, .int j => bif decide (0 < j) && decide (j < 1073741824) then .ok (.int (i / j)) S else .bad
  | .mod, .int i, .int j => bif decide (0 < j) then .ok (.int (i % j)) S else .bad
  | .pow, .int i, .int j => bif decide (0 ≤ j) && decide (j ≤ 1000000) && decide (i.natAbs < 2 ^ 64) then .ok (.int (i ^ j.toNat)) S else .bad
  | .shl, .int i, .int j => bif decide (0 ≤ j) && decide (j ≤ 1000000) && decide (i.natAbs < 2 ^ 64) then .ok (.int (i * 2 ^ j.toNat)) S else .bad
  | .shr, .int i, .int j => bif decide (0 ≤ j) then .ok (.int (i / 2 ^ j.toNat)) S else .bad
  | .band, .int i, .int j => .ok (.int (Builtin.bitAnd i j)) S
  | .bor, .int i, .int j => .ok (.int (Builtin.bitOr i j)) S
  | .add, .str a, .str b => bif decide (a.length + b.length ≤ sizeLine) then .ok (.str (a ++ b)) S else .bad
  | .add, .tup a, .tup b => bif decide (a.length + b.length ≤ sizeLine) && !a.isEmpty then .ok (.tup (a ++ b)) S else .bad
  | .add, .obj a, .obj b => match S.get a, S.get b with
    | some (.lst x), some (.lst y) => bif decide (x.length + y.length ≤ sizeLine) then .ok (.obj S.n) (S.alloc (.lst (x ++ y))) else .bad
    | _, _ => .bad
  | .mul, .obj a, .int k => match S.get a with
    | some (.lst x) => bif decide (-(2 ^ 63) ≤ k) && decide (k < 2 ^ 63) && decide (x.length * k.toNat ≤ sizeLine) then .ok (.obj S.n) (S.alloc (.lst (List.replicate k.toNat x).flatten)) else .bad
    | _ => .bad
  | _, _, _ => .bad

inductive COp where
  | eq | ne | lt | le | gt | ge | isN | notN | isin | notin
  deriving DecidableEq
/-- x in a row of flat values -/
def memU (x : U) : List U → Bool
  | [] => false
  | y :: ys => keq x y || memU x ys
def cin (S : Sto) (x y : U) : Option Bool := match y with
  | .tup l => bif x.flat && l.all U.flat then some (memU x l) else none
  | .obj k => match S.get k with
    | some (.lst l) => bif x.flat && l.all U.flat then some (memU x l) else none
    | some (.ro l) => bif x.flat && l.all U.flat then some (memU x l) else none
    | _ => none
  | _ => none
def cop (S : Sto) : COp → U → U → Option Bool
  | .eq, x, y => ceq S x y
  | .ne, x, y => (ceq S x y).map (!·)
  | .lt, .int i, .int j => some (decide (i < j))
  | .le, .int i, .int j => some (decide (i ≤ j))
  | .gt, .int i, .int j => some (decide (j < i))
  | .ge, .int i, .int j => some (decide (j ≤ i))
  | .isN, x, .non => some x.isNon
  | .notN, x, .non => some (!x.isNon)
  | .isin, x, y => cin S x y
  | .notin, x, y => (cin S x y).map (!·)
  | _, _, _ => none
def atU (l : List U) (i : Int) : Option U := L2.atI l i
def ixU (S : Sto) : U → U → Option U
  | .tup l, .int i => atU l i
  | .obj k, .int i => match S.get k with
    | some (.lst l) => atU l i
    | some (.ro l) => atU l i
    | _ => none
  | _, _ => none

/-! ### terms -/
inductive Ty where
  | int | bool | str | tuple | list | cls (c : Nat)
  deriving DecidableEq
inductive ItK where
  | seq | raw | rng1 | rng2 | enum | zip
  deriving DecidableEq
inductive Tgt where
  | nm (i : Nat) | tp (l : List Nat)
  deriving DecidableEq
inductive BF where
  | len | int | max2 | min2
  deriving DecidableEq
inductive BR where
  | all | any | sum | tuple
  deriving DecidableEq
inductive BM where
  | append | pop | popAt
  deriving DecidableEq
inductive CE where
  | var (i : Nat) | cst (u : U) | bin (o : BOp) (a b : CE) | neg (a : CE) | cmp (o : COp) (a b : CE) | chain (o p : COp) (a b c : CE)
  | and_ (a b : CE) | or_ (a b : CE) | not_ (a : CE) | ife (c a b : CE)
  | nil | cons (a r : CE) | star (a r : CE) | tupd (as : CE)
  | newl (raw : CE)
  | comp (k : ItK) (t : Tgt) (src cond elt : CE)
  | comp2 (k : ItK) (t : Tgt) (src cond : CE) (k2 : ItK) (t2 : Tgt) (src2 cond2 elt : CE)
  | call (f : Nat) (args : CE) | new (c : Nat) (args : CE) | attr (e : CE) (a : Nat) | meth (e : CE) (m : Nat) (args : CE)
  | bf (b : BF) (args : CE) | br (b : BR) (raw : CE) | bv (b : BR) (e : CE) | bm (b : BM) (e args : CE)
  | ix (a b : CE) | slTo (a hi : CE) | slFr (a lo : CE)
  | isi (e : CE) (ts : List Ty)
  | dict0 | nev
inductive HR where
  | fld | cst (u : U) | pair (u : U)
inductive CS where
  | skip | seq (s t : CS) | asg (t : Tgt) (e : CE) | seta (o : CE) (a : Nat) (e : CE) | seti (o i e : CE) | ex (e : CE)
  | ret (e : CE) | retN | ifs (c : CE) (s t : CS) | whl (c : CE) (s : CS) | fr (k : ItK) (t : Tgt) (src : CE) (s : CS) | brk | cnt
  | raise_ (c : Nat) (e : CE) | try_ (s : CS) (hs : List (List Nat × HR)) | nev
structure Fn where
  np : Nat
  ns : Nat
  body : CS
structure Tab where
  fns : List Fn
  init : List (Nat × Nat)
  prop : List (Nat × Nat × Nat)
  mth : List (Nat × Nat × Nat)

/-! ### what they compute -/
def Tgt.asg : Tgt → U → Ev → Option Ev
  | .nm i, u, ρ => bif decide (i < ρ.length) then some (ρ.set i (some u)) else none
  | .tp is, .tup us, ρ => bif us.length == is.length && is.all fun i => decide (i < ρ.length) then some ((is.zip us).foldl (fun r p => r.set p.1 (some p.2)) ρ) else none
  | _, _, _ => none
def Tgt.slots : Tgt → List Nat
  | .nm i => [i]
  | .tp is => is
def wipeE (ρ : Ev) : List Nat → Ev
  | [] => ρ
  | v :: vs => (wipeE ρ vs).set v none
/-- what is walked: a row as it stands, or a list object -/
inductive It where
  | st (l : List U) | lv (k : Nat)
def intsU (lo : Int) (n : Nat) : List U := (List.range n).map fun (i : Nat) => U.int (lo + i)
def enumU : Nat → List U → List U
  | _, [] => []
  | i, u :: us => .tup [.int i, u] :: enumU (i + 1) us
def zipU : List U → List U → List U
  | a :: as, b :: bs => .tup [a, b] :: zipU as bs
  | _, _ => []
def rowU (S : Sto) : U → Option (List U)
  | .tup l => some l
  | .obj k => match S.get k with
    | some (.lst l) => some l
    | some (.ro l) => some l
    | _ => none
  | _ => none
def mid (i : Int) : Bool := decide (-(2 ^ 62) ≤ i) && decide (i < 2 ^ 62)
def mkIt (S : Sto) : ItK → U → Option It
  | .seq, .tup l => some (.st l)
  | .seq, .obj k => match S.get k with
    | some (.lst _) => some (.lv k)
    | some (.ro _) => some (.lv k)
    | _ => none
  | .raw, .tup l => some (.st l)
  | .rng1, .tup us => match us with
    | [u] => match u with
      | .int j => bif mid j then some (.st (intsU 0 j.toNat)) else none
      | _ => none
    | _ => none
  | .rng2, .tup us => match us with
    | [u, v] => match u, v with
      | .int i, .int j => bif mid i && mid j then some (.st (intsU i (j - i).toNat)) else none
      | _, _ => none
    | _ => none
  | _, _ => none

inductive SR where
  | next (ρ : Ev) (S : Sto) | brk (ρ : Ev) (S : Sto) | cnt (ρ : Ev) (S : Sto) | ret (u : U) (S : Sto) | exc (c : Nat) (u : U) (ρ : Ev) (S : Sto) | bad
/-- a loop over a row -/
def forL (b : U → Ev → Sto → SR) : List U → Ev → Sto → SR
  | [], ρ, S => .next ρ S
  | u :: us, ρ, S => match b u ρ S with
    | .next ρ' S' => forL b us ρ' S'
    | .cnt ρ' S' => forL b us ρ' S'
    | .brk ρ' S' => .next ρ' S'
    | r => r
/-- a loop over what stands at each turn -/
def forG (row : Sto → Option (List U)) (b : U → Ev → Sto → SR) : Nat → Nat → Ev → Sto → SR
  | 0, _, _, _ => .bad
  | f + 1, i, ρ, S => match row S with
    | none => .bad
    | some l => match l[i]? with
      | none => .next ρ S
      | some u => match b u ρ S with
        | .next ρ' S' => forG row b f (i + 1) ρ' S'
        | .cnt ρ' S' => forG row b f (i + 1) ρ' S'
        | .brk ρ' S' => .next ρ' S'
        | r => r
def It.row (it : It) (S : Sto) : Option (List U) := match it with
  | .st l => some l
  | .lv k => rowU S (.obj k)
def forI (b : U → Ev → Sto → SR) (it : It) (ρ : Ev) (S : Sto) : SR := match it with
  | .st l => forL b l ρ S
  | .lv k => forG (It.lv k).row b (((rowU S (.obj k)).getD []).length + 1) 0 ρ S
/-- a comprehension over a row: b gives what is put in, or none -/
def compL (b : U → Sto → R (List U)) : List U → List U → Sto → R (List U)
  | [], acc, S => .ok acc S
  | u :: us, acc, S => (b u S).bind fun x S' => compL b us (acc ++ x) S'
def compG (row : Sto → Option (List U)) (b : U → Sto → R (List U)) : Nat → Nat → List U → Sto → R (List U)
  | 0, _, _, _ => .bad
  | f + 1, i, acc, S => match row S with
    | none => .bad
    | some l => match l[i]? with
      | none => .ok acc S
      | some u => (b u S).bind fun x S' => compG row b f (i + 1) (acc ++ x) S'
def compI (b : U → Sto → R (List U)) (it : It) (S : Sto) : R (List U) := match it with
  | .st l => compL b l [] S
  | .lv k => compG (It.lv k).row b (((rowU S (.obj k)).getD []).length + 1) 0 [] S
def whileN (c : Ev → Sto → R Bool) (b : Ev → Sto → SR) : Nat → Ev → Sto → SR
  | 0, _, _ => .bad
  | f + 1, ρ, S => match c ρ S with
    | .bad => .bad
    | .exc x u S' => .exc x u ρ S'
    | .ok false S' => .next ρ S'
    | .ok true S' => match b ρ S' with
      | .next ρ' S'' => whileN c b f ρ' S''
      | .cnt ρ' S'' => whileN c b f ρ' S''
      | .brk ρ' S'' => .next ρ' S''
      | r => r
def find3 (c a : Nat) : List (Nat × Nat × Nat) → Option Nat
  | [] => none
  | (x, y, f) :: r => bif x == c && y == a then some f else find3 c a r
def tyOk (S : Sto) : U → Ty → Option Bool
  | .non, _ => some false
  | .bl _, t => some (t == .int || t == .bool)
  | .int _, t => some (t == .int)
  | .str _, t => some (t == .str)
  | .tup _, t => some (t == .tuple)
  | .obj k, t => match S.get k with
    | some (.lst _) => some (t == .list)
    | some (.ro _) => some (t == .list)
    | some (.ins c _) => some (t == .cls c)
    | _ => none
def tysOk (S : Sto) (u : U) : List Ty → Option Bool
  | [] => some false
  | t :: ts => match tyOk S u t with
    | some true => some true
    | some false => tysOk S u ts
    | none => none
def bools : List U → Option (List Bool)
  | [] => some []
  | .bl b :: r => (bools r).map (b :: ·)
  | _ => none
def intsOf : List U → Option (List Int)
  | [] => some []
  | .int i :: r => (intsOf r).map (i :: ·)
  | _ => none
def brow (S : Sto) : BR → List U → R U
  | .all, l => match bools l with
    | some bs => .ok (.bl (bs.all id)) S
    | none => .bad
  | .any, l => match bools l with
    | some bs => .ok (.bl (bs.any id)) S
    | none => .bad
  | .sum, l => match intsOf l with
    | some is => .ok (.int is.sum) S
    | none => .bad
  | .tuple, l => .ok (.tup l) S
/-- a row that such a call takes: tuple takes any, the others lists -/
def rowB (S : Sto) : BR → U → Option (List U)
  | .tuple, u => rowU S u
  | _, .obj k => rowU S (.obj k)
  | _, _ => none
def bfn (S : Sto) : BF → List U → R U
  | .len, [u] => match lenU S u with
    | some n => .ok (.int n) S
    | none => .bad
  | .int, [u] => match u with
    | .int i => .ok (.int i) S
    | .bl b => .ok (.int (if b then 1 else 0)) S
    | _ => .bad
  | .max2, [u, v] => match u, v with
    | .int i, .int j => .ok (.int (if j > i then j else i)) S
    | _, _ => .bad
  | .min2, [u, v] => match u, v with
    | .int i, .int j => .ok (.int (if j < i then j else i)) S
    | _, _ => .bad
  | _, _ => .bad
def isL (S : Sto) : U → Bool
  | .obj k => match S.get k with
    | some (.lst _) => true
    | _ => false
  | _ => false
def bmt (S : Sto) : BM → U → List U → R U
  | .append, .obj k, us => match us, S.get k with
    | [u], some (.lst l) => bif decide (l.length < sizeLine) then .ok .non (S.put k (.lst (l ++ [u]))) else .bad
    | _, _ => .bad
  | .pop, .obj k, [] => match S.get k with
    | some (.lst l) => match l[l.length - 1]? with
      | some u => .ok u (S.put k (.lst l.dropLast))
      | none => .bad
    | _ => .bad
  | .popAt, .obj k, [u] => match u, S.get k with
    | .int i, some (.lst l) => bif decide (0 ≤ i) && decide (i < 2 ^ 63) then (match l[i.toNat]? with
      | some u => .ok u (S.put k (.lst (l.eraseIdx i.toNat)))
      | none => .bad) else .bad
    | _, _ => .bad
  | _, _, _ => .bad
def cutU (l : List U) (lo hi : Option Int) : List U := (l.drop (HT.sIx l.length 0 lo)).take (HT.sIx l.length l.length hi - HT.sIx l.length 0 lo)
def sliceU (S : Sto) (u : U) (lo hi : Option Int) : R U := match u with
  | .tup l => bif HT.sIx l.length 0 lo == 0 && HT.sIx l.length l.length hi == l.length then .bad else .ok (.tup (cutU l lo hi)) S
  | .obj k => match S.get k with
    | some (.lst l) => .ok (.obj S.n) (S.alloc (.lst (cutU l lo hi)))
    | some (.ro l) => .ok (.obj S.n) (S.alloc (.lst (cutU l lo hi)))
    | _ => .bad
  | _ => .bad
def R.ofO {α : Type} (S : Sto) : Option α → R α
  | some a => .ok a S
  | none => .bad

section
variable (T : Tab) (c : Ora)
def ev : CE → Ev → Sto → R U
  | .var i, ρ, S => match ρ[i]? with
    | some (some u) => .ok u S
    | _ => .bad
  | .cst u, _, S => .ok u S
  | .bin o a b, ρ, S => (ev a ρ S).bind fun u S1 => (ev b ρ S1).bind fun v S2 => bop S2 o u v
  | .neg a, ρ, S => (ev a ρ S).bind fun u S1 => match u with
    | .int i => .ok (.int (-i)) S1
    | _ => .bad
  | .cmp o a b, ρ, S => (ev a ρ S).bind fun u S1 => (ev b ρ S1).bind fun v S2 => (R.ofO S2 (cop S2 o u v)).bind fun k S3 => .ok (.bl k) S3
  | .chain o p a b d, ρ, S => (ev a ρ S).bind fun u S1 => (ev b ρ S1).bind fun v S2 => (R.ofO S2 (cop S2 o u v)).bind fun k S3 => match k with
    | false => .ok (.bl false) S3
    | true => (ev d ρ S3).bind fun w S4 => (R.ofO S4 (cop S4 p v w)).bind fun k S5 => .ok (.bl k) S5
  | .and_ a b, ρ, S => (ev a ρ S).bind fun u S1 => (R.ofO S1 (tru S1 u)).bind fun k S2 => match k with
    | true => ev b ρ S2
    | false => .ok u S2
  | .or_ a b, ρ, S => (ev a ρ S).bind fun u S1 => (R.ofO S1 (tru S1 u)).bind fun k S2 => match k with
    | true => .ok u S2
    | false => ev b ρ S2
  | .not_ a, ρ, S => (ev a ρ S).bind fun u S1 => (R.ofO S1 (tru S1 u)).bind fun k S2 => .ok (.bl (!k)) S2
  | .ife d a b, ρ, S => (ev d ρ S).bind fun u S1 => (R.ofO S1 (tru S1 u)).bind fun k S2 => match k with
    | true => ev a ρ S2
    | false => ev b ρ S2
  | .nil, _, S => .ok (.tup []) S
  | .cons a r, ρ, S => (ev a ρ S).bind fun u S1 => (ev r ρ S1).bind fun v S2 => match v with
    | .tup us => .ok (.tup (u :: us)) S2
    | _ => .bad
  | .star a r, ρ, S => (ev a ρ S).bind fun u S1 => match u with
    | .tup l => (ev r ρ S1).bind fun v S2 => match v with
      | .tup us => .ok (.tup (l ++ us)) S2
      | _ => .bad
    | _ => .bad
  | .tupd as, ρ, S => (ev as ρ S).bind fun v S1 => match v with
    | .tup us => bif decide (us.length ≤ sizeLine) then .ok (.tup us) S1 else .bad
    | _ => .bad
  | .newl r, ρ, S => (ev r ρ S).bind fun v S1 => match v with
    | .tup l => .ok (.obj S1.n) (S1.alloc (.lst l))
    | _ => .bad
  | .comp k t src d e, ρ, S => ((ev src ρ S).bind fun u S1 => (R.ofO S1 (mkIt S1 k u)).bind fun it S2 =>
      (compI (fun x S3 => match t.asg x (wipeE ρ t.slots) with
        | none => .bad
        | some ρ1 => (ev d ρ1 S3).bind fun b S4 => (R.ofO S4 (tru S4 b)).bind fun q S5 => match q with
          | true => (ev e ρ1 S5).bind fun y S6 => .ok [y] S6
          | false => .ok [] S5) it S2).calm.bind fun l S7 => bif decide (l.length ≤ sizeLine) then .ok (.tup l) S7 else .bad)
  | .comp2 k t src d k2 t2 src2 d2 e, ρ, S => ((ev src ρ S).bind fun u S1 => (R.ofO S1 (mkIt S1 k u)).bind fun it S2 =>
      (compI (fun x S3 => match t.asg x (wipeE ρ (t.slots ++ t2.slots)) with
        | none => .bad
        | some ρ1 => (ev d ρ1 S3).bind fun b S4 => (R.ofO S4 (tru S4 b)).bind fun q S5 => match q with
          | true => (ev src2 ρ1 S5).bind fun u2 S6 => (R.ofO S6 (mkIt S6 k2 u2)).bind fun it2 S7 =>
            compI (fun x2 S8 => match t2.asg x2 (wipeE ρ1 t2.slots) with
              | none => .bad
              | some ρ2 => (ev d2 ρ2 S8).bind fun b S9 => (R.ofO S9 (tru S9 b)).bind fun q S10 => match q with
                | true => (ev e ρ2 S10).bind fun y S11 => .ok [y] S11
                | false => .ok [] S10) it2 S7
          | false => .ok [] S5) it S2).calm.bind fun l S12 => bif decide (l.length ≤ sizeLine) then .ok (.tup l) S12 else .bad)
  | .call f as, ρ, S => (ev as ρ S).bind fun v S1 => match v with
    | .tup us => c f us S1
    | _ => .bad
  | .new k as, ρ, S => (ev as ρ S).bind fun v S1 => match v, T.init.lookup k with
    | .tup us, some f => (c f (.obj S1.n :: us) (S1.alloc (.ins k []))).bind fun w S2 => match w with
      | .non => .ok (.obj S1.n) S2
      | _ => .bad
    | _, _ => .bad
  | .attr e a, ρ, S => (ev e ρ S).bind fun v S1 => match v with
    | .obj n => match S1.get n with
      | some (.ins k fs) => match find3 k a T.prop with
        | some f => c f [.obj n] S1
        | none => R.ofO S1 (fs.lookup a)
      | _ => .bad
    | _ => .bad
  | .meth e m as, ρ, S => (ev e ρ S).bind fun v S1 => match v with
    | .obj n => match S1.get n with
      | some (.ins k _) => match find3 k m T.mth with
        | some f => (ev as ρ S1).bind fun w S2 => match w with
          | .tup us => c f (.obj n :: us) S2
          | _ => .bad
        | none => .bad
      | _ => .bad
    | _ => .bad
  | .bf b as, ρ, S => (ev as ρ S).bind fun v S1 => match v with
    | .tup us => bfn S1 b us
    | _ => .bad
  | .br b r, ρ, S => (ev r ρ S).bind fun v S1 => match v with
    | .tup us => brow S1 b us
    | _ => .bad
  | .bv b e, ρ, S => (ev e ρ S).bind fun v S1 => (R.ofO S1 (rowB S1 b v)).bind fun l S2 => brow S2 b l
  | .bm b e as, ρ, S => (ev e ρ S).bind fun v S1 => bif isL S1 v then (ev as ρ S1).bind fun w S2 => match w with
      | .tup us => bmt S2 b v us
      | _ => .bad
    else .bad
  | .ix a b, ρ, S => (ev a ρ S).bind fun u S1 => (ev b ρ S1).bind fun v S2 => R.ofO S2 (ixU S2 u v)
  | .slTo a hi, ρ, S => (ev a ρ S).bind fun u S1 => (ev hi ρ S1).bind fun v S2 => match v with
    | .int i => sliceU S2 u none (some i)
    | _ => .bad
  | .slFr a lo, ρ, S => (ev a ρ S).bind fun u S1 => (ev lo ρ S1).bind fun v S2 => match v with
    | .int i => sliceU S2 u (some i) none
    | _ => .bad
  | .isi e ts, ρ, S => (ev e ρ S).bind fun u S1 => (R.ofO S1 (tysOk S1 u ts)).bind fun b S2 => .ok (.bl b) S2
  | .dict0, _, S => .ok (.obj S.n) (S.alloc (.dict []))
  | .nev, _, _ => .bad
def evB (e : CE) (ρ : Ev) (S : Sto) : R Bool := (ev T c e ρ S).bind fun u S1 => R.ofO S1 (tru S1 u)
def putL (a : Nat) (u : U) : List (Nat × U) → List (Nat × U)
  | [] => [(a, u)]
  | (b, x) :: r => bif b == a then (b, u) :: r else (b, x) :: putL a u r
def HR.out (h : HR) (u : U) : U := match h with
  | .fld => u
  | .cst x => x
  | .pair x => .tup [x, u]
def catch_ (k : Nat) : List (List Nat × HR) → Option HR
  | [] => none
  | (cs, h) :: r => bif cs.contains k then some h else catch_ k r
def R.toS {α : Type} (r : R α) (ρ : Ev) (k : α → Sto → SR) : SR := match r with
  | .ok a S => k a S
  | .exc x u S => .exc x u ρ S
  | .bad => .bad
def evS : CS → Ev → Sto → SR
  | .skip, ρ, S => .next ρ S
  | .seq s t, ρ, S => match evS s ρ S with
    | .next ρ' S' => evS t ρ' S'
    | r => r
  | .asg t e, ρ, S => (ev T c e ρ S).toS ρ fun u S1 => match t.asg u ρ with
    | some ρ' => .next ρ' S1
    | none => .bad
  | .seta o a e, ρ, S => (ev T c e ρ S).toS ρ fun u S1 => (ev T c o ρ S1).toS ρ fun v S2 => match v with
    | .obj n => match S2.get n with
      | some (.ins k fs) => bif decide (fs.length < 1000) then .next ρ (S2.put n (.ins k (putL a u fs))) else .bad
      | _ => .bad
    | _ => .bad
  | .seti o i e, ρ, S => (ev T c e ρ S).toS ρ fun u S1 => (ev T c o ρ S1).toS ρ fun v S2 => (ev T c i ρ S2).toS ρ fun w S3 => match v, w with
    | .obj n, .int j => match S3.get n with
      | some (.lst l) => match L2.ixN l.length j with
        | some p => .next ρ (S3.put n (.lst (l.set p u)))
        | none => .bad
      | _ => .bad
    | _, _ => .bad
  | .ex e, ρ, S => (ev T c e ρ S).toS ρ fun _ S1 => .next ρ S1
  | .ret e, ρ, S => (ev T c e ρ S).toS ρ fun u S1 => .ret u S1
  | .retN, _, S => .ret .non S
  | .ifs d s t, ρ, S => (evB T c d ρ S).toS ρ fun k S1 => match k with
    | true => evS s ρ S1
    | false => evS t ρ S1
  | .whl d s, ρ, S => whileN (evB T c d) (evS s) 1000000000 ρ S
  | .fr k t src s, ρ, S => (ev T c src ρ S).toS ρ fun u S1 => match mkIt S1 k u with
    | none => .bad
    | some it => forI (fun x ρ1 S2 => match t.asg x ρ1 with
      | none => .bad
      | some ρ2 => evS s ρ2 S2) it ρ S1
  | .brk, ρ, S => .brk ρ S
  | .cnt, ρ, S => .cnt ρ S
  | .raise_ k e, ρ, S => (ev T c e ρ S).toS ρ fun u S1 => .exc k u ρ S1
  | .try_ s hs, ρ, S => match evS s ρ S with
    | .exc k u ρ' S' => match catch_ k hs with
      | some h => .ret (h.out u) S'
      | none => .exc k u ρ' S'
    | r => r
  | .nev, _, _ => .bad
def finS : SR → R U
  | .next _ S => .ok .non S
  | .ret u S => .ok u S
  | .exc k u _ S => .exc k u S
  | _ => .bad
end
def startE (f : Fn) (us : List U) : Ev := us.map some ++ List.replicate (f.ns - f.np) none
def callN (T : Tab) : Nat → Ora
  | 0 => fun _ _ _ => .bad
  | n + 1 => fun f us S => match T.fns[f]? with
    | none => .bad
    | some fn => bif us.length == fn.np then finS (evS T (callN T n) fn.body (startE fn us) S) else .bad
end Z

/-! ## ZRel -/
set_option Elab.async false
set_option linter.all false
set_option maxRecDepth 100000
/-! Z: how values and stores lie in the layer's heaps. -/
namespace Z
open PySem Spec L2 PyProof.Rows

/-- where the text's classes lie, what its fields are called -/
structure Lk where
  nc : Nat
  cls : Nat → Addr
  fld : Nat → Str
  exc : Nat → Addr
  xf : Nat → Str

mutual
def VR (m : Nat → Addr) (H : Hp) (k : Nat) : U → V → Prop
  | .non, v => v = .non
  | .bl b, v => v = .bl b
  | .int i, v => v = .int i
  | .str s, v => v = .str s
  | .tup us, v => ∃ a xs, v = .ref a ∧ H a = some (.tup xs) ∧ VRs m H k us xs
  | .obj n, v => n < k ∧ v = .ref (m n)
def VRs (m : Nat → Addr) (H : Hp) (k : Nat) : List U → List V → Prop
  | [], xs => xs = []
  | u :: us, xs => ∃ y ys, xs = y :: ys ∧ VR m H k u y ∧ VRs m H k us ys
end
theorem VR.non {m H k} : VR m H k .non .non := rfl
theorem VR.bl {m H k b} : VR m H k (.bl b) (.bl b) := rfl
theorem VR.int {m H k i} : VR m H k (.int i) (.int i) := rfl
theorem VR.tup {m : Nat → Addr} {H : Hp} {k : Nat} {us : List U} {a : Addr} {xs : List V} (h : H a = some (.tup xs)) (r : VRs m H k us xs) : VR m H k (.tup us) (.ref a) := by
  unfold VR; exact ⟨a, xs, rfl, h, r⟩
theorem VR.obj {m : Nat → Addr} {H : Hp} {k n : Nat} (h : n < k) : VR m H k (.obj n) (.ref (m n)) := ⟨h, rfl⟩
theorem VR.of_tup {m : Nat → Addr} {H : Hp} {k : Nat} {us : List U} {v : V} (h : VR m H k (.tup us) v) : ∃ a xs, v = .ref a ∧ H a = some (.tup xs) ∧ VRs m H k us xs := by
  unfold VR at h; exact h
theorem VRs.nil {m H k} : VRs m H k [] [] := rfl
theorem VRs.cons {m : Nat → Addr} {H : Hp} {k : Nat} {u : U} {us : List U} {y : V} {ys : List V} (h : VR m H k u y) (t : VRs m H k us ys) : VRs m H k (u :: us) (y :: ys) := by
  unfold VRs; exact ⟨y, ys, rfl, h, t⟩
theorem VRs.of_cons {m : Nat → Addr} {H : Hp} {k : Nat} {u : U} {us : List U} {xs : List V} (h : VRs m H k (u :: us) xs) : ∃ y ys, xs = y :: ys ∧ VR m H k u y ∧ VRs m H k us ys := by
  unfold VRs at h; exact h
theorem VRs.length {m : Nat → Addr} {H : Hp} {k : Nat} : ∀ {us : List U} {xs : List V}, VRs m H k us xs → xs.length = us.length
  | [], _, h => by
    obtain rfl : _ = ([] : List V) := h
    rfl
  | u :: us, _, h => by
    obtain ⟨y, ys, rfl, _, t⟩ := h.of_cons
    rw [List.length_cons, List.length_cons, VRs.length t]
theorem VRs.append {m : Nat → Addr} {H : Hp} {k : Nat} : ∀ {us ws : List U} {xs ys : List V}, VRs m H k us xs → VRs m H k ws ys → VRs m H k (us ++ ws) (xs ++ ys)
  | [], _, _, _, h, t => by
    obtain rfl : _ = ([] : List V) := h
    exact t
  | u :: us, _, _, _, h, t => by
    obtain ⟨y, zs, rfl, q, r⟩ := h.of_cons
    exact VRs.cons q (VRs.append r t)
theorem VRs.get {m : Nat → Addr} {H : Hp} {k : Nat} : ∀ {us : List U} {xs : List V} {i : Nat} {u : U}, VRs m H k us xs → us[i]? = some u → ∃ v, xs[i]? = some v ∧ VR m H k u v
  | [], _, _, _, _, e => by simp at e
  | w :: us, _, 0, u, h, e => by
    obtain ⟨y, zs, rfl, q, _⟩ := h.of_cons
    obtain rfl : w = u := by simpa using e
    exact ⟨y, rfl, q⟩
  | w :: us, _, i + 1, u, h, e => by
    obtain ⟨y, zs, rfl, _, r⟩ := h.of_cons
    obtain ⟨v, e2, q⟩ := VRs.get r (by simpa using e)
    exact ⟨v, by simpa using e2, q⟩
theorem VRs.none_at {m : Nat → Addr} {H : Hp} {k : Nat} {us : List U} {xs : List V} {i : Nat} (h : VRs m H k us xs) (e : us[i]? = none) : xs.length ≤ i := by
  rw [h.length]; exact List.getElem?_eq_none_iff.mp e
theorem VRs.set {m : Nat → Addr} {H : Hp} {k : Nat} {u : U} {v : V} (r : VR m H k u v) : ∀ {us : List U} {xs : List V} (i : Nat), VRs m H k us xs → VRs m H k (us.set i u) (xs.set i v)
  | [], _, _, h => by
    obtain rfl : _ = ([] : List V) := h
    exact VRs.nil
  | w :: us, _, 0, h => by
    obtain ⟨y, zs, rfl, _, t⟩ := h.of_cons
    exact VRs.cons r t
  | w :: us, _, i + 1, h => by
    obtain ⟨y, zs, rfl, q, t⟩ := h.of_cons
    exact VRs.cons q (VRs.set r i t)
theorem VRs.take {m : Nat → Addr} {H : Hp} {k : Nat} : ∀ {us : List U} {xs : List V} (i : Nat), VRs m H k us xs → VRs m H k (us.take i) (xs.take i)
  | _, _, 0, _ => VRs.nil
  | [], _, _ + 1, h => by
    obtain rfl : _ = ([] : List V) := h
    exact VRs.nil
  | w :: us, _, i + 1, h => by
    obtain ⟨y, zs, rfl, q, t⟩ := h.of_cons
    exact VRs.cons q (VRs.take i t)
theorem VRs.drop {m : Nat → Addr} {H : Hp} {k : Nat} : ∀ {us : List U} {xs : List V} (i : Nat), VRs m H k us xs → VRs m H k (us.drop i) (xs.drop i)
  | _, _, 0, h => h
  | [], _, _ + 1, h => by
    obtain rfl : _ = ([] : List V) := h
    exact VRs.nil
  | w :: us, _, i + 1, h => by
    obtain ⟨y, zs, rfl, _, t⟩ := h.of_cons
    exact VRs.drop i t

/-! ### growth -/
structure Ext (m : Nat → Addr) (H : Hp) (k : Nat) (m' : Nat → Addr) (H' : Hp) (k' : Nat) : Prop where
  le : k ≤ k'
  same : ∀ n, n < k → m' n = m n
  tup : ∀ b xs, H b = some (.tup xs) → H' b = some (.tup xs)
  keep : ∀ b o, (∀ n, 0 < n → n < k → m n ≠ b) → H b = some o → H' b = some o
  dom : ∀ b, H b ≠ none → H' b ≠ none
  fresh : ∀ n, k ≤ n → n < k' → H (m' n) = none
theorem Ext.refl {m : Nat → Addr} {H : Hp} {k : Nat} : Ext m H k m H k := ⟨Nat.le_refl _, fun _ _ => rfl, fun _ _ h => h, fun _ _ _ h => h, fun _ h => h, fun n a b => absurd b (Nat.not_lt.mpr a)⟩
theorem Ext.trans {m m1 m2 : Nat → Addr} {H H1 H2 : Hp} {k k1 k2 : Nat} (a : Ext m H k m1 H1 k1) (b : Ext m1 H1 k1 m2 H2 k2) : Ext m H k m2 H2 k2 where
  le := Nat.le_trans a.le b.le
  same := fun n h => (b.same n (Nat.lt_of_lt_of_le h a.le)).trans (a.same n h)
  tup := fun c xs h => b.tup c xs (a.tup c xs h)
  keep := fun c o hn h => b.keep c o (fun n h0 h1 => by
    by_cases hk : n < k
    · rw [a.same n hk]; exact hn n h0 hk
    · intro e
      have := a.fresh n (Nat.not_lt.mp hk) h1
      rw [e, h] at this; cases this) (a.keep c o hn h)
  dom := fun c h => b.dom c (a.dom c h)
  fresh := fun n h1 h2 => by
    by_cases hk : n < k1
    · rw [b.same n hk]; exact a.fresh n h1 hk
    · have h3 := b.fresh n (Nat.not_lt.mp hk) h2
      cases e : H (m2 n) with
      | none => rfl
      | some o => exact absurd h3 (a.dom _ (by rw [e]; simp))
/-- what values lean on -/
structure Gr (m : Nat → Addr) (H : Hp) (k : Nat) (m' : Nat → Addr) (H' : Hp) (k' : Nat) : Prop where
  le : k ≤ k'
  same : ∀ n, n < k → m' n = m n
  tup : ∀ b xs, H b = some (.tup xs) → H' b = some (.tup xs)
theorem Ext.gr {m m' : Nat → Addr} {H H' : Hp} {k k' : Nat} (e : Ext m H k m' H' k') : Gr m H k m' H' k' := ⟨e.le, e.same, e.tup⟩
mutual
theorem VR.grow {m m' : Nat → Addr} {H H' : Hp} {k k' : Nat} (e : Gr m H k m' H' k') : ∀ {u : U} {v : V}, VR m H k u v → VR m' H' k' u v
  | .non, _, h => h
  | .bl _, _, h => h
  | .int _, _, h => h
  | .str _, _, h => h
  | .tup us, _, h => by
    obtain ⟨a, xs, rfl, ha, r⟩ := h.of_tup
    exact VR.tup (e.tup _ _ ha) (VRs.grow e r)
  | .obj n, _, h => by
    obtain ⟨h1, rfl⟩ := h
    exact ⟨Nat.lt_of_lt_of_le h1 e.le, by rw [e.same n h1]⟩
theorem VRs.grow {m m' : Nat → Addr} {H H' : Hp} {k k' : Nat} (e : Gr m H k m' H' k') : ∀ {us : List U} {xs : List V}, VRs m H k us xs → VRs m' H' k' us xs
  | [], _, h => h
  | u :: us, _, h => by
    obtain ⟨y, ys, rfl, q, t⟩ := h.of_cons
    exact VRs.cons (VR.grow e q) (VRs.grow e t)
end
theorem VR.mono {m m' : Nat → Addr} {H H' : Hp} {k k' : Nat} (e : Ext m H k m' H' k') {u : U} {v : V} (h : VR m H k u v) : VR m' H' k' u v := h.grow e.gr
theorem VRs.mono {m m' : Nat → Addr} {H H' : Hp} {k k' : Nat} (e : Ext m H k m' H' k') {us : List U} {xs : List V} (h : VRs m H k us xs) : VRs m' H' k' us xs := h.grow e.gr

/-! ### the store -/
/-- an instance's fields -/
def FR (L : Lk) (m : Nat → Addr) (H : Hp) (k : Nat) : List (Nat × U) → List (Str × V) → Prop
  | [], gs => gs = []
  | (f, u) :: fs, gs => ∃ v hs, gs = (L.fld f, v) :: hs ∧ VR m H k u v ∧ FR L m H k fs hs
theorem FR.mono {L : Lk} {m m' : Nat → Addr} {H H' : Hp} {k k' : Nat} (e : Gr m H k m' H' k') : ∀ {fs : List (Nat × U)} {gs : List (Str × V)}, FR L m H k fs gs → FR L m' H' k' fs gs
  | [], _, h => h
  | (f, u) :: fs, _, ⟨v, hs, h1, h2, h3⟩ => ⟨v, hs, h1, h2.grow e, FR.mono e h3⟩
def OR (L : Lk) (K : PySem.W.Frag) (m : Nat → Addr) (H : Hp) (k : Nat) (a : Addr) : O → Prop
  | .lst us => ∃ xs, H a = some (.lst xs) ∧ VRs m H k us xs
  | .ro us => ∃ xs, ((∃ ob, H a = some (.frz ob (.lst xs))) ∨ SqL K (fun _ => none) a xs) ∧ VRs m H k us xs
  | .dict _ => False
  | .ins c fs => c < L.nc ∧ ∃ dx gs, H a = some (.ins (L.cls c) dx gs) ∧ FR L m H k fs gs
def O.mu : O → Bool
  | .ro _ => false
  | _ => true
structure SRel (L : Lk) (K : PySem.W.Frag) (m : Nat → Addr) (H : Hp) (S : Sto) : Prop where
  pos : 0 < S.n
  mu : ∀ n o, S.get n = some o → (o.mu = true ↔ 0 < n)
  obj : ∀ n o, S.get n = some o → OR L K m H S.n (m n) o
  inj : ∀ n n' o o', S.get n = some o → S.get n' = some o' → o.mu = true → o'.mu = true → m n = m n' → n = n'
section
variable {L : Lk} {K : PySem.W.Frag} {m : Nat → Addr} {H : Hp} {S : Sto}
/-- what stands at an object of the store that may change -/
theorem OR.some_of {k : Nat} {a : Addr} {o : O} (h : OR L K m H k a o) (hm : o.mu = true) : ∃ ho, H a = some ho ∧ (∀ ob u, ho ≠ .frz ob u) ∧ ∀ xs, ho ≠ .tup xs := by
  cases o with
  | lst us => obtain ⟨ys, h1, _⟩ := h; exact ⟨_, h1, (fun _ _ z => by cases z), (fun _ z => by cases z)⟩
  | ro us => cases hm
  | dict kvs => exact h.elim
  | ins c fs => obtain ⟨_, dx, gs, h1, _⟩ := h; exact ⟨_, h1, (fun _ _ z => by cases z), (fun _ z => by cases z)⟩
theorem OR.carry {m' : Nat → Addr} {H' : Hp} {k k' : Nat} {a : Addr} {o : O} (e : Gr m H k m' H' k') (hs : ∀ ho, H a = some ho → (o.mu = true ∨ ∃ ob u, ho = .frz ob u) → H' a = some ho) (h : OR L K m H k a o) : OR L K m' H' k' a o := by
  cases o with
  | lst us => obtain ⟨ys, h1, h3⟩ := h; exact ⟨ys, hs _ h1 (.inl rfl), h3.grow e⟩
  | ro us =>
    obtain ⟨ys, h1, h3⟩ := h
    refine ⟨ys, ?_, h3.grow e⟩
    rcases h1 with ⟨ob, h1⟩ | h1
    · exact .inl ⟨ob, hs _ h1 (.inr ⟨ob, _, rfl⟩)⟩
    · exact .inr h1
  | dict kvs => exact h.elim
  | ins c fs => obtain ⟨h0, dx, gs, h1, h3⟩ := h; exact ⟨h0, dx, gs, hs _ h1 (.inl rfl), FR.mono e h3⟩
/-- a new object is laid at p, and does not belong to the store -/
theorem ext_new {k : Nat} {p : Addr} {ho : HO} (hp : H p = none) : Ext m H k m (upd H p ho) k where
  le := Nat.le_refl _
  same := fun _ _ => rfl
  tup := fun b xs h => by rw [upd_ne (ne_of_none h hp)]; exact h
  keep := fun b o _ h => by rw [upd_ne (ne_of_none h hp)]; exact h
  dom := fun b h => by
    by_cases hb : b = p
    · subst hb; rw [upd_same]; simp
    · rw [upd_ne hb]; exact h
  fresh := fun n a b => absurd b (Nat.not_lt.mpr a)
theorem SRel.new (s : SRel L K m H S) {p : Addr} {ho : HO} (hp : H p = none) : SRel L K m (upd H p ho) S where
  pos := s.pos
  mu := s.mu
  obj := fun n o h => (s.obj n o h).carry (ext_new hp).gr fun x hx _ => by rw [upd_ne (ne_of_none hx hp)]; exact hx
  inj := s.inj
/-- the new object is the store's next one -/
def mput (m : Nat → Addr) (n : Nat) (p : Addr) : Nat → Addr := fun j => if j = n then p else m j
theorem mput_same {n : Nat} {p : Addr} : mput m n p n = p := if_pos rfl
theorem mput_ne {n j : Nat} {p : Addr} (h : j ≠ n) : mput m n p j = m j := if_neg h
theorem ext_alloc {k : Nat} {p : Addr} {ho : HO} (hp : H p = none) : Ext m H k (mput m k p) (upd H p ho) (k + 1) where
  le := Nat.le_succ _
  same := fun n h => mput_ne (Nat.ne_of_lt h)
  tup := fun b xs h => by rw [upd_ne (ne_of_none h hp)]; exact h
  keep := fun b o _ h => by rw [upd_ne (ne_of_none h hp)]; exact h
  dom := fun b h => by
    by_cases hb : b = p
    · subst hb; rw [upd_same]; simp
    · rw [upd_ne hb]; exact h
  fresh := fun n h1 h2 => by
    obtain rfl : n = k := by omega
    rw [mput_same]; exact hp
theorem SRel.mu_alloc (s : SRel L K m H S) {o : O} (hm : o.mu = true) (n : Nat) (x : O) (h : (S.alloc o).get n = some x) : x.mu = true ↔ 0 < n := by
  rw [Sto.get_alloc] at h
  by_cases hk : n = S.n
  · rw [if_pos hk] at h
    cases h
    exact ⟨fun _ => by rw [hk]; exact s.pos, fun _ => hm⟩
  · rw [if_neg hk] at h
    exact s.mu n x h
theorem SRel.alloc (s : SRel L K m H S) {p : Addr} {ho : HO} {o : O} (hm : o.mu = true) (hp : H p = none) (hn : OR L K (mput m S.n p) (upd H p ho) (S.n + 1) p o) : SRel L K (mput m S.n p) (upd H p ho) (S.alloc o) where
  pos := Nat.succ_pos _
  mu := s.mu_alloc hm
  obj := fun n x h => by
    rw [Sto.get_alloc] at h
    by_cases hk : n = S.n
    · rw [if_pos hk] at h
      cases h
      rw [hk, mput_same]; exact hn
    · rw [if_neg hk] at h
      rw [mput_ne hk]
      exact (s.obj n x h).carry (ext_alloc hp).gr fun y hy _ => by rw [upd_ne (ne_of_none hy hp)]; exact hy
  inj := fun n n' x x' h h' hx hx' e => by
    rw [Sto.get_alloc] at h h'
    by_cases hk : n = S.n
    · by_cases hk' : n' = S.n
      · rw [hk, hk']
      · rw [if_neg hk'] at h'
        rw [hk, mput_same, mput_ne hk'] at e
        obtain ⟨ho', h1, _⟩ := (s.obj n' x' h').some_of hx'
        rw [← e, hp] at h1; cases h1
    · rw [if_neg hk] at h
      by_cases hk' : n' = S.n
      · rw [hk', mput_same, mput_ne hk] at e
        obtain ⟨ho', h1, _⟩ := (s.obj n x h).some_of hx
        rw [e, hp] at h1; cases h1
      · rw [if_neg hk'] at h'
        rw [mput_ne hk, mput_ne hk'] at e
        exact s.inj n n' x x' h h' hx hx' e
theorem ext_put (s : SRel L K m H S) {n : Nat} {x : O} (h : S.get n = some x) (hm : x.mu = true) {ho : HO} : Ext m H S.n m (upd H (m n) ho) S.n where
  le := Nat.le_refl _
  same := fun _ _ => rfl
  tup := fun b xs hb => by
    obtain ⟨y, h1, _, h2⟩ := (s.obj n x h).some_of hm
    by_cases e : b = m n
    · rw [e, h1] at hb; exact absurd (Option.some.inj hb) (h2 xs)
    · rw [upd_ne e]; exact hb
  keep := fun b o hn hb => by
    rw [upd_ne fun e => hn n ((s.mu n x h).mp hm) (Sto.lt h) e.symm]; exact hb
  dom := fun b hb => by
    by_cases e : b = m n
    · subst e; rw [upd_same]; simp
    · rw [upd_ne e]; exact hb
  fresh := fun n a b => absurd b (Nat.not_lt.mpr a)
theorem SRel.put (s : SRel L K m H S) {n : Nat} {x o : O} (h : S.get n = some x) (hm : x.mu = true) (hm' : o.mu = true) {ho : HO} (hn : OR L K m (upd H (m n) ho) S.n (m n) o) : SRel L K m (upd H (m n) ho) (S.put n o) where
  pos := by rw [Sto.n_put]; exact s.pos
  mu := fun j y hy => by
    rw [Sto.get_put (Sto.lt h)] at hy
    by_cases e : j = n
    · rw [if_pos e] at hy
      cases hy
      rw [e]
      exact ⟨fun _ => (s.mu n x h).mp hm, fun _ => hm'⟩
    · rw [if_neg e] at hy
      exact s.mu j y hy
  obj := fun j y hy => by
    rw [Sto.n_put]
    rw [Sto.get_put (Sto.lt h)] at hy
    by_cases e : j = n
    · rw [if_pos e] at hy
      cases hy
      rw [e]; exact hn
    · rw [if_neg e] at hy
      refine (s.obj j y hy).carry (ext_put s h hm).gr fun z hz hh => ?_
      rw [upd_ne]
      · exact hz
      · intro q
        obtain ⟨w, h1, h2, _⟩ := (s.obj n x h).some_of hm
        rcases hh with hh | ⟨ob, u, rfl⟩
        · exact e (s.inj j n y x hy h hh hm q)
        · rw [q, h1] at hz
          exact h2 ob u (Option.some.inj hz)
  inj := fun j j' y y' hy hy' my my' q => by
    have hn : ∀ i z, (S.put n o).get i = some z → z.mu = true → ∃ w, S.get i = some w ∧ w.mu = true := fun i z hz mz => by
      rw [Sto.get_put (Sto.lt h)] at hz
      by_cases e : i = n
      · exact ⟨x, by rw [e]; exact h, hm⟩
      · rw [if_neg e] at hz; exact ⟨z, hz, mz⟩
    obtain ⟨w, h1, h2⟩ := hn j y hy my
    obtain ⟨w', h1', h2'⟩ := hn j' y' hy' my'
    exact s.inj j j' w w' h1 h1' h2 h2' q
/-- a list that nothing knew becomes the store's next object -/
theorem ext_adopt {m1 : Nat → Addr} {H1 : Hp} {k k1 : Nat} {D : Addr} (e : Ext m H k m1 H1 k1) (hD : H D = none) : Ext m H k (mput m1 k1 D) H1 (k1 + 1) where
  le := Nat.le_succ_of_le e.le
  same := fun n h => (mput_ne (Nat.ne_of_lt (Nat.lt_of_lt_of_le h e.le))).trans (e.same n h)
  tup := e.tup
  keep := e.keep
  dom := e.dom
  fresh := fun n h1 h2 => by
    by_cases h : n = k1
    · rw [h, mput_same]; exact hD
    · rw [mput_ne h]; exact e.fresh n h1 (by omega)
theorem SRel.adopt (s : SRel L K m H S) {D : Addr} {xs : List V} {us : List U} (hD : H D = some (.lst xs)) (r : VRs m H S.n us xs) (hf : ∀ n o, S.get n = some o → o.mu = true → m n ≠ D) : SRel L K (mput m S.n D) H (S.alloc (.lst us)) where
  pos := Nat.succ_pos _
  mu := s.mu_alloc rfl
  obj := fun n x h => by
    have g : Gr m H S.n (mput m S.n D) H (S.n + 1) := ⟨Nat.le_succ _, fun n h => mput_ne (Nat.ne_of_lt h), fun _ _ h => h⟩
    rw [Sto.get_alloc] at h
    by_cases hk : n = S.n
    · rw [if_pos hk] at h
      cases h
      rw [hk, mput_same]
      exact ⟨xs, hD, r.grow g⟩
    · rw [if_neg hk] at h
      rw [mput_ne hk]
      exact (s.obj n x h).carry g fun y hy _ => hy
  inj := fun n n' x x' h h' hx hx' e => by
    rw [Sto.get_alloc] at h h'
    by_cases hk : n = S.n
    · by_cases hk' : n' = S.n
      · rw [hk, hk']
      · rw [if_neg hk'] at h'
        rw [hk, mput_same, mput_ne hk'] at e
        exact absurd e.symm (hf n' x' h' hx')
    · rw [if_neg hk] at h
      by_cases hk' : n' = S.n
      · rw [hk', mput_same, mput_ne hk] at e
        exact absurd e (hf n x h hx)
      · rw [if_neg hk'] at h'
        rw [mput_ne hk, mput_ne hk'] at e
        exact s.inj n n' x x' h h' hx hx' e

end

/-! ### slots -/
def ER (m : Nat → Addr) (H : Hp) (k : Nat) (σ : L2.St) (ρ : Ev) : Prop := σ.length = ρ.length ∧ ∀ (i : Nat) (u : U), ρ[i]? = some (some u) → ∃ v, σ[i]? = some (some v) ∧ VR m H k u v
theorem ER.mono {m m' : Nat → Addr} {H H' : Hp} {k k' : Nat} {σ : L2.St} {ρ : Ev} (e : Ext m H k m' H' k') (h : ER m H k σ ρ) : ER m' H' k' σ ρ :=
  ⟨h.1, fun i u q => let ⟨v, h1, h2⟩ := h.2 i u q; ⟨v, h1, h2.mono e⟩⟩
theorem ER.set {m : Nat → Addr} {H : Hp} {k : Nat} {σ : L2.St} {ρ : Ev} (h : ER m H k σ ρ) {i : Nat} {u : U} {v : V} (hi : i < ρ.length) (r : VR m H k u v) : ER m H k (σ.set i (some v)) (ρ.set i (some u)) := by
  refine ⟨by rw [List.length_set, List.length_set, h.1], fun j w q => ?_⟩
  by_cases e : i = j
  · subst e
    rw [List.getElem?_set_self hi] at q
    cases q
    exact ⟨v, List.getElem?_set_self (by rw [h.1]; exact hi), r⟩
  · rw [List.getElem?_set_ne e] at q ⊢
    exact h.2 j w q
theorem ER.unset {m : Nat → Addr} {H : Hp} {k : Nat} {σ : L2.St} {ρ : Ev} (h : ER m H k σ ρ) (i : Nat) : ER m H k (σ.set i none) (ρ.set i none) := by
  refine ⟨by rw [List.length_set, List.length_set, h.1], fun j w q => ?_⟩
  by_cases e : i = j
  · subst e
    by_cases hi : i < ρ.length
    · rw [List.getElem?_set_self hi] at q; cases q
    · rw [List.getElem?_eq_none (by rw [List.length_set]; omega)] at q; cases q
  · rw [List.getElem?_set_ne e] at q ⊢
    exact h.2 j w q
theorem ER.wipe {m : Nat → Addr} {H : Hp} {k : Nat} {σ : L2.St} {ρ : Ev} (h : ER m H k σ ρ) : ∀ vs : List Nat, ER m H k (wipe σ vs) (wipeE ρ vs)
  | [] => h
  | v :: vs => (ER.wipe h vs).unset v
theorem ER.start {m : Nat → Addr} {H : Hp} {k : Nat} {us : List U} {vs : List V} {N : List Str} {f : Fn} (h : VRs m H k us vs) (hl : us.length = f.np) (hN : N.length = f.ns) : ER m H k (L2.start N vs) (startE f us) := by
  unfold L2.start startE
  have e1 : vs.length = us.length := h.length
  refine ⟨?_, fun i u q => ?_⟩
  · rw [List.length_append, List.length_append, List.length_map, List.length_map, List.length_replicate, List.length_replicate, e1, hN, hl]
  · by_cases hi : i < us.length
    · rw [List.getElem?_append_left (by rw [List.length_map]; exact hi), List.getElem?_map] at q
      cases e : us[i]? with
      | none => rw [e] at q; cases q
      | some w =>
        rw [e] at q
        cases q
        obtain ⟨v, h1, h2⟩ := h.get e
        refine ⟨v, ?_, h2⟩
        rw [List.getElem?_append_left (by rw [List.length_map, e1]; exact hi), List.getElem?_map, h1]
        rfl
    · rw [List.getElem?_append_right (by rw [List.length_map]; omega)] at q
      rw [List.getElem?_replicate] at q
      split at q <;> cases q

/-! ### results -/
/-- what is known of the class and the text -/
structure Wo where
  L : Lk
  K : PySem.W.Frag
def OutG {α β : Type} (L : Lk) (K : PySem.W.Frag) (W : WX) (σ : L2.St) (m : Nat → Addr) (H : Hp) (S : Sto) (rel : (Nat → Addr) → Hp → Sto → α → β → Prop) (r : R α) (Q : β → Hp → Prop) : Prop :=
  match r with
  | .ok a S' => ∀ m' H' b, Ext m H S.n m' H' S'.n → SRel L K m' H' S' → rel m' H' S' a b → Q b H'
  | .exc c u S' => ∀ m' H' d y, Ext m H S.n m' H' S'.n → SRel L K m' H' S' → VR m' H' S'.n u y → H' d = some (.xd [(L.xf c, y)]) → W (.ref (L.exc c)) (some d) σ H'
  | .bad => False
section
variable {α β γ δ : Type} {L : Lk} {K : PySem.W.Frag} {W : WX} {σ : L2.St} {m m1 : Nat → Addr} {H H1 : Hp} {S S1 : Sto} {rel : (Nat → Addr) → Hp → Sto → α → β → Prop} {rel2 : (Nat → Addr) → Hp → Sto → γ → δ → Prop}
theorem OutG.imp {r : R α} {Q Q' : β → Hp → Prop} (h : OutG L K W σ m H S rel r Q) (hq : ∀ b H', Q b H' → Q' b H') : OutG L K W σ m H S rel r Q' := by
  cases r with
  | ok a S' => exact fun m' H' b e s q => hq _ _ (h m' H' b e s q)
  | exc c u S' => exact h
  | bad => exact h
theorem OutG.mono {r : R α} {Q : β → Hp → Prop} (h : OutG L K W σ m H S rel r Q) (e : Ext m H S.n m1 H1 S1.n) : OutG L K W σ m1 H1 S1 rel r Q := by
  cases r with
  | ok a S' => exact fun m' H' b e' s q => h m' H' b (e.trans e') s q
  | exc c u S' => exact fun m' H' d y e' s q x => h m' H' d y (e.trans e') s q x
  | bad => exact h
/-- what has come of a part -/
def Mid (L : Lk) (K : PySem.W.Frag) (m : Nat → Addr) (H : Hp) (S : Sto) (rel : (Nat → Addr) → Hp → Sto → α → β → Prop) (b : β) (H1 : Hp) (k : (Nat → Addr) → Sto → α → Prop) : Prop :=
  ∃ m1 S1 a, Ext m H S.n m1 H1 S1.n ∧ SRel L K m1 H1 S1 ∧ rel m1 H1 S1 a b ∧ k m1 S1 a
theorem OutG.bind {r : R α} {k : α → Sto → R γ} {Q : δ → Hp → Prop} (h : OutG L K W σ m H S rel2 (r.bind k) Q) :
    OutG L K W σ m H S rel r fun b H1 => Mid L K m H S rel b H1 fun m1 S1 a => OutG L K W σ m1 H1 S1 rel2 (k a S1) Q := by
  cases r with
  | ok a S1 => exact fun m1 H1 b e s q => ⟨m1, S1, a, e, s, q, OutG.mono (r := k a S1) h e⟩
  | exc c u S' => exact h
  | bad => exact h
theorem OutG.ofO {S' : Sto} {o : Option α} {k : α → Sto → R γ} {Q : δ → Hp → Prop} (h : OutG L K W σ m H S rel2 ((R.ofO S' o).bind k) Q) : ∃ a, o = some a ∧ OutG L K W σ m H S rel2 (k a S') Q := by
  cases o with
  | none => exact h.elim
  | some a => exact ⟨a, rfl, h⟩
theorem OutG.ofO1 {S' : Sto} {o : Option α} {Q : β → Hp → Prop} (h : OutG L K W σ m H S rel (R.ofO S' o) Q) : ∃ a, o = some a ∧ OutG L K W σ m H S rel (.ok a S') Q := by
  cases o with
  | none => exact h.elim
  | some a => exact ⟨a, rfl, h⟩
/-- nothing more has happened -/
theorem OutG.here {a : α} {b : β} {Q : β → Hp → Prop} (h : OutG L K W σ m H S rel (.ok a S) Q) (s : SRel L K m H S) (q : rel m H S a b) : Q b H := h m H b Ext.refl s q
end

theorem SRel.free {L : Lk} {K : PySem.W.Frag} {m : Nat → Addr} {H : Hp} {S : Sto} (s : SRel L K m H S) {p : Addr} (hp : H p = none) : ∀ n o, S.get n = some o → o.mu = true → m n ≠ p := fun n o h hm e => by
  obtain ⟨ho, h1, _⟩ := (s.obj n o h).some_of hm
  rw [e, hp] at h1; cases h1
theorem SRel.apart {L : Lk} {K : PySem.W.Frag} {m : Nat → Addr} {H : Hp} {S : Sto} (s : SRel L K m H S) {D : Addr} (h : ∀ n o, S.get n = some o → o.mu = true → m n ≠ D) : ∀ n, 0 < n → n < S.n → m n ≠ D := fun n h0 h1 => by
  obtain ⟨o, ho⟩ := Sto.some_of h1
  exact h n o ho ((s.mu n o ho).mpr h0)
/-! ### readings -/
abbrev relV : (Nat → Addr) → Hp → Sto → U → V → Prop := fun m H S u v => VR m H S.n u v
def tE (L : Lk) (K : PySem.W.Frag) (W : WX) (r : Ev → Sto → R U) : TE := fun σ H Q => ∃ m S ρ, SRel L K m H S ∧ ER m H S.n σ ρ ∧ OutG L K W σ m H S relV (r ρ S) Q
def relB : (Nat → Addr) → Hp → Sto → Bool → Bool → Prop := fun _ _ _ a b => a = b
def tT (L : Lk) (K : PySem.W.Frag) (W : WX) (r : Ev → Sto → R Bool) : TT := fun σ H Q => ∃ m S ρ, SRel L K m H S ∧ ER m H S.n σ ρ ∧ OutG L K W σ m H S relB (r ρ S) Q
def relA : (Nat → Addr) → Hp → Sto → U → List V → Prop := fun m H S u vs => ∃ us, u = .tup us ∧ VRs m H S.n us vs
def tA (L : Lk) (K : PySem.W.Frag) (W : WX) (r : Ev → Sto → R U) : TA := fun σ H Q => ∃ m S ρ, SRel L K m H S ∧ ER m H S.n σ ρ ∧ OutG L K W σ m H S relA (r ρ S) Q
/-- a list of its own, that nothing of the store knows -/
def Free (m : Nat → Addr) (S : Sto) (D : Addr) : Prop := ∀ n o, S.get n = some o → o.mu = true → m n ≠ D
def relR (H0 : Hp) : (Nat → Addr) → Hp → Sto → U → V → Prop := fun m H S u v => ∃ us D xs, u = .tup us ∧ v = .ref D ∧ H D = some (.lst xs) ∧ VRs m H S.n us xs ∧ Free m S D ∧ H0 D = none
def tR (L : Lk) (K : PySem.W.Frag) (W : WX) (r : Ev → Sto → R U) : TE := fun σ H Q => ∃ m S ρ, SRel L K m H S ∧ ER m H S.n σ ρ ∧ OutG L K W σ m H S (relR H) (r ρ S) Q
/-- statements -/
def OutS (L : Lk) (K : PySem.W.Frag) (W : WX) (m : Nat → Addr) (H : Hp) (S : Sto) (r : SR) (D : Ends) : Prop :=
  match r with
  | .next ρ S' => ∀ m' H' σ', Ext m H S.n m' H' S'.n → SRel L K m' H' S' → ER m' H' S'.n σ' ρ → D.nx σ' H'
  | .brk ρ S' => ∀ m' H' σ', Ext m H S.n m' H' S'.n → SRel L K m' H' S' → ER m' H' S'.n σ' ρ → D.bk σ' H'
  | .cnt ρ S' => ∀ m' H' σ', Ext m H S.n m' H' S'.n → SRel L K m' H' S' → ER m' H' S'.n σ' ρ → D.ct σ' H'
  | .ret u S' => ∀ m' H' v, Ext m H S.n m' H' S'.n → SRel L K m' H' S' → VR m' H' S'.n u v → D.rt v H'
  | .exc c u ρ S' => ∀ m' H' σ' d y, Ext m H S.n m' H' S'.n → SRel L K m' H' S' → ER m' H' S'.n σ' ρ → VR m' H' S'.n u y → H' d = some (.xd [(L.xf c, y)]) → W (.ref (L.exc c)) (some d) σ' H'
  | .bad => False
def tS (L : Lk) (K : PySem.W.Frag) (W : WX) (r : Ev → Sto → SR) : TS := fun D σ H => ∃ m S ρ, SRel L K m H S ∧ ER m H S.n σ ρ ∧ OutS L K W m H S (r ρ S) D
/-- defs -/
def spZ (L : Lk) (K : PySem.W.Frag) (np : Nat) (r : List U → Sto → R U) : Sp := fun vs H Q E => ∃ m S us, SRel L K m H S ∧ VRs m H S.n us vs ∧ us.length = np ∧ OutG L K (fun c d _ H => E c d H) [] m H S relV (r us S) Q
end Z

/-! ## ZExpr -/
set_option Elab.async false
set_option linter.all false
set_option maxRecDepth 100000
/-! Z: each expression of the text does what its term computes. -/
namespace Z
open PySem Spec L2 PyProof.Rows

theorem PE.weaken {X : Cx} {e : Expr} {t t' : TE} (h : PE X e t) (w : ∀ σ H Q, t' σ H Q → t σ H Q) : PE X e t' := ⟨fun pins s σ H Q I q => h.run pins s σ H Q I (w σ H Q q)⟩
theorem PE.or {X : Cx} {e : Expr} {t t' : TE} (h : PE X e t) (h' : PE X e t') : PE X e (fun σ H Q => t σ H Q ∨ t' σ H Q) := ⟨fun pins s σ H Q I q => q.elim (h.run pins s σ H Q I) (h'.run pins s σ H Q I)⟩
theorem PT.weaken {X : Cx} {e : Expr} {t t' : TT} (h : PT X e t) (w : ∀ σ H Q, t' σ H Q → t σ H Q) : PT X e t' := ⟨fun pins s σ H Q I q => h.run pins s σ H Q I (w σ H Q q)⟩
theorem PW.weaken {X : Cx} {e : Expr} {t t' : TT} (h : PW X e t) (w : ∀ σ H Q, t' σ H Q → t σ H Q) : PW X e t' := ⟨fun whole pins s σ H Q I q => h.run whole pins s σ H Q I (w σ H Q q)⟩
theorem PA.weaken {X : Cx} {es : List Expr} {t t' : TA} (h : PA X es t) (w : ∀ σ H Q, t' σ H Q → t σ H Q) : PA X es t' := ⟨fun pos pins s σ H Q I q => h.run pos pins s σ H Q I (w σ H Q q)⟩

/-! ### the form of the text -/
def notStar : Expr → Bool
  | .Starred _ _ => false
  | _ => true
def noStars : List Expr → Bool
  | [] => true
  | e :: es => notStar e && noStars es
theorem star1 {e : Expr} {es : List Expr} {env : Env} (h : notStar e = true) : starEach (e :: es) env = (false, eval e env) :: starEach es env := by
  cases e <;> first | rfl | cases h
theorem star_any {env : Env} {pos : Pos} : ∀ {es : List Expr}, noStars es = true → (backTo pos (starEach es env)).any (·.1) = false
  | [], _ => rfl
  | e :: es, h => by
    obtain ⟨h1, h2⟩ := Bool.and_eq_true_iff.mp (show (notStar e && noStars es) = true from h)
    rw [star1 h1]
    show (false || (backTo pos (starEach es env)).any (·.1)) = false
    rw [Bool.false_or, star_any h2]
theorem star_all {env : Env} {pos : Pos} : ∀ {es : List Expr}, noStars es = true → (backTo pos (starEach es env)).all (fun x => !x.1) = true
  | [], _ => rfl
  | e :: es, h => by
    obtain ⟨h1, h2⟩ := Bool.and_eq_true_iff.mp (show (notStar e && noStars es) = true from h)
    rw [star1 h1]
    show (!false && (backTo pos (starEach es env)).all (fun x => !x.1)) = true
    rw [star_all h2]; rfl
/-- no call without arguments (super is one) -/
def plainBase : Expr → Bool
  | .Call _ [] [] _ => false
  | _ => true
theorem base_of {e : Expr} {f : Str} {env : Env} (h : plainBase e = true) : attributeBase e f env (eval e env) = eval e env := by
  cases e with
  | Call fn as kws pos =>
    cases as with
    | nil =>
      cases kws with
      | nil => cases h
      | cons k ks => cases fn <;> rfl
    | cons a as => cases fn <;> rfl
  | _ => rfl
def notSlice : Expr → Bool
  | .Slice _ _ _ _ => false
  | _ => true
theorem plainIx_of {e : Expr} (h : notSlice e = true) : PlainIx e := by
  intro o i
  cases e <;> first | rfl | cases h
def notSet : Expr → Bool
  | .Set _ _ _ => false
  | _ => true
theorem folded_of {e : Expr} (h : notSet e = true) (env : Env) (x : Value) : foldedSetIterable e env x = pure x := by
  cases e <;> first | rfl | cases h
def notComp : Expr → Bool
  | .ListComp _ _ _ _ => false
  | .SetComp _ _ _ _ => false
  | .DictComp _ _ _ _ _ => false
  | _ => true
theorem swaps_of {e : Expr} (h : notComp e = true) (t : Option Expr) (n : Nat) (env : Env) : swapsWith e t n env = pure false := by
  cases e <;> first | rfl | cases h
def plainTest : Expr → Bool
  | .UnaryOp .Not _ _ => false
  | .BoolOp _ _ _ => false
  | .IfExp _ _ _ _ => false
  | .Compare _ _ _ _ => false
  | _ => true
theorem test_of {e : Expr} (h : plainTest e = true) (env : Env) (whole : Sem Value) : isTrue e env whole = (do let v ← whole; standAt e.pos; holding [v] (truthy v)) := by
  cases e with
  | UnaryOp op x p => cases op <;> first | rfl | cases h
  | _ => first | rfl | cases h

section
variable {X : Cx} {L : Lk} {W : WX} {a b c : Expr} {pos : Pos} {ra rb rc : Ev → Sto → R U}

/-! ### names, constants -/
theorem z_var {i : Nat} {x : Str} (hN : X.N[i]? = some x) (hv : Vis X.env.scope x) (hd : (x == ("__debug__" : Str)) = false) (hcd : (x == ("__classdict__" : Str)) = false) :
    PE X (.Name x pos) (tE L X.K W fun ρ S => match ρ[i]? with
      | some (some u) => .ok u S
      | _ => .bad) := by
  refine PE.weaken (pe_var hN hv hd hcd) fun σ H Q h => ?_
  obtain ⟨m, S, ρ, sr, er, o⟩ := h
  dsimp only at o
  cases e : ρ[i]? with
  | none => rw [e] at o; exact o.elim
  | some x =>
    cases x with
    | none => rw [e] at o; exact o.elim
    | some u =>
      rw [e] at o
      obtain ⟨v, h1, h2⟩ := er.2 i u e
      exact ⟨v, h1, o.here sr h2⟩
theorem z_cst {e : Expr} {u : U} {v : V} (h : PE X e (tC v)) (r : ∀ m H k, VR m H k u v) : PE X e (tE L X.K W fun _ S => .ok u S) := by
  refine PE.weaken h fun σ H Q h => ?_
  obtain ⟨m, S, ρ, sr, er, o⟩ := h
  exact o.here sr (r _ _ _)

/-! ### operators -/
theorem small_ok {i : Int} (h : small i = true) : -(2 ^ 64) < i ∧ i < 2 ^ 64 := by
  obtain ⟨h1, h2⟩ := Bool.and_eq_true_iff.mp (show (decide (-(2 ^ 64) < i) && decide (i < 2 ^ 64)) = true from h)
  exact ⟨of_decide_eq_true h1, of_decide_eq_true h2⟩
theorem cond_ok {α β : Type} {L : Lk} {K : PySem.W.Frag} {W : WX} {σ : L2.St} {m : Nat → Addr} {H : Hp} {S : Sto} {rel : (Nat → Addr) → Hp → Sto → α → β → Prop} {k : Bool} {r : R α} {Q : β → Hp → Prop}
    (h : OutG L K W σ m H S rel (bif k then r else .bad) Q) : k = true ∧ OutG L K W σ m H S rel r Q := by
  cases k with
  | true => exact ⟨rfl, h⟩
  | false => exact h.elim
/-- what an operation is worth -/
def rB (L : Lk) (K : PySem.W.Frag) (W : WX) (f : Sto → U → U → R U) : R2 := fun x y H Q => ∃ σ m S u v, SRel L K m H S ∧ VR m H S.n u x ∧ VR m H S.n v y ∧ OutG L K W σ m H S relV (f S u v) Q
def opOf : BOp → Operator
  | .add => .Add | .sub => .Sub | .mul => .Mult | .fdiv => .FloorDiv | .mod => .Mod | .pow => .Pow | .shl => .LShift | .shr => .RShift | .band => .BitAnd | .bor => .BitOr
theorem decs {a b : Bool} (h : (a && b) = true) : a = true ∧ b = true := Bool.and_eq_true_iff.mp h
theorem OutG.obj {L : Lk} {K : PySem.W.Frag} {W : WX} {σ : L2.St} {m : Nat → Addr} {H : Hp} {S : Sto} {us : List U} {xs : List V} {p : Addr} {Q : VK} (h : OutG L K W σ m H S relV (.ok (.obj S.n) (S.alloc (.lst us))) Q) (s : SRel L K m H S) (r : VRs m H S.n us xs) (hp : H p = none) : Q (.ref p) (upd H p (.lst xs)) := by
  have e := ext_alloc (m := m) (k := S.n) (ho := .lst xs) hp
  have s' : SRel L K (mput m S.n p) (upd H p (.lst xs)) (S.alloc (.lst us)) := s.alloc rfl hp ⟨xs, upd_same, r.mono e⟩
  exact h _ _ _ e s' ⟨Nat.lt_succ_self _, by rw [mput_same]⟩
theorem OutG.tup {L : Lk} {K : PySem.W.Frag} {W : WX} {σ : L2.St} {m : Nat → Addr} {H : Hp} {S : Sto} {us : List U} {xs : List V} {p : Addr} {Q : VK} (h : OutG L K W σ m H S relV (.ok (.tup us) S) Q) (s : SRel L K m H S) (r : VRs m H S.n us xs) (hp : H p = none) : Q (.ref p) (upd H p (.tup xs)) := by
  have e := ext_new (m := m) (k := S.n) (ho := .tup xs) hp
  exact h m _ _ e (s.new hp) (VR.tup upd_same (r.mono e))
theorem VRs.rep {m : Nat → Addr} {H : Hp} {k : Nat} {us : List U} {xs : List V} (h : VRs m H k us xs) : ∀ n : Nat, VRs m H k (List.replicate n us).flatten (List.replicate n xs).flatten
  | 0 => VRs.nil
  | n + 1 => by
    rw [List.replicate_succ, List.replicate_succ, List.flatten_cons, List.flatten_cons]
    exact h.append (VRs.rep h n)
theorem SRel.lst {K : PySem.W.Frag} {m : Nat → Addr} {H : Hp} {S : Sto} {n : Nat} {us : List U} (s : SRel L K m H S) (h : S.get n = some (.lst us)) : ∃ xs, H (m n) = some (.lst xs) ∧ VRs m H S.n us xs := s.obj n _ h
theorem z_bop (o : BOp) : OpR X (binaryOp (opOf o)) (rB L X.K W fun S u v => bop S o u v) := by
  intro pins s σ H x y v u Q I rx ry h
  obtain ⟨σ', m, S, p, q, sr, r1, r2, out⟩ := h
  have bad : ∀ {P : Prop}, OutG L X.K W σ' m H S relV (.bad : R U) Q → P := fun z => z.elim
  cases p with
  | int i =>
    cases q with
    | int j =>
      have e1 : x = .int i := r1
      have e2 : y = .int j := r2
      subst e1 e2
      have fin : ∀ {z : Int}, OutG L X.K W σ' m H S relV (.ok (.int z) S) Q → Q (.int z) H := fun z => z.here sr VR.int
      cases o with
      | add => exact op_add pins s σ H _ _ v u Q I rx ry ⟨i, j, rfl, rfl, fin out⟩
      | sub => exact op_sub pins s σ H _ _ v u Q I rx ry ⟨i, j, rfl, rfl, fin out⟩
      | mul =>
        obtain ⟨h1, out⟩ := cond_ok out
        refine op_mul pins s σ H _ _ v u Q I rx ry ⟨i, j, rfl, rfl, ?_, fin out⟩
        rcases Bool.or_eq_true_iff.mp h1 with h1 | h1
        · exact .inl (small_ok h1)
        · exact .inr (small_ok h1)
      | fdiv =>
        obtain ⟨h1, out⟩ := cond_ok out
        obtain ⟨h1, h2⟩ := decs h1
        exact op_fdiv pins s σ H _ _ v u Q I rx ry ⟨i, j, rfl, rfl, ⟨of_decide_eq_true h1, of_decide_eq_true h2⟩, fin out⟩
      | mod =>
        obtain ⟨h1, out⟩ := cond_ok out
        exact op_mod pins s σ H _ _ v u Q I rx ry ⟨i, j, rfl, rfl, of_decide_eq_true h1, fin out⟩
      | pow =>
        obtain ⟨h1, out⟩ := cond_ok out
        obtain ⟨h1, h3⟩ := decs h1
        obtain ⟨h1, h2⟩ := decs h1
        exact op_pow pins s σ H _ _ v u Q I rx ry ⟨i, j, rfl, rfl, ⟨of_decide_eq_true h1, of_decide_eq_true h2, of_decide_eq_true h3⟩, fin out⟩
      | shl =>
        obtain ⟨h1, out⟩ := cond_ok out
        obtain ⟨h1, h3⟩ := decs h1
        obtain ⟨h1, h2⟩ := decs h1
        exact op_shl pins s σ H _ _ v u Q I rx ry ⟨i, j, rfl, rfl, ⟨of_decide_eq_true h1, of_decide_eq_true h2, of_decide_eq_true h3⟩, fin out⟩
      | shr =>
        obtain ⟨h1, out⟩ := cond_ok out
        exact op_shr pins s σ H _ _ v u Q I rx ry ⟨i, j, rfl, rfl, of_decide_eq_true h1, fin out⟩
      | band => exact op_and pins s σ H _ _ v u Q I rx ry ⟨i, j, rfl, rfl, fin out⟩
      | bor => exact op_or pins s σ H _ _ v u Q I rx ry ⟨i, j, rfl, rfl, fin out⟩
    | _ => cases o <;> exact bad out
  | str i =>
    cases q with
    | str j =>
      have e1 : x = .str i := r1
      have e2 : y = .str j := r2
      subst e1 e2
      cases o with
      | add =>
        obtain ⟨h1, out⟩ := cond_ok out
        exact op_add_str pins s σ H _ _ v u Q I rx ry ⟨i, j, rfl, rfl, of_decide_eq_true h1, out.here sr rfl⟩
      | _ => exact bad out
    | _ => cases o <;> exact bad out
  | tup i =>
    cases q with
    | tup j =>
      cases o with
      | add =>
        obtain ⟨a, xs, rfl, ha, q1⟩ := r1.of_tup
        obtain ⟨b, ys, rfl, hb, q2⟩ := r2.of_tup
        obtain ⟨h1, out⟩ := cond_ok out
        obtain ⟨h1, h2⟩ := decs h1
        have h1 := of_decide_eq_true h1
        refine op_catT pins s σ H _ _ v u Q I rx ry ⟨a, b, xs, ys, rfl, rfl, SqT.of ha, SqT.of hb, ?_, ?_, fun e => ?_, fun e p hp => ?_⟩
        · rintro rfl
          have := q1.length
          cases i with
          | nil => simp at h2
          | cons _ _ => simp at this
        · rw [q1.length, q2.length]; exact h1
        · subst e
          have : j = [] := by
            have := q2.length
            cases j with
            | nil => rfl
            | cons _ _ => simp at this
          subst this
          refine out m H _ Ext.refl sr ?_
          rw [List.append_nil]
          exact VR.tup ha q1
        · exact out.tup sr (q1.append q2) hp
      | _ => exact bad out
    | _ => cases o <;> exact bad out
  | obj i =>
    cases q with
    | obj j =>
      cases o with
      | add =>
        obtain ⟨h1, rfl⟩ := r1
        obtain ⟨h2, rfl⟩ := r2
        have out' : OutG L X.K W σ' m H S relV (match S.get i, S.get j with
          | some (.lst x), some (.lst y) => bif decide (x.length + y.length ≤ sizeLine) then .ok (.obj S.n) (S.alloc (.lst (x ++ y))) else .bad
          | _, _ => .bad) Q := out
        cases e1 : S.get i with
        | none => rw [e1] at out'; exact bad out'
        | some oi =>
          cases e2 : S.get j with
          | none => rw [e1, e2] at out'; cases oi <;> exact bad out'
          | some oj =>
            rw [e1, e2] at out'
            cases oi with
            | lst is =>
              cases oj with
              | lst js =>
                obtain ⟨h3, out'⟩ := cond_ok out'
                have h3 := of_decide_eq_true h3
                obtain ⟨xs, g1, q1⟩ := sr.lst e1
                obtain ⟨ys, g2, q2⟩ := sr.lst e2
                exact op_cat pins s σ H _ _ v u Q I rx ry ⟨_, _, xs, ys, rfl, rfl, g1, g2, by rw [q1.length, q2.length]; exact h3, fun p hp => out'.obj sr (q1.append q2) hp⟩
              | _ => exact bad out'
            | _ => exact bad out'
      | _ => exact bad out
    | int k =>
      cases o with
      | mul =>
        obtain ⟨h1, rfl⟩ := r1
        have e2 : y = .int k := r2
        subst e2
        have out' : OutG L X.K W σ' m H S relV (match S.get i with
          | some (.lst x) => bif decide (-(2 ^ 63) ≤ k) && decide (k < 2 ^ 63) && decide (x.length * k.toNat ≤ sizeLine) then .ok (.obj S.n) (S.alloc (.lst (List.replicate k.toNat x).flatten)) else .bad
          | _ => .bad) Q := out
        cases e1 : S.get i with
        | none => rw [e1] at out'; exact bad out'
        | some oi =>
          rw [e1] at out'
          cases oi with
          | lst is =>
            obtain ⟨h3, out'⟩ := cond_ok out'
            obtain ⟨h3, h5⟩ := decs h3
            obtain ⟨h3, h4⟩ := decs h3
            have h3 := of_decide_eq_true h3
            have h4 := of_decide_eq_true h4
            have h5 := of_decide_eq_true h5
            obtain ⟨xs, g1, q1⟩ := sr.lst e1
            exact op_rep pins s σ H _ _ v u Q I rx ry ⟨_, _, xs, rfl, rfl, g1, h3, h4, by rw [q1.length]; exact h5, fun p hp => out'.obj sr (q1.rep _) hp⟩
          | _ => exact bad out'
      | _ => exact bad out
    | _ => cases o <;> exact bad out
  | non => cases o <;> exact bad out
  | bl b => cases o <;> exact bad out
theorem z_bin (o : BOp) (ha : PE X a (tE L X.K W ra)) (hb : PE X b (tE L X.K W rb)) :
    PE X (.BinOp a (opOf o) b pos) (tE L X.K W fun ρ S => (ra ρ S).bind fun u S1 => (rb ρ S1).bind fun v S2 => bop S2 o u v) := by
  refine PE.weaken (pe_op (z_bop (W := W) (L := L) o) ha hb) fun σ H Q h => ?_
  obtain ⟨m, S, ρ, sr, er, out⟩ := h
  refine ⟨m, S, ρ, sr, er, out.bind.imp fun x H1 ⟨m1, S1, u, e1, s1, v1, out1⟩ => ?_⟩
  refine ⟨m1, S1, ρ, s1, er.mono e1, out1.bind.imp fun y H2 ⟨m2, S2, v, e2, s2, v2, out2⟩ => ?_⟩
  exact ⟨σ, m2, S2, u, v, s2, v1.mono e2, v2, out2⟩
theorem z_neg (ha : PE X a (tE L X.K W ra)) : PE X (.UnaryOp .USub a pos) (tE L X.K W fun ρ S => (ra ρ S).bind fun u S1 => match u with
    | .int i => .ok (.int (-i)) S1
    | _ => .bad) := by
  refine PE.weaken (pe_un un_neg ha) fun σ H Q h => ?_
  obtain ⟨m, S, ρ, sr, er, out⟩ := h
  refine ⟨m, S, ρ, sr, er, out.bind.imp fun x H1 ⟨m1, S1, u, e1, s1, v1, out1⟩ => ?_⟩
  cases u with
  | int i => exact ⟨i, v1, out1.here s1 VR.int⟩
  | _ => exact out1.elim
end
end Z

/-! ## ZExpr2 -/
set_option Elab.async false
set_option linter.all false
set_option maxRecDepth 100000
/-! Z: comparisons, truth, displays. -/
namespace Z
open PySem Spec L2 PyProof.Rows

section
variable {L : Lk} {K : PySem.W.Frag} {m : Nat → Addr} {H : Hp} {S : Sto}
theorem roL {a : Addr} {xs : List V} (h : (∃ ob, H a = some (.frz ob (.lst xs))) ∨ SqL K (fun _ => none) a xs) : SqL K H a xs := by
  rcases h with ⟨ob, h⟩ | h
  · exact .inl (.inr ⟨ob, h⟩)
  · rcases h with (h | ⟨o, h⟩) | h
    · cases h
    · cases h
    · exact .inr h
/-- a row of the store lies as a list or a tuple -/
theorem SRel.row (s : SRel L K m H S) {u : U} {l : List U} {x : V} (h : rowU S u = some l) (r : VR m H S.n u x) : ∃ a xs, x = .ref a ∧ (SqL K H a xs ∨ SqT K H a xs) ∧ VRs m H S.n l xs := by
  cases u with
  | tup l' =>
    obtain rfl : l' = l := Option.some.inj h
    obtain ⟨a, xs, rfl, ha, q⟩ := r.of_tup
    exact ⟨a, xs, rfl, .inr (SqT.of ha), q⟩
  | obj k =>
    obtain ⟨_, rfl⟩ := r
    have h' : (match S.get k with
      | some (.lst l) => some l
      | some (.ro l) => some l
      | _ => none) = some l := h
    cases e : S.get k with
    | none => rw [e] at h'; cases h'
    | some o =>
      rw [e] at h'
      cases o with
      | lst l' =>
        obtain rfl : l' = l := Option.some.inj h'
        obtain ⟨xs, h1, q⟩ := s.obj k _ e
        exact ⟨_, xs, rfl, .inl (SqL.of h1), q⟩
      | ro l' =>
        obtain rfl : l' = l := Option.some.inj h'
        obtain ⟨xs, h1, q⟩ := s.obj k _ e
        exact ⟨_, xs, rfl, .inl (roL h1), q⟩
      | _ => cases h'
  | _ => cases h
theorem VRs.empty {k : Nat} {us : List U} {xs : List V} (h : VRs m H k us xs) : (!us.isEmpty) = !xs.isEmpty := by
  have := h.length
  cases us <;> cases xs <;> first | rfl | simp at this
/-- truth -/
theorem SRel.tru (s : SRel L K m H S) {u : U} {b : Bool} {x : V} (h : tru S u = some b) (r : VR m H S.n u x) : TruV K x H b := by
  cases u with
  | non =>
    obtain rfl : x = .non := r
    exact (Option.some.inj h).symm
  | bl c =>
    obtain rfl : x = .bl c := r
    exact (Option.some.inj h).symm
  | int i =>
    obtain rfl : x = .int i := r
    exact (Option.some.inj h).symm
  | str z =>
    obtain rfl : x = .str z := r
    have h' : (bif decide (z.length ≤ sizeLine) then some ((z.length : Int) != 0) else none) = some b := h
    cases e : decide (z.length ≤ sizeLine) with
    | false => rw [e] at h'; cases h'
    | true =>
      rw [e] at h'
      exact ⟨of_decide_eq_true e, (Option.some.inj h').symm⟩
  | tup l =>
    obtain ⟨a, xs, rfl, q1, q2⟩ := s.row (l := l) rfl r
    have e : (!l.isEmpty) = b := Option.some.inj h
    rw [q2.empty] at e
    rcases q1 with q1 | q1
    · exact .inl ⟨xs, q1, e.symm⟩
    · exact .inr (.inl ⟨xs, q1, e.symm⟩)
  | obj k =>
    have h' : (match S.get k with
      | some (.lst l) => some (!l.isEmpty)
      | some (.ro l) => some (!l.isEmpty)
      | some (.dict l) => some (!l.isEmpty)
      | _ => none) = some b := h
    cases e : S.get k with
    | none => rw [e] at h'; cases h'
    | some o =>
      rw [e] at h'
      have fin : ∀ l : List U, rowU S (.obj k) = some l → (!l.isEmpty) = b → TruV K x H b := fun l hl e2 => by
        obtain ⟨a, xs, rfl, q1, q2⟩ := s.row hl r
        rw [q2.empty] at e2
        rcases q1 with q1 | q1
        · exact .inl ⟨xs, q1, e2.symm⟩
        · exact .inr (.inl ⟨xs, q1, e2.symm⟩)
      cases o with
      | lst l => exact fin l (by show (match S.get k with | some (.lst l) => some l | some (.ro l) => some l | _ => none) = _; rw [e]) (Option.some.inj h')
      | ro l => exact fin l (by show (match S.get k with | some (.lst l) => some l | some (.ro l) => some l | _ => none) = _; rw [e]) (Option.some.inj h')
      | dict l => exact (s.obj k _ e).elim
      | ins c fs => cases h'

/-! ### data -/
theorem mapO_cons {α β : Type} {f : α → Option β} {a : α} {as : List α} {bs : List β} (h : mapO f (a :: as) = some bs) : ∃ b cs, f a = some b ∧ mapO f as = some cs ∧ bs = b :: cs := by
  have h' : (match f a with
    | some b => (mapO f as).map (b :: ·)
    | none => none) = some bs := h
  cases e : f a with
  | none => rw [e] at h'; cases h'
  | some b =>
    rw [e] at h'
    cases e2 : mapO f as with
    | none => rw [e2] at h'; cases h'
    | some cs =>
      rw [e2] at h'
      exact ⟨b, cs, rfl, rfl, (Option.some.inj h').symm⟩
def Dat (K : PySem.W.Frag) (H : Hp) (n : Nat) (x : V) (d : PyData) : Prop := Dp K H x d ∧ d.canLay0 = true ∧ d.depth ≤ n
theorem dat_all {n : Nat} (f : U → Option PyData) (hf : ∀ u d x, f u = some d → VR m H S.n u x → Dat K H n x d) : ∀ (l : List U) (ds : List PyData) (xs : List V), mapO f l = some ds → VRs m H S.n l xs →
    DpAll K H xs ds ∧ PyData.canLayAll0 ds = true ∧ PyData.depthAll ds ≤ n
  | [], ds, xs, h, r => by
    obtain rfl : [] = ds := Option.some.inj h
    obtain rfl : xs = [] := r
    exact ⟨.nil, rfl, Nat.zero_le _⟩
  | u :: l, ds, xs, h, r => by
    obtain ⟨d, cs, h1, h2, rfl⟩ := mapO_cons h
    obtain ⟨y, ys, rfl, q, t⟩ := r.of_cons
    obtain ⟨a1, a2, a3⟩ := hf u d y h1 q
    obtain ⟨b1, b2, b3⟩ := dat_all f hf l cs ys h2 t
    refine ⟨.cons a1 b1, ?_, ?_⟩
    · show (PyData.canLay0 d && PyData.canLayAll0 cs) = true
      rw [a2, b2]; rfl
    · show max d.depth (PyData.depthAll cs) ≤ n
      omega
theorem SRel.dat (s : SRel L K m H S) : ∀ (n : Nat) (u : U) (d : PyData) (x : V), toD S n u = some d → VR m H S.n u x → Dat K H n x d
  | n, .non, d, x, h, r => by
    obtain rfl : x = .non := r
    have h' : some PyData.none = some d := by cases n <;> exact h
    cases h'
    exact ⟨.non, rfl, Nat.zero_le _⟩
  | n, .bl b, d, x, h, r => by
    obtain rfl : x = .bl b := r
    have h' : some (PyData.bool b) = some d := by cases n <;> exact h
    cases h'
    exact ⟨.bl b, rfl, Nat.zero_le _⟩
  | n, .int i, d, x, h, r => by
    obtain rfl : x = .int i := r
    have h' : some (PyData.int i) = some d := by cases n <;> exact h
    cases h'
    exact ⟨.int i, rfl, Nat.zero_le _⟩
  | n, .str z, d, x, h, r => by
    obtain rfl : x = .str z := r
    have h' : (bif PyData.canLay0 (.str z) then some (PyData.str z) else none) = some d := by cases n <;> exact h
    cases e : PyData.canLay0 (.str z) with
    | false => rw [e] at h'; cases h'
    | true =>
      rw [e] at h'
      cases h'
      exact ⟨.str z, e, Nat.zero_le _⟩
  | 0, .tup l, d, x, h, r => by cases h
  | 0, .obj k, d, x, h, r => by cases h
  | n + 1, .tup l, d, x, h, r => by
    have h' : (mapO (toD S n) l).map PyData.tuple = some d := h
    cases e : mapO (toD S n) l with
    | none => rw [e] at h'; cases h'
    | some ds =>
      rw [e] at h'
      cases h'
      obtain ⟨a, xs, rfl, ha, q⟩ := r.of_tup
      obtain ⟨b1, b2, b3⟩ := dat_all (toD S n) (fun u d x => SRel.dat s n u d x) l ds xs e q
      exact ⟨.tup (SqT.of ha) b1, b2, Nat.succ_le_succ b3⟩
  | n + 1, .obj k, d, x, h, r => by
    have h' : (match S.get k with
      | some (.lst l) => (mapO (toD S n) l).map PyData.list
      | _ => none) = some d := h
    cases e0 : S.get k with
    | none => rw [e0] at h'; cases h'
    | some o =>
      rw [e0] at h'
      cases o with
      | lst l =>
        cases e : mapO (toD S n) l with
        | none =>
          have h2 : (mapO (toD S n) l).map PyData.list = some d := h'
          rw [e] at h2; cases h2
        | some ds =>
          have h2 : (mapO (toD S n) l).map PyData.list = some d := h'
          rw [e] at h2
          cases h2
          obtain ⟨_, rfl⟩ := r
          obtain ⟨xs, h1, q⟩ := s.obj k _ e0
          obtain ⟨b1, b2, b3⟩ := dat_all (toD S n) (fun u d x => SRel.dat s n u d x) l ds xs e q
          exact ⟨.lst (SqL.of h1) b1, b2, Nat.succ_le_succ b3⟩
      | _ => cases h'
theorem SRel.eq (s : SRel L K m H S) {u v : U} {x y : V} {b : Bool} (h : ceq S u v = some b) (r1 : VR m H S.n u x) (r2 : VR m H S.n v y) :
    ∃ d e, Dp K H x d ∧ Dp K H y e ∧ SeqAt.shaped d = true ∧ SeqAt.shaped e = true ∧ PyData.eqv d e = b := by
  have h' : (match toD S 40 u, toD S 40 v with
    | some d, some e => some (PyData.eqv d e)
    | _, _ => none) = some b := h
  cases e1 : toD S 40 u with
  | none => rw [e1] at h'; cases h'
  | some d =>
    cases e2 : toD S 40 v with
    | none => rw [e1, e2] at h'; cases h'
    | some e =>
      rw [e1, e2] at h'
      obtain ⟨a1, a2, a3⟩ := s.dat 40 u d x e1 r1
      obtain ⟨b1, b2, b3⟩ := s.dat 40 v e y e2 r2
      refine ⟨d, e, a1, b1, ?_, ?_, Option.some.inj h'⟩
      · show (d.canLay0 && decide (d.depth ≤ 64)) = true
        rw [a2, decide_eq_true (Nat.le_trans a3 (by decide))]; rfl
      · show (e.canLay0 && decide (e.depth ≤ 64)) = true
        rw [b2, decide_eq_true (Nat.le_trans b3 (by decide))]; rfl

/-! ### in a row -/
theorem flat_V {k : Nat} {u : U} {x : V} (h : u.flat = true) (r : VR m H k u x) : flatV x = true := by
  cases u with
  | non => obtain rfl : x = .non := r; rfl
  | bl b => obtain rfl : x = .bl b := r; rfl
  | int i => obtain rfl : x = .int i := r; rfl
  | str z => obtain rfl : x = .str z := r; rfl
  | _ => cases h
theorem keq_V {k : Nat} {u v : U} {x y : V} (hu : u.flat = true) (hv : v.flat = true) (r : VR m H k u x) (q : VR m H k v y) : eqV y x = keq u v := by
  have hint : ∀ a b : Int, (a == b) = (b == a) := fun a b => by
    by_cases e : a = b
    · rw [e]
    · rw [beq_eq_false_iff_ne.mpr e, beq_eq_false_iff_ne.mpr (Ne.symm e)]
  have hbl : ∀ a b : Bool, (a == b) = (b == a) := fun a b => by cases a <;> cases b <;> rfl
  have hstr : ∀ a b : Str, (a == b) = (b == a) := fun a b => by
    by_cases e : a = b
    · rw [e]
    · rw [beq_eq_false_iff_ne.mpr e, beq_eq_false_iff_ne.mpr (Ne.symm e)]
  cases u with
  | non =>
    obtain rfl : x = .non := r
    cases v with
    | non => obtain rfl : y = .non := q; rfl
    | bl b => obtain rfl : y = .bl b := q; rfl
    | int i => obtain rfl : y = .int i := q; rfl
    | str z => obtain rfl : y = .str z := q; rfl
    | _ => cases hv
  | bl b =>
    obtain rfl : x = .bl b := r
    cases v with
    | non => obtain rfl : y = .non := q; rfl
    | bl c => obtain rfl : y = .bl c := q; exact hbl c b
    | int i => obtain rfl : y = .int i := q; exact hint _ _
    | str z => obtain rfl : y = .str z := q; rfl
    | _ => cases hv
  | int j =>
    obtain rfl : x = .int j := r
    cases v with
    | non => obtain rfl : y = .non := q; rfl
    | bl c => obtain rfl : y = .bl c := q; exact hint _ _
    | int i => obtain rfl : y = .int i := q; exact hint _ _
    | str z => obtain rfl : y = .str z := q; rfl
    | _ => cases hv
  | str w =>
    obtain rfl : x = .str w := r
    cases v with
    | non => obtain rfl : y = .non := q; rfl
    | bl c => obtain rfl : y = .bl c := q; rfl
    | int i => obtain rfl : y = .int i := q; rfl
    | str z => obtain rfl : y = .str z := q; exact hstr _ _
    | _ => cases hv
  | _ => cases hu
theorem in_V {k : Nat} {u : U} {x : V} (hu : u.flat = true) (r : VR m H k u x) : ∀ {l : List U} {ys : List V}, l.all U.flat = true → VRs m H k l ys → ys.all flatV = true ∧ inV x ys = memU u l
  | [], ys, _, t => by
    obtain rfl : ys = [] := t
    exact ⟨rfl, rfl⟩
  | w :: l, _, h, t => by
    obtain ⟨y, zs, rfl, q, t'⟩ := t.of_cons
    obtain ⟨h1, h2⟩ := decs (show (w.flat && l.all U.flat) = true from h)
    obtain ⟨i1, i2⟩ := in_V hu r h2 t'
    refine ⟨by rw [List.all_cons, flat_V h1 q, i1]; rfl, ?_⟩
    have i3 : zs.any (fun y => eqV y x) = memU u l := i2
    show (y :: zs).any (fun y => eqV y x) = (keq u w || memU u l)
    rw [List.any_cons, keq_V hu h1 r q, i3]
theorem SRel.isin (s : SRel L K m H S) {u v : U} {x y : V} {b : Bool} (h : cin S u v = some b) (r1 : VR m H S.n u x) (r2 : VR m H S.n v y) :
    ∃ p xs, y = .ref p ∧ (SqL K H p xs ∨ SqT K H p xs) ∧ flatV x = true ∧ xs.all flatV = true ∧ inV x xs = b := by
  have fin : ∀ l : List U, rowU S v = some l → (bif u.flat && l.all U.flat then some (memU u l) else none) = some b → ∃ p xs, y = .ref p ∧ (SqL K H p xs ∨ SqT K H p xs) ∧ flatV x = true ∧ xs.all flatV = true ∧ inV x xs = b := fun l hl e => by
    cases c : (u.flat && l.all U.flat) with
    | false => rw [c] at e; cases e
    | true =>
      rw [c] at e
      obtain ⟨h1, h2⟩ := decs c
      obtain ⟨a, xs, rfl, q1, q2⟩ := s.row hl r2
      obtain ⟨i1, i2⟩ := in_V h1 r1 h2 q2
      exact ⟨a, xs, rfl, q1, flat_V h1 r1, i1, i2.trans (Option.some.inj e)⟩
  cases v with
  | tup l => exact fin l rfl h
  | obj k =>
    have h' : (match S.get k with
      | some (.lst l) => bif u.flat && l.all U.flat then some (memU u l) else none
      | some (.ro l) => bif u.flat && l.all U.flat then some (memU u l) else none
      | _ => none) = some b := h
    cases e : S.get k with
    | none => rw [e] at h'; cases h'
    | some o =>
      rw [e] at h'
      cases o with
      | lst l => exact fin l (by show (match S.get k with | some (.lst l) => some l | some (.ro l) => some l | _ => none) = _; rw [e]) h'
      | ro l => exact fin l (by show (match S.get k with | some (.lst l) => some l | some (.ro l) => some l | _ => none) = _; rw [e]) h'
      | _ => cases h'
  | _ => cases h
end

section
variable {X : Cx} {L : Lk} {W : WX} {a b c : Expr} {pos : Pos} {ra rb rc : Ev → Sto → R U}
def cmpOf : COp → CmpOp
  | .eq => .Eq | .ne => .NotEq | .lt => .Lt | .le => .LtE | .gt => .Gt | .ge => .GtE | .isN => .Is | .notN => .IsNot | .isin => .In | .notin => .NotIn
def rC (L : Lk) (K : PySem.W.Frag) (o : COp) : R2 := fun x y H Q => ∃ m S u v k, SRel L K m H S ∧ VR m H S.n u x ∧ VR m H S.n v y ∧ cop S o u v = some k ∧ Q (.bl k) H
theorem isN_of {m : Nat → Addr} {H : Hp} {k : Nat} {u : U} {x : V} (r : VR m H k u x) : decide (x = .non) = u.isNon := by
  cases u with
  | non => obtain rfl : x = .non := r; rfl
  | bl b => obtain rfl : x = .bl b := r; rfl
  | int i => obtain rfl : x = .int i := r; rfl
  | str z => obtain rfl : x = .str z := r; rfl
  | tup l => obtain ⟨a, xs, rfl, _, _⟩ := r.of_tup; rfl
  | obj n => obtain ⟨_, rfl⟩ := r; rfl
theorem z_cop (o : COp) (hu : X.A.units + 64 < cLine) : OpR X (compareOp (cmpOf o)) (rC L X.K o) := by
  intro pins s σ H x y v u Q I rx ry h
  obtain ⟨m, S, p, q, k, sr, r1, r2, e, hq⟩ := h
  cases o with
  | eq =>
    obtain ⟨d, e', h1, h2, h3, h4, h5⟩ := sr.eq e r1 r2
    exact op_eqD hu pins s σ H x y v u Q I rx ry ⟨d, e', h1, h2, h3, h4, by rw [h5]; exact hq⟩
  | ne =>
    have e2 : (ceq S p q).map (!·) = some k := e
    cases e3 : ceq S p q with
    | none => rw [e3] at e2; cases e2
    | some b =>
      rw [e3] at e2
      obtain ⟨d, e', h1, h2, h3, h4, h5⟩ := sr.eq e3 r1 r2
      exact op_neD hu pins s σ H x y v u Q I rx ry ⟨d, e', h1, h2, h3, h4, by rw [h5, show (!b) = k from Option.some.inj e2]; exact hq⟩
  | isin =>
    obtain ⟨p', xs, h1, h2, h3, h4, h5⟩ := sr.isin e r1 r2
    exact op_in_seq pins s σ H x y v u Q I rx ry ⟨p', xs, h1, h2, h3, h4, by show Q (.bl (inV x xs)) H; rw [h5]; exact hq⟩
  | notin =>
    have e2 : (cin S p q).map (!·) = some k := e
    cases e3 : cin S p q with
    | none => rw [e3] at e2; cases e2
    | some b =>
      rw [e3] at e2
      obtain ⟨p', xs, h1, h2, h3, h4, h5⟩ := sr.isin e3 r1 r2
      exact op_notIn_seq pins s σ H x y v u Q I rx ry ⟨p', xs, h1, h2, h3, h4, by show Q (.bl (!inV x xs)) H; rw [h5, show (!b) = k from Option.some.inj e2]; exact hq⟩
  | isN =>
    cases q with
    | non =>
      have e2 : y = .non := r2
      refine op_isN pins s σ H x y v u Q I rx ry ⟨e2, ?_⟩
      rw [isN_of r1, show p.isNon = k from Option.some.inj e]; exact hq
    | _ => cases e
  | notN =>
    cases q with
    | non =>
      have e2 : y = .non := r2
      refine op_notN pins s σ H x y v u Q I rx ry ⟨e2, ?_⟩
      rw [isN_of r1, show (!p.isNon) = k from Option.some.inj e]; exact hq
    | _ => cases e
  | _ =>
    cases p with
    | int i =>
      cases q with
      | int j =>
        have e1 : x = .int i := r1
        have e2 : y = .int j := r2
        have e3 := Option.some.inj e
        subst e1 e2
        rw [← e3] at hq
        first
          | exact op_lt pins s σ H _ _ v u Q I rx ry ⟨i, j, rfl, rfl, hq⟩
          | exact op_le pins s σ H _ _ v u Q I rx ry ⟨i, j, rfl, rfl, hq⟩
          | exact op_gt pins s σ H _ _ v u Q I rx ry ⟨i, j, rfl, rfl, hq⟩
          | exact op_ge pins s σ H _ _ v u Q I rx ry ⟨i, j, rfl, rfl, hq⟩
      | _ => cases e
    | _ => cases e
theorem marks_of (o : COp) {b : Expr} (h : notSet b = true) : behindInMarks (cmpOf o) b = false := by
  cases b <;> first | rfl | cases h
theorem z_cmp_step {o : COp} {σ : L2.St} {H : Hp} {Q : VK} (h : tE L X.K W (fun ρ S => (ra ρ S).bind fun u S1 => (rb ρ S1).bind fun v S2 => (R.ofO S2 (cop S2 o u v)).bind fun k S3 => .ok (.bl k) S3) σ H Q) :
    tOp (rC L X.K o) (tE L X.K W ra) (tE L X.K W rb) σ H Q := by
  obtain ⟨m, S, ρ, sr, er, out⟩ := h
  refine ⟨m, S, ρ, sr, er, out.bind.imp fun x H1 ⟨m1, S1, u, e1, s1, v1, out1⟩ => ?_⟩
  refine ⟨m1, S1, ρ, s1, er.mono e1, out1.bind.imp fun y H2 ⟨m2, S2, v, e2, s2, v2, out2⟩ => ?_⟩
  obtain ⟨k, hk, out3⟩ := out2.ofO
  exact ⟨m2, S2, u, v, k, s2, v1.mono e2, v2, hk, out3.here s2 VR.bl⟩
theorem z_cmp (o : COp) (hu : X.A.units + 64 < cLine) (hs : notSet b = true) (ha : PE X a (tE L X.K W ra)) (hb : PE X b (tE L X.K W rb)) :
    PE X (.Compare a [cmpOf o] [b] pos) (tE L X.K W fun ρ S => (ra ρ S).bind fun u S1 => (rb ρ S1).bind fun v S2 => (R.ofO S2 (cop S2 o u v)).bind fun k S3 => .ok (.bl k) S3) :=
  PE.weaken (pe_cmpR (z_cop o hu) ha hb (marks_of o hs)) fun _ _ _ h => z_cmp_step h
/-- a test's reading, from its value's -/
def tB (S : Sto) (u : U) : R Bool := R.ofO S (tru S u)
theorem OutG.test {K : PySem.W.Frag} {σ : L2.St} {m : Nat → Addr} {H : Hp} {S : Sto} {r : R U} {Q : Bool → Hp → Prop} (h : OutG L K W σ m H S relB (r.bind fun u S1 => R.ofO S1 (tru S1 u)) Q) :
    OutG L K W σ m H S relV r fun x H1 => ∃ k, TruV K x H1 k ∧ Q k H1 :=
  h.bind.imp fun x H1 ⟨m1, S1, u, e1, s1, v1, out1⟩ => by
    obtain ⟨k, hk, out2⟩ := out1.ofO1
    exact ⟨k, s1.tru hk v1, out2.here s1 rfl⟩
theorem bind_assoc {α β γ : Type} (r : R α) (f : α → Sto → R β) (g : β → Sto → R γ) : (r.bind f).bind g = r.bind fun a S => (f a S).bind g := by
  cases r <;> rfl
theorem z_ptcmp (o : COp) (hu : X.A.units + 64 < cLine) (hs : notSet b = true) (ha : PE X a (tE L X.K W ra)) (hb : PE X b (tE L X.K W rb)) :
    PT X (.Compare a [cmpOf o] [b] pos) (tT L X.K W fun ρ S => ((ra ρ S).bind fun u S1 => (rb ρ S1).bind fun v S2 => (R.ofO S2 (cop S2 o u v)).bind fun k S3 => .ok (.bl k) S3).bind fun u S1 => R.ofO S1 (tru S1 u)) :=
  PT.weaken (pt_cmpR (z_cop o hu) ha hb (marks_of o hs)) fun σ H Q ⟨m, S, ρ, sr, er, out⟩ => by
    simp only [bind_assoc, R.bind_ok] at out
    refine ⟨m, S, ρ, sr, er, out.bind.imp fun x H1 ⟨m1, S1, u, e1, s1, v1, out1⟩ => ?_⟩
    refine ⟨m1, S1, ρ, s1, er.mono e1, out1.bind.imp fun y H2 ⟨m2, S2, v, e2, s2, v2, out2⟩ => ?_⟩
    obtain ⟨k, hk, out3⟩ := out2.ofO
    exact ⟨m2, S2, u, v, k, s2, v1.mono e2, v2, hk, k, rfl, OutG.here (a := k) (rel := relB) out3 s2 rfl⟩
end
end Z

/-! ## ZExpr3 -/
set_option Elab.async false
set_option linter.all false
set_option maxRecDepth 100000
/-! Z: chains, and, or, not, displays, subscripts, slices, built-ins, calls. -/
namespace Z
open PySem Spec L2 PyProof.Rows

section
variable {X : Cx} {L : Lk} {W : WX} {a b c : Expr} {pos : Pos} {ra rb rc : Ev → Sto → R U}
theorem z_chain_step {o p : COp} {σ : L2.St} {H : Hp} {Q : VK} (h : tE L X.K W (fun ρ S => (ra ρ S).bind fun u S1 => (rb ρ S1).bind fun v S2 => (R.ofO S2 (cop S2 o u v)).bind fun k S3 => match k with
    | false => .ok (.bl false) S3
    | true => (rc ρ S3).bind fun w S4 => (R.ofO S4 (cop S4 p v w)).bind fun k S5 => .ok (.bl k) S5) σ H Q) :
    tChain (rC L X.K o) (rC L X.K p) (tE L X.K W ra) (tE L X.K W rb) (tE L X.K W rc) σ H Q := by
  obtain ⟨m, S, ρ, sr, er, out⟩ := h
  refine ⟨m, S, ρ, sr, er, out.bind.imp fun x H1 ⟨m1, S1, u, e1, s1, v1, out1⟩ => ?_⟩
  refine ⟨m1, S1, ρ, s1, er.mono e1, out1.bind.imp fun y H2 ⟨m2, S2, v, e2, s2, v2, out2⟩ => ?_⟩
  obtain ⟨k, hk, out3⟩ := out2.ofO
  refine ⟨m2, S2, u, v, k, s2, v1.mono e2, v2, hk, k, rfl, ?_⟩
  cases k with
  | false => exact iteF (OutG.here (a := U.bl false) out3 s2 VR.bl)
  | true =>
    refine iteT ⟨m2, S2, ρ, s2, (er.mono e1).mono e2, (OutG.bind out3).imp fun z H3 ⟨m3, S3, w, e3, s3, v3, out4⟩ => ?_⟩
    obtain ⟨k, hk, out5⟩ := out4.ofO
    exact ⟨m3, S3, v, w, k, s3, v2.mono e3, v3, hk, out5.here s3 VR.bl⟩
theorem z_chain (o p : COp) (hu : X.A.units + 64 < cLine) (hs : notSet c = true) (ha : PE X a (tE L X.K W ra)) (hb : PE X b (tE L X.K W rb)) (hc : PE X c (tE L X.K W rc)) :
    PE X (.Compare a [cmpOf o, cmpOf p] [b, c] pos) (tE L X.K W fun ρ S => (ra ρ S).bind fun u S1 => (rb ρ S1).bind fun v S2 => (R.ofO S2 (cop S2 o u v)).bind fun k S3 => match k with
    | false => .ok (.bl false) S3
    | true => (rc ρ S3).bind fun w S4 => (R.ofO S4 (cop S4 p v w)).bind fun k S5 => .ok (.bl k) S5) :=
  PE.weaken (pe_chain (z_cop o hu) (z_cop p hu) ha hb hc (marks_of p hs)) fun _ _ _ h => z_chain_step h
theorem z_ptchain (o p : COp) (hu : X.A.units + 64 < cLine) (hs : notSet c = true) (ha : PE X a (tE L X.K W ra)) (hb : PE X b (tE L X.K W rb)) (hc : PE X c (tE L X.K W rc)) :
    PT X (.Compare a [cmpOf o, cmpOf p] [b, c] pos) (tT L X.K W fun ρ S => ((ra ρ S).bind fun u S1 => (rb ρ S1).bind fun v S2 => (R.ofO S2 (cop S2 o u v)).bind fun k S3 => match k with
    | false => .ok (.bl false) S3
    | true => (rc ρ S3).bind fun w S4 => (R.ofO S4 (cop S4 p v w)).bind fun k S5 => .ok (.bl k) S5).bind fun u S1 => R.ofO S1 (tru S1 u)) :=
  PT.weaken (pt_chain (z_cop o hu) (z_cop p hu) ha hb hc (marks_of p hs)) fun σ H Q ⟨m, S, ρ, sr, er, out⟩ => by
    simp only [bind_assoc] at out
    refine ⟨m, S, ρ, sr, er, out.bind.imp fun x H1 ⟨m1, S1, u, e1, s1, v1, out1⟩ => ?_⟩
    refine ⟨m1, S1, ρ, s1, er.mono e1, out1.bind.imp fun y H2 ⟨m2, S2, v, e2, s2, v2, out2⟩ => ?_⟩
    obtain ⟨k, hk, out3⟩ := out2.ofO
    refine ⟨m2, S2, u, v, k, s2, v1.mono e2, v2, hk, k, rfl, ?_⟩
    cases k with
    | false => exact iteF ⟨false, rfl, OutG.here (a := false) (rel := relB) out3 s2 rfl⟩
    | true =>
      have out3 : OutG L X.K W σ m2 H2 S2 relB (((rc ρ S2).bind fun w S4 => (R.ofO S4 (cop S4 p v w)).bind fun k S5 => .ok (.bl k) S5).bind fun u S1 => R.ofO S1 (tru S1 u)) Q := out3
      simp only [bind_assoc] at out3
      refine iteT ⟨m2, S2, ρ, s2, (er.mono e1).mono e2, out3.bind.imp fun z H3 ⟨m3, S3, w, e3, s3, v3, out4⟩ => ?_⟩
      obtain ⟨k, hk, out5⟩ := out4.ofO
      exact ⟨m3, S3, v, w, k, s3, v2.mono e3, v3, hk, k, rfl, OutG.here (a := k) (rel := relB) out5 s3 rfl⟩

/-! ### and, or, not -/
theorem z_and {rest : List Expr} (ha : PE X a (tE L X.K W ra)) (hb : PE X (.BoolOp .And (b :: rest) pos) (tE L X.K W rb)) :
    PE X (.BoolOp .And (a :: b :: rest) pos) (tE L X.K W fun ρ S => (ra ρ S).bind fun u S1 => (R.ofO S1 (tru S1 u)).bind fun k S2 => match k with
    | true => rb ρ S2
    | false => .ok u S2) := by
  refine PE.weaken (pe_andT ha hb) fun σ H Q ⟨m, S, ρ, sr, er, out⟩ => ?_
  refine ⟨m, S, ρ, sr, er, out.bind.imp fun x H1 ⟨m1, S1, u, e1, s1, v1, out1⟩ => ?_⟩
  obtain ⟨k, hk, out2⟩ := out1.ofO
  refine ⟨k, s1.tru hk v1, ?_⟩
  cases k with
  | true => exact iteT ⟨m1, S1, ρ, s1, er.mono e1, out2⟩
  | false => exact iteF (OutG.here (a := u) out2 s1 v1)
theorem z_or {rest : List Expr} (ha : PE X a (tE L X.K W ra)) (hb : PE X (.BoolOp .Or (b :: rest) pos) (tE L X.K W rb)) :
    PE X (.BoolOp .Or (a :: b :: rest) pos) (tE L X.K W fun ρ S => (ra ρ S).bind fun u S1 => (R.ofO S1 (tru S1 u)).bind fun k S2 => match k with
    | true => .ok u S2
    | false => rb ρ S2) := by
  refine PE.weaken (pe_orT ha hb) fun σ H Q ⟨m, S, ρ, sr, er, out⟩ => ?_
  refine ⟨m, S, ρ, sr, er, out.bind.imp fun x H1 ⟨m1, S1, u, e1, s1, v1, out1⟩ => ?_⟩
  obtain ⟨k, hk, out2⟩ := out1.ofO
  refine ⟨k, s1.tru hk v1, ?_⟩
  cases k with
  | true => exact iteT (OutG.here (a := u) out2 s1 v1)
  | false => exact iteF ⟨m1, S1, ρ, s1, er.mono e1, out2⟩
theorem z_not (ha : PE X a (tE L X.K W ra)) : PE X (.UnaryOp .Not a pos) (tE L X.K W fun ρ S => (ra ρ S).bind fun u S1 => (R.ofO S1 (tru S1 u)).bind fun k S2 => .ok (.bl (!k)) S2) := by
  refine PE.weaken (pe_notT ha) fun σ H Q ⟨m, S, ρ, sr, er, out⟩ => ?_
  refine ⟨m, S, ρ, sr, er, out.bind.imp fun x H1 ⟨m1, S1, u, e1, s1, v1, out1⟩ => ?_⟩
  obtain ⟨k, hk, out2⟩ := out1.ofO
  exact ⟨k, s1.tru hk v1, out2.here s1 VR.bl⟩
/-- the truth of a value -/
def evT (r : Ev → Sto → R U) : Ev → Sto → R Bool := fun ρ S => (r ρ S).bind fun u S1 => R.ofO S1 (tru S1 u)
theorem z_pttru (h : plainTest a = true) (ha : PE X a (tE L X.K W ra)) : PT X a (tT L X.K W (evT ra)) :=
  PT.weaken (pt_truth ha (test_of h _)) fun σ H Q ⟨m, S, ρ, sr, er, out⟩ => ⟨m, S, ρ, sr, er, OutG.test out⟩
theorem z_ptnot (ha : PT X a (tT L X.K W (evT ra))) : PT X (.UnaryOp .Not a pos) (tT L X.K W (evT fun ρ S => (ra ρ S).bind fun u S1 => (R.ofO S1 (tru S1 u)).bind fun k S2 => .ok (.bl (!k)) S2)) :=
  PT.weaken (pt_not ha) fun σ H Q ⟨m, S, ρ, sr, er, out⟩ => by
    simp only [evT, bind_assoc] at out
    rw [← bind_assoc] at out
    refine ⟨m, S, ρ, sr, er, (OutG.bind (rel := relB) out).imp fun k H1 ⟨m1, S1, k', e1, s1, v1, out1⟩ => ?_⟩
    obtain rfl : k' = k := v1
    exact OutG.here (a := !k') (b := !k') (rel := relB) out1 s1 rfl
theorem z_ptand {rest : List Expr} (ha : PT X a (tT L X.K W (evT ra))) (hb : PW X (.BoolOp .And (b :: rest) pos) (tT L X.K W (evT rb))) :
    PW X (.BoolOp .And (a :: b :: rest) pos) (tT L X.K W (evT fun ρ S => (ra ρ S).bind fun u S1 => (R.ofO S1 (tru S1 u)).bind fun k S2 => match k with
    | true => rb ρ S2
    | false => .ok u S2)) :=
  PW.weaken (pw_and ha hb) fun σ H Q ⟨m, S, ρ, sr, er, out⟩ => by
    simp only [evT, bind_assoc] at out
    refine ⟨m, S, ρ, sr, er, ?_⟩
    show OutG L X.K W σ m H S relB ((ra ρ S).bind fun u S1 => R.ofO S1 (tru S1 u)) _
    cases e : ra ρ S with
    | bad => rw [e] at out; exact out.elim
    | exc c u S' => rw [e] at out; exact out
    | ok u S1 =>
      rw [e, R.bind_ok] at out
      rw [R.bind_ok]
      cases e2 : tru S1 u with
      | none => rw [e2] at out; exact out.elim
      | some k =>
        rw [e2] at out
        intro m1 H1 k' e1 s1 v1
        obtain rfl : k = k' := v1
        cases k with
        | true => exact iteT ⟨m1, S1, ρ, s1, er.mono e1, OutG.mono (r := (rb ρ S1).bind fun u S1 => R.ofO S1 (tru S1 u)) out e1⟩
        | false =>
          have out : OutG L X.K W σ m H S relB (R.ofO S1 (tru S1 u)) Q := out
          rw [e2] at out
          exact iteF (out m1 H1 false e1 s1 rfl)
theorem z_ptor {rest : List Expr} (ha : PT X a (tT L X.K W (evT ra))) (hb : PW X (.BoolOp .Or (b :: rest) pos) (tT L X.K W (evT rb))) :
    PW X (.BoolOp .Or (a :: b :: rest) pos) (tT L X.K W (evT fun ρ S => (ra ρ S).bind fun u S1 => (R.ofO S1 (tru S1 u)).bind fun k S2 => match k with
    | true => .ok u S2
    | false => rb ρ S2)) :=
  PW.weaken (pw_or ha hb) fun σ H Q ⟨m, S, ρ, sr, er, out⟩ => by
    simp only [evT, bind_assoc] at out
    refine ⟨m, S, ρ, sr, er, ?_⟩
    show OutG L X.K W σ m H S relB ((ra ρ S).bind fun u S1 => R.ofO S1 (tru S1 u)) _
    cases e : ra ρ S with
    | bad => rw [e] at out; exact out.elim
    | exc c u S' => rw [e] at out; exact out
    | ok u S1 =>
      rw [e, R.bind_ok] at out
      rw [R.bind_ok]
      cases e2 : tru S1 u with
      | none => rw [e2] at out; exact out.elim
      | some k =>
        rw [e2] at out
        intro m1 H1 k' e1 s1 v1
        obtain rfl : k = k' := v1
        cases k with
        | false => exact iteF ⟨m1, S1, ρ, s1, er.mono e1, OutG.mono (r := (rb ρ S1).bind fun u S1 => R.ofO S1 (tru S1 u)) out e1⟩
        | true =>
          have out : OutG L X.K W σ m H S relB (R.ofO S1 (tru S1 u)) Q := out
          rw [e2] at out
          exact iteT (out m1 H1 true e1 s1 rfl)
theorem z_ite (hc : PT X c (tT L X.K W (evT rc))) (ha : PE X a (tE L X.K W ra)) (hb : PE X b (tE L X.K W rb)) :
    PE X (.IfExp c a b pos) (tE L X.K W fun ρ S => (rc ρ S).bind fun u S1 => (R.ofO S1 (tru S1 u)).bind fun k S2 => match k with
    | true => ra ρ S2
    | false => rb ρ S2) := by
  refine PE.weaken (pe_ifExp hc ha hb) fun σ H Q ⟨m, S, ρ, sr, er, out⟩ => ?_
  dsimp only at out
  rw [← bind_assoc] at out
  refine ⟨m, S, ρ, sr, er, (OutG.bind (rel := relB) out).imp fun k H1 ⟨m1, S1, k', e1, s1, v1, out1⟩ => ?_⟩
  obtain rfl : k' = k := v1
  cases k' with
  | true => exact iteT ⟨m1, S1, ρ, s1, er.mono e1, out1⟩
  | false => exact iteF ⟨m1, S1, ρ, s1, er.mono e1, out1⟩

/-! ### rows of values, displays -/
variable {es : List Expr}
theorem z_nil : PA X [] (tA L X.K W fun _ S => .ok (.tup []) S) :=
  PA.weaken pa_nil fun σ H Q ⟨m, S, ρ, sr, er, out⟩ => OutG.here (a := U.tup []) (b := []) (rel := relA) out sr ⟨[], rfl, VRs.nil⟩
theorem z_cons (hs : notStar a = true) (ha : PE X a (tE L X.K W ra)) (hr : PA X es (tA L X.K W rb)) : PA X (a :: es) (tA L X.K W fun ρ S => (ra ρ S).bind fun u S1 => (rb ρ S1).bind fun v S2 => match v with
    | .tup us => .ok (.tup (u :: us)) S2
    | _ => .bad) := by
  refine PA.weaken (pa_cons ha hr (star1 hs)) fun σ H Q ⟨m, S, ρ, sr, er, out⟩ => ?_
  refine ⟨m, S, ρ, sr, er, out.bind.imp fun x H1 ⟨m1, S1, u, e1, s1, v1, out1⟩ => ?_⟩
  refine ⟨m1, S1, ρ, s1, er.mono e1, (OutG.bind (rel := relA) out1).imp fun xs H2 ⟨m2, S2, v, e2, s2, v2, out2⟩ => ?_⟩
  obtain ⟨us, rfl, q⟩ := v2
  exact OutG.here (a := U.tup (u :: us)) (rel := relA) out2 s2 ⟨_, rfl, VRs.cons (v1.mono e2) q⟩
theorem z_star {p : Pos} (ha : PE X a (tE L X.K W ra)) (hr : PA X es (tA L X.K W rb)) : PA X (.Starred a p :: es) (tA L X.K W fun ρ S => (ra ρ S).bind fun u S1 => match u with
    | .tup l => (rb ρ S1).bind fun v S2 => match v with
      | .tup us => .ok (.tup (l ++ us)) S2
      | _ => .bad
    | _ => .bad) := by
  refine PA.weaken (StX.pa_star ha hr rfl) fun σ H Q ⟨m, S, ρ, sr, er, out⟩ => ?_
  refine ⟨m, S, ρ, sr, er, out.bind.imp fun x H1 ⟨m1, S1, u, e1, s1, v1, out1⟩ => ?_⟩
  cases u with
  | tup l =>
    obtain ⟨p, xs, rfl, hp, q⟩ := v1.of_tup
    refine ⟨p, xs, rfl, .inl (SqT.of hp), m1, S1, ρ, s1, er.mono e1, (OutG.bind (rel := relA) out1).imp fun ys H2 ⟨m2, S2, v, e2, s2, v2, out2⟩ => ?_⟩
    obtain ⟨us, rfl, q2⟩ := v2
    exact OutG.here (a := U.tup (l ++ us)) (rel := relA) out2 s2 ⟨_, rfl, (q.mono e2).append q2⟩
  | _ => exact out1.elim
theorem len_row {K : PySem.W.Frag} {m : Nat → Addr} {H : Hp} {k : Nat} {us : List U} {xs : List V} (r : VRs m H k us xs) (h : decide (us.length ≤ sizeLine) = true) : xs.length ≤ sizeLine := by
  rw [r.length]; exact of_decide_eq_true h
theorem z_tupd {x1 : Nat} (h : PA X es (tA L X.K W ra)) : PE X (.Tuple es x1 pos) (tE L X.K W fun ρ S => (ra ρ S).bind fun v S1 => match v with
    | .tup us => bif decide (us.length ≤ sizeLine) then .ok (.tup us) S1 else .bad
    | _ => .bad) := by
  refine PE.weaken (pe_tup h) fun σ H Q ⟨m, S, ρ, sr, er, out⟩ => ?_
  refine ⟨m, S, ρ, sr, er, (OutG.bind (rel := relA) out).imp fun xs H1 ⟨m1, S1, v, e1, s1, v1, out1⟩ => ?_⟩
  obtain ⟨us, rfl, q⟩ := v1
  obtain ⟨h1, out2⟩ := cond_ok out1
  exact ⟨len_row (K := X.K) q h1, fun p hp => out2.tup s1 q hp⟩
theorem z_lstd (h : PA X es (tA L X.K W ra)) : PE X (.List es pos) (tR L X.K W fun ρ S => (ra ρ S).bind fun v S1 => match v with
    | .tup us => bif decide (us.length ≤ sizeLine) then .ok (.tup us) S1 else .bad
    | _ => .bad) := by
  refine PE.weaken (pe_lst h) fun σ H Q ⟨m, S, ρ, sr, er, out⟩ => ?_
  refine ⟨m, S, ρ, sr, er, (OutG.bind (rel := relA) out).imp fun xs H1 ⟨m1, S1, v, e1, s1, v1, out1⟩ => ?_⟩
  obtain ⟨us, rfl, q⟩ := v1
  obtain ⟨h1, out2⟩ := cond_ok out1
  refine ⟨len_row (K := X.K) q h1, fun p hp => ?_⟩
  have e := ext_new (m := m1) (k := S1.n) (ho := .lst xs) hp
  refine OutG.mono (r := .ok (U.tup us) S1) out2 Ext.refl m1 _ _ e (s1.new hp) ⟨us, p, xs, rfl, rfl, upd_same, q.mono e, s1.free hp, ?_⟩
  cases h0 : H p with
  | none => rfl
  | some o => exact absurd hp (e1.dom p (by rw [h0]; simp))
end
end Z

/-! ## ZExpr4 -/
set_option Elab.async false
set_option linter.all false
set_option maxRecDepth 100000
/-! Z: lists of the store, subscripts, slices, built-ins. -/
namespace Z
open PySem Spec L2 PyProof.Rows

section
variable {X : Cx} {L : Lk} {W : WX} {a b c : Expr} {pos : Pos} {ra rb rc : Ev → Sto → R U}
theorem z_newl (h : PE X a (tR L X.K W ra)) : PE X a (tE L X.K W fun ρ S => (ra ρ S).bind fun v S1 => match v with
    | .tup l => .ok (.obj S1.n) (S1.alloc (.lst l))
    | _ => .bad) := by
  refine PE.weaken h fun σ H Q ⟨m, S, ρ, sr, er, out⟩ => ⟨m, S, ρ, sr, er, ?_⟩
  dsimp only at out
  cases e : ra ρ S with
  | bad => rw [e] at out; exact out.elim
  | exc c u S' => rw [e] at out; exact out
  | ok u S1 =>
    rw [e] at out
    intro m1 H1 x e1 s1 ⟨us, D, xs, hu, hx, hD, q, hf, h0⟩
    subst hu hx
    exact out (mput m1 S1.n D) H1 _ (ext_adopt e1 h0) (s1.adopt hD q hf) ⟨Nat.lt_succ_self _, by rw [mput_same]⟩
/-! ### subscripts -/
theorem VRs.at {m : Nat → Addr} {H : Hp} {k : Nat} {us : List U} {xs : List V} {i : Int} {u : U} (h : VRs m H k us xs) (e : atU us i = some u) : ∃ v, atI xs i = some v ∧ VR m H k u v := by
  have e' : (ixN us.length i).bind (fun j => us[j]?) = some u := e
  have e2 : atI xs i = (ixN us.length i).bind (fun j => xs[j]?) := by
    show (ixN xs.length i).bind (fun j => xs[j]?) = _
    rw [h.length]
  cases q : ixN us.length i with
  | none => rw [q] at e'; cases e'
  | some j =>
    rw [q] at e'
    obtain ⟨v, h1, h2⟩ := h.get e'
    exact ⟨v, by rw [e2, q]; exact h1, h2⟩
theorem SRel.ixU {K : PySem.W.Frag} {m : Nat → Addr} {H : Hp} {S : Sto} (s : SRel L K m H S) {u v w : U} {x y : V} (h : ixU S u v = some w) (r1 : VR m H S.n u x) (r2 : VR m H S.n v y) :
    ∃ p xs i z, x = .ref p ∧ y = .int i ∧ (SqL K H p xs ∨ SqT K H p xs) ∧ atI xs i = some z ∧ VR m H S.n w z := by
  have fin : ∀ (l : List U) (i : Int), rowU S u = some l → v = .int i → atU l i = some w → ∃ p xs i z, x = .ref p ∧ y = .int i ∧ (SqL K H p xs ∨ SqT K H p xs) ∧ atI xs i = some z ∧ VR m H S.n w z := fun l i h1 h2 h3 => by
    subst h2
    obtain ⟨a, xs, rfl, q1, q2⟩ := s.row h1 r1
    obtain ⟨z, e, q⟩ := q2.at h3
    exact ⟨a, xs, i, z, rfl, r2, q1, e, q⟩
  cases u with
  | tup l =>
    cases v with
    | int i => exact fin l i rfl rfl h
    | _ => cases h
  | obj k =>
    cases v with
    | int i =>
      have h' : (match S.get k with
        | some (.lst l) => atU l i
        | some (.ro l) => atU l i
        | _ => none) = some w := h
      cases e : S.get k with
      | none => rw [e] at h'; cases h'
      | some o =>
        rw [e] at h'
        cases o with
        | lst l => exact fin l i (by show (match S.get k with | some (.lst l) => some l | some (.ro l) => some l | _ => none) = _; rw [e]) rfl h'
        | ro l => exact fin l i (by show (match S.get k with | some (.lst l) => some l | some (.ro l) => some l | _ => none) = _; rw [e]) rfl h'
        | _ => cases h'
    | _ => cases h
  | _ => cases h
theorem z_ix (hs : notSlice b = true) (ha : PE X a (tE L X.K W ra)) (hb : PE X b (tE L X.K W rb)) : PE X (.Subscript a b pos) (tE L X.K W fun ρ S => (ra ρ S).bind fun u S1 => (rb ρ S1).bind fun v S2 => R.ofO S2 (ixU S2 u v)) := by
  refine PE.weaken (pe_ix (IxR.or (ix_list (X := X)) (ix_tup (X := X))) ha hb (plainIx_of hs)) fun σ H Q ⟨m, S, ρ, sr, er, out⟩ => ?_
  refine ⟨m, S, ρ, sr, er, out.bind.imp fun x H1 ⟨m1, S1, u, e1, s1, v1, out1⟩ => ?_⟩
  refine ⟨m1, S1, ρ, s1, er.mono e1, out1.bind.imp fun y H2 ⟨m2, S2, v, e2, s2, v2, out2⟩ => ?_⟩
  obtain ⟨w, hw, out3⟩ := out2.ofO1
  obtain ⟨p, xs, i, z, rfl, rfl, q1, q2, q3⟩ := s2.ixU hw (v1.mono e2) v2
  rcases q1 with q1 | q1
  · exact .inl ⟨p, xs, i, z, rfl, rfl, q1, q2, out3.here s2 q3⟩
  · exact .inr ⟨p, xs, i, z, rfl, rfl, q1, q2, out3.here s2 q3⟩
/-! ### slices -/
theorem VRs.cut {m : Nat → Addr} {H : Hp} {k : Nat} {us : List U} {xs : List V} (h : VRs m H k us xs) (lo hi : Option Int) : VRs m H k (cutU us lo hi) (cutV xs lo hi) := by
  unfold cutU cutV
  rw [h.length]
  exact (h.drop _).take _
/-- what a slice of a value is -/
def rS (L : Lk) (K : PySem.W.Frag) (W : WX) : V → Option Int → Option Int → Hp → VK → Prop := fun x lo hi H Q => ∃ σ m S u, SRel L K m H S ∧ VR m H S.n u x ∧ OutG L K W σ m H S relV (sliceU S u lo hi) Q
theorem rS_or {x : V} {lo hi : Option Int} {H : Hp} {Q : VK} (h : rS L X.K W x lo hi H Q) : rSlL X.K x lo hi H Q ∨ rSlT X.K x lo hi H Q := by
  obtain ⟨σ, m, S, u, s, r, out⟩ := h
  cases u with
  | tup l =>
    have out : OutG L X.K W σ m H S relV (bif HT.sIx l.length 0 lo == 0 && HT.sIx l.length l.length hi == l.length then .bad else .ok (.tup (cutU l lo hi)) S) Q := out
    cases e : (HT.sIx l.length 0 lo == 0 && HT.sIx l.length l.length hi == l.length) with
    | true => rw [e] at out; exact out.elim
    | false =>
      rw [e] at out
      obtain ⟨a, xs, rfl, ha, q⟩ := r.of_tup
      refine .inr ⟨a, xs, rfl, SqT.of ha, ?_, fun p hp => OutG.tup (us := cutU l lo hi) out s (q.cut lo hi) hp⟩
      rw [q.length]
      rintro ⟨h1, h2⟩
      rw [h1, h2] at e
      simp at e
  | obj k =>
    have out : OutG L X.K W σ m H S relV (match S.get k with
      | some (.lst l) => .ok (.obj S.n) (S.alloc (.lst (cutU l lo hi)))
      | some (.ro l) => .ok (.obj S.n) (S.alloc (.lst (cutU l lo hi)))
      | _ => .bad) Q := out
    obtain ⟨_, rfl⟩ := r
    cases e : S.get k with
    | none => rw [e] at out; exact out.elim
    | some o =>
      rw [e] at out
      cases o with
      | lst l =>
        obtain ⟨xs, h1, q⟩ := s.obj k _ e
        exact .inl ⟨_, xs, rfl, SqL.of h1, fun p hp => OutG.obj (us := cutU l lo hi) out s (q.cut lo hi) hp⟩
      | ro l =>
        obtain ⟨xs, h1, q⟩ := s.obj k _ e
        exact .inl ⟨_, xs, rfl, roL h1, fun p hp => OutG.obj (us := cutU l lo hi) out s (q.cut lo hi) hp⟩
      | _ => exact out.elim
  | _ => exact out.elim
theorem z_slTo {p2 : Pos} (ha : PE X a (tE L X.K W ra)) (hb : PE X b (tE L X.K W rb)) : PE X (.Subscript a (.Slice none (some b) none p2) pos) (tE L X.K W fun ρ S => (ra ρ S).bind fun u S1 => (rb ρ S1).bind fun v S2 => match v with
    | .int i => sliceU S2 u none (some i)
    | _ => .bad) := by
  refine PE.weaken (pe_slice (SlR.or (sl_list (X := X)) (sl_tup (X := X))) ha po_none (po_some hb)) fun σ H Q ⟨m, S, ρ, sr, er, out⟩ => ?_
  refine ⟨m, S, ρ, sr, er, out.bind.imp fun x H1 ⟨m1, S1, u, e1, s1, v1, out1⟩ => ?_⟩
  refine ⟨m1, S1, ρ, s1, er.mono e1, out1.bind.imp fun y H2 ⟨m2, S2, v, e2, s2, v2, out2⟩ => ?_⟩
  cases v with
  | int i => exact ⟨i, v2, rS_or ⟨σ, m2, S2, u, s2, v1.mono e2, out2⟩⟩
  | _ => exact out2.elim
theorem z_slFr {p2 : Pos} (ha : PE X a (tE L X.K W ra)) (hb : PE X b (tE L X.K W rb)) : PE X (.Subscript a (.Slice (some b) none none p2) pos) (tE L X.K W fun ρ S => (ra ρ S).bind fun u S1 => (rb ρ S1).bind fun v S2 => match v with
    | .int i => sliceU S2 u (some i) none
    | _ => .bad) := by
  refine PE.weaken (pe_slice (SlR.or (sl_list (X := X)) (sl_tup (X := X))) ha (po_some hb) po_none) fun σ H Q ⟨m, S, ρ, sr, er, out⟩ => ?_
  refine ⟨m, S, ρ, sr, er, out.bind.imp fun x H1 ⟨m1, S1, u, e1, s1, v1, out1⟩ => ?_⟩
  refine ⟨m1, S1, ρ, s1, er.mono e1, out1.bind.imp fun y H2 ⟨m2, S2, v, e2, s2, v2, out2⟩ => ?_⟩
  cases v with
  | int i => exact ⟨i, v2, rS_or ⟨σ, m2, S2, u, s2, v1.mono e2, out2⟩⟩
  | _ => exact out2.elim

/-! ### built-ins -/
theorem SRel.len {K : PySem.W.Frag} {m : Nat → Addr} {H : Hp} {S : Sto} (s : SRel L K m H S) {u : U} {n : Nat} {x : V} (h : lenU S u = some n) (r : VR m H S.n u x) : LenV K x H n := by
  have fin : ∀ l : List U, rowU S u = some l → l.length = n → LenV K x H n := fun l h1 h2 => by
    obtain ⟨a, xs, rfl, q1, q2⟩ := s.row h1 r
    rcases q1 with q1 | q1
    · exact .inl ⟨xs, q1, by rw [q2.length, h2]⟩
    · exact .inr ⟨xs, q1, by rw [q2.length, h2]⟩
  cases u with
  | str z =>
    obtain rfl : x = .str z := r
    have h' : (bif decide (z.length ≤ sizeLine) then some z.length else none) = some n := h
    cases e : decide (z.length ≤ sizeLine) with
    | false => rw [e] at h'; cases h'
    | true =>
      rw [e] at h'
      exact ⟨of_decide_eq_true e, (Option.some.inj h').symm⟩
  | tup l => exact fin l rfl (Option.some.inj h)
  | obj k =>
    have h' : (match S.get k with
      | some (.lst l) => some l.length
      | some (.ro l) => some l.length
      | some (.dict l) => some l.length
      | _ => none) = some n := h
    cases e : S.get k with
    | none => rw [e] at h'; cases h'
    | some o =>
      rw [e] at h'
      cases o with
      | lst l => exact fin l (by show (match S.get k with | some (.lst l) => some l | some (.ro l) => some l | _ => none) = _; rw [e]) (Option.some.inj h')
      | ro l => exact fin l (by show (match S.get k with | some (.lst l) => some l | some (.ro l) => some l | _ => none) = _; rw [e]) (Option.some.inj h')
      | dict l => exact (s.obj k _ e).elim
      | ins c fs => cases h'
  | _ => cases h
def rF (L : Lk) (K : PySem.W.Frag) (W : WX) (f : Sto → List U → R U) : List V → Hp → VK → Prop := fun vs H Q => ∃ σ m S us, SRel L K m H S ∧ VRs m H S.n us vs ∧ OutG L K W σ m H S relV (f S us) Q
theorem VRs.one {m : Nat → Addr} {H : Hp} {k : Nat} {u : U} {xs : List V} (h : VRs m H k [u] xs) : ∃ x, xs = [x] ∧ VR m H k u x := by
  obtain ⟨y, ys, rfl, q, t⟩ := h.of_cons
  obtain rfl : ys = [] := t
  exact ⟨y, rfl, q⟩
theorem VRs.two {m : Nat → Addr} {H : Hp} {k : Nat} {u v : U} {xs : List V} (h : VRs m H k [u, v] xs) : ∃ x y, xs = [x, y] ∧ VR m H k u x ∧ VR m H k v y := by
  obtain ⟨y, ys, rfl, q, t⟩ := h.of_cons
  obtain ⟨z, rfl, q2⟩ := VRs.one t
  exact ⟨y, z, rfl, q, q2⟩
theorem c_len : CallR X (.builtin "len") (rF L X.K W fun S us => bfn S .len us) := by
  intro pins s σ H xs us Q I r ⟨σ', m, S, vs, sr, q, out⟩
  match vs, out with
  | [u], out =>
    obtain ⟨x, rfl, r1⟩ := q.one
    have out : OutG L X.K W σ' m H S relV (match lenU S u with
      | some n => .ok (.int n) S
      | none => .bad) Q := out
    cases e : lenU S u with
    | none => rw [e] at out; exact out.elim
    | some n =>
      rw [e] at out
      exact call_len pins s σ H _ us Q I r ⟨x, n, rfl, sr.len e r1, out.here sr VR.int⟩
  | [], out => exact out.elim
  | _ :: _ :: _, out => exact out.elim
theorem c_int : CallR X (.type "int") (rF L X.K W fun S us => bfn S .int us) := by
  intro pins s σ H xs us Q I r ⟨σ', m, S, vs, sr, q, out⟩
  match vs, out with
  | [u], out =>
    obtain ⟨x, rfl, r1⟩ := q.one
    cases u with
    | int i =>
      obtain rfl : x = .int i := r1
      exact call_int1 pins s σ H _ us Q I r (.inl ⟨i, rfl, OutG.here (a := U.int i) out sr VR.int⟩)
    | bl b =>
      obtain rfl : x = .bl b := r1
      exact call_int1 pins s σ H _ us Q I r (.inr ⟨b, rfl, OutG.here (a := U.int (if b then 1 else 0)) out sr VR.int⟩)
    | _ => exact out.elim
  | [], out => exact out.elim
  | _ :: _ :: _, out => exact out.elim
theorem c_max2 (hc : X.calm = true) : CallR X (.builtin "max") (rF L X.K W fun S us => bfn S .max2 us) := by
  intro pins s σ H xs us Q I r ⟨σ', m, S, vs, sr, q, out⟩
  match vs, out with
  | [u, v], out =>
    obtain ⟨x, y, rfl, q1, q2⟩ := q.two
    cases u with
    | int i =>
      cases v with
      | int j =>
        obtain rfl : x = .int i := q1
        obtain rfl : y = .int j := q2
        exact call_max2 hc pins s σ H _ us Q I r ⟨i, j, rfl, OutG.here (a := U.int _) out sr VR.int⟩
      | _ => exact out.elim
    | _ => exact out.elim
  | [], out => exact out.elim
  | [_], out => exact out.elim
  | _ :: _ :: _ :: _, out => exact out.elim
theorem c_min2 (hc : X.calm = true) : CallR X (.builtin "min") (rF L X.K W fun S us => bfn S .min2 us) := by
  intro pins s σ H xs us Q I r ⟨σ', m, S, vs, sr, q, out⟩
  match vs, out with
  | [u, v], out =>
    obtain ⟨x, y, rfl, q1, q2⟩ := q.two
    cases u with
    | int i =>
      cases v with
      | int j =>
        obtain rfl : x = .int i := q1
        obtain rfl : y = .int j := q2
        exact call_min2 hc pins s σ H _ us Q I r ⟨i, j, rfl, OutG.here (a := U.int _) out sr VR.int⟩
      | _ => exact out.elim
    | _ => exact out.elim
  | [], out => exact out.elim
  | [_], out => exact out.elim
  | _ :: _ :: _ :: _, out => exact out.elim
/-- a row of bools, of ints -/
theorem bools_V {m : Nat → Addr} {H : Hp} {k : Nat} : ∀ {l : List U} {bs : List Bool} {xs : List V}, bools l = some bs → VRs m H k l xs → xs = bs.map V.bl
  | [], bs, xs, h, r => by
    obtain rfl : [] = bs := Option.some.inj h
    exact r
  | u :: l, bs, xs, h, r => by
    cases u with
    | bl b =>
      have h' : (bools l).map (b :: ·) = some bs := h
      cases e : bools l with
      | none => rw [e] at h'; cases h'
      | some cs =>
        rw [e] at h'
        obtain rfl : b :: cs = bs := Option.some.inj h'
        obtain ⟨y, ys, rfl, q, t⟩ := r.of_cons
        obtain rfl : y = .bl b := q
        rw [bools_V e t, List.map_cons]
    | _ => cases h
theorem ints_V {m : Nat → Addr} {H : Hp} {k : Nat} : ∀ {l : List U} {bs : List Int} {xs : List V}, intsOf l = some bs → VRs m H k l xs → xs = bs.map V.int
  | [], bs, xs, h, r => by
    obtain rfl : [] = bs := Option.some.inj h
    exact r
  | u :: l, bs, xs, h, r => by
    cases u with
    | int b =>
      have h' : (intsOf l).map (b :: ·) = some bs := h
      cases e : intsOf l with
      | none => rw [e] at h'; cases h'
      | some cs =>
        rw [e] at h'
        obtain rfl : b :: cs = bs := Option.some.inj h'
        obtain ⟨y, ys, rfl, q, t⟩ := r.of_cons
        obtain rfl : y = .int b := q
        rw [ints_V e t, List.map_cons]
    | _ => cases h
/-- a call over a list that lies there -/
theorem brow_L {K : PySem.W.Frag} {σ : L2.St} {m : Nat → Addr} {H : Hp} {S : Sto} {l : List U} {xs : List V} {a : Addr} {Q : VK} (sr : SRel L K m H S) (hs : SqL K H a xs) (q : VRs m H S.n l xs) (b : BR) (out : OutG L K W σ m H S relV (brow S b l) Q) :
    match b with
    | .all => rAll K [.ref a] H Q
    | .any => rAny K [.ref a] H Q
    | .sum => rSum K [.ref a] H Q
    | .tuple => ∀ p, H p = none → Q (.ref p) (upd H p (.tup xs)) := by
  cases b with
  | all =>
    have out : OutG L K W σ m H S relV (match bools l with
      | some bs => .ok (.bl (bs.all id)) S
      | none => .bad) Q := out
    cases e : bools l with
    | none => rw [e] at out; exact out.elim
    | some bs =>
      rw [e] at out
      exact ⟨a, bs, rfl, bools_V e q ▸ hs, OutG.here (a := U.bl (bs.all id)) out sr VR.bl⟩
  | any =>
    have out : OutG L K W σ m H S relV (match bools l with
      | some bs => .ok (.bl (bs.any id)) S
      | none => .bad) Q := out
    cases e : bools l with
    | none => rw [e] at out; exact out.elim
    | some bs =>
      rw [e] at out
      exact ⟨a, bs, rfl, bools_V e q ▸ hs, OutG.here (a := U.bl (bs.any id)) out sr VR.bl⟩
  | sum =>
    have out : OutG L K W σ m H S relV (match intsOf l with
      | some is => .ok (.int is.sum) S
      | none => .bad) Q := out
    cases e : intsOf l with
    | none => rw [e] at out; exact out.elim
    | some bs =>
      rw [e] at out
      exact ⟨a, bs, rfl, ints_V e q ▸ hs, OutG.here (a := U.int bs.sum) out sr VR.int⟩
  | tuple => exact fun p hp => OutG.tup (us := l) out sr q hp
end
end Z

/-! ## ZExpr5 -/
set_option Elab.async false
set_option linter.all false
set_option maxRecDepth 100000
/-! Z: calls. -/
namespace Z
open PySem Spec L2 PyProof.Rows

section
variable {m : Nat → Addr} {H : Hp} {k : Nat}
theorem VRs.dropLast : ∀ {us : List U} {xs : List V}, VRs m H k us xs → VRs m H k us.dropLast xs.dropLast := fun {us xs} h => by
  rw [List.dropLast_eq_take, List.dropLast_eq_take, h.length]
  exact h.take _
theorem VRs.eraseIdx : ∀ {us : List U} {xs : List V} (i : Nat), VRs m H k us xs → VRs m H k (us.eraseIdx i) (xs.eraseIdx i)
  | [], _, _, h => by
    obtain rfl : _ = ([] : List V) := h
    exact VRs.nil
  | w :: us, _, 0, h => by
    obtain ⟨y, zs, rfl, _, t⟩ := h.of_cons
    exact t
  | w :: us, _, i + 1, h => by
    obtain ⟨y, zs, rfl, q, t⟩ := h.of_cons
    exact VRs.cons q (VRs.eraseIdx i t)
end
section
variable {X : Cx} {L : Lk} {W : WX} {a b c : Expr} {pos : Pos} {ra rb rc : Ev → Sto → R U} {es : List Expr}
/-! ### methods of lists -/
theorem isL_of {K : PySem.W.Frag} {m : Nat → Addr} {H : Hp} {S : Sto} (s : SRel L K m H S) {u : U} {x : V} (h : isL S u = true) (r : VR m H S.n u x) : tyV K "list" x H := by
  cases u with
  | obj k =>
    obtain ⟨_, rfl⟩ := r
    have h' : (match S.get k with
      | some (.lst _) => true
      | _ => false) = true := h
    cases e : S.get k with
    | none => rw [e] at h'; cases h'
    | some o =>
      rw [e] at h'
      cases o with
      | lst l =>
        obtain ⟨xs, h1, q⟩ := s.obj k _ e
        exact .inl ⟨rfl, xs, SqL.of h1⟩
      | _ => cases h'
  | _ => cases h
/-- the object at k is written -/
theorem OutG.wrote {K : PySem.W.Frag} {σ : L2.St} {m : Nat → Addr} {H : Hp} {S : Sto} {n : Nat} {us vs : List U} {ys : List V} {u : U} {x : V} {Q : VK} (h : OutG L K W σ m H S relV (.ok u (S.put n (.lst us))) Q) (s : SRel L K m H S) (e : S.get n = some (.lst vs)) (q : VRs m H S.n us ys) (r : VR m H S.n u x) :
    Q x (upd H (m n) (.lst ys)) := by
  have e1 := ext_put s e (ho := .lst ys) rfl
  have s1 : SRel L K m (upd H (m n) (.lst ys)) (S.put n (.lst us)) := s.put e rfl rfl ⟨ys, upd_same, q.mono e1⟩
  have e2 : (S.put n (.lst us)).n = S.n := Sto.n_put S n _
  refine h m _ x (by rw [e2]; exact e1) s1 ?_
  show VR m _ (S.put n (.lst us)).n u x
  rw [e2]; exact r.mono e1
theorem m_append : MtR X "list.append" (fun x vs H Q => ∃ σ m S u us, SRel L X.K m H S ∧ VR m H S.n u x ∧ VRs m H S.n us vs ∧ OutG L X.K W σ m H S relV (bmt S .append u us) Q) := by
  intro pins s σ H x xs v ws Q I rx rxs ⟨σ', m, S, u, us, sr, r, q, out⟩
  cases u with
  | obj k =>
    obtain ⟨_, rfl⟩ := r
    match us, q, out with
    | [u], q, out =>
      obtain ⟨y, rfl, r1⟩ := VRs.one q
      have out : OutG L X.K W σ' m H S relV (match (generalizing := false) [u], S.get k with
        | [u], some (.lst l) => bif decide (l.length < sizeLine) then .ok .non (S.put k (.lst (l ++ [u]))) else .bad
        | _, _ => .bad) Q := out
      cases e : S.get k with
      | none => rw [e] at out; exact out.elim
      | some o =>
        rw [e] at out
        cases o with
        | lst l =>
          obtain ⟨h1, out⟩ := cond_ok out
          obtain ⟨zs, g1, q1⟩ := sr.lst e
          exact mt_append pins s σ H _ _ v ws Q I rx rxs ⟨_, zs, y, rfl, rfl, g1, by rw [q1.length]; exact of_decide_eq_true h1, OutG.wrote out sr e (q1.append (VRs.cons r1 VRs.nil)) VR.non⟩
        | _ => exact out.elim
    | [], q, out => exact out.elim
    | _ :: _ :: _, q, out => exact out.elim
  | _ => exact out.elim
theorem m_pop : MtR X "list.pop" (fun x vs H Q => ∃ σ m S u us, SRel L X.K m H S ∧ VR m H S.n u x ∧ VRs m H S.n us vs ∧ OutG L X.K W σ m H S relV (bmt S .pop u us) Q) := by
  intro pins s σ H x xs v ws Q I rx rxs ⟨σ', m, S, u, us, sr, r, q, out⟩
  cases u with
  | obj k =>
    obtain ⟨_, rfl⟩ := r
    match us, out with
    | [], out =>
      have out : OutG L X.K W σ' m H S relV (match S.get k with
        | some (.lst l) => match l[l.length - 1]? with
          | some u => .ok u (S.put k (.lst l.dropLast))
          | none => .bad
        | _ => .bad) Q := out
      obtain rfl : xs = [] := q
      cases e : S.get k with
      | none => rw [e] at out; exact out.elim
      | some o =>
        rw [e] at out
        cases o with
        | lst l =>
          dsimp only at out
          obtain ⟨zs, g1, q1⟩ := sr.lst e
          cases e2 : l[l.length - 1]? with
          | none => rw [e2] at out; exact out.elim
          | some u =>
            rw [e2] at out
            obtain ⟨y, g2, q2⟩ := q1.get e2
            exact mt_pop pins s σ H _ _ v ws Q I rx rxs ⟨_, zs, y, rfl, rfl, g1, by rw [q1.length]; exact g2, OutG.wrote out sr e q1.dropLast q2⟩
        | _ => exact out.elim
    | _ :: _, out => exact out.elim
  | _ => exact out.elim
theorem m_popAt : MtR X "list.pop" (fun x vs H Q => ∃ σ m S u us, SRel L X.K m H S ∧ VR m H S.n u x ∧ VRs m H S.n us vs ∧ OutG L X.K W σ m H S relV (bmt S .popAt u us) Q) := by
  intro pins s σ H x xs v ws Q I rx rxs ⟨σ', m, S, u, us, sr, r, q, out⟩
  cases u with
  | obj k =>
    obtain ⟨_, rfl⟩ := r
    match us, q, out with
    | [w], q, out =>
      have out : OutG L X.K W σ' m H S relV (match (generalizing := false) w, S.get k with
        | .int i, some (.lst l) => bif decide (0 ≤ i) && decide (i < 2 ^ 63) then (match l[i.toNat]? with
          | some u => .ok u (S.put k (.lst (l.eraseIdx i.toNat)))
          | none => .bad) else .bad
        | _, _ => .bad) Q := out
      obtain ⟨y, rfl, r1⟩ := VRs.one q
      cases w with
      | int i =>
        cases e : S.get k with
        | none => rw [e] at out; exact out.elim
        | some o =>
          rw [e] at out
          cases o with
          | lst l =>
            obtain ⟨h1, out⟩ := cond_ok out
            obtain ⟨h1, h2⟩ := decs h1
            have h1 := of_decide_eq_true h1
            have h2 := of_decide_eq_true h2
            obtain ⟨zs, g1, q1⟩ := sr.lst e
            obtain rfl : y = .int i := r1
            cases e2 : l[i.toNat]? with
            | none => rw [e2] at out; exact out.elim
            | some u =>
              rw [e2] at out
              obtain ⟨y, g2, q2⟩ := q1.get e2
              have h3 : i.toNat < zs.length := (List.getElem?_eq_some_iff.mp g2).1
              have h4 : ixN zs.length i = some i.toNat := by
                unfold ixN
                rw [if_pos h1, if_pos (by omega)]
              exact mt_popAt pins s σ H _ _ v ws Q I rx rxs ⟨_, zs, i, i.toNat, y, rfl, rfl, g1, by omega, h2, (ixN_seq h4).1, g2, OutG.wrote out sr e (q1.eraseIdx _) q2⟩
          | _ => exact out.elim
      | _ => exact out.elim
    | [], q, out => exact out.elim
    | _ :: _ :: _, q, out => exact out.elim
  | _ => exact out.elim
def evM (bm : BM) (ra rb : Ev → Sto → R U) : Ev → Sto → R U := fun ρ S => (ra ρ S).bind fun v S1 => bif isL S1 v then (rb ρ S1).bind fun w S2 => match w with
      | .tup us => bmt S2 bm v us
      | _ => .bad
    else .bad
theorem z_meth_step {bm : BM} {σ : L2.St} {H : Hp} {Q : VK} (h : tE L X.K W (evM bm ra rb) σ H Q) :
    tBM X.K "list" (fun x vs H Q => ∃ σ m S u us, SRel L X.K m H S ∧ VR m H S.n u x ∧ VRs m H S.n us vs ∧ OutG L X.K W σ m H S relV (bmt S bm u us) Q) (tE L X.K W ra) (tA L X.K W rb) σ H Q := by
  obtain ⟨m, S, ρ, sr, er, out⟩ := h
  refine ⟨m, S, ρ, sr, er, (OutG.bind out).imp fun x H1 ⟨m1, S1, u, e1, s1, v1, out1⟩ => ?_⟩
  obtain ⟨h1, out2⟩ := cond_ok out1
  refine ⟨isL_of s1 h1 v1, m1, S1, ρ, s1, er.mono e1, (OutG.bind (rel := relA) out2).imp fun xs H2 ⟨m2, S2, v, e2, s2, v2, out3⟩ => ?_⟩
  obtain ⟨us, rfl, q⟩ := v2
  exact ⟨σ, m2, S2, u, us, s2, v1.mono e2, q, out3⟩
theorem few_of {e : Expr} {es : List Expr} {env : Env} {cpos : Pos} (h : noStars (e :: es) = true) (hl : decide (es.length < 20) = true) :
    ((backTo cpos (starEach (e :: es) env)).all (fun x => !x.1) && (backToKw cpos (keywordEach [] env)).all (fun x => x.1.isSome)
      && decide ((e :: es).length + ([] : List Keyword).length + (if ([] : List Keyword).isEmpty then 0 else 1) < 30)) = true := by
  rw [star_all h]
  have := of_decide_eq_true hl
  show (true && true && decide (es.length + 1 + 0 + 0 < 30)) = true
  rw [decide_eq_true (by omega)]; rfl
theorem z_append {apos cpos : Pos} (hb : plainBase a = true) (hl : (apos.endLine == cpos.line) = true) (hn : noStars (b :: es) = true) (hf : decide (es.length < 20) = true) (ha : PE X a (tE L X.K W ra)) (has : PA X (b :: es) (tA L X.K W rb)) :
    PE X (.Call (.Attribute a "append" apos) (b :: es) [] cpos) (tE L X.K W (evM .append ra rb)) :=
  PE.weaken (pe_bm PySem.F.plainAttrs_list PySem.F.slot_list_append PySem.F.type_list_append (m_append (L := L) (W := W)) ha has (base_of hb) (few_of hn hf) hl (star1 (decs hn).1) (star_any (decs hn).2)) fun _ _ _ h => z_meth_step h
theorem z_popAt {apos cpos : Pos} (hb : plainBase a = true) (hl : (apos.endLine == cpos.line) = true) (hn : noStars (b :: es) = true) (hf : decide (es.length < 20) = true) (ha : PE X a (tE L X.K W ra)) (has : PA X (b :: es) (tA L X.K W rb)) :
    PE X (.Call (.Attribute a "pop" apos) (b :: es) [] cpos) (tE L X.K W (evM .popAt ra rb)) :=
  PE.weaken (pe_bm PySem.F.plainAttrs_list PySem.F.slot_list_pop PySem.F.type_list_pop (m_popAt (L := L) (W := W)) ha has (base_of hb) (few_of hn hf) hl (star1 (decs hn).1) (star_any (decs hn).2)) fun _ _ _ h => z_meth_step h
theorem z_pop {apos cpos : Pos} (hb : plainBase a = true) (hl : (apos.endLine == cpos.line) = true) (ha : PE X a (tE L X.K W ra)) :
    PE X (.Call (.Attribute a "pop" apos) [] [] cpos) (tE L X.K W (evM .pop ra fun _ S => .ok (.tup []) S)) :=
  PE.weaken (pe_bm0 PySem.F.plainAttrs_list PySem.F.slot_list_pop PySem.F.type_list_pop (m_pop (L := L) (W := W)) ha (base_of hb) hl) fun σ H Q h => by
    obtain ⟨m, S, ρ, sr, er, out⟩ := h
    refine ⟨m, S, ρ, sr, er, (OutG.bind out).imp fun x H1 ⟨m1, S1, u, e1, s1, v1, out1⟩ => ?_⟩
    obtain ⟨h1, out2⟩ := cond_ok out1
    exact ⟨isL_of s1 h1 v1, σ, m1, S1, u, [], s1, v1, VRs.nil, out2⟩
/-! ### isinstance -/
def Ty.val (L : Lk) : Ty → Value
  | .int => .type "int" | .bool => .type "bool" | .str => .type "str" | .tuple => .type "tuple" | .list => .type "list" | .cls c => .ref (L.cls c)
def Ty.v (L : Lk) : Ty → V
  | .int => .ty "int" | .bool => .ty "bool" | .str => .ty "str" | .tuple => .ty "tuple" | .list => .ty "list" | .cls c => .ref (L.cls c)
theorem Ty.clsV (t : Ty) : ClsV (t.v L) (t.val L) := by
  cases t <;> first | exact .ty _ | exact .own _
def Ty.nm : Ty → Option String
  | .int => some "int" | .bool => some "bool" | .str => some "str" | .tuple => some "tuple" | .list => some "list" | .cls _ => none
/-- what the text says of its classes -/
structure IsF (L : Lk) (K : PySem.W.Frag) : Prop where
  cl : ∀ c, c < L.nc → Cls K (L.cls c)
  at_ : ∀ c, c < L.nc → PySem.W.findIn K (.ref (L.cls c)) "__class__" = some (some (.builtin "object.__class__"))
  mro : ∀ c, c < L.nc → PySem.W.mroIn K (L.cls c) (.type "object") = some true
  get : PySem.W.specialIn K (.builtin "object.__class__") "__get__" = some (some (.builtin "getset_descriptor.__get__"))
  tak : PySem.W.takesIn K (.builtin "object.__class__") = some true
  ty : ∀ c, c < L.nc → ∀ n ∈ ["int", "bool", "str", "tuple", "list"], PySem.W.kitOne K (.ref (L.cls c)) (.type n) = some false
  yt : ∀ c, c < L.nc → ∀ n ∈ ["NoneType", "int", "bool", "str", "tuple", "list"], PySem.W.kitOne K (.type n) (.ref (L.cls c)) = some false
  cc : ∀ c d, c < L.nc → d < L.nc → PySem.W.kitOne K (.ref (L.cls c)) (.ref (L.cls d)) = some (c == d)
def kitT (a : String) (t : Ty) : Option Bool := match t.nm with
  | some b => kitB a b
  | none => some false
def tyN (a : String) : Ty → Bool
  | .int => a == "int" || a == "bool"
  | .bool => a == "bool"
  | .str => a == "str"
  | .tuple => a == "tuple"
  | .list => a == "list"
  | .cls _ => false
theorem kitT_all : (["NoneType", "int", "bool", "str", "tuple", "list"].all fun a => [Ty.int, .bool, .str, .tuple, .list].all fun t => kitT a t == some (tyN a t)) = true := by decide +kernel
theorem kit_base {K : PySem.W.Frag} (F : IsF L K) {a : String} (ha : a ∈ ["NoneType", "int", "bool", "str", "tuple", "list"]) {t : Ty} (ht : ∀ c, t = .cls c → c < L.nc) : PySem.W.kitOne K (.type a) (t.val L) = some (tyN a t) := by
  have h1 := List.all_eq_true.mp kitT_all a ha
  have fin : ∀ t : Ty, t ∈ [Ty.int, .bool, .str, .tuple, .list] → ∀ n, t.nm = some n → ∀ r, kitT a t = some r → PySem.W.kitOne K (.type a) (.type n) = some r := fun t _ n hn r hr => by
    unfold kitT at hr
    rw [hn] at hr
    exact kit_ty hr
  cases t with
  | cls c => exact F.yt c (ht c rfl) a ha
  | int => exact fin .int (by simp) "int" rfl _ (eq_of_beq (List.all_eq_true.mp h1 .int (by simp)))
  | bool => exact fin .bool (by simp) "bool" rfl _ (eq_of_beq (List.all_eq_true.mp h1 .bool (by simp)))
  | str => exact fin .str (by simp) "str" rfl _ (eq_of_beq (List.all_eq_true.mp h1 .str (by simp)))
  | tuple => exact fin .tuple (by simp) "tuple" rfl _ (eq_of_beq (List.all_eq_true.mp h1 .tuple (by simp)))
  | list => exact fin .list (by simp) "list" rfl _ (eq_of_beq (List.all_eq_true.mp h1 .list (by simp)))
/-- a value's type -/
theorem SRel.ty {K : PySem.W.Frag} {m : Nat → Addr} {H : Hp} {S : Sto} (F : IsF L K) (s : SRel L K m H S) {u : U} {x : V} (r : VR m H S.n u x) (hd : ∀ k, u = .obj k → ∃ o, S.get k = some o) :
    ∃ t, TyX K H x t ∧ ∀ ty b, (∀ c, ty = .cls c → c < L.nc) → tyOk S u ty = some b → PySem.W.kitOne K t (ty.val L) = some b := by
  have base : ∀ (a : String), a ∈ ["NoneType", "int", "bool", "str", "tuple", "list"] → TyX K H x (.type a) → (∀ ty b, tyOk S u ty = some b → b = tyN a ty) → ∃ t, TyX K H x t ∧ ∀ ty b, (∀ c, ty = .cls c → c < L.nc) → tyOk S u ty = some b → PySem.W.kitOne K t (ty.val L) = some b := fun a ha hx hb => by
    refine ⟨.type a, hx, fun ty b hc h => ?_⟩
    rw [kit_base F ha hc, ← hb ty b h]
  cases u with
  | non =>
    obtain rfl : x = .non := r
    exact base "NoneType" (by simp) (.base .non) fun ty b h => by
      have : false = b := Option.some.inj h
      subst this
      cases ty <;> rfl
  | bl c =>
    obtain rfl : x = .bl c := r
    exact base "bool" (by simp) (.base (.bl _)) fun ty b h => by
      have := Option.some.inj h
      subst this
      cases ty <;> rfl
  | int c =>
    obtain rfl : x = .int c := r
    exact base "int" (by simp) (.base (.int _)) fun ty b h => by
      have := Option.some.inj h
      subst this
      cases ty <;> rfl
  | str c =>
    obtain rfl : x = .str c := r
    exact base "str" (by simp) (.base (.str _)) fun ty b h => by
      have := Option.some.inj h
      subst this
      cases ty <;> rfl
  | tup l =>
    obtain ⟨a, xs, rfl, ha, _⟩ := r.of_tup
    exact base "tuple" (by simp) (.base (.tup ha)) fun ty b h => by
      have := Option.some.inj h
      subst this
      cases ty <;> rfl
  | obj k =>
    obtain ⟨o, e⟩ := hd k rfl
    obtain ⟨_, rfl⟩ := r
    have hty : ∀ ty, tyOk S (.obj k) ty = (match S.get k with
      | some (.lst _) => some (ty == .list)
      | some (.ro _) => some (ty == .list)
      | some (.ins c _) => some (ty == .cls c)
      | _ => none) := fun _ => rfl
    cases o with
    | lst l =>
      obtain ⟨xs, h1, q⟩ := s.obj k _ e
      exact base "list" (by simp) (.base (.lst h1)) fun ty b h => by
        rw [hty, e] at h
        have := Option.some.inj h
        subst this
        cases ty <;> rfl
    | ro l =>
      obtain ⟨xs, h1, q⟩ := s.obj k _ e
      have hx : TyX K H (.ref (m k)) (.type "list") := by
        rcases h1 with ⟨ob, h1⟩ | h1
        · exact .base (.frz h1)
        · rcases h1 with (h1 | ⟨_, h1⟩) | ⟨o, its, n, h1, h2, _⟩
          · cases h1
          · cases h1
          · exact .kList h1 h2
      exact base "list" (by simp) hx fun ty b h => by
        rw [hty, e] at h
        have := Option.some.inj h
        subst this
        cases ty <;> rfl
    | dict l => exact (s.obj k _ e).elim
    | ins c fs =>
      obtain ⟨hc, dx, gs, h1, q⟩ := s.obj k _ e
      refine ⟨.ref (L.cls c), .base (.ins h1 (F.cl c hc) (F.at_ c hc) F.get F.tak (F.mro c hc)), fun ty b hh h => ?_⟩
      rw [hty, e] at h
      have := Option.some.inj h
      subst this
      cases ty with
      | cls d =>
        have hb : (Ty.cls d == Ty.cls c) = (c == d) := by
          by_cases z : c = d
          · subst z; simp
          · rw [beq_eq_false_iff_ne.mpr z, beq_eq_false_iff_ne.mpr fun y => z (by cases y; rfl)]
        show PySem.W.kitOne K (.ref (L.cls c)) (.ref (L.cls d)) = some (Ty.cls d == Ty.cls c)
        rw [hb]
        exact F.cc c d hc (hh d rfl)
      | _ => exact F.ty c hc _ (by simp)
theorem kitAny_of {K : PySem.W.Frag} {S : Sto} {u : U} {t : Value} (hk : ∀ ty b, (∀ c, ty = .cls c → c < L.nc) → tyOk S u ty = some b → PySem.W.kitOne K t (ty.val L) = some b) : ∀ (ts : List Ty) (b : Bool), (∀ ty ∈ ts, ∀ c, ty = .cls c → c < L.nc) → tysOk S u ts = some b → PySem.W.kitAny K t (ts.map (Ty.val L)) = some b
  | [], b, _, h => h
  | ty :: ts, b, hc, h => by
    have h' : (match tyOk S u ty with
      | some true => some true
      | some false => tysOk S u ts
      | none => none) = some b := h
    cases e : tyOk S u ty with
    | none => rw [e] at h'; cases h'
    | some r =>
      rw [e] at h'
      refine kitAny_cons (hk ty r (hc ty (by simp)) e) (fun z => ?_) (fun z => ?_)
      · subst z; exact kitAny_of hk ts b (fun ty h => hc ty (by simp [h])) h'
      · subst z; exact (Option.some.inj h').symm
def tyTop (ts : List Ty) (nc : Nat) : Bool := ts.all fun t => match t with
  | .cls c => decide (c < nc)
  | _ => true
theorem tyTop_of {ts : List Ty} {nc : Nat} (h : tyTop ts nc = true) : ∀ ty ∈ ts, ∀ c, ty = .cls c → c < nc := fun ty hy c e => by
  have := List.all_eq_true.mp h ty hy
  subst e
  exact of_decide_eq_true this
theorem obj_in {K : PySem.W.Frag} {m : Nat → Addr} {H : Hp} {S : Sto} {u : U} {x : V} (r : VR m H S.n u x) : ∀ k, u = .obj k → ∃ o, S.get k = some o := fun k e => by
  subst e
  exact Sto.some_of r.1
theorem z_isi1 {p : Pos} {t : Ty} (F : IsF L X.K) (hg : Gl X "isinstance") (hm : X.mg "isinstance" = none) (hs : noStars [a, b] = true) (ht : tyTop [t] L.nc = true) (ha : PE X a (tE L X.K W ra)) (hb : PE X b (tC (t.v L))) :
    PE X (.Call (.Name "isinstance" p) [a, b] [] pos) (tE L X.K W fun ρ S => (ra ρ S).bind fun u S1 => (R.ofO S1 (tysOk S1 u [t])).bind fun b S2 => .ok (.bl b) S2) := by
  refine PE.weaken (pe_callB (call_isi (X := X)) hg hm PyProof.Rows.boot_isinstance (pa_cons ha (pa_cons hb pa_nil (star1 (decs (decs hs).2).1)) (star1 (decs hs).1)) (by decide) (by decide) (star1 (decs hs).1) (star_any (decs hs).2)) fun σ H Q ⟨m, S, ρ, sr, er, out⟩ => ?_
  refine ⟨m, S, ρ, sr, er, out.bind.imp fun x H1 ⟨m1, S1, u, e1, s1, v1, out1⟩ => ?_⟩
  obtain ⟨k, hk, out2⟩ := out1.ofO
  obtain ⟨ty, h1, h2⟩ := s1.ty F v1 (obj_in (K := X.K) v1)
  have h3 := kitAny_of h2 [t] k (tyTop_of ht) hk
  refine ⟨x, t.v L, ty, t.val L, k, rfl, t.clsV, h1, ?_, out2.here s1 VR.bl⟩
  have h4 : (match PySem.W.kitOne X.K ty (t.val L) with
    | some true => some true
    | some false => some false
    | none => none) = some k := h3
  cases e : PySem.W.kitOne X.K ty (t.val L) with
  | none => rw [e] at h4; cases h4
  | some r =>
    rw [e] at h4
    cases r <;> exact h4
/-- written classes -/
def tK (vs : List V) : TA := fun _ H Q => Q vs H
theorem pa_k {vs : List V} {v : V} (hs : notStar a = true) (ha : PE X a (tC v)) (hr : PA X es (tK vs)) : PA X (a :: es) (tK (v :: vs)) := PA.weaken (pa_cons ha hr (star1 hs)) fun _ _ _ h => h
theorem clsVs : ∀ ts : List Ty, Paired ClsV (ts.map (Ty.v L)) (ts.map (Ty.val L))
  | [] => .nil
  | t :: ts => .cons t.clsV (clsVs ts)
theorem z_isiT {p tp : Pos} {kk : Nat} {ts : List Ty} (F : IsF L X.K) (hg : Gl X "isinstance") (hm : X.mg "isinstance" = none) (hs : notStar a = true) (ht : tyTop ts L.nc = true) (hl : decide (ts.length ≤ 20) = true) (ha : PE X a (tE L X.K W ra)) (hb : PA X es (tK (ts.map (Ty.v L)))) :
    PE X (.Call (.Name "isinstance" p) [a, .Tuple es kk tp] [] pos) (tE L X.K W fun ρ S => (ra ρ S).bind fun u S1 => (R.ofO S1 (tysOk S1 u ts)).bind fun b S2 => .ok (.bl b) S2) := by
  refine PE.weaken (pe_callB (call_isiT (X := X)) hg hm PyProof.Rows.boot_isinstance (pa_cons ha (pa_cons (pe_tup hb) pa_nil rfl) (star1 hs)) (by decide) (by decide) (star1 hs) rfl) fun σ H Q ⟨m, S, ρ, sr, er, out⟩ => ?_
  refine ⟨m, S, ρ, sr, er, out.bind.imp fun x H1 ⟨m1, S1, u, e1, s1, v1, out1⟩ => ?_⟩
  obtain ⟨k, hk, out2⟩ := out1.ofO
  refine ⟨?_, fun q hq => ?_⟩
  · rw [List.length_map]; exact Nat.le_trans (of_decide_eq_true hl) (by decide)
  · have e2 := ext_new (m := m1) (k := S1.n) (ho := .tup (ts.map (Ty.v L))) hq
    have s2 := s1.new (ho := .tup (ts.map (Ty.v L))) hq
    obtain ⟨ty, h1, h2⟩ := s2.ty F (v1.mono e2) (obj_in (K := X.K) v1)
    exact ⟨x, q, _, ty, _, k, rfl, upd_same, clsVs ts, h1, kitAny_of h2 ts k (tyTop_of ht) hk, OutG.here (a := U.bl k) (OutG.mono (r := .ok (U.bl k) S1) out2 e2) s2 VR.bl⟩
/-! ### defs -/
theorem OutG.wish {K : PySem.W.Frag} {σ : L2.St} {m : Nat → Addr} {H : Hp} {S : Sto} {r : R U} {Q : VK} (h : OutG L K W σ m H S relV r Q) : OutG L K (fun c d _ H => WE W σ c d H) [] m H S relV r Q := by
  cases r with
  | ok u S' => exact h
  | exc c u S' => exact h
  | bad => exact h
theorem z_call {k np : Nat} {f : Addr} {fd : FuncData} {ps : List Str} {x : Str} {p : Pos} {r : List U → Sto → R U} (F : FnOk X.prog X.w X.K X.mg X.base (L2.CX X.prog X.w) k f fd ps (spZ L X.K np r)) (hr : Room k X.A) (hg : Gl X x) (hm : X.mg x = some (.ref f)) (hk : PySem.W.keepIn X.K (.ref f) = true) (hb : Binds X.K fd ps [])
    (tk : Takes X W) (hd : (x == ("__debug__" : Str)) = false) (hs : noStars (a :: es) = true) (hl : ∀ us S, us.length ≠ np → r us S = .bad) (has : PA X (a :: es) (tA L X.K W ra)) :
    PE X (.Call (.Name x p) (a :: es) [] pos) (tE L X.K W fun ρ S => (ra ρ S).bind fun v S1 => match v with
    | .tup us => r us S1
    | _ => .bad) := by
  refine PE.weaken (pe_callS F hr hg hm hk hb (fun σ => passAt tk σ) has hd (star1 (decs hs).1) (star_any (decs hs).2)) fun σ H Q ⟨m, S, ρ, sr, er, out⟩ => ?_
  refine ⟨m, S, ρ, sr, er, (OutG.bind (rel := relA) out).imp fun vs H1 ⟨m1, S1, v, e1, s1, v1, out1⟩ => ?_⟩
  obtain ⟨us, rfl, q⟩ := v1
  refine ⟨m1, S1, us, s1, q, ?_, out1.wish⟩
  by_cases h : us.length = np
  · exact h
  · have out1 : OutG L X.K W σ m1 H1 S1 relV (r us S1) Q := out1
    rw [hl us S1 h] at out1
    exact out1.elim
end
end Z

/-! ## ZLoop -/
set_option Elab.async false
set_option linter.all false
set_option maxRecDepth 100000
/-! Z: what is walked; for, while. -/
namespace Z
open PySem Spec L2 PyProof.Rows

theorem PI.weaken {X : Cx} {tg it : Expr} {t t' : TI} (h : PI X tg it t) (w : ∀ σ H R, t' σ H R → t σ H R) : PI X tg it t' := ⟨fun pins s σ H R I q => h.run pins s σ H R I (w σ H R q)⟩
theorem PI.or {X : Cx} {tg it : Expr} {t t' : TI} (h : PI X tg it t) (h' : PI X tg it t') : PI X tg it (fun σ H R => t σ H R ∨ t' σ H R) := ⟨fun pins s σ H R I q => q.elim (h.run pins s σ H R I) (h'.run pins s σ H R I)⟩

/-- J walks the rows that it gives, from the store S on -/
def ItOk (L : Lk) (K : PySem.W.Frag) (m0 : Nat → Addr) (H0 : Hp) (S0 : Sto) (it : Z.It) (J : L2.It) : Prop :=
  ∀ i m H S, Ext m0 H0 S0.n m H S.n → SRel L K m H S → ∀ l, it.row S = some l →
    (∀ u, l[i]? = some u → J.go i H ∧ ∀ x H', J.yld i H x H' → Ext m H S.n m H' S.n ∧ SRel L K m H' S ∧ VR m H' S.n u x) ∧ (l[i]? = none → J.stop i H)
theorem ItOk.mono {L : Lk} {K : PySem.W.Frag} {m0 m1 : Nat → Addr} {H0 H1 : Hp} {S0 S1 : Sto} {it : Z.It} {J : L2.It} (h : ItOk L K m0 H0 S0 it J) (e : Ext m0 H0 S0.n m1 H1 S1.n) : ItOk L K m1 H1 S1 it J :=
  fun i m H S e' s l hl => h i m H S (e.trans e') s l hl
def relI (L : Lk) (K : PySem.W.Frag) : (Nat → Addr) → Hp → Sto → Z.It → L2.It → Prop := fun m H S it J => ItOk L K m H S it J
def tI (L : Lk) (K : PySem.W.Frag) (W : WX) (r : Ev → Sto → R Z.It) : TI := fun σ H Q => ∃ m S ρ, SRel L K m H S ∧ ER m H S.n σ ρ ∧ OutG L K W σ m H S (relI L K) (r ρ S) Q
section
variable {L : Lk} {K : PySem.W.Frag} {m : Nat → Addr} {H : Hp} {S : Sto}
theorem VRs.val {k : Nat} {us : List U} {xs : List V} {i : Nat} {u : U} {x : V} (h : VRs m H k us xs) (e : us[i]? = some u) (e2 : xs[i]? = some x) : VR m H k u x := by
  obtain ⟨v, h1, h2⟩ := h.get e
  rw [e2] at h1
  cases h1
  exact h2
theorem itOk_tup {a : Addr} {xs : List V} {l : List U} (ha : H a = some (.tup xs)) (q : VRs m H S.n l xs) : ItOk L K m H S (.st l) (Itt K a) := by
  intro i m1 H1 S1 e s l' hl
  obtain rfl : l = l' := Option.some.inj hl
  have h1 : SqT K H1 a xs := SqT.of (e.tup _ _ ha)
  have q1 := q.mono e
  refine ⟨fun u hu => ?_, fun hn => ⟨xs, h1, q1.none_at hn⟩⟩
  obtain ⟨x, hx, _⟩ := q1.get hu
  refine ⟨⟨xs, x, h1, hx⟩, fun y H' hy => ?_⟩
  obtain ⟨rfl, hy⟩ := hy
  exact ⟨Ext.refl, s, q1.val hu (hy xs h1)⟩
theorem itOk_raw {D : Addr} {xs : List V} {l : List U} (s0 : SRel L K m H S) (hD : H D = some (.lst xs)) (q : VRs m H S.n l xs) (hf : Free m S D) : ItOk L K m H S (.st l) (Itl K D) := by
  intro i m1 H1 S1 e s l' hl
  obtain rfl : l = l' := Option.some.inj hl
  have h1 : SqL K H1 D xs := SqL.of (e.keep _ _ (s0.apart hf) hD)
  have q1 := q.mono e
  refine ⟨fun u hu => ?_, fun hn => ⟨xs, h1, q1.none_at hn⟩⟩
  obtain ⟨x, hx, _⟩ := q1.get hu
  refine ⟨⟨xs, x, h1, hx⟩, fun y H' hy => ?_⟩
  obtain ⟨rfl, hy⟩ := hy
  exact ⟨Ext.refl, s, q1.val hu (hy xs h1)⟩
theorem SRel.rowL (s : SRel L K m H S) {k : Nat} {l : List U} (h : rowU S (.obj k) = some l) : ∃ xs, SqL K H (m k) xs ∧ VRs m H S.n l xs := by
  have h' : (match S.get k with
    | some (.lst l) => some l
    | some (.ro l) => some l
    | _ => none) = some l := h
  cases e : S.get k with
  | none => rw [e] at h'; cases h'
  | some o =>
    rw [e] at h'
    cases o with
    | lst l' =>
      obtain rfl : l' = l := Option.some.inj h'
      obtain ⟨xs, h1, q⟩ := s.obj k _ e
      exact ⟨xs, SqL.of h1, q⟩
    | ro l' =>
      obtain rfl : l' = l := Option.some.inj h'
      obtain ⟨xs, h1, q⟩ := s.obj k _ e
      exact ⟨xs, roL h1, q⟩
    | _ => cases h'
theorem itOk_lv {k : Nat} (hk : k < S.n) : ItOk L K m H S (.lv k) (Itl K (m k)) := by
  intro i m1 H1 S1 e s l hl
  obtain ⟨xs, h1, q1⟩ := s.rowL hl
  rw [e.same k hk] at h1
  refine ⟨fun u hu => ?_, fun hn => ⟨xs, h1, q1.none_at hn⟩⟩
  obtain ⟨x, hx, _⟩ := q1.get hu
  refine ⟨⟨xs, x, h1, hx⟩, fun y H' hy => ?_⟩
  obtain ⟨rfl, hy⟩ := hy
  exact ⟨Ext.refl, s, q1.val hu (hy xs h1)⟩
theorem intsU_get (lo : Int) (n i : Nat) : (intsU lo n)[i]? = if i < n then some (.int (lo + i)) else none := by
  unfold intsU
  rw [List.getElem?_map]
  by_cases h : i < n
  · rw [if_pos h, List.getElem?_range h]; rfl
  · rw [if_neg h, List.getElem?_eq_none (by rw [List.length_range]; omega)]; rfl
theorem itOk_rng (lo : Int) (n : Nat) : ItOk L K m H S (.st (intsU lo n)) (Itr lo n) := by
  intro i m1 H1 S1 e s l hl
  obtain rfl : intsU lo n = l := Option.some.inj hl
  rw [intsU_get]
  refine ⟨fun u hu => ?_, fun hn => ?_⟩
  · split at hu
    · rename_i hi
      cases hu
      refine ⟨hi, fun x H' hy => ?_⟩
      obtain ⟨rfl, rfl⟩ := hy
      exact ⟨Ext.refl, s, VR.int⟩
    · cases hu
  · split at hn
    · cases hn
    · rename_i hi
      exact Nat.not_lt.mp hi
end
section
variable {X : Cx} {L : Lk} {W : WX} {a b c tg : Expr} {pos : Pos} {ra rb rc : Ev → Sto → R U} {es : List Expr}
def evI (k : ItK) (r : Ev → Sto → R U) : Ev → Sto → R Z.It := fun ρ S => (r ρ S).bind fun u S1 => R.ofO S1 (mkIt S1 k u)
theorem i_seq (ha : PE X a (tE L X.K W ra)) : PI X tg a (tI L X.K W (evI .seq ra)) := by
  refine PI.weaken (PI.or (pi_list ha) (pi_tup ha)) fun σ H RR ⟨m, S, ρ, sr, er, out⟩ => ?_
  unfold evI at out
  cases e : ra ρ S with
  | bad => rw [e] at out; exact out.elim
  | exc c u S' =>
    rw [e] at out
    exact .inl ⟨m, S, ρ, sr, er, by rw [e]; exact out⟩
  | ok u S1 =>
    rw [e, R.bind_ok] at out
    obtain ⟨it, hit, out⟩ := out.ofO1
    cases u with
    | tup l =>
      obtain rfl : Z.It.st l = it := Option.some.inj hit
      refine .inr ⟨m, S, ρ, sr, er, ?_⟩
      rw [e]
      intro m1 H1 x e1 s1 v1
      obtain ⟨p, xs, rfl, hp, q⟩ := v1.of_tup
      exact ⟨p, rfl, ⟨xs, SqT.of hp⟩, out m1 H1 _ e1 s1 (itOk_tup hp q)⟩
    | obj k =>
      have hit' : (match S1.get k with
        | some (.lst _) => some (Z.It.lv k)
        | some (.ro _) => some (Z.It.lv k)
        | _ => none) = some it := hit
      have fin : ∀ l, rowU S1 (.obj k) = some l → Z.It.lv k = it → (iList X.K (tE L X.K W ra) σ H RR ∨ iTup X.K (tE L X.K W ra) σ H RR) := fun l hl hi => by
        subst hi
        refine .inl ⟨m, S, ρ, sr, er, ?_⟩
        rw [e]
        intro m1 H1 x e1 s1 v1
        obtain ⟨hk, rfl⟩ := v1
        obtain ⟨xs, h1, q⟩ := s1.rowL hl
        exact ⟨_, rfl, ⟨xs, h1⟩, out m1 H1 _ e1 s1 (itOk_lv hk)⟩
      cases e2 : S1.get k with
      | none => rw [e2] at hit'; cases hit'
      | some o =>
        rw [e2] at hit'
        cases o with
        | lst l => exact fin l (by show (match S1.get k with | some (.lst l) => some l | some (.ro l) => some l | _ => none) = _; rw [e2]) (Option.some.inj hit')
        | ro l => exact fin l (by show (match S1.get k with | some (.lst l) => some l | some (.ro l) => some l | _ => none) = _; rw [e2]) (Option.some.inj hit')
        | _ => cases hit'
    | _ => cases hit
theorem i_raw (ha : PE X a (tR L X.K W ra)) : PI X tg a (tI L X.K W (evI .raw ra)) := by
  refine PI.weaken (pi_list ha) fun σ H RR ⟨m, S, ρ, sr, er, out⟩ => ?_
  refine ⟨m, S, ρ, sr, er, ?_⟩
  unfold evI at out
  cases e : ra ρ S with
  | bad => rw [e] at out; exact out.elim
  | exc c u S' => rw [e] at out; exact out
  | ok u S1 =>
    rw [e, R.bind_ok] at out
    obtain ⟨it, hit, out⟩ := out.ofO1
    intro m1 H1 x e1 s1 ⟨us, D, xs, hu, hx, hD, q, hf, h0⟩
    subst hu hx
    obtain rfl : Z.It.st us = it := Option.some.inj hit
    exact ⟨D, rfl, ⟨xs, SqL.of hD⟩, out m1 H1 _ e1 s1 (itOk_raw s1 hD q hf)⟩
theorem mid_ok {i : Int} (h : mid i = true) : -(2 ^ 62) ≤ i ∧ i < 2 ^ 62 := by
  obtain ⟨h1, h2⟩ := decs (show (decide (-(2 ^ 62) ≤ i) && decide (i < 2 ^ 62)) = true from h)
  exact ⟨of_decide_eq_true h1, of_decide_eq_true h2⟩
theorem i_rng1 {p : Pos} (hg : Gl X "range") (hm : X.mg "range" = none) (hs : noStars [a] = true) (ha : PA X [a] (tA L X.K W ra)) : PI X tg (.Call (.Name "range" p) [a] [] pos) (tI L X.K W (evI .rng1 ra)) := by
  refine PI.weaken (pi_range1 hg hm ha (star1 (decs hs).1)) fun σ H RR ⟨m, S, ρ, sr, er, out⟩ => ?_
  refine ⟨m, S, ρ, sr, er, ?_⟩
  unfold evI at out
  cases e : ra ρ S with
  | bad => rw [e] at out; exact out.elim
  | exc c u S' => rw [e] at out; exact out
  | ok u S1 =>
    rw [e, R.bind_ok] at out
    obtain ⟨it, hit, out⟩ := out.ofO1
    intro m1 H1 xs e1 s1 ⟨us, hu, q⟩
    subst hu
    match us, q, hit with
    | [u], q, hit =>
      obtain ⟨x, rfl, r⟩ := q.one
      cases u with
      | int j =>
        obtain rfl : x = .int j := r
        have hit : (bif mid j then some (Z.It.st (intsU 0 j.toNat)) else none) = some it := hit
        cases hj : mid j with
        | false => rw [hj] at hit; cases hit
        | true =>
          rw [hj] at hit
          obtain rfl : Z.It.st (intsU 0 j.toNat) = it := Option.some.inj hit
          exact ⟨j, rfl, (mid_ok hj).1, (mid_ok hj).2, out m1 H1 _ e1 s1 (itOk_rng 0 _)⟩
      | _ => cases hit
    | [], q, hit => cases hit
    | _ :: _ :: _, q, hit => cases hit
theorem i_rng2 {p : Pos} (hg : Gl X "range") (hm : X.mg "range" = none) (hs : noStars [a, b] = true) (ha : PA X [a, b] (tA L X.K W ra)) : PI X tg (.Call (.Name "range" p) [a, b] [] pos) (tI L X.K W (evI .rng2 ra)) := by
  have s2 : starEach [b] X.env = [(false, eval b X.env)] := star1 (decs (decs hs).2).1
  have s1 : starEach [a, b] X.env = [(false, eval a X.env), (false, eval b X.env)] := by rw [star1 (decs hs).1, s2]
  refine PI.weaken (pi_range2 hg hm ha s1 s2) fun σ H RR ⟨m, S, ρ, sr, er, out⟩ => ?_
  refine ⟨m, S, ρ, sr, er, ?_⟩
  unfold evI at out
  cases e : ra ρ S with
  | bad => rw [e] at out; exact out.elim
  | exc c u S' => rw [e] at out; exact out
  | ok u S1 =>
    rw [e, R.bind_ok] at out
    obtain ⟨it, hit, out⟩ := out.ofO1
    intro m1 H1 xs e1 s1 ⟨us, hu, q⟩
    subst hu
    match us, q, hit with
    | [u, v], q, hit =>
      obtain ⟨x, y, rfl, r, r2⟩ := q.two
      cases u with
      | int i =>
        cases v with
        | int j =>
          obtain rfl : x = .int i := r
          obtain rfl : y = .int j := r2
          have hit : (bif mid i && mid j then some (Z.It.st (intsU i (j - i).toNat)) else none) = some it := hit
          cases hj : mid i && mid j with
          | false => rw [hj] at hit; cases hit
          | true =>
            rw [hj] at hit
            obtain rfl : Z.It.st (intsU i (j - i).toNat) = it := Option.some.inj hit
            obtain ⟨h1, h2⟩ := decs hj
            exact ⟨i, j, rfl, ⟨(mid_ok h1).1, (mid_ok h1).2, (mid_ok h2).1, (mid_ok h2).2⟩, out m1 H1 _ e1 s1 (itOk_rng i _)⟩
        | _ => cases hit
      | _ => cases hit
    | [], q, hit => cases hit
    | [_], q, hit => cases hit
    | _ :: _ :: _ :: _, q, hit => cases hit
/-! ### targets -/
def GOk (L : Lk) (K : PySem.W.Frag) (g : TG) (t : Tgt) : Prop := ∀ (u : U) (x : V) (m : Nat → Addr) (H : Hp) (k : Nat) (σ : L2.St) (ρ ρ' : Ev) (Q : L2.St → Hp → Prop), VR m H k u x → ER m H k σ ρ → t.asg u ρ = some ρ' → (∀ σ', ER m H k σ' ρ' → (∀ vs, (∀ i ∈ t.slots, i ∈ vs) → wipe σ' vs = wipe σ vs) → Q σ' H) → g x σ H Q
theorem wipe_set {σ : L2.St} {i : Nat} {x : Option V} : ∀ {vs : List Nat}, i ∈ vs → wipe (σ.set i x) vs = wipe σ vs := by
  have ins : ∀ (τ : L2.St) (i j : Nat) (x : Option V), (τ.set i x).set j none = if i = j then τ.set j none else (τ.set j none).set i x := fun τ i j x => by
    by_cases e : i = j
    · subst e; rw [if_pos rfl, List.set_set]
    · rw [if_neg e, List.set_comm _ _ e]
  have out : ∀ (vs : List Nat) (τ : L2.St), wipe (τ.set i x) vs = if i ∈ vs then wipe τ vs else (wipe τ vs).set i x := fun vs => by
    induction vs with
    | nil => intro τ; rfl
    | cons v vs ih =>
      intro τ
      show (wipe (τ.set i x) vs).set v none = _
      rw [ih]
      by_cases h : i ∈ vs
      · rw [if_pos h, if_pos (List.mem_cons_of_mem _ h)]; rfl
      · rw [if_neg h, ins]
        by_cases e : i = v
        · rw [if_pos e, if_pos (by rw [e]; exact List.mem_cons_self)]; rfl
        · rw [if_neg e, if_neg (by simp [e, h])]; rfl
  intro vs h
  rw [out, if_pos h]
theorem g_nm (i : Nat) : GOk L X.K (gName i) (.nm i) := by
  intro u x m H k σ ρ ρ' Q r er h hq
  have h' : (bif decide (i < ρ.length) then some (ρ.set i (some u)) else none) = some ρ' := h
  cases e : decide (i < ρ.length) with
  | false => rw [e] at h'; cases h'
  | true =>
    rw [e] at h'
    obtain rfl : ρ.set i (some u) = ρ' := Option.some.inj h'
    exact hq _ (er.set (of_decide_eq_true e) r) fun vs hv => wipe_set (hv i (by simp [Tgt.slots]))
/-- the names of a tuple -/
def gNms : List Nat → TGs
  | [] => gNil
  | i :: is => gCons (gName i) (gNms is)
theorem gNms_ok (m : Nat → Addr) (H : Hp) (k : Nat) : ∀ (is : List Nat) (us : List U) (xs : List V) (σ : L2.St) (ρ : Ev) (Q : L2.St → Hp → Prop), VRs m H k us xs → us.length = is.length → ER m H k σ ρ → (∀ i ∈ is, i < ρ.length) →
    (∀ σ', ER m H k σ' ((is.zip us).foldl (fun r p => r.set p.1 (some p.2)) ρ) → (∀ vs, (∀ i ∈ is, i ∈ vs) → wipe σ' vs = wipe σ vs) → Q σ' H) → gNms is xs σ H Q
  | [], us, xs, σ, ρ, Q, r, hl, er, hi, hq => by
    have : us = [] := List.length_eq_zero_iff.mp hl
    subst this
    obtain rfl : xs = [] := r
    exact ⟨rfl, hq σ er fun _ _ => rfl⟩
  | i :: is, [], xs, σ, ρ, Q, r, hl, er, hi, hq => by cases hl
  | i :: is, u :: us, xs, σ, ρ, Q, r, hl, er, hi, hq => by
    obtain ⟨y, ys, rfl, q, t⟩ := r.of_cons
    refine ⟨y, ys, rfl, gNms_ok m H k is us ys _ (ρ.set i (some u)) Q t (by simpa using hl) (er.set (hi i (by simp)) q) (fun j hj => by rw [List.length_set]; exact hi j (by simp [hj])) fun σ' e1 e2 => hq σ' e1 fun vs hv => ?_⟩
    rw [e2 vs fun j hj => hv j (by simp [hj])]
    exact wipe_set (hv i (by simp))
theorem g_tp (is : List Nat) : GOk L X.K (gTup X.K is.length (gNms is)) (.tp is) := by
  intro u x m H k σ ρ ρ' Q r er h hq
  cases u with
  | tup us =>
    have h' : (bif us.length == is.length && is.all fun i => decide (i < ρ.length) then some ((is.zip us).foldl (fun r p => r.set p.1 (some p.2)) ρ) else none) = some ρ' := h
    cases e : (us.length == is.length && is.all fun i => decide (i < ρ.length)) with
    | false => rw [e] at h'; cases h'
    | true =>
      rw [e] at h'
      obtain ⟨h1, h2⟩ := decs e
      have h1 := eq_of_beq h1
      have h2 : ∀ i ∈ is, i < ρ.length := fun i hi => of_decide_eq_true (List.all_eq_true.mp h2 i hi)
      obtain ⟨a, xs, rfl, ha, q⟩ := r.of_tup
      refine ⟨a, xs, rfl, SqT.of ha, by rw [q.length, h1], gNms_ok m H k is us xs σ ρ Q q h1 er h2 fun σ' e1 e2 => hq σ' ?_ e2⟩
      rw [← Option.some.inj h']; exact e1
  | _ => cases h
/-! ### for -/
theorem OutS.mono {K : PySem.W.Frag} {m m1 : Nat → Addr} {H H1 : Hp} {S S1 : Sto} {r : SR} {D : Ends} (h : OutS L K W m H S r D) (e : Ext m H S.n m1 H1 S1.n) : OutS L K W m1 H1 S1 r D := by
  cases r with
  | next ρ S' => exact fun m' H' σ' e' s q => h m' H' σ' (e.trans e') s q
  | brk ρ S' => exact fun m' H' σ' e' s q => h m' H' σ' (e.trans e') s q
  | cnt ρ S' => exact fun m' H' σ' e' s q => h m' H' σ' (e.trans e') s q
  | ret u S' => exact fun m' H' v e' s q => h m' H' v (e.trans e') s q
  | exc c u ρ S' => exact fun m' H' σ' d y e' s a b x => h m' H' σ' d y (e.trans e') s a b x
  | bad => exact h
theorem OutS.bind {α β : Type} {K : PySem.W.Frag} {σ : L2.St} {m : Nat → Addr} {H : Hp} {S : Sto} {rel : (Nat → Addr) → Hp → Sto → α → β → Prop} {r : R α} {ρ : Ev} {k : α → Sto → SR} {D : Ends} (h : OutS L K W m H S (r.toS ρ k) D) (er : ER m H S.n σ ρ) :
    OutG L K W σ m H S rel r fun b H1 => Mid L K m H S rel b H1 fun m1 S1 a => OutS L K W m1 H1 S1 (k a S1) D := by
  cases r with
  | ok a S1 => exact fun m1 H1 b e s q => ⟨m1, S1, a, e, s, q, OutS.mono (r := k a S1) h e⟩
  | exc c u S' => exact fun m' H' d y e s a b => h m' H' σ d y e s (er.mono e) a b
  | bad => exact h
/-- a loop's rest, as a loop over rows -/
theorem forL_G (b : U → Ev → Sto → SR) (l : List U) : ∀ (n i : Nat) (ρ : Ev) (S : Sto), l.length - i = n → i ≤ l.length → forL b (l.drop i) ρ S = forG (Z.It.st l).row b (n + 1) i ρ S
  | 0, i, ρ, S, h, hi => by
    have e : i = l.length := by omega
    subst e
    rw [List.drop_length]
    show SR.next ρ S = (match l[l.length]? with
      | none => SR.next ρ S
      | some u => _)
    rw [List.getElem?_eq_none (Nat.le_refl _)]
  | n + 1, i, ρ, S, h, hi => by
    have hlt : i < l.length := by omega
    rw [List.drop_eq_getElem_cons hlt]
    show (match b l[i] ρ S with
      | .next ρ' S' => forL b (l.drop (i + 1)) ρ' S'
      | .cnt ρ' S' => forL b (l.drop (i + 1)) ρ' S'
      | .brk ρ' S' => .next ρ' S'
      | r => r) = (match l[i]? with
      | none => SR.next ρ S
      | some u => match b u ρ S with
        | .next ρ' S' => forG (Z.It.st l).row b (n + 1) (i + 1) ρ' S'
        | .cnt ρ' S' => forG (Z.It.st l).row b (n + 1) (i + 1) ρ' S'
        | .brk ρ' S' => .next ρ' S'
        | r => r)
    rw [List.getElem?_eq_getElem hlt]
    dsimp only
    cases b l[i] ρ S with
    | next ρ' S' => exact forL_G b l n (i + 1) ρ' S' (by omega) hlt
    | cnt ρ' S' => exact forL_G b l n (i + 1) ρ' S' (by omega) hlt
    | _ => rfl
theorem forI_G (b : U → Ev → Sto → SR) (it : Z.It) (ρ : Ev) (S : Sto) : ∃ f, forI b it ρ S = forG it.row b f 0 ρ S := by
  cases it with
  | st l => exact ⟨_, forL_G b l _ 0 ρ S rfl (Nat.zero_le _)⟩
  | lv k => exact ⟨_, rfl⟩
theorem z_for {iter : Expr} {body : List Stmt} {t : Tgt} {g : TG} {k : ItK} {rs : Ev → Sto → SR} (hp : PassesOwn (model X.prog X.w) X.A X.env X.xe) (hc : X.calm = true) (hi : PI X tg iter (tI L X.K W (evI k ra))) (hg : PG X tg g) (hgo : GOk L X.K g t) (hb : PSs X body (tS L X.K W rs)) (hs : notSet iter = true) :
    PS X (.For tg iter body [] pos) (tS L X.K W fun ρ S => (ra ρ S).toS ρ fun u S1 => match mkIt S1 k u with
    | none => .bad
    | some it => forI (fun x ρ1 S2 => match t.asg x ρ1 with
      | none => .bad
      | some ρ2 => rs ρ2 S2) it ρ S1) := by
  refine ⟨fun pins s σ H D I h => (ps_for hp hc hi hg hb fun x => folded_of hs _ x).run pins s σ H D I ?_⟩
  obtain ⟨m, S, ρ, sr, er, out⟩ := h
  dsimp only at out
  refine ⟨m, S, ρ, sr, er, ?_⟩
  -- the row comes
  have hit : OutG L X.K W σ m H S (relI L X.K) (evI k ra ρ S) fun J H1 => ∃ m1 S1 it, Ext m H S.n m1 H1 S1.n ∧ SRel L X.K m1 H1 S1 ∧ ItOk L X.K m1 H1 S1 it J ∧ OutS L X.K W m1 H1 S1 (forI (fun x ρ1 S2 => match t.asg x ρ1 with
      | none => .bad
      | some ρ2 => rs ρ2 S2) it ρ S1) D := by
    unfold evI
    cases e : ra ρ S with
    | bad => rw [e] at out; exact out.elim
    | exc c u S' =>
      rw [e] at out
      exact fun m' H' d y e s a b => out m' H' σ d y e s (er.mono e) a b
    | ok u S1 =>
      rw [e] at out
      have out : OutS L X.K W m H S (match mkIt S1 k u with
        | none => .bad
        | some it => forI (fun x ρ1 S2 => match t.asg x ρ1 with
          | none => .bad
          | some ρ2 => rs ρ2 S2) it ρ S1) D := out
      rw [R.bind_ok]
      cases e2 : mkIt S1 k u with
      | none => rw [e2] at out; exact out.elim
      | some it =>
        rw [e2] at out
        exact fun m1 H1 J e1 s1 q => ⟨m1, S1, it, e1, s1, q, OutS.mono out e1⟩
  refine hit.imp fun J H1 ⟨m1, S1, it, e1, s1, q, out1⟩ => ?_
  obtain ⟨f, hf⟩ := forI_G (fun x ρ1 S2 => match t.asg x ρ1 with
      | none => .bad
      | some ρ2 => rs ρ2 S2) it ρ S1
  rw [hf] at out1
  refine ⟨fun i n σ H => ∃ m2 S2 ρ, Ext m1 H1 S1.n m2 H S2.n ∧ SRel L X.K m2 H S2 ∧ ER m2 H S2.n σ ρ ∧ OutS L X.K W m2 H S2 (forG it.row (fun x ρ1 S2 => match t.asg x ρ1 with
      | none => .bad
      | some ρ2 => rs ρ2 S2) n i ρ S2) D, ⟨f, m1, S1, ρ, Ext.refl, s1, er.mono e1, out1⟩, ?_⟩
  rintro i n σ2 H2 ⟨m2, S2, ρ2, e2, s2, er2, out2⟩
  cases n with
  | zero => exact out2.elim
  | succ n =>
    have out2 : OutS L X.K W m2 H2 S2 (match it.row S2 with
      | none => .bad
      | some l => match l[i]? with
        | none => .next ρ2 S2
        | some u => match (match t.asg u ρ2 with
          | none => SR.bad
          | some ρ2 => rs ρ2 S2) with
          | .next ρ' S' => forG it.row (fun x ρ1 S2 => match t.asg x ρ1 with
            | none => .bad
            | some ρ2 => rs ρ2 S2) n (i + 1) ρ' S'
          | .cnt ρ' S' => forG it.row (fun x ρ1 S2 => match t.asg x ρ1 with
            | none => .bad
            | some ρ2 => rs ρ2 S2) n (i + 1) ρ' S'
          | .brk ρ' S' => .next ρ' S'
          | r => r) D := out2
    cases hr : it.row S2 with
    | none => rw [hr] at out2; exact out2.elim
    | some l =>
      rw [hr] at out2
      dsimp only at out2
      obtain ⟨g1, g2⟩ := q i m2 H2 S2 e2 s2 l hr
      cases hu : l[i]? with
      | none =>
        rw [hu] at out2
        exact .inl ⟨g2 hu, out2 m2 H2 σ2 Ext.refl s2 er2⟩
      | some u =>
        rw [hu] at out2
        dsimp only at out2
        obtain ⟨j1, j2⟩ := g1 u hu
        refine .inr ⟨j1, fun σ' H' => ∃ m3 S3 ρ3, Ext m1 H1 S1.n m3 H' S3.n ∧ SRel L X.K m3 H' S3 ∧ ER m3 H' S3.n σ' ρ3 ∧ OutS L X.K W m3 H' S3 (forG it.row (fun x ρ1 S2 => match t.asg x ρ1 with
          | none => .bad
          | some ρ2 => rs ρ2 S2) n (i + 1) ρ3 S3) D, fun σ' H' hw => ⟨n, Nat.lt_succ_self _, hw⟩, fun x H' hy => ?_⟩
        obtain ⟨e3, s3, v3⟩ := j2 x H' hy
        cases ha : t.asg u ρ2 with
        | none => rw [ha] at out2; exact out2.elim
        | some ρ3 =>
          rw [ha] at out2
          dsimp only at out2
          refine hgo u x m2 H' S2.n σ2 ρ2 ρ3 _ v3 (er2.mono e3) ha fun σ' er3 _ => ⟨m2, S2, ρ3, s3, er3, ?_⟩
          cases hb2 : rs ρ3 S2 with
          | next ρ' S' =>
            rw [hb2] at out2
            exact fun m4 H4 σ4 e4 s4 er4 => ⟨m4, S', ρ', e2.trans (e3.trans e4), s4, er4, OutS.mono out2 (e3.trans e4)⟩
          | cnt ρ' S' =>
            rw [hb2] at out2
            exact fun m4 H4 σ4 e4 s4 er4 => ⟨m4, S', ρ', e2.trans (e3.trans e4), s4, er4, OutS.mono out2 (e3.trans e4)⟩
          | brk ρ' S' =>
            rw [hb2] at out2
            exact fun m4 H4 σ4 e4 s4 er4 => out2 m4 H4 σ4 (e3.trans e4) s4 er4
          | ret u S' =>
            rw [hb2] at out2
            exact fun m4 H4 v e4 s4 r4 => out2 m4 H4 v (e3.trans e4) s4 r4
          | exc c u ρ' S' =>
            rw [hb2] at out2
            exact fun m4 H4 σ4 d y e4 s4 er4 a b => out2 m4 H4 σ4 d y (e3.trans e4) s4 er4 a b
          | bad => rw [hb2] at out2; exact out2.elim
end
end Z

/-! ## ZStm -/
set_option Elab.async false
set_option linter.all false
set_option maxRecDepth 100000
/-! Z: statements; list comprehensions. -/
namespace Z
open PySem Spec L2 PyProof.Rows

theorem PS.weaken {X : Cx} {st : Stmt} {t t' : TS} (h : PS X st t) (w : ∀ D σ H, t' D σ H → t D σ H) : PS X st t' := ⟨fun pins s σ H D I q => h.run pins s σ H D I (w D σ H q)⟩
theorem PSs.weaken {X : Cx} {st : List Stmt} {t t' : TS} (h : PSs X st t) (w : ∀ D σ H, t' D σ H → t D σ H) : PSs X st t' := ⟨fun pins s σ H D I q => h.run pins s σ H D I (w D σ H q)⟩
section
variable {X : Cx} {L : Lk} {W : WX} {a b c tg : Expr} {pos : Pos} {ra rb rc : Ev → Sto → R U} {es : List Expr} {st : Stmt} {sts body : List Stmt} {rs rt : Ev → Sto → SR}
theorem z_whl (hp : PassesOwn (model X.prog X.w) X.A X.env X.xe) (hc : PT X c (tT L X.K W (evT rc))) (hb : PSs X body (tS L X.K W rs)) (f : Nat) :
    PS X (.While c body [] pos) (tS L X.K W fun ρ S => whileN (evT rc) rs f ρ S) := by
  refine PS.weaken (ps_while hp hc hb) fun D σ H ⟨m, S, ρ, sr, er, out⟩ => ?_
  refine ⟨fun n σ H => ∃ m S ρ, SRel L X.K m H S ∧ ER m H S.n σ ρ ∧ OutS L X.K W m H S (whileN (evT rc) rs n ρ S) D, ⟨f, m, S, ρ, sr, er, out⟩, ?_⟩
  rintro n σ H ⟨m, S, ρ, sr, er, out⟩
  refine ⟨m, S, ρ, sr, er, ?_⟩
  cases n with
  | zero => exact out.elim
  | succ n =>
    have out : OutS L X.K W m H S (match evT rc ρ S with
      | .bad => .bad
      | .exc x u S' => .exc x u ρ S'
      | .ok false S' => .next ρ S'
      | .ok true S' => match rs ρ S' with
        | .next ρ' S'' => whileN (evT rc) rs n ρ' S''
        | .cnt ρ' S'' => whileN (evT rc) rs n ρ' S''
        | .brk ρ' S'' => .next ρ' S''
        | r => r) D := out
    cases e : evT rc ρ S with
    | bad => rw [e] at out; exact out.elim
    | exc x u S' =>
      rw [e] at out
      exact fun m' H' d y e s a b => out m' H' σ d y e s (er.mono e) a b
    | ok k S1 =>
      rw [e] at out
      intro m1 H1 k' e1 s1 hk
      obtain rfl : k = k' := hk
      cases k with
      | false => exact iteF (out m1 H1 σ e1 s1 (er.mono e1))
      | true =>
        refine iteT ⟨fun σ' H' => ∃ m S ρ, SRel L X.K m H' S ∧ ER m H' S.n σ' ρ ∧ OutS L X.K W m H' S (whileN (evT rc) rs n ρ S) D, fun σ' H' hw => ⟨n, Nat.lt_succ_self _, hw⟩, m1, S1, ρ, s1, er.mono e1, ?_⟩
        dsimp only at out
        cases e2 : rs ρ S1 with
        | next ρ' S' =>
          rw [e2] at out
          exact fun m4 H4 σ4 e4 s4 er4 => ⟨m4, S', ρ', s4, er4, OutS.mono out (e1.trans e4)⟩
        | cnt ρ' S' =>
          rw [e2] at out
          exact fun m4 H4 σ4 e4 s4 er4 => ⟨m4, S', ρ', s4, er4, OutS.mono out (e1.trans e4)⟩
        | brk ρ' S' =>
          rw [e2] at out
          exact fun m4 H4 σ4 e4 s4 er4 => out m4 H4 σ4 (e1.trans e4) s4 er4
        | ret u S' =>
          rw [e2] at out
          exact fun m4 H4 v e4 s4 r4 => out m4 H4 v (e1.trans e4) s4 r4
        | exc c u ρ' S' =>
          rw [e2] at out
          exact fun m4 H4 σ4 d y e4 s4 er4 a b => out m4 H4 σ4 d y (e1.trans e4) s4 er4 a b
        | bad => rw [e2] at out; exact out.elim
/-! ### small statements -/
theorem z_skip : PSs X [] (tS L X.K W fun ρ S => .next ρ S) := PSs.weaken pss_nil fun D σ H ⟨m, S, ρ, sr, er, out⟩ => out m H σ Ext.refl sr er
theorem z_pass : PS X (.Pass pos) (tS L X.K W fun ρ S => .next ρ S) := PS.weaken ps_pass fun D σ H ⟨m, S, ρ, sr, er, out⟩ => out m H σ Ext.refl sr er
theorem z_brk : PS X (.Break pos) (tS L X.K W fun ρ S => .brk ρ S) := PS.weaken ps_break fun D σ H ⟨m, S, ρ, sr, er, out⟩ => out m H σ Ext.refl sr er
theorem z_cnt : PS X (.Continue pos) (tS L X.K W fun ρ S => .cnt ρ S) := PS.weaken ps_continue fun D σ H ⟨m, S, ρ, sr, er, out⟩ => out m H σ Ext.refl sr er
theorem z_seq (h1 : PS X st (tS L X.K W rs)) (h2 : PSs X sts (tS L X.K W rt)) : PSs X (st :: sts) (tS L X.K W fun ρ S => match rs ρ S with
    | .next ρ' S' => rt ρ' S'
    | r => r) := by
  refine PSs.weaken (pss_cons h1 h2) fun D σ H ⟨m, S, ρ, sr, er, out⟩ => ⟨m, S, ρ, sr, er, ?_⟩
  dsimp only at out
  cases e : rs ρ S with
  | next ρ' S' =>
    rw [e] at out
    exact fun m1 H1 σ1 e1 s1 er1 => ⟨m1, S', ρ', s1, er1, OutS.mono out e1⟩
  | _ => rw [e] at out; exact out
theorem z_one (h1 : PS X st (tS L X.K W rs)) : PSs X [st] (tS L X.K W rs) := PSs.weaken (pss_one h1) fun _ _ _ h => h
theorem z_ex (hs : notComp a = true) (ha : PE X a (tE L X.K W ra)) : PS X (.Expr a pos) (tS L X.K W fun ρ S => (ra ρ S).toS ρ fun _ S1 => .next ρ S1) :=
  PS.weaken (ps_expr ha (swaps_of hs _ _ _)) fun D σ H ⟨m, S, ρ, sr, er, out⟩ => ⟨m, S, ρ, sr, er, (OutS.bind out er).imp fun x H1 ⟨m1, S1, u, e1, s1, v1, out1⟩ => out1 m1 H1 σ Ext.refl s1 (er.mono e1)⟩
theorem z_ret (ha : PE X a (tE L X.K W ra)) : PS X (.Return (some a) pos) (tS L X.K W fun ρ S => (ra ρ S).toS ρ fun u S1 => .ret u S1) :=
  PS.weaken (ps_ret ha) fun D σ H ⟨m, S, ρ, sr, er, out⟩ => ⟨m, S, ρ, sr, er, (OutS.bind out er).imp fun x H1 ⟨m1, S1, u, e1, s1, v1, out1⟩ => out1 m1 H1 x Ext.refl s1 v1⟩
theorem z_retN : PS X (.Return none pos) (tS L X.K W fun _ S => .ret .non S) :=
  PS.weaken ps_retN fun D σ H ⟨m, S, ρ, sr, er, out⟩ => out m H .non Ext.refl sr VR.non
theorem z_ifs {sa sb : List Stmt} (hc : PT X c (tT L X.K W (evT rc))) (ha : PSs X sa (tS L X.K W rs)) (hb : PSs X sb (tS L X.K W rt)) :
    PS X (.If c sa sb pos) (tS L X.K W fun ρ S => (evT rc ρ S).toS ρ fun k S1 => match k with
    | true => rs ρ S1
    | false => rt ρ S1) :=
  PS.weaken (ps_if hc ha hb) fun D σ H ⟨m, S, ρ, sr, er, out⟩ => ⟨m, S, ρ, sr, er, (OutS.bind (rel := relB) out er).imp fun k H1 ⟨m1, S1, k', e1, s1, v1, out1⟩ => by
    obtain rfl : k' = k := v1
    cases k' with
    | true => exact iteT ⟨m1, S1, ρ, s1, er.mono e1, out1⟩
    | false => exact iteF ⟨m1, S1, ρ, s1, er.mono e1, out1⟩⟩
theorem z_asg_step {t : Tgt} {g : TG} (hg : GOk L X.K g t) {D : Ends} {σ : L2.St} {H : Hp} {te : TE} (ht : tE L X.K W ra = te) (h : tS L X.K W (fun ρ S => (ra ρ S).toS ρ fun u S1 => match t.asg u ρ with
      | some ρ' => .next ρ' S1
      | none => .bad) D σ H) : tAsg te g D σ H := by
  subst ht
  obtain ⟨m, S, ρ, sr, er, out⟩ := h
  refine ⟨m, S, ρ, sr, er, (OutS.bind out er).imp fun x H1 ⟨m1, S1, u, e1, s1, v1, out1⟩ => ?_⟩
  dsimp only at out1
  cases e : t.asg u ρ with
  | none => rw [e] at out1; exact out1.elim
  | some ρ' =>
    rw [e] at out1
    exact hg u x m1 H1 S1.n σ ρ ρ' _ v1 (er.mono e1) e fun σ' er' _ => out1 m1 H1 σ' Ext.refl s1 er'
def plainTgt : Expr → Bool
  | .Name _ _ => true
  | .Tuple _ _ _ => true
  | _ => false
theorem each1 {e : Expr} {env : Env} (h : plainTgt e = true) : (assignEach [e] env).map (·.2) = [assign e env] := by
  cases e <;> first | rfl | cases h
def notTuple : Expr → Bool
  | .Tuple _ _ _ => false
  | _ => true
theorem unswapped {tg e : Expr} {env : Env} (h : notTuple e = true) : swappedStores [tg] e env = pure none := by
  cases tg <;> cases e <;> first | rfl | cases h
theorem swapSole {tg e : Expr} {n : Nat} {env : Env} (h : notComp e = true) : swapsWithSole [tg] e n env = pure false := swaps_of h _ _ _
theorem z_asg {t : Tgt} {g : TG} (ht : plainTgt tg = true) (h1 : notComp a = true) (h2 : (notTuple a || notTuple tg) = true) (hg : PG X tg g) (hgo : GOk L X.K g t) (ha : PE X a (tE L X.K W ra)) :
    PS X (.Assign [tg] a pos) (tS L X.K W fun ρ S => (ra ρ S).toS ρ fun u S1 => match t.asg u ρ with
      | some ρ' => .next ρ' S1
      | none => .bad) := by
  have hw : swappedStores [tg] a X.env = pure none := by
    rcases Bool.or_eq_true_iff.mp h2 with h | h
    · exact unswapped h
    · cases tg with
      | Name x p => cases a <;> rfl
      | Tuple es k p => cases h
      | _ => cases ht
  exact PS.weaken (ps_asg ha hg (swapSole h1) hw (each1 ht)) fun D σ H h => z_asg_step hgo rfl h
theorem z_seti {o i : Expr} {p2 : Pos} (h1 : notComp a = true) (h2 : notSlice i = true) (ho : PE X o (tE L X.K W ra)) (hi : PE X i (tE L X.K W rb)) (ha : PE X a (tE L X.K W rc)) :
    PS X (.Assign [.Subscript o i p2] a pos) (tS L X.K W fun ρ S => (rc ρ S).toS ρ fun u S1 => (ra ρ S1).toS ρ fun v S2 => (rb ρ S2).toS ρ fun w S3 => match v, w with
    | .obj n, .int j => match S3.get n with
      | some (.lst l) => match L2.ixN l.length j with
        | some p => .next ρ (S3.put n (.lst (l.set p u)))
        | none => .bad
      | _ => .bad
    | _, _ => .bad) := by
  have hset : ∀ v, assign (.Subscript o i p2) X.env v = (do
      let ov ← holding [v] (eval o X.env)
      let iv ← holding [v, ov] (eval i X.env)
      standAt p2
      holding [v, ov, iv] (setItem ov iv v)
      release [v, ov, iv] []) := fun v => by
    cases i <;> first | rfl | cases h2
  refine PS.weaken (ps_asg ha (pg_sub ho hi set_list hset) (swapSole h1) (by cases a <;> rfl) (by cases i <;> first | rfl | cases h2)) fun D σ H ⟨m, S, ρ, sr, er, out⟩ => ?_
  refine ⟨m, S, ρ, sr, er, (OutS.bind out er).imp fun x H1 ⟨m1, S1, u, e1, s1, v1, out1⟩ => ?_⟩
  have er1 := er.mono e1
  refine ⟨m1, S1, ρ, s1, er1, (OutS.bind out1 er1).imp fun y H2 ⟨m2, S2, v, e2, s2, v2, out2⟩ => ?_⟩
  have er2 := er1.mono e2
  refine ⟨m2, S2, ρ, s2, er2, (OutS.bind out2 er2).imp fun z H3 ⟨m3, S3, w, e3, s3, v3, out3⟩ => ?_⟩
  cases v with
  | obj n =>
    cases w with
    | int j =>
      have out3 : OutS L X.K W m3 H3 S3 (match S3.get n with
        | some (.lst l) => match L2.ixN l.length j with
          | some p => .next ρ (S3.put n (.lst (l.set p u)))
          | none => .bad
        | _ => .bad) D := out3
      obtain ⟨_, rfl⟩ := v2.mono e3
      obtain rfl : z = .int j := v3
      cases e : S3.get n with
      | none => rw [e] at out3; exact out3.elim
      | some o =>
        rw [e] at out3
        cases o with
        | lst l =>
          dsimp only at out3
          obtain ⟨xs, g1, q1⟩ := s3.lst e
          cases e5 : L2.ixN l.length j with
          | none => rw [e5] at out3; exact out3.elim
          | some p =>
            rw [e5] at out3
            refine ⟨_, xs, j, p, rfl, rfl, g1, by rw [q1.length]; exact e5, ?_⟩
            have ex := ext_put s3 e (ho := .lst (xs.set p x)) rfl
            have q2 := VRs.set ((v1.mono e2).mono e3) p q1
            have sx : SRel L X.K m3 (upd H3 (m3 n) (.lst (xs.set p x))) (S3.put n (.lst (l.set p u))) := s3.put e rfl rfl ⟨_, upd_same, q2.mono ex⟩
            have e6 : (S3.put n (.lst (l.set p u))).n = S3.n := Sto.n_put S3 n _
            exact out3 m3 _ σ (by rw [e6]; exact ex) sx (by rw [e6]; exact (er2.mono e3).mono ex)
        | _ => exact out3.elim
    | _ => exact out3.elim
  | _ => exact out3.elim
end
end Z

/-! ## ZComp -/
set_option Elab.async false
set_option linter.all false
set_option maxRecDepth 100000
/-! Z: list comprehensions. -/
namespace Z
open PySem Spec L2 PyProof.Rows

abbrev W0 : WX := fun _ _ _ _ => False
theorem takes0 {X : Cx} : Takes X W0 := fun u s' ⟨_, _, _, _, _, _, _, _, _, _, _, _, _, _, _, _, h⟩ => h.elim
theorem R.bind_eq {α β : Type} {r : R α} {k : α → Sto → R β} {b : β} {S : Sto} (h : r.bind k = .ok b S) : ∃ a S1, r = .ok a S1 ∧ k a S1 = .ok b S := by
  cases r with
  | ok a S1 => exact ⟨a, S1, rfl, h⟩
  | exc c u S1 => cases h
  | bad => cases h
theorem R.ofO_eq {α : Type} {o : Option α} {a : α} {S S' : Sto} (h : R.ofO S o = .ok a S') : o = some a ∧ S' = S := by
  cases o with
  | none => cases h
  | some b => cases h; exact ⟨rfl, rfl⟩
/-- the rest of a comprehension, as one over rows -/
theorem compL_G (b : U → Sto → R (List U)) (l : List U) : ∀ (n i : Nat) (acc : List U) (S : Sto), l.length - i = n → i ≤ l.length → compL b (l.drop i) acc S = compG (Z.It.st l).row b (n + 1) i acc S
  | 0, i, acc, S, h, hi => by
    have e : i = l.length := by omega
    subst e
    rw [List.drop_length]
    show R.ok acc S = (match l[l.length]? with
      | none => R.ok acc S
      | some u => _)
    rw [List.getElem?_eq_none (Nat.le_refl _)]
  | n + 1, i, acc, S, h, hi => by
    have hlt : i < l.length := by omega
    rw [List.drop_eq_getElem_cons hlt]
    show ((b l[i] S).bind fun x S' => compL b (l.drop (i + 1)) (acc ++ x) S') = (match l[i]? with
      | none => R.ok acc S
      | some u => (b u S).bind fun x S' => compG (Z.It.st l).row b (n + 1) (i + 1) (acc ++ x) S')
    rw [List.getElem?_eq_getElem hlt]
    dsimp only
    cases b l[i] S with
    | ok x S' => exact compL_G b l n (i + 1) (acc ++ x) S' (by omega) hlt
    | _ => rfl
theorem compI_G (b : U → Sto → R (List U)) (it : Z.It) (S : Sto) : ∃ f, compI b it S = compG it.row b f 0 [] S := by
  cases it with
  | st l => exact ⟨_, compL_G b l _ 0 [] S rfl (Nat.zero_le _)⟩
  | lv k => exact ⟨_, rfl⟩
theorem compG_len (row : Sto → Option (List U)) (b : U → Sto → R (List U)) : ∀ (n i : Nat) (acc l : List U) (S S' : Sto), compG row b n i acc S = .ok l S' → acc.length ≤ l.length
  | 0, _, _, _, _, _, h => by cases h
  | n + 1, i, acc, l, S, S', h => by
    have h : (match row S with
      | none => R.bad
      | some r => match r[i]? with
        | none => R.ok acc S
        | some u => (b u S).bind fun x S' => compG row b n (i + 1) (acc ++ x) S') = .ok l S' := h
    cases e : row S with
    | none => rw [e] at h; cases h
    | some r =>
      rw [e] at h
      dsimp only at h
      cases e2 : r[i]? with
      | none => rw [e2] at h; cases h; exact Nat.le_refl _
      | some u =>
        rw [e2] at h
        obtain ⟨x, S1, _, h3⟩ := R.bind_eq h
        have := compG_len row b n (i + 1) (acc ++ x) l S1 S' h3
        rw [List.length_append] at this
        omega
/-- one turn -/
theorem compG_step {row : Sto → Option (List U)} {b : U → Sto → R (List U)} {n i : Nat} {acc l : List U} {S S' : Sto} (h : compG row b (n + 1) i acc S = .ok l S') :
    ∃ r, row S = some r ∧ ((r[i]? = none ∧ acc = l ∧ S = S') ∨ ∃ u x S1, r[i]? = some u ∧ b u S = .ok x S1 ∧ compG row b n (i + 1) (acc ++ x) S1 = .ok l S') := by
  have h : (match row S with
    | none => R.bad
    | some r => match r[i]? with
      | none => R.ok acc S
      | some u => (b u S).bind fun x S' => compG row b n (i + 1) (acc ++ x) S') = .ok l S' := h
  cases e : row S with
  | none => rw [e] at h; cases h
  | some r =>
    rw [e] at h
    dsimp only at h
    refine ⟨r, rfl, ?_⟩
    cases e2 : r[i]? with
    | none => rw [e2] at h; cases h; exact .inl ⟨rfl, rfl, rfl⟩
    | some u =>
      rw [e2] at h
      obtain ⟨x, S1, h2, h3⟩ := R.bind_eq h
      exact .inr ⟨u, x, S1, rfl, h2, h3⟩
theorem wipe_wipe {σ : L2.St} {ws : List Nat} : ∀ {vs : List Nat}, (∀ v ∈ vs, v ∈ ws) → wipe (wipe σ vs) ws = wipe σ ws
  | [], _ => rfl
  | v :: vs, h => (wipe_set (h v (by simp))).trans (wipe_wipe fun x hx => h x (by simp [hx]))
section
variable {L : Lk} {K : PySem.W.Frag} {m m0 : Nat → Addr} {H H0 : Hp} {S : Sto} {k k0 : Nat} {D : Addr}
theorem ext_temp (e : Ext m0 H0 k0 m H k) (h0 : H0 D = none) (o : HO) : Ext m0 H0 k0 m (upd H D o) k where
  le := e.le
  same := e.same
  tup := fun b xs h => by rw [upd_ne (ne_of_none h h0)]; exact e.tup b xs h
  keep := fun b o hn h => by rw [upd_ne (ne_of_none h h0)]; exact e.keep b o hn h
  dom := fun b h => by
    by_cases hb : b = D
    · subst hb; exact absurd h0 h
    · rw [upd_ne hb]; exact e.dom b h
  fresh := e.fresh
theorem gr_temp {xs : List V} (hD : H D = some (.lst xs)) (o : HO) : Gr m H k m (upd H D o) k where
  le := Nat.le_refl _
  same := fun _ _ => rfl
  tup := fun b ys h => by
    rw [upd_ne]
    · exact h
    · intro z; rw [z, hD] at h; cases h
theorem SRel.temp (s : SRel L K m H S) {xs ys : List V} (hD : H D = some (.lst xs)) (hf : ∀ n, 0 < n → n < S.n → m n ≠ D) : SRel L K m (upd H D (.lst ys)) S where
  pos := s.pos
  mu := s.mu
  obj := fun n o h => (s.obj n o h).carry (gr_temp hD _) fun ho hh hm => by
    rw [upd_ne]
    · exact hh
    · intro z
      rcases hm with hm | ⟨ob, u, rfl⟩
      · exact hf n ((s.mu n o h).mp hm) (Sto.lt h) z
      · rw [z, hD] at hh; cases hh
  inj := s.inj
theorem apart_ext {m1 : Nat → Addr} {H1 : Hp} {k1 : Nat} (e : Ext m H k m1 H1 k1) (hD : H D ≠ none) (hf : ∀ n, 0 < n → n < k → m n ≠ D) : ∀ n, 0 < n → n < k1 → m1 n ≠ D := fun n h0 h1 z => by
  by_cases h : n < k
  · rw [e.same n h] at z; exact hf n h0 h z
  · have := e.fresh n (Nat.not_lt.mp h) h1
    rw [z] at this; exact hD this
/-- the state of a comprehension's list at D -/
structure LcAt (L : Lk) (K : PySem.W.Frag) (m0 : Nat → Addr) (H0 : Hp) (k0 : Nat) (D : Addr) (acc : List U) (m : Nat → Addr) (H : Hp) (S : Sto) : Prop where
  ext : Ext m0 H0 k0 m H S.n
  rel : SRel L K m H S
  at_ : ∃ xs, H D = some (.lst xs) ∧ VRs m H S.n acc xs
  apart : ∀ n, 0 < n → n < S.n → m n ≠ D
theorem LcAt.next {acc : List U} (a : LcAt L K m0 H0 k0 D acc m H S) {m1 : Nat → Addr} {H1 : Hp} {S1 : Sto} (e : Ext m H S.n m1 H1 S1.n) (s : SRel L K m1 H1 S1) : LcAt L K m0 H0 k0 D acc m1 H1 S1 := by
  obtain ⟨xs, h1, h2⟩ := a.at_
  exact ⟨a.ext.trans e, s, ⟨xs, e.keep _ _ a.apart h1, h2.mono e⟩, apart_ext e (by rw [h1]; simp) a.apart⟩
theorem LcAt.put {acc : List U} (a : LcAt L K m0 H0 k0 D acc m H S) (h0 : H0 D = none) {u : U} {x : V} (r : VR m H S.n u x) : ∃ xs, H D = some (.lst xs) ∧ xs.length = acc.length ∧ LcAt L K m0 H0 k0 D (acc ++ [u]) m (upd H D (.lst (xs ++ [x]))) S := by
  obtain ⟨xs, h1, h2⟩ := a.at_
  refine ⟨xs, h1, h2.length, ext_temp a.ext h0 _, a.rel.temp h1 a.apart, ⟨_, upd_same, ?_⟩, a.apart⟩
  exact (h2.append (VRs.cons r VRs.nil)).grow (gr_temp h1 _)
theorem LcAt.start (s : SRel L K m H S) (h0 : H D = none) : LcAt L K m H S.n D [] m (upd H D (.lst [])) S :=
  ⟨ext_new h0, s.new h0, ⟨[], upd_same, VRs.nil⟩, s.apart (s.free h0)⟩
theorem LcAt.relR {acc : List U} {Hb : Hp} (a : LcAt L K m0 H0 k0 D acc m H S) (hb : Hb D = none) : Z.relR Hb m H S (.tup acc) (.ref D) := by
  obtain ⟨xs, h1, h2⟩ := a.at_
  exact ⟨acc, D, xs, rfl, rfl, h1, h2, fun n o h hm => a.apart n ((a.rel.mu n o h).mp hm) (Sto.lt h), hb⟩
end
section
variable {X : Cx} {L : Lk} {W : WX} {elt tg iter a : Expr} {ifs : List Expr} {scope : Scope} {pos : Pos} {ra rd re : Ev → Sto → R U} {t : Tgt} {g : TG} {k : ItK}
/-- a clause's test -/
theorem pts_w {X : Cx} {ifs : List Expr} {t t' : TT} (h : PTs X ifs t) (w : ∀ σ H Q, t' σ H Q → t σ H Q) : PTs X ifs t' := ⟨fun pins s σ H Q I q => h.run pins s σ H Q I (w σ H Q q)⟩
theorem z_noifs {X : Cx} {K : PySem.W.Frag} : PTs X [] (tT L K W (evT fun _ S => .ok (.bl true) S)) :=
  pts_w pts_nil fun σ H Q ⟨m, S, ρ, sr, er, out⟩ => OutG.here (a := true) (b := true) (rel := relB) out sr rfl
theorem z_if1 {X : Cx} {K : PySem.W.Frag} (h : PT X a (tT L K W (evT ra))) : PTs X [a] (tT L K W (evT ra)) := pts_one h
def cBody (t : Tgt) (ρ : Ev) (rd re : Ev → Sto → R U) : U → Sto → R (List U) := fun x S3 => match t.asg x ρ with
  | none => .bad
  | some ρ1 => (rd ρ1 S3).bind fun b S4 => (R.ofO S4 (tru S4 b)).bind fun q S5 => match q with
    | true => (re ρ1 S5).bind fun y S6 => .ok [y] S6
    | false => .ok [] S5
def evComp (k : ItK) (t : Tgt) (ra rd re : Ev → Sto → R U) : Ev → Sto → R U := fun ρ S => (ra ρ S).bind fun u S1 => (R.ofO S1 (mkIt S1 k u)).bind fun it S2 => (compI (cBody t (wipeE ρ t.slots) rd re) it S2).calm.bind fun l S7 => bif decide (l.length ≤ sizeLine) then .ok (.tup l) S7 else .bad
theorem cBody_eq {ρ : Ev} {u : U} {S S' : Sto} {x : List U} (h : cBody t ρ rd re u S = .ok x S') :
    ∃ ρ1 q S4, t.asg u ρ = some ρ1 ∧ evT rd ρ1 S = .ok q S4 ∧ ((q = true ∧ ∃ y, re ρ1 S4 = .ok y S' ∧ x = [y]) ∨ (q = false ∧ x = [] ∧ S' = S4)) := by
  unfold cBody at h
  cases e : t.asg u ρ with
  | none => rw [e] at h; cases h
  | some ρ1 =>
    rw [e] at h
    dsimp only at h
    obtain ⟨b, S4, h1, h2⟩ := R.bind_eq h
    obtain ⟨q, S5, h3, h4⟩ := R.bind_eq h2
    obtain ⟨h5, rfl⟩ := R.ofO_eq h3
    refine ⟨ρ1, q, S5, rfl, by unfold evT; rw [h1, R.bind_ok, h5]; rfl, ?_⟩
    cases q with
    | true =>
      obtain ⟨y, S6, h6, h7⟩ := R.bind_eq h4
      cases h7
      exact .inl ⟨rfl, y, h6, rfl⟩
    | false => cases h4; exact .inr ⟨rfl, rfl, rfl⟩
/-- the reading of a comprehension, from its term -/
theorem comp_step {σ : L2.St} {H : Hp} {Q : VK} (hgo : GOk L X.K g t) (h : tR L X.K W (evComp k t ra rd re) σ H Q) :
    tLc (tI L X.K W (evI k ra)) g (tT L X.K W0 (evT rd)) (tE L X.K W0 re) t.slots σ H Q := by
  obtain ⟨m, S, ρ, sr, er, out⟩ := h
  unfold evComp at out
  rw [← bind_assoc, show ((ra ρ S).bind fun u S1 => R.ofO S1 (mkIt S1 k u)) = evI k ra ρ S from rfl] at out
  refine ⟨m, S, ρ, sr, er, ?_⟩
  cases h1 : evI k ra ρ S with
  | bad => rw [h1] at out; exact out.elim
  | exc c u S' => rw [h1] at out; exact out
  | ok it S2 =>
    rw [h1, R.bind_ok] at out
    cases h2 : compI (cBody t (wipeE ρ t.slots) rd re) it S2 with
    | bad => rw [h2] at out; exact out.elim
    | exc c u S' => rw [h2] at out; exact out.elim
    | ok l S7 =>
    rw [h2] at out
    obtain ⟨hlen, out⟩ := cond_ok (α := U) (r := .ok (.tup l) S7) out
    have hlen := of_decide_eq_true hlen
    intro m1 H1 J e1 s1 hI D hD
    have h0 : H D = none := by
      cases q : H D with
      | none => rfl
      | some o => exact absurd hD (e1.dom D (by rw [q]; simp))
    obtain ⟨f, hf⟩ := compI_G (cBody t (wipeE ρ t.slots) rd re) it S2
    rw [hf] at h2
    refine ⟨fun i n Hn => ∃ m2 S3 acc, LcAt L X.K m1 H1 S2.n D acc m2 Hn S3 ∧ compG it.row (cBody t (wipeE ρ t.slots) rd re) n i acc S3 = .ok l S7, ⟨f, m1, S2, [], LcAt.start s1 hD, h2⟩, ?_⟩
    rintro i n Hn ⟨m2, S3, acc, A, hc⟩
    cases n with
    | zero => cases hc
    | succ n =>
      obtain ⟨r, hr, hs⟩ := compG_step hc
      obtain ⟨g1, g2⟩ := hI i m2 Hn S3 A.ext A.rel r hr
      rcases hs with ⟨h3, rfl, rfl⟩ | ⟨u, x, S4, h3, h4, h5⟩
      · exact .inl ⟨g2 h3, out m2 Hn _ (e1.trans A.ext) A.rel (A.relR h0)⟩
      · obtain ⟨j1, j2⟩ := g1 u h3
        refine .inr ⟨j1, fun H' => ∃ m2 S3 acc, LcAt L X.K m1 H1 S2.n D acc m2 H' S3 ∧ compG it.row (cBody t (wipeE ρ t.slots) rd re) n (i + 1) acc S3 = .ok l S7, fun H' hw => ⟨n, Nat.lt_succ_self _, hw⟩, fun v H' hy => ?_⟩
        obtain ⟨e3, s3, v3⟩ := j2 v H' hy
        have A1 := A.next e3 s3
        obtain ⟨ρ1, q, S5, h6, h7, h8⟩ := cBody_eq h4
        have er2 : ER m2 H' S3.n (wipe σ t.slots) (wipeE ρ t.slots) := ((er.mono e1).mono A1.ext).wipe _
        refine hgo u v m2 H' S3.n _ _ ρ1 _ v3 er2 h6 fun σ' er3 hw => ⟨by rw [hw t.slots fun _ h => h]; exact wipe_wipe fun _ h => h, m2, S3, ρ1, s3, er3, ?_⟩
        rw [h7]
        intro m4 H4 q' e4 s4 hq
        obtain rfl : q = q' := hq
        have A2 := A1.next e4 s4
        rcases h8 with ⟨rfl, y, h9, rfl⟩ | ⟨rfl, rfl, rfl⟩
        · refine iteT ⟨m4, S5, ρ1, s4, er3.mono e4, ?_⟩
          rw [h9]
          intro m5 H5 z e5 s5 v5
          have A3 := A2.next e5 s5
          obtain ⟨xs, hx1, hx2, A4⟩ := A3.put hD v5
          have hl := compG_len _ _ _ _ _ _ _ _ h5
          rw [List.length_append, List.length_singleton] at hl
          exact ⟨xs, hx1, by rw [hx2]; omega, m5, S4, acc ++ [y], A4, h5⟩
        · refine iteF ⟨m4, S4, acc, A2, ?_⟩
          rw [List.append_nil] at h5
          exact h5
theorem z_comp {own : List (Str × Nat)} (hc : X.calm = true) (hN : X.N.Nodup) (hi : PI X tg iter (tI L X.K W (evI k ra))) (ok : BlkOk X.N X.env.scope scope own) (hown : own.map (·.2) = t.slots) (hgo : GOk L X.K g t)
    (hg : ∀ (s : Shared) (H : Hp) (C : Addr) (cl : List (Str × Addr)) (fp : List Addr), PG (X.blk s H scope (compEnvC scope cl C X.env) fp) tg g) (ht : ∀ (s : Shared) (H : Hp) (C : Addr) (cl : List (Str × Addr)) (fp : List Addr), PTs (X.blk s H scope (compEnvC scope cl C X.env) fp) ifs (tT L X.K W0 (evT rd)))
    (he : ∀ (s : Shared) (H : Hp) (C : Addr) (cl : List (Str × Addr)) (fp : List Addr), PE (X.blk s H scope (compEnvC scope cl C X.env) fp) elt (tE L X.K W0 re)) (hs : notSet iter = true) :
    PE X (.ListComp elt [⟨tg, iter, ifs, 0⟩] scope pos) (tR L X.K W (evComp k t ra rd re)) :=
  PE.weaken (pe_lc hc hN hi ok hg ht he fun x => folded_of hs _ x) fun σ H Q h => by
    rw [hown]
    exact comp_step hgo h
end
end Z

/-! ## ZCall -/
set_option Elab.async false
set_option linter.all false
set_option maxRecDepth 100000
/-! Z: built-in calls; a name that takes a new list; comprehensions of two clauses. -/
namespace Z
open PySem Spec L2 PyProof.Rows

section
variable {X : Cx} {L : Lk} {W : WX} {a b c : Expr} {p pos : Pos} {ra rb rc : Ev → Sto → R U} {es : List Expr}
def BR.nm : BR → Str
  | .all => "all" | .any => "any" | .sum => "sum" | .tuple => "tuple"
def rBr (K : PySem.W.Frag) : BR → List V → Hp → VK → Prop
  | .all => rAll K
  | .any => rAny K
  | .sum => rSum K
  | .tuple => fun xs H Q => ∃ p ys, xs = [.ref p] ∧ ((SqL K H p ys ∧ ∀ l, H l = none → Q (.ref l) (upd H l (.tup ys))) ∨ (SqT K H p ys ∧ Q (.ref p) H))
theorem z_brA {t : TA} (b : BR) (hc : X.calm = true) (hg : Gl X b.nm) (hm : X.mg b.nm = none) (hs : notStar a = true) (ha : PA X [a] t) : PE X (.Call (.Name b.nm p) [a] [] pos) (tCB (rBr X.K b) t) := by
  cases b with
  | all => exact pe_callB (cr_all hc) hg hm PyProof.Rows.boot_all ha (by decide) (by decide) (star1 hs) rfl
  | any => exact pe_callB (cr_any hc) hg hm PyProof.Rows.boot_any ha (by decide) (by decide) (star1 hs) rfl
  | sum => exact pe_callB (cr_sum hc) hg hm PyProof.Rows.boot_sum ha (by decide) (by decide) (star1 hs) rfl
  | tuple => exact pe_callTy call_tuple_of hg hm PyProof.Rows.boot_tuple ha (by decide) (by decide) (star1 hs) rfl
theorem rBr_L {σ : L2.St} {m : Nat → Addr} {H : Hp} {S : Sto} {l : List U} {xs : List V} {a : Addr} {Q : VK} (sr : SRel L X.K m H S) (hs : SqL X.K H a xs) (q : VRs m H S.n l xs) (b : BR) (out : OutG L X.K W σ m H S relV (brow S b l) Q) : rBr X.K b [.ref a] H Q := by
  have h := brow_L sr hs q b out
  cases b with
  | all => exact h
  | any => exact h
  | sum => exact h
  | tuple => exact ⟨a, xs, rfl, .inl ⟨hs, h⟩⟩
theorem z_br (b : BR) (hc : X.calm = true) (hg : Gl X b.nm) (hm : X.mg b.nm = none) (hs : notStar a = true) (ha : PE X a (tR L X.K W ra)) : PE X (.Call (.Name b.nm p) [a] [] pos) (tE L X.K W fun ρ S => (ra ρ S).bind fun v S1 => match v with
    | .tup us => brow S1 b us
    | _ => .bad) := by
  refine PE.weaken (z_brA b hc hg hm hs (pa_cons ha pa_nil (star1 hs))) fun σ H Q ⟨m, S, ρ, sr, er, out⟩ => ?_
  refine ⟨m, S, ρ, sr, er, (OutG.bind (rel := relR H) out).imp fun x H1 ⟨m1, S1, v, e1, s1, v1, out1⟩ => ?_⟩
  obtain ⟨us, D, xs, rfl, rfl, hD, q, hf, h0⟩ := v1
  exact rBr_L s1 (SqL.of hD) q b out1
theorem z_bv (b : BR) (hc : X.calm = true) (hg : Gl X b.nm) (hm : X.mg b.nm = none) (hs : notStar a = true) (ha : PE X a (tE L X.K W ra)) : PE X (.Call (.Name b.nm p) [a] [] pos) (tE L X.K W fun ρ S => (ra ρ S).bind fun v S1 => (R.ofO S1 (rowB S1 b v)).bind fun l S2 => brow S2 b l) := by
  refine PE.weaken (z_brA b hc hg hm hs (pa_cons ha pa_nil (star1 hs))) fun σ H Q ⟨m, S, ρ, sr, er, out⟩ => ?_
  refine ⟨m, S, ρ, sr, er, out.bind.imp fun x H1 ⟨m1, S1, v, e1, s1, v1, out1⟩ => ?_⟩
  obtain ⟨l, hl, out2⟩ := out1.ofO
  cases v with
  | obj k =>
    have hl' : rowU S1 (.obj k) = some l := by cases b <;> exact hl
    obtain ⟨_, rfl⟩ := v1
    obtain ⟨xs, h1, q⟩ := s1.rowL hl'
    exact rBr_L s1 h1 q b out2
  | tup us =>
    cases b with
    | tuple =>
      obtain rfl : us = l := Option.some.inj hl
      obtain ⟨q, xs, rfl, hq, r⟩ := v1.of_tup
      exact ⟨q, xs, rfl, .inr ⟨SqT.of hq, OutG.here (a := U.tup us) out2 s1 (VR.tup hq r)⟩⟩
    | _ => cases hl
  | _ => cases b <;> cases hl
def BF.nm : BF → Str
  | .len => "len" | .int => "int" | .max2 => "max" | .min2 => "min"
theorem z_bf (f : BF) (hc : X.calm = true) (hg : Gl X f.nm) (hm : X.mg f.nm = none) (hs : noStars (a :: es) = true) (ha : PA X (a :: es) (tA L X.K W ra)) : PE X (.Call (.Name f.nm p) (a :: es) [] pos) (tE L X.K W fun ρ S => (ra ρ S).bind fun v S1 => match v with
    | .tup us => bfn S1 f us
    | _ => .bad) := by
  have h : PE X (.Call (.Name f.nm p) (a :: es) [] pos) (tCB (rF L X.K W fun S us => bfn S f us) (tA L X.K W ra)) := by
    cases f with
    | len => exact pe_callB c_len hg hm PySem.boot_len ha (by decide) (by decide) (star1 (decs hs).1) (star_any (decs hs).2)
    | int => exact pe_callTy c_int hg hm PyProof.Rows.boot_int ha (by decide) (by decide) (star1 (decs hs).1) (star_any (decs hs).2)
    | max2 => exact pe_callB (c_max2 hc) hg hm PyProof.Rows.boot_max ha (by decide) (by decide) (star1 (decs hs).1) (star_any (decs hs).2)
    | min2 => exact pe_callB (c_min2 hc) hg hm PyProof.Rows.boot_min ha (by decide) (by decide) (star1 (decs hs).1) (star_any (decs hs).2)
  refine PE.weaken h fun σ H Q ⟨m, S, ρ, sr, er, out⟩ => ?_
  refine ⟨m, S, ρ, sr, er, (OutG.bind (rel := relA) out).imp fun vs H1 ⟨m1, S1, v, e1, s1, v1, out1⟩ => ?_⟩
  obtain ⟨us, rfl, q⟩ := v1
  exact ⟨σ, m1, S1, us, s1, q, out1⟩
/-! ### y = [..] where y takes the list itself -/
theorem adoptS {te : TE} {i : Nat} {D : Ends} {σ : L2.St} {H : Hp} (ht : ∀ σ H Q, tR L X.K W ra σ H Q → te σ H Q) (h : tS L X.K W (fun ρ S => ((ra ρ S).bind fun v S1 => match v with
      | .tup l => .ok (.obj S1.n) (S1.alloc (.lst l))
      | _ => .bad).toS ρ fun u S1 => match (Tgt.nm i).asg u ρ with
      | some ρ' => .next ρ' S1
      | none => .bad) D σ H) : tAsg te (gName i) D σ H := by
  obtain ⟨m, S, ρ, sr, er, out⟩ := h
  dsimp only at out
  refine ht _ _ _ ⟨m, S, ρ, sr, er, ?_⟩
  cases e : ra ρ S with
  | bad => rw [e] at out; exact out.elim
  | exc c u S' =>
    rw [e] at out
    exact fun m' H' d y e1 s1 v1 x1 => out m' H' σ d y e1 s1 (er.mono e1) v1 x1
  | ok v S1 =>
    rw [e, R.bind_ok] at out
    intro m1 H1 x e1 s1 v1
    obtain ⟨us, p, xs, rfl, rfl, hD, q, hf, h0⟩ := v1
    dsimp only [R.toS] at out
    cases e2 : (Tgt.nm i).asg (.obj S1.n) ρ with
    | none => rw [e2] at out; exact out.elim
    | some ρ' =>
      rw [e2] at out
      have e3 := ext_adopt e1 h0
      have s3 := s1.adopt hD q hf
      refine g_nm (X := X) (L := L) i (.obj S1.n) (.ref p) (mput m1 S1.n p) H1 (S1.n + 1) σ ρ ρ' _ ⟨Nat.lt_succ_self _, by rw [mput_same]⟩ (er.mono e3) e2 fun σ' er' _ => ?_
      exact out _ H1 σ' e3 s3 er'
theorem z_setLc {y : Str} {py spos : Pos} {i : Nat} {elt tg iter : Expr} {ifs : List Expr} {scope : Scope} {rd re : Ev → Sto → R U} {t : Tgt} {g : TG} {k : ItK} {own : List (Str × Nat)} (hc : X.calm = true) (hN : X.N.Nodup) (hy : X.N[i]? = some y) (hyl : X.env.scope.names.lookup y = some .local) (hk : X.env.scope.kind = .function)
    (hl : (py.line == pos.line) = true) (hany : (scope.names.any fun (n, k) => n == y && (k == .local || k == .cell)) = false) (hi : PI X tg iter (tI L X.K W (evI k ra))) (ok : BlkOk X.N X.env.scope scope own) (hown : own.map (·.2) = t.slots) (hgo : GOk L X.K g t)
    (hg : ∀ (s : Shared) (H : Hp) (C : Addr) (cl : List (Str × Addr)) (fp : List Addr), PG (X.blk s H scope (compEnvC scope cl C X.env) fp) tg g) (ht : ∀ (s : Shared) (H : Hp) (C : Addr) (cl : List (Str × Addr)) (fp : List Addr), PTs (X.blk s H scope (compEnvC scope cl C X.env) fp) ifs (tT L X.K W0 (evT rd)))
    (he : ∀ (s : Shared) (H : Hp) (C : Addr) (cl : List (Str × Addr)) (fp : List Addr), PE (X.blk s H scope (compEnvC scope cl C X.env) fp) elt (tE L X.K W0 re)) (hs : notSet iter = true) :
    PS X (.Assign [.Name y py] (.ListComp elt [⟨tg, iter, ifs, 0⟩] scope pos) spos) (tS L X.K W (fun ρ S => ((evComp k t ra rd re ρ S).bind fun v S1 => match v with
      | .tup l => .ok (.obj S1.n) (S1.alloc (.lst l))
      | _ => .bad).toS ρ fun u S1 => match (Tgt.nm i).asg u ρ with
      | some ρ' => .next ρ' S1
      | none => .bad)) :=
  PS.weaken (ps_setLc hc hN hy hyl (sw_true hk hyl hl hany) hi ok hg ht he fun x => folded_of hs _ x) fun D σ H h => adoptS (fun σ H Q h => by
    rw [hown]
    exact comp_step hgo h) h
end
end Z

/-! ## ZChk -/
set_option Elab.async false
set_option linter.all false
set_option maxRecDepth 100000
/-! Z: the checker of expressions: this text, that term. -/
namespace Z
open PySem Spec L2 PyProof.Rows

inductive GV where
  | fn (i : Nat) | cls (c : Nat) | exc (c : Nat) | val (u : U)
structure GT where
  glb : List (Str × GV)
  fre : List Str
structure CK where
  E : Scope → Expr → CE → Bool
  T : Scope → Expr → CE → Bool
  W : Scope → Expr → CE → Bool
  A : Scope → List Expr → CE → Bool
  R : Scope → Expr → CE → Bool
  I : Scope → Expr → ItK → CE → Bool
/-! ### names -/
def isG (sc : Scope) (x : Str) : Bool := decide (sc.names.lookup x = some .globalImplicit)
def isB (G : GT) (sc : Scope) (x : Str) : Bool := isG sc x && decide (x ∈ G.fre)
def visB (sc : Scope) (x : Str) : Bool := match sc.names.lookup x with
  | some .local => true
  | some .cell => true
  | some .free => true
  | _ => false
theorem vis_ok {sc : Scope} {x : Str} (h : visB sc x = true) : Vis sc x := by
  unfold visB at h
  unfold Vis
  split at h <;> simp_all
def locB (sc : Scope) (x : Str) : Bool := match sc.names.lookup x with
  | some .local => true
  | some .cell => true
  | _ => false
theorem loc_ok {sc : Scope} {x : Str} (h : locB sc x = true) : sc.names.lookup x = some .local ∨ sc.names.lookup x = some .cell := by
  unfold locB at h
  split at h <;> simp_all
def ueq : U → U → Bool
  | .non, .non => true
  | .bl a, .bl b => a == b
  | .int a, .int b => decide (a = b)
  | .str a, .str b => decide (a = b)
  | _, _ => false
def Uv : U → V
  | .bl b => .bl b
  | .int i => .int i
  | .str s => .str s
  | _ => .non
theorem ueq_ok {a b : U} (h : ueq a b = true) : a = b ∧ ∀ m H k, VR m H k b (Uv a) := by
  unfold ueq at h
  split at h
  · exact ⟨rfl, fun _ _ _ => rfl⟩
  · cases eq_of_beq h; exact ⟨rfl, fun _ _ _ => rfl⟩
  · cases of_decide_eq_true h; exact ⟨rfl, fun _ _ _ => rfl⟩
  · cases of_decide_eq_true h; exact ⟨rfl, fun _ _ _ => rfl⟩
  · cases h
/-! ### the context -/
structure FnAt (L : Lk) (X : Cx) (x : Str) (r : List U → Sto → R U) : Prop where
  ex : ∃ (k : Nat) (f : Addr) (fd : FuncData) (ps : List Str) (np : Nat), FnOk X.prog X.w X.K X.mg X.base (L2.CX X.prog X.w) k f fd ps (spZ L X.K np r) ∧ Room k X.A ∧ X.mg x = some (.ref f) ∧ PySem.W.keepIn X.K (.ref f) = true ∧ Binds X.K fd ps [] ∧ ∀ us S, us.length ≠ np → r us S = .bad
structure Gd (G : GT) (L : Lk) (c : Ora) (N : List Str) (sc : Scope) (X : Cx) (W : WX) : Prop where
  eN : X.N = N
  eS : X.env.scope = sc
  kind : sc.kind = .function
  nd : N.Nodup
  calm : X.calm = true
  un : X.A.units + 64 < cLine
  tk : Takes X W
  fre : ∀ x, x ∈ G.fre → X.mg x = none
  val : ∀ x u, G.glb.lookup x = some (.val u) → ∃ z, X.mg x = some z ∧ RelV (Uv u) z
  fn : ∀ x i, G.glb.lookup x = some (.fn i) → FnAt L X x (c i)
  cls : ∀ x i, G.glb.lookup x = some (.cls i) → X.mg x = some (.ref (L.cls i)) ∧ i < L.nc
  isf : IsF L X.K
section
variable {G : GT} {L : Lk} {Tb : Tab} {c : Ora} {N : List Str} {sc : Scope} {X : Cx} {W : WX}
theorem Gd.gl (g : Gd G L c N sc X W) {x : Str} (h : isG sc x = true) : Gl X x := by
  unfold Gl
  show X.env.scope.names.lookup x = _
  rw [g.eS]; exact of_decide_eq_true h
theorem Gd.bt (g : Gd G L c N sc X W) {x : Str} (h : isB G sc x = true) : Gl X x ∧ X.mg x = none := ⟨g.gl (decs h).1, g.fre x (of_decide_eq_true (decs h).2)⟩
theorem Gd.blk (g : Gd G L c N sc X W) {scope : Scope} (hk : scope.kind = .function) (s : Shared) (H : Hp) (C : Addr) (cl : List (Str × Addr)) (fp : List Addr) : Gd G L c N (relS scope sc) (X.blk s H scope (compEnvC scope cl C X.env) fp) W0 where
  eN := g.eN
  eS := by
    show relS scope X.env.scope = relS scope sc
    rw [g.eS]
  kind := hk
  nd := g.nd
  calm := g.calm
  un := g.un
  tk := takes0
  fre := g.fre
  val := g.val
  fn := fun x i h => ⟨(g.fn x i h).ex⟩
  cls := g.cls
  isf := g.isf
structure Snd (G : GT) (L : Lk) (Tb : Tab) (c : Ora) (N : List Str) (k : CK) : Prop where
  E : ∀ {X W sc e t}, Gd G L c N sc X W → k.E sc e t = true → PE X e (tE L X.K W (ev Tb c t))
  T : ∀ {X W sc e t}, Gd G L c N sc X W → k.T sc e t = true → PT X e (tT L X.K W (evT (ev Tb c t)))
  W : ∀ {X W sc e t}, Gd G L c N sc X W → k.W sc e t = true → PW X e (tT L X.K W (evT (ev Tb c t)))
  A : ∀ {X W sc es t}, Gd G L c N sc X W → k.A sc es t = true → PA X es (tA L X.K W (ev Tb c t))
  R : ∀ {X W sc e t}, Gd G L c N sc X W → k.R sc e t = true → PE X e (tR L X.K W (ev Tb c t))
  I : ∀ {X W sc tg e kk t}, Gd G L c N sc X W → k.I sc e kk t = true → PI X tg e (tI L X.K W (evI kk (ev Tb c t)))
variable {k : CK} {e : Expr} {es : List Expr}
/-! ### names, constants -/
def ckVar (N : List Str) (sc : Scope) (e : Expr) (i : Nat) : Bool := match e with
  | .Name x _ => decide (N[i]? = some x) && visB sc x && (!(x == ("__debug__" : Str)) && !(x == ("__classdict__" : Str)))
  | _ => false
theorem nott {b : Bool} (h : (!b) = true) : b = false := by cases b <;> simp_all
theorem s_var {i : Nat} (g : Gd G L c N sc X W) (h : ckVar N sc e i = true) : PE X e (tE L X.K W (ev Tb c (.var i))) := by
  unfold ckVar at h
  split at h
  · obtain ⟨h1, h2⟩ := decs h
    obtain ⟨h3, h4⟩ := decs h1
    obtain ⟨h5, h6⟩ := decs h2
    exact z_var (by rw [g.eN]; exact of_decide_eq_true h3) (by rw [g.eS]; exact vis_ok h4) (nott h5) (nott h6)
  · cases h
def ckCst (G : GT) (sc : Scope) (e : Expr) (u : U) : Bool := match e with
  | .Constant (.int i) _ _ => ueq (.int i) u
  | .Constant (.bool i) _ _ => ueq (.bl i) u
  | .Constant (.str i) _ _ => ueq (.str i) u
  | .Constant .none _ _ => ueq .non u
  | .Name x _ => isG sc x && !(x == ("__debug__" : Str)) && (match G.glb.lookup x with
    | some (.val v) => ueq v u
    | _ => false)
  | _ => false
theorem s_cst {u : U} (g : Gd G L c N sc X W) (h : ckCst G sc e u = true) : PE X e (tE L X.K W (ev Tb c (.cst u))) := by
  unfold ckCst at h
  split at h
  · exact z_cst pe_int fun m H k => (ueq_ok h).2 m H k
  · exact z_cst pe_bl fun m H k => (ueq_ok h).2 m H k
  · exact z_cst pe_str fun m H k => (ueq_ok h).2 m H k
  · exact z_cst pe_non fun m H k => (ueq_ok h).2 m H k
  · obtain ⟨h1, h2⟩ := decs h
    obtain ⟨h3, h4⟩ := decs h1
    split at h2
    · rename_i v e1
      obtain ⟨z, hz, r⟩ := g.val _ v e1
      exact z_cst (pe_glob (g.gl h3) hz r (nott h4)) fun m H k => (ueq_ok h2).2 m H k
    · cases h2
  · cases h
/-! ### operators -/
def opB : Operator → BOp → Bool
  | .Add, .add => true | .Sub, .sub => true | .Mult, .mul => true | .FloorDiv, .fdiv => true | .Mod, .mod => true | .Pow, .pow => true | .LShift, .shl => true | .RShift, .shr => true | .BitAnd, .band => true | .BitOr, .bor => true
  | _, _ => false
theorem opB_ok {p : Operator} {o : BOp} (h : opB p o = true) : p = opOf o := by
  cases o <;> cases p <;> first | rfl | cases h
def ckBin (k : CK) (sc : Scope) (e : Expr) (o : BOp) (a b : CE) : Bool := match e with
  | .BinOp x p y _ => opB p o && (k.E sc x a && k.E sc y b)
  | _ => false
theorem s_bin {o : BOp} {a b : CE} (S : Snd G L Tb c N k) (g : Gd G L c N sc X W) (h : ckBin k sc e o a b = true) : PE X e (tE L X.K W (ev Tb c (.bin o a b))) := by
  unfold ckBin at h
  split at h
  · obtain ⟨h1, h2⟩ := decs h
    obtain ⟨h3, h4⟩ := decs h2
    rw [opB_ok h1]
    exact z_bin o (S.E g h3) (S.E g h4)
  · cases h
def ckNeg (k : CK) (sc : Scope) (e : Expr) (a : CE) : Bool := match e with
  | .UnaryOp .USub x _ => k.E sc x a
  | _ => false
theorem s_neg {a : CE} (S : Snd G L Tb c N k) (g : Gd G L c N sc X W) (h : ckNeg k sc e a = true) : PE X e (tE L X.K W (ev Tb c (.neg a))) := by
  unfold ckNeg at h
  split at h
  · exact z_neg (S.E g h)
  · cases h
def cmpB : CmpOp → COp → Bool
  | .Eq, .eq => true | .NotEq, .ne => true | .Lt, .lt => true | .LtE, .le => true | .Gt, .gt => true | .GtE, .ge => true | .Is, .isN => true | .IsNot, .notN => true | .In, .isin => true | .NotIn, .notin => true
  | _, _ => false
theorem cmpB_ok {p : CmpOp} {o : COp} (h : cmpB p o = true) : p = cmpOf o := by
  cases o <;> cases p <;> first | rfl | cases h
def ckCmp (k : CK) (sc : Scope) (e : Expr) (o : COp) (a b : CE) : Bool := match e with
  | .Compare x [p] [y] _ => cmpB p o && notSet y && (k.E sc x a && k.E sc y b)
  | _ => false
theorem s_cmp {o : COp} {a b : CE} (S : Snd G L Tb c N k) (g : Gd G L c N sc X W) (h : ckCmp k sc e o a b = true) : PE X e (tE L X.K W (ev Tb c (.cmp o a b))) := by
  unfold ckCmp at h
  split at h
  · obtain ⟨h1, h2⟩ := decs h
    obtain ⟨h3, h4⟩ := decs h2
    obtain ⟨h5, h6⟩ := decs h1
    rw [cmpB_ok h5]
    exact z_cmp o g.un h6 (S.E g h3) (S.E g h4)
  · cases h
theorem s_ptcmp {o : COp} {a b : CE} (S : Snd G L Tb c N k) (g : Gd G L c N sc X W) (h : ckCmp k sc e o a b = true) : PT X e (tT L X.K W (evT (ev Tb c (.cmp o a b)))) := by
  unfold ckCmp at h
  split at h
  · obtain ⟨h1, h2⟩ := decs h
    obtain ⟨h3, h4⟩ := decs h2
    obtain ⟨h5, h6⟩ := decs h1
    rw [cmpB_ok h5]
    exact z_ptcmp o g.un h6 (S.E g h3) (S.E g h4)
  · cases h
def ckChain (k : CK) (sc : Scope) (e : Expr) (o p : COp) (a b d : CE) : Bool := match e with
  | .Compare x [q, r] [y, z] _ => (cmpB q o && cmpB r p) && notSet z && (k.E sc x a && (k.E sc y b && k.E sc z d))
  | _ => false
theorem s_chain {o p : COp} {a b d : CE} (S : Snd G L Tb c N k) (g : Gd G L c N sc X W) (h : ckChain k sc e o p a b d = true) : PE X e (tE L X.K W (ev Tb c (.chain o p a b d))) := by
  unfold ckChain at h
  split at h
  · obtain ⟨h1, h2⟩ := decs h
    obtain ⟨h3, h4⟩ := decs h2
    obtain ⟨h7, h8⟩ := decs h4
    obtain ⟨h5, h6⟩ := decs h1
    rw [cmpB_ok (decs h5).1, cmpB_ok (decs h5).2]
    exact z_chain o p g.un h6 (S.E g h3) (S.E g h7) (S.E g h8)
  · cases h
theorem s_ptchain {o p : COp} {a b d : CE} (S : Snd G L Tb c N k) (g : Gd G L c N sc X W) (h : ckChain k sc e o p a b d = true) : PT X e (tT L X.K W (evT (ev Tb c (.chain o p a b d)))) := by
  unfold ckChain at h
  split at h
  · obtain ⟨h1, h2⟩ := decs h
    obtain ⟨h3, h4⟩ := decs h2
    obtain ⟨h7, h8⟩ := decs h4
    obtain ⟨h5, h6⟩ := decs h1
    rw [cmpB_ok (decs h5).1, cmpB_ok (decs h5).2]
    exact z_ptchain o p g.un h6 (S.E g h3) (S.E g h7) (S.E g h8)
  · cases h
/-! ### and, or, not, if -/
def ckRest (k : CK) (sc : Scope) (op : BoolOp) (rest : List Expr) (pos : Pos) (b : CE) : Bool := match rest with
  | [y] => k.E sc y b
  | _ => k.E sc (.BoolOp op rest pos) b
theorem s_rest {op : BoolOp} {rest : List Expr} {pos : Pos} {b : CE} (S : Snd G L Tb c N k) (g : Gd G L c N sc X W) (h : ckRest k sc op rest pos b = true) : PE X (.BoolOp op rest pos) (tE L X.K W (ev Tb c b)) := by
  unfold ckRest at h
  split at h
  · exact pe_one (S.E g h)
  · exact S.E g h
def ckAnd (k : CK) (sc : Scope) (e : Expr) (a b : CE) : Bool := match e with
  | .BoolOp .And (x :: y :: r) pos => k.E sc x a && ckRest k sc .And (y :: r) pos b
  | _ => false
def ckOr (k : CK) (sc : Scope) (e : Expr) (a b : CE) : Bool := match e with
  | .BoolOp .Or (x :: y :: r) pos => k.E sc x a && ckRest k sc .Or (y :: r) pos b
  | _ => false
theorem s_and {a b : CE} (S : Snd G L Tb c N k) (g : Gd G L c N sc X W) (h : ckAnd k sc e a b = true) : PE X e (tE L X.K W (ev Tb c (.and_ a b))) := by
  unfold ckAnd at h
  split at h
  · obtain ⟨h1, h2⟩ := decs h
    exact z_and (S.E g h1) (s_rest S g h2)
  · cases h
theorem s_or {a b : CE} (S : Snd G L Tb c N k) (g : Gd G L c N sc X W) (h : ckOr k sc e a b = true) : PE X e (tE L X.K W (ev Tb c (.or_ a b))) := by
  unfold ckOr at h
  split at h
  · obtain ⟨h1, h2⟩ := decs h
    exact z_or (S.E g h1) (s_rest S g h2)
  · cases h
def ckNot (k : CK) (sc : Scope) (e : Expr) (a : CE) : Bool := match e with
  | .UnaryOp .Not x _ => k.E sc x a
  | _ => false
theorem s_not {a : CE} (S : Snd G L Tb c N k) (g : Gd G L c N sc X W) (h : ckNot k sc e a = true) : PE X e (tE L X.K W (ev Tb c (.not_ a))) := by
  unfold ckNot at h
  split at h
  · exact z_not (S.E g h)
  · cases h
def ckIfe (k : CK) (sc : Scope) (e : Expr) (d a b : CE) : Bool := match e with
  | .IfExp x y z _ => k.T sc x d && (k.E sc y a && k.E sc z b)
  | _ => false
theorem s_ife {d a b : CE} (S : Snd G L Tb c N k) (g : Gd G L c N sc X W) (h : ckIfe k sc e d a b = true) : PE X e (tE L X.K W (ev Tb c (.ife d a b))) := by
  unfold ckIfe at h
  split at h
  · obtain ⟨h1, h2⟩ := decs h
    obtain ⟨h3, h4⟩ := decs h2
    exact z_ite (S.T g h1) (S.E g h3) (S.E g h4)
  · cases h
/-! ### displays, places -/
def ckTupd (k : CK) (sc : Scope) (e : Expr) (a : CE) : Bool := match e with
  | .Tuple es _ _ => k.A sc es a
  | _ => false
theorem s_tupd {a : CE} (S : Snd G L Tb c N k) (g : Gd G L c N sc X W) (h : ckTupd k sc e a = true) : PE X e (tE L X.K W (ev Tb c (.tupd a))) := by
  unfold ckTupd at h
  split at h
  · exact z_tupd (S.A g h)
  · cases h
def ckIx (k : CK) (sc : Scope) (e : Expr) (a b : CE) : Bool := match e with
  | .Subscript x y _ => notSlice y && (k.E sc x a && k.E sc y b)
  | _ => false
theorem s_ix {a b : CE} (S : Snd G L Tb c N k) (g : Gd G L c N sc X W) (h : ckIx k sc e a b = true) : PE X e (tE L X.K W (ev Tb c (.ix a b))) := by
  unfold ckIx at h
  split at h
  · obtain ⟨h1, h2⟩ := decs h
    obtain ⟨h3, h4⟩ := decs h2
    exact z_ix h1 (S.E g h3) (S.E g h4)
  · cases h
def ckSlTo (k : CK) (sc : Scope) (e : Expr) (a b : CE) : Bool := match e with
  | .Subscript x (.Slice none (some y) none _) _ => k.E sc x a && k.E sc y b
  | _ => false
theorem s_slTo {a b : CE} (S : Snd G L Tb c N k) (g : Gd G L c N sc X W) (h : ckSlTo k sc e a b = true) : PE X e (tE L X.K W (ev Tb c (.slTo a b))) := by
  unfold ckSlTo at h
  split at h
  · obtain ⟨h3, h4⟩ := decs h
    exact z_slTo (S.E g h3) (S.E g h4)
  · cases h
def ckSlFr (k : CK) (sc : Scope) (e : Expr) (a b : CE) : Bool := match e with
  | .Subscript x (.Slice (some y) none none _) _ => k.E sc x a && k.E sc y b
  | _ => false
theorem s_slFr {a b : CE} (S : Snd G L Tb c N k) (g : Gd G L c N sc X W) (h : ckSlFr k sc e a b = true) : PE X e (tE L X.K W (ev Tb c (.slFr a b))) := by
  unfold ckSlFr at h
  split at h
  · obtain ⟨h3, h4⟩ := decs h
    exact z_slFr (S.E g h3) (S.E g h4)
  · cases h
/-! ### calls -/
def ckCall (G : GT) (k : CK) (sc : Scope) (e : Expr) (f : Nat) (as : CE) : Bool := match e with
  | .Call (.Name x _) (a :: es) [] _ => isG sc x && !(x == ("__debug__" : Str)) && noStars (a :: es) && ((match G.glb.lookup x with
    | some (.fn i) => i == f
    | _ => false) && k.A sc (a :: es) as)
  | _ => false
theorem s_call {f : Nat} {as : CE} (S : Snd G L Tb c N k) (g : Gd G L c N sc X W) (h : ckCall G k sc e f as = true) : PE X e (tE L X.K W (ev Tb c (.call f as))) := by
  unfold ckCall at h
  split at h
  · obtain ⟨h1, h2⟩ := decs h
    obtain ⟨h3, h4⟩ := decs h1
    obtain ⟨h5, h6⟩ := decs h3
    obtain ⟨h7, h8⟩ := decs h2
    split at h7
    · rename_i i e1
      obtain rfl := eq_of_beq h7
      obtain ⟨lv, fa, fd, ps, np, F, hr, hm, hk, hb, hl⟩ := (g.fn _ _ e1).ex
      exact z_call F hr (g.gl h5) hm hk hb g.tk (nott h6) h4 hl (S.A g h8)
    · cases h7
  · cases h
def ckBf (G : GT) (k : CK) (sc : Scope) (e : Expr) (b : BF) (as : CE) : Bool := match e with
  | .Call (.Name x _) (a :: es) [] _ => decide (x = b.nm) && isB G sc x && noStars (a :: es) && k.A sc (a :: es) as
  | _ => false
theorem s_bf {b : BF} {as : CE} (S : Snd G L Tb c N k) (g : Gd G L c N sc X W) (h : ckBf G k sc e b as = true) : PE X e (tE L X.K W (ev Tb c (.bf b as))) := by
  unfold ckBf at h
  split at h
  · obtain ⟨h1, h2⟩ := decs h
    obtain ⟨h3, h4⟩ := decs h1
    obtain ⟨h5, h6⟩ := decs h3
    obtain ⟨h7, h8⟩ := g.bt h6
    rw [of_decide_eq_true h5] at h7 h8 ⊢
    exact z_bf b g.calm h7 h8 h4 (S.A g h2)
  · cases h
def ckBr (G : GT) (k : CK) (sc : Scope) (e : Expr) (b : BR) (as : CE) : Bool := match e with
  | .Call (.Name x _) [a] [] _ => decide (x = b.nm) && isB G sc x && notStar a && k.R sc a as
  | _ => false
theorem s_br {b : BR} {as : CE} (S : Snd G L Tb c N k) (g : Gd G L c N sc X W) (h : ckBr G k sc e b as = true) : PE X e (tE L X.K W (ev Tb c (.br b as))) := by
  unfold ckBr at h
  split at h
  · obtain ⟨h1, h2⟩ := decs h
    obtain ⟨h3, h4⟩ := decs h1
    obtain ⟨h5, h6⟩ := decs h3
    obtain ⟨h7, h8⟩ := g.bt h6
    rw [of_decide_eq_true h5] at h7 h8 ⊢
    exact z_br b g.calm h7 h8 h4 (S.R g h2)
  · cases h
def ckBv (G : GT) (k : CK) (sc : Scope) (e : Expr) (b : BR) (as : CE) : Bool := match e with
  | .Call (.Name x _) [a] [] _ => decide (x = b.nm) && isB G sc x && notStar a && k.E sc a as
  | _ => false
theorem s_bv {b : BR} {as : CE} (S : Snd G L Tb c N k) (g : Gd G L c N sc X W) (h : ckBv G k sc e b as = true) : PE X e (tE L X.K W (ev Tb c (.bv b as))) := by
  unfold ckBv at h
  split at h
  · obtain ⟨h1, h2⟩ := decs h
    obtain ⟨h3, h4⟩ := decs h1
    obtain ⟨h5, h6⟩ := decs h3
    obtain ⟨h7, h8⟩ := g.bt h6
    rw [of_decide_eq_true h5] at h7 h8 ⊢
    exact z_bv b g.calm h7 h8 h4 (S.E g h2)
  · cases h
def ckBm (k : CK) (sc : Scope) (e : Expr) (b : BM) (o as : CE) : Bool := match e, b with
  | .Call (.Attribute x y p) (a :: es) [] q, .append => decide (y = "append") && plainBase x && (p.endLine == q.line) && (noStars (a :: es) && decide (es.length < 20)) && (k.E sc x o && k.A sc (a :: es) as)
  | .Call (.Attribute x y p) (a :: es) [] q, .popAt => decide (y = "pop") && plainBase x && (p.endLine == q.line) && (noStars (a :: es) && decide (es.length < 20)) && (k.E sc x o && k.A sc (a :: es) as)
  | .Call (.Attribute x y p) [] [] q, .pop => decide (y = "pop") && plainBase x && (p.endLine == q.line) && (k.E sc x o && (match as with
    | .nil => true
    | _ => false))
  | _, _ => false
theorem s_bm {b : BM} {o as : CE} (S : Snd G L Tb c N k) (g : Gd G L c N sc X W) (h : ckBm k sc e b o as = true) : PE X e (tE L X.K W (ev Tb c (.bm b o as))) := by
  unfold ckBm at h
  split at h
  · obtain ⟨h1, h2⟩ := decs h
    obtain ⟨h3, h4⟩ := decs h1
    obtain ⟨h5, h6⟩ := decs h3
    obtain ⟨h7, h8⟩ := decs h5
    obtain ⟨h9, h10⟩ := decs h4
    obtain ⟨h11, h12⟩ := decs h2
    rw [of_decide_eq_true h7]
    exact z_append h8 h6 h9 h10 (S.E g h11) (S.A g h12)
  · obtain ⟨h1, h2⟩ := decs h
    obtain ⟨h3, h4⟩ := decs h1
    obtain ⟨h5, h6⟩ := decs h3
    obtain ⟨h7, h8⟩ := decs h5
    obtain ⟨h9, h10⟩ := decs h4
    obtain ⟨h11, h12⟩ := decs h2
    rw [of_decide_eq_true h7]
    exact z_popAt h8 h6 h9 h10 (S.E g h11) (S.A g h12)
  · obtain ⟨h1, h2⟩ := decs h
    obtain ⟨h3, h4⟩ := decs h1
    obtain ⟨h5, h6⟩ := decs h3
    obtain ⟨h7, h8⟩ := decs h2
    rw [of_decide_eq_true h5]
    split at h8
    · exact z_pop h6 h4 (S.E g h7)
    · cases h8
  · cases h
def Ty.gl (G : GT) (sc : Scope) (x : Str) : Ty → Bool
  | .int => decide (x = "int") && isB G sc x
  | .bool => decide (x = "bool") && isB G sc x
  | .str => decide (x = "str") && isB G sc x
  | .tuple => decide (x = "tuple") && isB G sc x
  | .list => decide (x = "list") && isB G sc x
  | .cls c => isG sc x && !(x == ("__debug__" : Str)) && (match G.glb.lookup x with
    | some (.cls d) => d == c
    | _ => false)
def ckTy (G : GT) (sc : Scope) (e : Expr) (t : Ty) : Bool := match e with
  | .Name x _ => t.gl G sc x
  | _ => false
theorem boot_str1 : bootBuiltins "str" = some (.type "str") := by decide +kernel
theorem boot_bool1 : bootBuiltins "bool" = some (.type "bool") := by decide +kernel
theorem boot_list1 : bootBuiltins "list" = some (.type "list") := by decide +kernel
theorem s_ty {t : Ty} (g : Gd G L c N sc X W) (h : ckTy G sc e t = true) : PE X e (tC (t.v L)) ∧ tyTop [t] L.nc = true := by
  unfold ckTy at h
  split at h
  · rename_i x p
    cases t with
    | cls d =>
      obtain ⟨h1, h2⟩ := decs h
      obtain ⟨h3, h4⟩ := decs h1
      split at h2
      · rename_i i e1
        obtain rfl := eq_of_beq h2
        obtain ⟨h5, h6⟩ := g.cls _ _ e1
        refine ⟨pe_glob (g.gl h3) h5 rfl (nott h4), ?_⟩
        show (decide (i < L.nc) && true) = true
        rw [decide_eq_true h6]; rfl
      · cases h2
    | int =>
      obtain ⟨h1, h2⟩ := decs h
      obtain ⟨h5, h6⟩ := g.bt h2
      rw [of_decide_eq_true h1] at h5 h6 ⊢
      exact ⟨pe_bltn h5 h6 PyProof.Rows.boot_int rfl (by decide) (by decide), rfl⟩
    | bool =>
      obtain ⟨h1, h2⟩ := decs h
      obtain ⟨h5, h6⟩ := g.bt h2
      rw [of_decide_eq_true h1] at h5 h6 ⊢
      exact ⟨pe_bltn h5 h6 boot_bool1 rfl (by decide) (by decide), rfl⟩
    | str =>
      obtain ⟨h1, h2⟩ := decs h
      obtain ⟨h5, h6⟩ := g.bt h2
      rw [of_decide_eq_true h1] at h5 h6 ⊢
      exact ⟨pe_bltn h5 h6 boot_str1 rfl (by decide) (by decide), rfl⟩
    | tuple =>
      obtain ⟨h1, h2⟩ := decs h
      obtain ⟨h5, h6⟩ := g.bt h2
      rw [of_decide_eq_true h1] at h5 h6 ⊢
      exact ⟨pe_bltn h5 h6 PyProof.Rows.boot_tuple rfl (by decide) (by decide), rfl⟩
    | list =>
      obtain ⟨h1, h2⟩ := decs h
      obtain ⟨h5, h6⟩ := g.bt h2
      rw [of_decide_eq_true h1] at h5 h6 ⊢
      exact ⟨pe_bltn h5 h6 boot_list1 rfl (by decide) (by decide), rfl⟩
  · cases h
def ckTys (G : GT) (sc : Scope) : List Expr → List Ty → Bool
  | [], [] => true
  | e :: es, t :: ts => notStar e && ckTy G sc e t && ckTys G sc es ts
  | _, _ => false
theorem s_tys (g : Gd G L c N sc X W) : ∀ {es : List Expr} {ts : List Ty}, ckTys G sc es ts = true → PA X es (tK (ts.map (Ty.v L))) ∧ tyTop ts L.nc = true
  | [], [], _ => ⟨PA.weaken pa_nil fun _ _ _ h => h, rfl⟩
  | [], _ :: _, h => by cases h
  | _ :: _, [], h => by cases h
  | e :: es, t :: ts, h => by
    obtain ⟨h1, h2⟩ := decs h
    obtain ⟨h3, h4⟩ := decs h1
    obtain ⟨h5, h6⟩ := s_ty g h4
    obtain ⟨h7, h8⟩ := s_tys g h2
    refine ⟨pa_k h3 h5 h7, ?_⟩
    unfold tyTop at h6 h8 ⊢
    rw [List.all_cons, h8, Bool.and_true]
    rw [List.all_cons, List.all_nil, Bool.and_true] at h6
    exact h6
def ckIsi (G : GT) (k : CK) (sc : Scope) (e : Expr) (a : CE) (ts : List Ty) : Bool := match e with
  | .Call (.Name x _) [v, .Tuple es _ _] [] _ => decide (x = "isinstance") && isB G sc x && notStar v && (k.E sc v a && ckTys G sc es ts) && decide (ts.length ≤ 20)
  | .Call (.Name x _) [v, z] [] _ => decide (x = "isinstance") && isB G sc x && noStars [v, z] && k.E sc v a && (match ts with
    | [t] => ckTy G sc z t
    | _ => false)
  | _ => false
theorem s_isi {a : CE} {ts : List Ty} (S : Snd G L Tb c N k) (g : Gd G L c N sc X W) (h : ckIsi G k sc e a ts = true) : PE X e (tE L X.K W (ev Tb c (.isi a ts))) := by
  unfold ckIsi at h
  split at h
  · obtain ⟨h1, h2⟩ := decs h
    obtain ⟨h3, h4⟩ := decs h1
    obtain ⟨h5, h6⟩ := decs h3
    obtain ⟨h7, h8⟩ := decs h5
    obtain ⟨h9, h10⟩ := g.bt h8
    obtain ⟨h11, h12⟩ := decs h4
    rw [of_decide_eq_true h7] at h9 h10 ⊢
    obtain ⟨h13, h14⟩ := s_tys g h12
    exact z_isiT g.isf h9 h10 h6 h14 h2 (S.E g h11) h13
  · obtain ⟨h1, h2⟩ := decs h
    obtain ⟨h3, h4⟩ := decs h1
    obtain ⟨h5, h6⟩ := decs h3
    obtain ⟨h7, h8⟩ := decs h5
    obtain ⟨h9, h10⟩ := g.bt h8
    rw [of_decide_eq_true h7] at h9 h10 ⊢
    split at h2
    · obtain ⟨h13, h14⟩ := s_ty g h2
      exact z_isi1 g.isf h9 h10 h6 h14 (S.E g h4) h13
    · cases h2
  · cases h
end
end Z

/-! ## ZChk2 -/
set_option Elab.async false
set_option linter.all false
set_option maxRecDepth 100000
/-! Z: the checker of expressions, on: rows, comprehensions, tests; the whole. -/
namespace Z
open PySem Spec L2 PyProof.Rows
section
variable {G : GT} {L : Lk} {Tb : Tab} {c : Ora} {N : List Str} {sc : Scope} {X : Cx} {W : WX} {k : CK} {e tg : Expr} {es : List Expr}
/-! ### rows of arguments -/
def ckA1 (k : CK) (sc : Scope) (es : List Expr) (t : CE) : Bool := match t with
  | .nil => es.isEmpty
  | .cons a r => match es with
    | x :: xs => notStar x && (k.E sc x a && k.A sc xs r)
    | _ => false
  | .star a r => match es with
    | .Starred x _ :: xs => k.E sc x a && k.A sc xs r
    | _ => false
  | _ => false
theorem s_A {t : CE} (S : Snd G L Tb c N k) (g : Gd G L c N sc X W) (h : ckA1 k sc es t = true) : PA X es (tA L X.K W (ev Tb c t)) := by
  cases t with
  | nil =>
    cases es with
    | nil => exact z_nil
    | cons x xs => cases h
  | cons a r =>
    cases es with
    | nil => cases h
    | cons x xs =>
      obtain ⟨h1, h2⟩ := decs (show (notStar x && (k.E sc x a && k.A sc xs r)) = true from h)
      obtain ⟨h3, h4⟩ := decs h2
      exact z_cons h1 (S.E g h3) (S.A g h4)
  | star a r =>
    cases es with
    | nil => cases h
    | cons x xs =>
      cases x with
      | Starred y p =>
        obtain ⟨h3, h4⟩ := decs (show (k.E sc y a && k.A sc xs r) = true from h)
        exact z_star (S.E g h3) (S.A g h4)
      | _ => cases h
  | _ => cases h
/-! ### what is walked -/
def ckI1 (G : GT) (k : CK) (sc : Scope) (e : Expr) (kk : ItK) (t : CE) : Bool := match kk with
  | .seq => k.E sc e t
  | .raw => k.R sc e t
  | .rng1 => match e with
    | .Call (.Name x _) [a] [] _ => decide (x = "range") && isB G sc x && noStars [a] && k.A sc [a] t
    | _ => false
  | .rng2 => match e with
    | .Call (.Name x _) [a, b] [] _ => decide (x = "range") && isB G sc x && noStars [a, b] && k.A sc [a, b] t
    | _ => false
  | _ => false
theorem s_I {kk : ItK} {t : CE} (S : Snd G L Tb c N k) (g : Gd G L c N sc X W) (h : ckI1 G k sc e kk t = true) : PI X tg e (tI L X.K W (evI kk (ev Tb c t))) := by
  unfold ckI1 at h
  split at h
  · exact i_seq (S.E g h)
  · exact i_raw (S.R g h)
  · split at h
    · obtain ⟨h1, h2⟩ := decs h
      obtain ⟨h3, h4⟩ := decs h1
      obtain ⟨h5, h6⟩ := decs h3
      obtain ⟨h7, h8⟩ := g.bt h6
      rw [of_decide_eq_true h5] at h7 h8 ⊢
      exact i_rng1 h7 h8 h4 (S.A g h2)
    · cases h
  · split at h
    · obtain ⟨h1, h2⟩ := decs h
      obtain ⟨h3, h4⟩ := decs h1
      obtain ⟨h5, h6⟩ := decs h3
      obtain ⟨h7, h8⟩ := g.bt h6
      rw [of_decide_eq_true h5] at h7 h8 ⊢
      exact i_rng2 h7 h8 h4 (S.A g h2)
    · cases h
  · cases h
/-! ### targets -/
def gOf (K : PySem.W.Frag) : Tgt → TG
  | .nm i => gName i
  | .tp is => gTup K is.length (gNms is)
theorem gOf_ok (t : Tgt) : GOk L X.K (gOf X.K t) t := by
  cases t with
  | nm i => exact g_nm i
  | tp is => exact g_tp is
/-- a name that the block may store -/
def stB (N : List Str) (sc : Scope) (e : Expr) (i : Nat) : Bool := match e with
  | .Name x _ => decide (N[i]? = some x) && locB sc x
  | _ => false
def stsB (N : List Str) (sc : Scope) : List Expr → List Nat → Bool
  | [], [] => true
  | e :: es, i :: is => stB N sc e i && stsB N sc es is
  | _, _ => false
def ckTgt (N : List Str) (sc : Scope) (e : Expr) (t : Tgt) : Bool := match t with
  | .nm i => stB N sc e i
  | .tp is => match e with
    | .Tuple es _ _ => stsB N sc es is
    | _ => false
/-- the names of X that may be stored -/
def Stores (X : Cx) (sc : Scope) : Prop := ∀ x, locB sc x = true → Loc X.env.scope x ∧ (X.fn x = true ∨ X.env.scope.names.lookup x = some .local)
theorem sto_nm {i : Nat} (hN : X.N = N) (nd : N.Nodup) (hs : Stores X sc) (h : stB N sc e i = true) : PG X e (gName i) ∧ plainTgt e = true ∧ (∀ env, (assignEach [e] env).map (·.2) = [assign e env] ∧ (assignEach [e] env).map (·.1) = [false]) := by
  unfold stB at h
  split at h
  · obtain ⟨h1, h2⟩ := decs h
    obtain ⟨h3, h4⟩ := hs _ h2
    exact ⟨pg_name (by rw [hN]; exact nd) (by rw [hN]; exact of_decide_eq_true h1) h3 h4, rfl, fun env => ⟨rfl, rfl⟩⟩
  · cases h
theorem eachCons {e : Expr} {es : List Expr} {env : Env} {i : Nat} (h : stB N sc e i = true) : assignEach (e :: es) env = (false, assign e env) :: assignEach es env := by
  unfold stB at h
  split at h
  · rfl
  · cases h
theorem sto_nms (hN : X.N = N) (nd : N.Nodup) (hs : Stores X sc) : ∀ {es : List Expr} {is : List Nat}, stsB N sc es is = true → PGs X es (gNms is) ∧ (assignEach es X.env).length = is.length ∧ (assignEach es X.env).findIdx? (·.1) = none
  | [], [], _ => ⟨pgs_nil, rfl, rfl⟩
  | [], _ :: _, h => by cases h
  | _ :: _, [], h => by cases h
  | e :: es, i :: is, h => by
    obtain ⟨h1, h2⟩ := decs h
    obtain ⟨h3, h4, h5⟩ := sto_nms hN nd hs h2
    obtain ⟨h6, _, _⟩ := sto_nm hN nd hs h1
    refine ⟨pgs_cons h6 h3 (by rw [eachCons h1]; rfl), by rw [eachCons h1, List.length_cons, h4]; rfl, ?_⟩
    rw [eachCons h1, List.findIdx?_cons, h5]; rfl
theorem s_tgt {t : Tgt} (hN : X.N = N) (nd : N.Nodup) (hc : X.calm = true) (hs : Stores X sc) (h : ckTgt N sc e t = true) : PG X e (gOf X.K t) ∧ plainTgt e = true := by
  cases t with
  | nm i => exact ⟨(sto_nm hN nd hs h).1, (sto_nm hN nd hs h).2.1⟩
  | tp is =>
    cases e with
    | Tuple es n p =>
      obtain ⟨h1, h2, h3⟩ := sto_nms hN nd hs (show stsB N sc es is = true from h)
      exact ⟨pg_tup hc h1 h2 h3, rfl⟩
    | _ => cases h
/-! ### comprehensions -/
def ownOf (N : List Str) (is : List Nat) : List (Str × Nat) := is.filterMap fun i => (N[i]?).map fun x => (x, i)
def ckIfs (k : CK) (sc : Scope) (ifs : List Expr) (d : CE) : Bool := match ifs with
  | [] => (match d with
    | .cst (.bl true) => true
    | _ => false)
  | [e] => k.T sc e d
  | _ => false
theorem s_ifs {d : CE} {ifs : List Expr} (S : Snd G L Tb c N k) (g : Gd G L c N sc X W) (h : ckIfs k sc ifs d = true) : PTs X ifs (tT L X.K W (evT (ev Tb c d))) := by
  unfold ckIfs at h
  split at h
  · split at h
    · exact z_noifs
    · cases h
  · exact z_if1 (S.T g h)
  · cases h
theorem relS_loc {scope : Scope} {s : Shared} {H : Hp} {C : Addr} {cl : List (Str × Addr)} {fp : List Addr} : Stores (X.blk s H scope (compEnvC scope cl C X.env) fp) scope := fun x h => by
  rcases loc_ok h with h | h
  · have h2 := lookup_relabel_local (env := X.env) h
    exact ⟨.inl h2, .inr h2⟩
  · refine ⟨.inr (lookup_relS_keep (sc := X.env.scope) (by decide) h), .inl ?_⟩
    show (scope.names.lookup x == some NameKind.cell) = true
    rw [h]; rfl
def ckComp (N : List Str) (k : CK) (sc : Scope) (elt tgt iter : Expr) (ifs : List Expr) (scope : Scope) (kk : ItK) (t : Tgt) (src d b : CE) : Bool :=
  k.I sc iter kk src && notSet iter && (blkC N sc scope (ownOf N t.slots) && decide ((ownOf N t.slots).map (·.2) = t.slots)) && (ckTgt N scope tgt t && ckIfs k (relS scope sc) ifs d && k.E (relS scope sc) elt b)
def ckR1 (N : List Str) (k : CK) (sc : Scope) (e : Expr) (t : CE) : Bool := match t with
  | .tupd a => (match e with
    | .List es _ => k.A sc es a
    | _ => false)
  | .comp kk tt src d b => (match e with
    | .ListComp elt [⟨tgt, iter, ifs, 0⟩] scope _ => ckComp N k sc elt tgt iter ifs scope kk tt src d b
    | _ => false)
  | _ => false
structure CompOk (L : Lk) (Tb : Tab) (c : Ora) (N : List Str) (sc : Scope) (X : Cx) (W : WX) (elt tgt iter : Expr) (ifs : List Expr) (scope : Scope) (kk : ItK) (t : Tgt) (src d b : CE) : Prop where
  hi : PI X tgt iter (tI L X.K W (evI kk (ev Tb c src)))
  ok : BlkOk X.N X.env.scope scope (ownOf N t.slots)
  own : (ownOf N t.slots).map (·.2) = t.slots
  hg : ∀ (s : Shared) (H : Hp) (C : Addr) (cl : List (Str × Addr)) (fp : List Addr), PG (X.blk s H scope (compEnvC scope cl C X.env) fp) tgt (gOf X.K t)
  ht : ∀ (s : Shared) (H : Hp) (C : Addr) (cl : List (Str × Addr)) (fp : List Addr), PTs (X.blk s H scope (compEnvC scope cl C X.env) fp) ifs (tT L X.K W0 (evT (ev Tb c d)))
  he : ∀ (s : Shared) (H : Hp) (C : Addr) (cl : List (Str × Addr)) (fp : List Addr), PE (X.blk s H scope (compEnvC scope cl C X.env) fp) elt (tE L X.K W0 (ev Tb c b))
  hs : notSet iter = true
theorem s_compOk {elt tgt iter : Expr} {ifs : List Expr} {scope : Scope} {kk : ItK} {t : Tgt} {src d b : CE} (S : Snd G L Tb c N k) (g : Gd G L c N sc X W) (h : ckComp N k sc elt tgt iter ifs scope kk t src d b = true) : CompOk L Tb c N sc X W elt tgt iter ifs scope kk t src d b := by
  obtain ⟨h1, h2⟩ := decs h
  obtain ⟨h3, h4⟩ := decs h1
  obtain ⟨h5, h6⟩ := decs h3
  obtain ⟨h7, h8⟩ := decs h4
  obtain ⟨h9, h10⟩ := decs h2
  obtain ⟨h11, h12⟩ := decs h9
  have ok := blkOk_by h7
  exact { hi := S.I g h5, ok := by rw [g.eN, g.eS]; exact ok, own := of_decide_eq_true h8,
          hg := fun s H C cl fp => (s_tgt (X := X.blk s H scope (compEnvC scope cl C X.env) fp) g.eN g.nd g.calm relS_loc h11).1,
          ht := fun s H C cl fp => s_ifs S (g.blk ok.kind s H C cl fp) h12, he := fun s H C cl fp => S.E (g.blk ok.kind s H C cl fp) h10, hs := h6 }
theorem ev_comp {kk : ItK} {t : Tgt} {src d b : CE} : ev Tb c (.comp kk t src d b) = evComp kk t (ev Tb c src) (ev Tb c d) (ev Tb c b) := by
  funext ρ S
  rfl
theorem s_R {t : CE} (S : Snd G L Tb c N k) (g : Gd G L c N sc X W) (h : ckR1 N k sc e t = true) : PE X e (tR L X.K W (ev Tb c t)) := by
  cases t with
  | tupd a =>
    cases e with
    | List es p => exact z_lstd (S.A g (show k.A sc es a = true from h))
    | _ => cases h
  | comp kk tt src d b =>
    have h : (match (generalizing := false) e with
      | .ListComp elt [⟨tgt, iter, ifs, 0⟩] scope _ => ckComp N k sc elt tgt iter ifs scope kk tt src d b
      | _ => false) = true := h
    split at h
    · have o := s_compOk S g h
      rw [ev_comp]
      exact z_comp g.calm (by rw [g.eN]; exact g.nd) o.hi o.ok o.own (gOf_ok tt) o.hg o.ht o.he o.hs
    · cases h
  | _ => cases h
/-! ### tests -/
def ckW1 (k : CK) (sc : Scope) (e : Expr) (t : CE) : Bool := match e with
  | .BoolOp .And [x] _ => k.T sc x t
  | .BoolOp .Or [x] _ => k.T sc x t
  | .BoolOp .And (x :: y :: r) p => (match t with
    | .and_ a b => k.T sc x a && k.W sc (.BoolOp .And (y :: r) p) b
    | _ => false)
  | .BoolOp .Or (x :: y :: r) p => (match t with
    | .or_ a b => k.T sc x a && k.W sc (.BoolOp .Or (y :: r) p) b
    | _ => false)
  | _ => false
theorem s_W {t : CE} (S : Snd G L Tb c N k) (g : Gd G L c N sc X W) (h : ckW1 k sc e t = true) : PW X e (tT L X.K W (evT (ev Tb c t))) := by
  unfold ckW1 at h
  split at h
  · exact pw_and1 (S.T g h)
  · exact pw_or1 (S.T g h)
  · split at h
    · obtain ⟨h1, h2⟩ := decs h
      exact z_ptand (S.T g h1) (S.W g h2)
    · cases h
  · split at h
    · obtain ⟨h1, h2⟩ := decs h
      exact z_ptor (S.T g h1) (S.W g h2)
    · cases h
  · cases h
def ckT1 (k : CK) (sc : Scope) (e : Expr) (t : CE) : Bool := match e with
  | .UnaryOp .Not x _ => (match t with
    | .not_ a => k.T sc x a
    | _ => false)
  | .BoolOp _ _ _ => k.W sc e t
  | .Compare _ _ _ _ => (match t with
    | .cmp o a b => ckCmp k sc e o a b
    | .chain o p a b d => ckChain k sc e o p a b d
    | _ => false)
  | _ => plainTest e && k.E sc e t
theorem s_T {t : CE} (S : Snd G L Tb c N k) (g : Gd G L c N sc X W) (h : ckT1 k sc e t = true) : PT X e (tT L X.K W (evT (ev Tb c t))) := by
  unfold ckT1 at h
  split at h
  · split at h
    · exact z_ptnot (S.T g h)
    · cases h
  · exact (S.W g h).pt
  · split at h
    · exact s_ptcmp S g h
    · exact s_ptchain S g h
    · cases h
  · obtain ⟨h1, h2⟩ := decs h
    exact z_pttru h1 (S.E g h2)
/-! ### the whole -/
def ckE1 (G : GT) (N : List Str) (k : CK) (sc : Scope) (e : Expr) (t : CE) : Bool := match t with
  | .var i => ckVar N sc e i
  | .cst u => ckCst G sc e u
  | .bin o a b => ckBin k sc e o a b
  | .neg a => ckNeg k sc e a
  | .cmp o a b => ckCmp k sc e o a b
  | .chain o p a b d => ckChain k sc e o p a b d
  | .and_ a b => ckAnd k sc e a b
  | .or_ a b => ckOr k sc e a b
  | .not_ a => ckNot k sc e a
  | .ife d a b => ckIfe k sc e d a b
  | .tupd a => ckTupd k sc e a
  | .newl r => k.R sc e r
  | .ix a b => ckIx k sc e a b
  | .slTo a b => ckSlTo k sc e a b
  | .slFr a b => ckSlFr k sc e a b
  | .call f as => ckCall G k sc e f as
  | .bf b as => ckBf G k sc e b as
  | .br b as => ckBr G k sc e b as
  | .bv b a => ckBv G k sc e b a
  | .bm b o as => ckBm k sc e b o as
  | .isi a ts => ckIsi G k sc e a ts
  | .nev => true
  | _ => false
theorem s_E {t : CE} (S : Snd G L Tb c N k) (g : Gd G L c N sc X W) (h : ckE1 G N k sc e t = true) : PE X e (tE L X.K W (ev Tb c t)) := by
  cases t with
  | var i => exact s_var g h
  | cst u => exact s_cst g h
  | bin o a b => exact s_bin S g h
  | neg a => exact s_neg S g h
  | cmp o a b => exact s_cmp S g h
  | chain o p a b d => exact s_chain S g h
  | and_ a b => exact s_and S g h
  | or_ a b => exact s_or S g h
  | not_ a => exact s_not S g h
  | ife d a b => exact s_ife S g h
  | tupd a => exact s_tupd S g h
  | newl r => exact z_newl (S.R g (show k.R sc e r = true from h))
  | ix a b => exact s_ix S g h
  | slTo a b => exact s_slTo S g h
  | slFr a b => exact s_slFr S g h
  | call f as => exact s_call S g h
  | bf b as => exact s_bf S g h
  | br b as => exact s_br S g h
  | bv b as => exact s_bv S g h
  | bm b o as => exact s_bm S g h
  | isi a ts => exact s_isi S g h
  | nev => exact ⟨fun _ _ _ _ _ _ q => by
      obtain ⟨m, S, ρ, _, _, out⟩ := q
      exact (show False from out).elim⟩
  | _ => cases h
def ck (G : GT) (N : List Str) : Nat → CK
  | 0 => ⟨fun _ _ _ => false, fun _ _ _ => false, fun _ _ _ => false, fun _ _ _ => false, fun _ _ _ => false, fun _ _ _ _ => false⟩
  | n + 1 => ⟨ckE1 G N (ck G N n), ckT1 (ck G N n), ckW1 (ck G N n), ckA1 (ck G N n), ckR1 N (ck G N n), ckI1 G (ck G N n)⟩
theorem snd : ∀ n, Snd G L Tb c N (ck G N n)
  | 0 => { E := fun _ h => (by cases h), T := fun _ h => (by cases h), W := fun _ h => (by cases h), A := fun _ h => (by cases h), R := fun _ h => (by cases h), I := fun _ h => (by cases h) }
  | n + 1 => { E := fun g h => s_E (snd n) g h, T := fun g h => s_T (snd n) g h, W := fun g h => s_W (snd n) g h, A := fun g h => s_A (snd n) g h, R := fun g h => s_R (snd n) g h, I := fun g h => s_I (snd n) g h }
end
end Z

/-! ## ZChkS -/
set_option Elab.async false
set_option linter.all false
set_option maxRecDepth 100000
/-! Z: the checker of statements. -/
namespace Z
open PySem Spec L2 PyProof.Rows

structure CKS where
  S : Stmt → CS → Bool
  B : List Stmt → CS → Bool
structure GdS (G : GT) (L : Lk) (c : Ora) (N : List Str) (sc : Scope) (X : Cx) (W : WX) : Prop extends Gd G L c N sc X W where
  po : PassesOwn (model X.prog X.w) X.A X.env X.xe
  fa : ∀ x, X.fn x = true
section
variable {G : GT} {L : Lk} {Tb : Tab} {c : Ora} {N : List Str} {sc : Scope} {X : Cx} {W : WX} {k : CK} {e tg : Expr} {es : List Expr} {kS : CKS} {st : Stmt} {sts : List Stmt}
theorem GdS.sto (g : GdS G L c N sc X W) : Stores X sc := fun x h => by
  unfold L2.Loc
  rw [g.eS]
  exact ⟨loc_ok h, .inl (g.fa x)⟩
structure SndS (G : GT) (L : Lk) (Tb : Tab) (c : Ora) (N : List Str) (sc : Scope) (k : CKS) : Prop where
  S : ∀ {X W st t}, GdS G L c N sc X W → k.S st t = true → PS X st (tS L X.K W (evS Tb c t))
  B : ∀ {X W sts t}, GdS G L c N sc X W → k.B sts t = true → PSs X sts (tS L X.K W (evS Tb c t))
theorem z_asg2 {a : Expr} {pos : Pos} {ra : Ev → Sto → R U} {t : Tgt} {gg : TG} (ht : plainTgt tg = true) (h1 : swapsWithSole [tg] a pos.line X.env = pure false) (h2 : (notTuple a || notTuple tg) = true) (hg : PG X tg gg) (hgo : GOk L X.K gg t) (ha : PE X a (tE L X.K W ra)) :
    PS X (.Assign [tg] a pos) (tS L X.K W fun ρ S => (ra ρ S).toS ρ fun u S1 => match t.asg u ρ with
      | some ρ' => .next ρ' S1
      | none => .bad) := by
  have hw : swappedStores [tg] a X.env = pure none := by
    rcases Bool.or_eq_true_iff.mp h2 with h | h
    · exact unswapped h
    · cases tg with
      | Name x p => cases a <;> rfl
      | Tuple es k p => cases h
      | _ => cases ht
  exact PS.weaken (ps_asg ha hg h1 hw (each1 ht)) fun D σ H h => z_asg_step hgo rfl h
def swB (sc : Scope) (y : Str) (py pos : Pos) (scope : Scope) : Bool := decide (sc.names.lookup y = some .local) && (py.line == pos.line) && !(scope.names.any fun (n, k) => n == y && (k == .local || k == .cell))
theorem sw_false {elt : Expr} {gs : List Comprehension} {scope : Scope} {pos py : Pos} {y : Str} {l : Nat} {env : Env} (h : swB env.scope y py pos scope = false) : swapsWith (.ListComp elt gs scope pos) (some (.Name y py)) l env = pure false := by
  have hk : (env.kindOf y == some .local) = decide (env.scope.names.lookup y = some .local) := by
    show (env.scope.names.lookup y == some .local) = _
    cases e : env.scope.names.lookup y with
    | none => rfl
    | some q => cases q <;> rfl
  unfold swB at h
  unfold swapsWith
  show pure (env.blockKind == .function && env.kindOf y == some .local && py.line == pos.line && !(scope.names.any fun (n, k) => n == y && (k == .local || k == .cell))) = pure false
  congr 1
  rw [hk, Bool.and_assoc, Bool.and_assoc, ← Bool.and_assoc (decide _), h, Bool.and_false]
theorem sw_sole {elt : Expr} {gs : List Comprehension} {scope : Scope} {pos py : Pos} {y : Str} {l : Nat} {env : Env} (h : swB env.scope y py pos scope = false) : swapsWithSole [.Name y py] (.ListComp elt gs scope pos) l env = pure false := sw_false (l := l) h
/-- an assignment -/
def ckAsg (N : List Str) (k : CK) (sc : Scope) (st : Stmt) (t : Tgt) (e : CE) : Bool := match st with
  | .Assign [.Name y py] (.ListComp elt [⟨tgt, iter, ifs, 0⟩] scope pos) _ => (match swB sc y py pos scope with
    | true => (match t, e with
      | .nm i, .newl (.comp kk tt src d b) => decide (N[i]? = some y) && ckComp N k sc elt tgt iter ifs scope kk tt src d b
      | _, _ => false)
    | false => ckTgt N sc (.Name y py) t && k.E sc (.ListComp elt [⟨tgt, iter, ifs, 0⟩] scope pos) e)
  | .Assign [tgt] x _ => notComp x && (notTuple x || notTuple tgt) && (ckTgt N sc tgt t && k.E sc x e)
  | _ => false
theorem s_asg {t : Tgt} {e : CE} (S : Snd G L Tb c N k) (g : GdS G L c N sc X W) (h : ckAsg N k sc st t e = true) : PS X st (tS L X.K W (evS Tb c (.asg t e))) := by
  unfold ckAsg at h
  split at h
  · split at h
    · rename_i hsw
      split at h
      · obtain ⟨h1, h2⟩ := decs h
        obtain ⟨h3, h4⟩ := decs hsw
        obtain ⟨h5, h6⟩ := decs h3
        have o := s_compOk S g.toGd h2
        refine PS.weaken (z_setLc (W := W) g.calm (by rw [g.eN]; exact g.nd) (by rw [g.eN]; exact of_decide_eq_true h1) (by rw [g.eS]; exact of_decide_eq_true h5) (by rw [g.eS]; exact g.kind) h6 (nott h4) o.hi o.ok o.own (gOf_ok _) o.hg o.ht o.he o.hs) fun D σ H q => ?_
        rw [← ev_comp]
        exact q
      · cases h
    · rename_i hsw
      obtain ⟨h1, h2⟩ := decs h
      obtain ⟨h3, h4⟩ := s_tgt g.eN g.nd g.calm g.sto h1
      exact z_asg2 h4 (sw_sole (by rw [g.eS]; exact hsw)) rfl h3 (gOf_ok t) (S.E g.toGd h2)
  · obtain ⟨h1, h2⟩ := decs h
    obtain ⟨h3, h4⟩ := decs h1
    obtain ⟨h5, h6⟩ := decs h2
    obtain ⟨h7, h8⟩ := s_tgt g.eN g.nd g.calm g.sto h5
    exact z_asg2 h8 (swapSole h3) h4 h7 (gOf_ok t) (S.E g.toGd h6)
  · cases h
def ckS1 (N : List Str) (E : CK) (k : CKS) (sc : Scope) (st : Stmt) (cs : CS) : Bool := match cs with
  | .ret e => (match st with
    | .Return (some x) _ => E.E sc x e
    | _ => false)
  | .retN => (match st with
    | .Return none _ => true
    | _ => false)
  | .ifs d s t => (match st with
    | .If x sa sb _ => E.T sc x d && (k.B sa s && k.B sb t)
    | _ => false)
  | .whl d s => (match st with
    | .While x b [] _ => E.T sc x d && k.B b s
    | _ => false)
  | .fr kk t src s => (match st with
    | .For tgt iter b [] _ => E.I sc iter kk src && (ckTgt N sc tgt t && notSet iter) && k.B b s
    | _ => false)
  | .brk => (match st with
    | .Break _ => true
    | _ => false)
  | .cnt => (match st with
    | .Continue _ => true
    | _ => false)
  | .skip => (match st with
    | .Pass _ => true
    | _ => false)
  | .ex e => (match st with
    | .Expr x _ => notComp x && E.E sc x e
    | _ => false)
  | .asg t e => ckAsg N E sc st t e
  | .seti o i e => (match st with
    | .Assign [.Subscript a b _] x _ => notComp x && notSlice b && (E.E sc a o && (E.E sc b i && E.E sc x e))
    | _ => false)
  | .nev => true
  | _ => false
theorem s_S {t : CS} (S : Snd G L Tb c N k) (SS : SndS G L Tb c N sc kS) (g : GdS G L c N sc X W) (h : ckS1 N k kS sc st t = true) : PS X st (tS L X.K W (evS Tb c t)) := by
  unfold ckS1 at h
  split at h
  · split at h
    · exact z_ret (S.E g.toGd h)
    · cases h
  · split at h
    · exact z_retN
    · cases h
  · split at h
    · obtain ⟨h1, h2⟩ := decs h
      obtain ⟨h3, h4⟩ := decs h2
      exact z_ifs (S.T g.toGd h1) (SS.B g h3) (SS.B g h4)
    · cases h
  · split at h
    · obtain ⟨h1, h2⟩ := decs h
      exact z_whl g.po (S.T g.toGd h1) (SS.B g h2) _
    · cases h
  · split at h
    · obtain ⟨h1, h2⟩ := decs h
      obtain ⟨h3, h4⟩ := decs h1
      obtain ⟨h5, h6⟩ := decs h4
      obtain ⟨h7, h8⟩ := s_tgt g.eN g.nd g.calm g.sto h5
      exact z_for g.po g.calm (S.I g.toGd h3) h7 (gOf_ok _) (SS.B g h2) h6
    · cases h
  · split at h
    · exact z_brk
    · cases h
  · split at h
    · exact z_cnt
    · cases h
  · split at h
    · exact z_pass
    · cases h
  · split at h
    · obtain ⟨h1, h2⟩ := decs h
      exact z_ex h1 (S.E g.toGd h2)
    · cases h
  · exact s_asg S g h
  · split at h
    · obtain ⟨h1, h2⟩ := decs h
      obtain ⟨h3, h4⟩ := decs h1
      obtain ⟨h5, h6⟩ := decs h2
      obtain ⟨h7, h8⟩ := decs h6
      exact z_seti h3 h4 (S.E g.toGd h5) (S.E g.toGd h7) (S.E g.toGd h8)
    · cases h
  · exact ⟨fun _ _ _ _ _ _ q => by
      obtain ⟨m, S, ρ, _, _, out⟩ := q
      exact (show False from out).elim⟩
  · cases h
def ckB1 (k : CKS) (sts : List Stmt) (cs : CS) : Bool := match sts with
  | [] => (match cs with
    | .skip => true
    | _ => false)
  | [s] => k.S s cs
  | s :: r => (match cs with
    | .seq a b => k.S s a && k.B r b
    | _ => false)
theorem s_B {t : CS} (SS : SndS G L Tb c N sc kS) (g : GdS G L c N sc X W) (h : ckB1 kS sts t = true) : PSs X sts (tS L X.K W (evS Tb c t)) := by
  unfold ckB1 at h
  split at h
  · split at h
    · exact z_skip
    · cases h
  · exact z_one (SS.S g h)
  · split at h
    · obtain ⟨h1, h2⟩ := decs h
      exact z_seq (SS.S g h1) (SS.B g h2)
    · cases h
def ckS (G : GT) (N : List Str) (sc : Scope) (m : Nat) : Nat → CKS
  | 0 => ⟨fun _ _ => false, fun _ _ => false⟩
  | n + 1 => ⟨ckS1 N (ck G N m) (ckS G N sc m n) sc, ckB1 (ckS G N sc m n)⟩
theorem sndS {m : Nat} : ∀ n, SndS G L Tb c N sc (ckS G N sc m n)
  | 0 => { S := fun _ h => (by cases h), B := fun _ h => (by cases h) }
  | n + 1 => { S := fun g h => s_S (snd m) (sndS n) g h, B := fun g h => s_B (sndS n) g h }
end
end Z

/-! ## ZBind -/
set_option Elab.async false
set_option linter.all false
set_option maxRecDepth 100000
/-! Z: plain parameters are bound in order. -/
namespace Z
open PySem Spec L2 PyProof.Rows
theorem lookup_none_snoc {q p : Str} {v : Value} {pre : List (Str × Value)} (h : pre.lookup q = none) (hn : q ≠ p) : (pre ++ [(p, v)]).lookup q = none := by
  rw [List.lookup_append, h]
  show (none.or (match q == p with
    | true => some v
    | false => none)) = none
  rw [beq_eq_false_iff_ne.mpr hn]; rfl
theorem lookup_hit {q : Str} {v : Value} {pre r : List (Str × Value)} (h : pre.lookup q = none) : (pre ++ (q, v) :: r).lookup q = some v := by
  rw [List.lookup_append, h, List.lookup_cons_self]; rfl
theorem filterMap_zip : ∀ (qs : List Str) (vs : List Value) (pre : List (Str × Value)), (∀ q ∈ qs, pre.lookup q = none) → qs.Nodup → vs.length = qs.length → qs.filterMap (fun n => ((pre ++ qs.zip vs).lookup n).map fun y => (n, y)) = qs.zip vs
  | [], _, _, _, _, _ => rfl
  | q :: qs, [], _, _, _, h => by cases h
  | q :: qs, v :: vs, pre, hp, nd, hl => by
    have nd := List.nodup_cons.mp nd
    have e : pre ++ (q :: qs).zip (v :: vs) = (pre ++ [(q, v)]) ++ qs.zip vs := by rw [List.append_assoc]; rfl
    have ih := filterMap_zip qs vs (pre ++ [(q, v)]) (fun r hr => lookup_none_snoc (hp r (by simp [hr])) fun z => nd.1 (z ▸ hr)) nd.2 (by simpa using hl)
    rw [List.filterMap_cons]
    have e1 : (pre ++ (q :: qs).zip (v :: vs)).lookup q = some v := lookup_hit (hp q (by simp))
    rw [e1, e, ih]; rfl
theorem filter_zip : ∀ (qs : List Str) (vs : List Value) (pre : List (Str × Value)), vs.length = qs.length → qs.filter (fun n => ((pre ++ qs.zip vs).lookup n).isNone) = []
  | [], _, _, _ => rfl
  | q :: qs, [], _, h => by cases h
  | q :: qs, v :: vs, pre, hl => by
    have e : pre ++ (q :: qs).zip (v :: vs) = (pre ++ [(q, v)]) ++ qs.zip vs := by rw [List.append_assoc]; rfl
    have ih := filter_zip qs vs (pre ++ [(q, v)]) (by simpa using hl)
    rw [List.filter_cons]
    have e1 : ((pre ++ (q :: qs).zip (v :: vs)).lookup q).isNone = false := by
      rw [List.lookup_append]
      show ((pre.lookup q).or (List.lookup q ((q, v) :: qs.zip vs))).isNone = false
      rw [List.lookup_cons_self]
      cases pre.lookup q <;> rfl
    rw [e1, e, ih]; rfl
theorem bind_plain {x qual : Str} {as : List Arg} {kd : List (Option Expr)} {df : List Expr} {body : List Stmt} {scope : Scope} {kV doc pm cdv ct : Value} {an : Option Addr} {us : List Value} (hl : us.length = as.length) (nd : (as.map (·.arg)).Nodup) :
    bindArgs (PySem.W.fnOf x qual ⟨[], as, none, [], kd, none, df⟩ body scope .none kV doc pm an cdv ct) ⟨us, []⟩ = pure ((as.map (·.arg)).zip us) := by
  have h1 : us.length = (as.map (·.arg)).length := by rw [List.length_map]; exact hl
  have h2 : ¬ us.length > (as.map (·.arg)).length := by omega
  have h3 := filter_zip (as.map (·.arg)) us [] h1
  have h4 := filterMap_zip (as.map (·.arg)) us [] (fun _ _ => rfl) nd h1
  have h5 : seqItems? Value.none = pure none := rfl
  rw [List.nil_append] at h3 h4
  unfold bindArgs PySem.W.fnOf
  simp only [List.map_nil, List.nil_append, List.append_nil, h5, pure_bind, Option.getD_none, List.length_nil, Nat.zero_sub, Nat.sub_zero, List.drop_nil, List.zip_nil_right, List.forIn_nil, List.take_length, Array.toList, h3, h4]
  simp [h2]
  intro z
  omega
end Z

/-! ## ZFun -/
set_option Elab.async false
set_option linter.all false
set_option maxRecDepth 100000
/-! Z: the text's defs; the law. -/
namespace Z
open PySem Spec L2 PyProof.Rows

structure ZDef where
  d : He.DefD
  N : List Str
structure Txt where
  defs : List ZDef
  T : Tab
  G : GT
  cn : List Str
  xn : List Str
  fl : List Str
  xf : List Str
def Txt.L (D : Txt) (K : PySem.W.Frag) : Lk := ⟨D.cn.length, fun i => He.ga K (D.cn.getD i default), fun i => D.fl.getD i default, fun i => He.ga K (D.xn.getD i default), fun i => D.xf.getD i default⟩
def plainPar (p : Arguments) (ps : List Str) : Bool := p.posonlyargs.isEmpty && p.vararg.isNone && p.kwonlyargs.isEmpty && p.kwarg.isNone && decide (p.args.map (·.arg) = ps)
theorem plainPar_ok {p : Arguments} {ps : List Str} (h : plainPar p ps = true) : ∃ as kd df, p = ⟨[], as, none, [], kd, none, df⟩ ∧ as.map (·.arg) = ps := by
  obtain ⟨po, as, va, ko, kd, ka, df⟩ := p
  obtain ⟨h1, h2⟩ := decs h
  obtain ⟨h3, h4⟩ := decs h1
  obtain ⟨h5, h6⟩ := decs h3
  obtain ⟨h7, h8⟩ := decs h5
  have q1 : as.map (·.arg) = ps := of_decide_eq_true h2
  have q2 : po = [] := by simpa using h7
  have q3 : va = none := by simpa using h8
  have q4 : ko = [] := by simpa using h6
  have q5 : ka = none := by simpa using h4
  clear h h1 h2 h3 h4 h5 h6 h7 h8
  subst q2 q3 q4 q5
  exact ⟨as, kd, df, rfl, q1⟩
def scB (N ps : List Str) (sc : Scope) : Bool := (match sc.kind with
  | .function => true
  | _ => false) && !sc.isCoroutine && !sc.isGenerator && decide N.Nodup && decide (N.take ps.length = ps) && ps.all (locB sc) && sc.names.all fun y => decide (y.2 ≠ .free)
theorem scB_ok {N ps : List Str} {sc : Scope} (h : scB N ps sc = true) : FnScope N ps sc := by
  obtain ⟨h, h7⟩ := decs h
  obtain ⟨h, h6⟩ := decs h
  obtain ⟨h, h5⟩ := decs h
  obtain ⟨h, h4⟩ := decs h
  obtain ⟨h, h3⟩ := decs h
  obtain ⟨h1, h2⟩ := decs h
  refine ⟨?_, nott h2, nott h3, of_decide_eq_true h4, of_decide_eq_true h5, fun x hx => loc_ok (List.all_eq_true.mp h6 x hx), fun y hy => of_decide_eq_true (List.all_eq_true.mp h7 y hy)⟩
  split at h1
  · assumption
  · cases h1
def ckDef (G : GT) (z : ZDef) (f : Fn) : Bool :=
  scB z.N (z.N.take f.np) z.d.scope && decide ((z.N.take f.np).length = f.np) && decide (z.N.length = f.ns) && plainPar z.d.params (z.N.take f.np) && (z.d.dfl.isEmpty && z.d.kwd.isEmpty) && (ckS G z.N z.d.scope 200 200).B z.d.body f.body
def ckDefs (G : GT) : List ZDef → List Fn → Bool
  | [], [] => true
  | z :: zs, f :: fs => ckDef G z f && ckDefs G zs fs
  | _, _ => false
theorem ckDefs_at {G : GT} : ∀ {zs : List ZDef} {fs : List Fn} {i : Nat} {f : Fn}, ckDefs G zs fs = true → fs[i]? = some f → ∃ z, zs[i]? = some z ∧ ckDef G z f = true
  | [], [], _, _, _, h => by simp at h
  | [], _ :: _, _, _, h, _ => by cases h
  | _ :: _, [], _, _, h, _ => by cases h
  | z :: zs, g :: fs, 0, f, h, e => by
    obtain rfl : g = f := by simpa using e
    exact ⟨z, rfl, (decs h).1⟩
  | z :: zs, g :: fs, i + 1, f, h, e => ckDefs_at (zs := zs) (decs h).2 (by simpa using e)
def ckGlb (D : Txt) : Bool := D.G.glb.all fun p => match p.2 with
  | .fn i => (match D.defs[i]? with
    | some z => decide (z.d.at_ = (p.1, none))
    | none => false) && (D.T.fns[i]?).isSome
  | .val (.int _) => true
  | .val (.str _) => true
  | .val _ => false
  | .cls c => decide (D.cn[c]? = some p.1)
  | .exc c => decide (D.xn[c]? = some p.1)
def ckTxt (D : Txt) : Bool := ckDefs D.G D.defs D.T.fns && ckGlb D
/-- what is known of the fragment -/
structure Kn (D : Txt) (K : PySem.W.Frag) (mg : Str → Option Value) : Prop where
  def_ : ∀ (i : Nat) (z : ZDef), D.defs[i]? = some z → ∃ fd, FunD K z.d.name z.d.qual z.d.params z.d.body z.d.scope (z.d.dvs K) (z.d.kws K) (He.fAd K z.d.at_) fd
  glo : ∀ (x : Str) (v : GV), D.G.glb.lookup x = some v → (∀ u, v ≠ .val u) → mg x = some (.ref (He.ga K x))
  val : ∀ (x : Str) (u : U), D.G.glb.lookup x = some (.val u) → ∃ z, mg x = some z ∧ RelV (Uv u) z
  fre : ∀ x, x ∈ D.G.fre → mg x = none
  isf : IsF (D.L K) K
theorem lookup_mem {α : Type} {x : Str} {v : α} : ∀ {l : List (Str × α)}, l.lookup x = some v → (x, v) ∈ l
  | [], h => by cases h
  | (y, w) :: r, h => by
    rw [List.lookup_cons] at h
    cases e : x == y with
    | true =>
      rw [e] at h
      cases h
      rw [eq_of_beq e]
      exact List.mem_cons_self
    | false =>
      rw [e] at h
      exact List.mem_cons_of_mem _ (lookup_mem h)
section
variable {D : Txt} {P : Program} {w : World} {K : PySem.W.Frag} {mg : Str → Option Value} {base : Heap}
theorem OutS.of_fin {L : Lk} {E : XK} {m : Nat → Addr} {H : Hp} {S : Sto} {r : SR} {Q : VK} (h : OutG L K (fun c d _ H => E c d H) [] m H S relV (finS r) Q) : OutS L K (fun c d _ H => E c d H) m H S r { nx := fun _ H' => Q .non H', rt := Q } := by
  cases r with
  | next ρ S' => exact fun m' H' σ' e s _ => h m' H' .non e s VR.non
  | ret u S' => exact h
  | exc c u ρ S' => exact fun m' H' σ' d y e s _ v x => h m' H' d y e s v x
  | brk ρ S' => exact h.elim
  | cnt ρ S' => exact h.elim
  | bad => exact h
theorem spZ_len {L : Lk} {np : Nat} {r : List U → Sto → R U} {vs : List V} {H : Hp} {Q : VK} {E : XK} (h : spZ L K np r vs H Q E) : vs.length = np := by
  obtain ⟨m, S, us, _, q, hl, _⟩ := h
  rw [q.length, hl]
theorem callN_len {T : Tab} {n i : Nat} {f : Fn} (hf : T.fns[i]? = some f) (us : List U) (S : Sto) (h : us.length ≠ f.np) : callN T n i us S = .bad := by
  cases n with
  | zero => rfl
  | succ n =>
    show (match T.fns[i]? with
      | none => R.bad
      | some fn => bif us.length == fn.np then finS (evS T (callN T n) fn.body (startE fn us) S) else .bad) = .bad
    rw [hf]
    dsimp only
    rw [beq_eq_false_iff_ne.mpr h]; rfl
theorem binds_of {z : ZDef} {f : Fn} {fd : FuncData} {fa : Addr} (hc : ckDef D.G z f = true) (F : FunD K z.d.name z.d.qual z.d.params z.d.body z.d.scope (z.d.dvs K) (z.d.kws K) fa fd) : Binds K fd (z.N.take f.np) [] ∧ ∀ (s : Shared) (us : List Value), us.length = (z.N.take f.np).length → BindsTo s fd ⟨us, []⟩ ((z.N.take f.np).zip us) := by
  obtain ⟨h, h7⟩ := decs hc
  obtain ⟨h, h6⟩ := decs h
  obtain ⟨h, h5⟩ := decs h
  obtain ⟨h, h4⟩ := decs h
  obtain ⟨h1, h3⟩ := decs h
  have sc := scB_ok h1
  obtain ⟨as, kd, df, e1, e2⟩ := plainPar_ok h5
  obtain ⟨e3, e4⟩ := decs h6
  have e3 : z.d.dvs K = [] := by
    show z.d.dfl.map _ = []
    rw [List.isEmpty_iff.mp e3]; rfl
  have nd : (as.map (·.arg)).Nodup := by rw [e2]; exact sc.nd.sublist (List.take_sublist _ _)
  rw [e3, e1] at F
  refine ⟨F.bindsN fun kV doc pm an cdv ct us hl => ?_, fun s us hl => F.bindsA (fun kV doc pm an cdv ct us hl => ?_) s us hl⟩
  · rw [bind_plain (by rw [← e2, List.length_map] at hl; exact hl) nd, e2]
  · rw [bind_plain (by rw [← e2, List.length_map] at hl; exact hl) nd, e2]
/-- THE RULE: a def of the text computes what its term does -/
theorem fn_ok (ck : ckTxt D = true) (kn : Kn D K mg) : ∀ (n i : Nat) (f : Fn) (z : ZDef) (fd : FuncData), D.T.fns[i]? = some f → D.defs[i]? = some z →
    FunD K z.d.name z.d.qual z.d.params z.d.body z.d.scope (z.d.dvs K) (z.d.kws K) (He.fAd K z.d.at_) fd → FnOk P w K mg base (L2.CX P w) n (He.fAd K z.d.at_) fd (z.N.take f.np) (spZ (D.L K) K f.np (callN D.T n i)) := by
  intro n
  induction n with
  | zero =>
    intro i f z fd hf hz F
    have no : ∀ vs H Q E, spZ (D.L K) K f.np (callN D.T 0 i) vs H Q E → False := fun vs H Q E ⟨m, S, us, _, _, _, h⟩ => h
    exact ⟨fun vs H Q E h => (no _ _ _ _ h).elim, fun A outer s H args us vs Q E _ _ _ _ h => (no _ _ _ _ h).elim⟩
  | succ n ih =>
    intro i f z fd hf hz F
    obtain ⟨c1, c2⟩ := decs ck
    obtain ⟨z', hz', hc⟩ := ckDefs_at c1 hf
    rw [hz] at hz'
    obtain rfl := Option.some.inj hz'
    obtain ⟨h, h7⟩ := decs hc
    obtain ⟨h, h6⟩ := decs h
    obtain ⟨h, h5⟩ := decs h
    obtain ⟨h, h4⟩ := decs h
    obtain ⟨h1, h3⟩ := decs h
    have sc := scB_ok h1
    have h3 := of_decide_eq_true h3
    have h4 := of_decide_eq_true h4
    refine F.ok (N := z.N) sc (fun vs H Q E h => by rw [h3]; exact spZ_len h) fun cdv A outer s H vs Q E hr h => ?_
    have g : GdS D.G (D.L K) (callN D.T n) z.N z.d.scope (cxOf (L2.CX P w) P w K mg base z.N z.d.qual z.d.scope (He.fAd K z.d.at_) cdv A outer s H E) (fun c d _ H => E c d H) :=
      { eN := rfl, eS := rfl, kind := sc.kind, nd := sc.nd, calm := rfl, un := hr.units, tk := takes_of rfl rfl rfl rfl, fre := kn.fre, val := kn.val,
        fn := fun x j hj => by
          have hm := List.all_eq_true.mp c2 _ (lookup_mem hj)
          obtain ⟨m1, m2⟩ := decs hm
          dsimp only at m1
          split at m1
          · rename_i z2 e2
            have m1 := of_decide_eq_true m1
            obtain ⟨f2, hf2⟩ := Option.isSome_iff_exists.mp m2
            obtain ⟨fd2, F2⟩ := kn.def_ j z2 e2
            obtain ⟨z3, hz3, hc3⟩ := ckDefs_at c1 hf2
            rw [e2] at hz3
            obtain rfl := Option.some.inj hz3
            refine ⟨n, He.fAd K z2.d.at_, fd2, _, f2.np, ih j f2 z2 fd2 hf2 e2 F2, hr, ?_, F2.kp, (binds_of hc3 F2).1, fun us S hl => callN_len hf2 us S hl⟩
            rw [m1]
            exact kn.glo x _ hj fun u => by simp
          · cases m1
        cls := fun x j hj => by
          have hm := List.all_eq_true.mp c2 _ (lookup_mem hj)
          have hm : D.cn[j]? = some x := of_decide_eq_true hm
          have hl : j < D.cn.length := (List.getElem?_eq_some_iff.mp hm).1
          refine ⟨?_, hl⟩
          refine (kn.glo x _ hj fun u => by simp).trans ?_
          show _ = some (Value.ref (He.ga K (D.cn.getD j default)))
          rw [List.getD_eq_getElem?_getD, hm]; rfl
        isf := kn.isf, po := passes_of rfl, fa := fun _ => rfl }
    refine ⟨tS (D.L K) K (fun c d _ H => E c d H) (evS D.T (callN D.T n) f.body), (sndS 200).B g h7, ?_⟩
    obtain ⟨m, S, us, sr, q, hl, out⟩ := h
    refine ⟨m, S, startE f us, sr, ER.start q hl h4, OutS.of_fin ?_⟩
    have e : callN D.T (n + 1) i us S = finS (evS D.T (callN D.T n) f.body (startE f us) S) := by
      show (match D.T.fns[i]? with
        | none => R.bad
        | some fn => bif us.length == fn.np then finS (evS D.T (callN D.T n) fn.body (startE fn us) S) else .bad) = _
      rw [hf]
      dsimp only
      rw [hl, beq_self_eq_true]; rfl
    rw [← e]; exact out
end
end Z

/-! ## ZHead -/
set_option Elab.async false
set_option linter.all false
set_option maxRecDepth 100000
set_option maxHeartbeats 2000000
/-! Z: what is looked at behind the top; a law. -/
namespace Z
open PySem Spec L2 PyProof.Rows

def kB (K : PySem.W.Frag) (x y : Value) (b : Bool) : Bool := decide (PySem.W.kitOne K x y = some b)
def isfB (D : Txt) (K : PySem.W.Frag) : Bool :=
  He.eqO (PySem.W.specialIn K (.builtin "object.__class__") "__get__") (some (some (.builtin "getset_descriptor.__get__"))) && decide (PySem.W.takesIn K (.builtin "object.__class__") = some true) &&
  D.cn.all (fun x => (He.Fa.cls x).ok K && He.eqO (PySem.W.findIn K (.ref (He.ga K x)) "__class__") (some (some (.builtin "object.__class__"))) && decide (PySem.W.mroIn K (He.ga K x) (.type "object") = some true) &&
    ["int", "bool", "str", "tuple", "list"].all (fun n => kB K (.ref (He.ga K x)) (.type n) false) && ["NoneType", "int", "bool", "str", "tuple", "list"].all (fun n => kB K (.type n) (.ref (He.ga K x)) false)) &&
  (List.range D.cn.length).all fun c => (List.range D.cn.length).all fun d => kB K (.ref (He.ga K (D.cn.getD c default))) (.ref (He.ga K (D.cn.getD d default))) (c == d)
theorem isfB_ok {D : Txt} {K : PySem.W.Frag} (h : isfB D K = true) : IsF (D.L K) K := by
  obtain ⟨h, h4⟩ := decs h
  obtain ⟨h, h3⟩ := decs h
  obtain ⟨h1, h2⟩ := decs h
  have at_ : ∀ c, c < D.cn.length → D.cn.getD c default ∈ D.cn := fun c hc => by
    rw [List.getD_eq_getElem?_getD, List.getElem?_eq_getElem hc]
    exact List.getElem_mem hc
  have all := fun c hc => List.all_eq_true.mp h3 _ (at_ c hc)
  refine ⟨fun c hc => ?_, fun c hc => ?_, fun c hc => ?_, He.eqO_ok h1, of_decide_eq_true h2, fun c hc n hn => ?_, fun c hc n hn => ?_, fun c d hc hd => ?_⟩
  · exact He.cls_ok (decs (decs (decs (decs (all c hc)).1).1).1).1
  · exact He.eqO_ok (decs (decs (decs (decs (all c hc)).1).1).1).2
  · exact of_decide_eq_true (decs (decs (decs (all c hc)).1).1).2
  · exact of_decide_eq_true (List.all_eq_true.mp (decs (decs (all c hc)).1).2 n hn)
  · exact of_decide_eq_true (List.all_eq_true.mp (decs (all c hc)).2 n hn)
  · exact of_decide_eq_true (List.all_eq_true.mp (List.all_eq_true.mp h4 c (List.mem_range.mpr hc)) d (List.mem_range.mpr hd))
def faOf : Str × GV → He.Fa
  | (x, .val (.int i)) => .int x i
  | (x, .val (.str s)) => .str x s
  | (x, _) => .glo x
def obsZ (D : Txt) (K : PySem.W.Frag) : Bool × List He.FnW :=
  (D.G.glb.all (fun p => (faOf p).ok K) && D.G.fre.all (fun x => (He.Fa.free x).ok K) && D.defs.all (fun z => z.d.ok K) && isfB D K, D.defs.map fun z => He.fnW K z.d.at_)
def valZ (D : Txt) : Bool × List He.FnW := (true, D.defs.map fun z => z.d.val)
def obsZG (n : Nat) (D : Txt) (g : Addr → Option Obj) : Bool × List He.FnW := obsZ D (He.frG g (He.asD g n))
def hookZ (n : Nat) (D : Txt) : PySem.W.Hook where
  α := Bool × List He.FnW
  obs := fun s => obsZG n D s.heap.get?
  val := fun _ => valZ D
  says := fun _ h => ∃ K : PySem.W.Frag, K.In h ∧ obsZ D K = valZ D
  of := fun _ _ e => ⟨_, He.frG_in, e⟩
  keeps := fun _ _ _ ⟨K, hK, c⟩ k => ⟨K, PySem.W.Frag.In.keeps hK k, c⟩
theorem obsZG_eq {n : Nat} {D : Txt} {g : Addr → Option Obj} {s : Shared} (h : ∀ a, g a = s.heap.get? a) : obsZG n D g = (hookZ n D).obs s := by
  show obsZG n D g = obsZG n D s.heap.get?
  rw [show g = s.heap.get? from funext h]
def obZ (n : Nat) (D : Txt) (s : PySem.W.SharedT) : (hookZ n D).α := obsZG n D (HandSHeadRun.getT s)
theorem obZ_eq {n : Nat} {D : Txt} (s : PySem.W.SharedT) : obZ n D s = (hookZ n D).obs s.abs := obsZG_eq (HandSHeadRun.getT_eq s)
theorem kn_of {D : Txt} {K : PySem.W.Frag} {h : Heap} {mg : Str → Option Value} (c : obsZ D K = valZ D) (X : K.In h) (Gn : h.Ns mainGlobals mg) (ck : ckTxt D = true) : Kn D K mg := by
  have c1 : (D.G.glb.all (fun p => (faOf p).ok K) && D.G.fre.all (fun x => (He.Fa.free x).ok K) && D.defs.all (fun z => z.d.ok K) && isfB D K) = true := congrArg Prod.fst c
  have c2 : (D.defs.map fun z => He.fnW K z.d.at_) = D.defs.map fun z => z.d.val := congrArg Prod.snd c
  obtain ⟨h1, h2⟩ := decs c1
  obtain ⟨h3, h4⟩ := decs h1
  obtain ⟨h5, h6⟩ := decs h3
  refine ⟨fun i z hz => ?_, fun x v hx hv => ?_, fun x u hx => ?_, fun x hx => ?_, isfB_ok h2⟩
  · have e : (D.defs.map fun z => He.fnW K z.d.at_)[i]? = (D.defs.map fun z => z.d.val)[i]? := by rw [c2]
    rw [List.getElem?_map, List.getElem?_map, hz] at e
    exact He.DefD.funD (Option.some.inj e) (List.all_eq_true.mp h4 z (List.mem_of_getElem? hz))
  · have q := List.all_eq_true.mp h5 _ (lookup_mem hx)
    cases v with
    | val u => exact absurd rfl (hv u)
    | _ => exact He.glo_ok X Gn q
  · have q := List.all_eq_true.mp h5 _ (lookup_mem hx)
    have q2 := List.all_eq_true.mp (decs ck).2 _ (lookup_mem hx)
    cases u with
    | int i =>
      obtain ⟨t, ht⟩ := He.int_ok X Gn q
      exact ⟨_, ht, ⟨t, rfl⟩⟩
    | str s =>
      obtain ⟨t, ht⟩ := He.str_ok X Gn q
      exact ⟨_, ht, ⟨t, rfl⟩⟩
    | _ => cases q2
  · exact He.free_ok X Gn (List.all_eq_true.mp h6 x hx)
/-- the store at the start: the script -/
def S0 (ns : List Int) : Sto := Sto.empty.alloc (.ro (ns.map U.int))
theorem vrs_ints {m : Nat → Addr} {H : Hp} {k : Nat} : ∀ ns : List Int, VRs m H k (ns.map U.int) (ns.map V.int)
  | [] => VRs.nil
  | n :: ns => VRs.cons VR.int (vrs_ints ns)
theorem sto1 {o x : O} {n : Nat} (h : (Sto.empty.alloc o).get n = some x) : n = 0 ∧ x = o := by
  rw [Sto.get_alloc] at h
  by_cases e : n = Sto.empty.n
  · rw [if_pos e] at h
    exact ⟨e, (Option.some.inj h).symm⟩
  · rw [if_neg e] at h
    cases (show (none : Option O) = some x from h)
theorem rel0 {L : Lk} {K : PySem.W.Frag} {H : Hp} {a : Addr} {ns : List Int} (ho : Only H) (hs : SqL K H a (ns.map V.int)) : SRel L K (fun _ => a) H (S0 ns) where
  pos := Nat.zero_lt_one
  mu := fun n o h => by
    obtain ⟨rfl, rfl⟩ := sto1 h
    exact ⟨fun h => (by cases h), fun h => absurd h (Nat.lt_irrefl 0)⟩
  obj := fun n o h => by
    obtain ⟨rfl, rfl⟩ := sto1 h
    refine ⟨ns.map V.int, ?_, vrs_ints ns⟩
    rcases hs with (h1 | ⟨ob, h1⟩) | h1
    · rcases ho a with h2 | ⟨_, _, h2⟩
      · rw [h2] at h1; cases h1
      · rw [h2] at h1; cases h1
    · exact .inl ⟨ob, h1⟩
    · exact .inr (.inr h1)
  inj := fun n n' o o' h h' ho ho' e => by
    obtain ⟨rfl, rfl⟩ := sto1 h
    cases ho
/-- THE LAW: what the text's law answers, by its term -/
theorem law_end {l : PySem.W.OpenLaw} {D : Txt} {n i fuel : Nat} {f : Fn} {z : ZDef} {q : Program} {loose : List Str} {d : DefRec} (hm : l.most = some 63) (hdf : d.params.defaults = []) (hr : Room fuel callerA)
    (ck : ckTxt D = true) (hf : D.T.fns[i]? = some f) (hz : D.defs[i]? = some z) (hx : z.N.take f.np = [("script" : Str)]) (hat : D.G.glb.lookup d.name = some (.fn i)) (hl : ∀ ns : List Int, ns.length ≤ 63 → ∃ S', callN D.T fuel i [.obj 0] (S0 ns) = .ok (.bl true) S') :
    PySem.W.WalkO q loose (PySem.W.XL q []) (hookZ n D).says l.row.toRowW d [] (fun f vs => PySem.call f vs) := by
  refine Att.attach_call hm hdf fun w s0 s1 mg mb fa o pm cd doc a vs ns A Y ho hd hcd hmg hobj hints hlen hg => ?_
  obtain ⟨K, KX, c⟩ := Y
  have kn := kn_of c KX A.T.g ck
  obtain ⟨fd, F⟩ := kn.def_ i z hz
  obtain ⟨c1, c2⟩ := decs ck
  obtain ⟨z', hz', hc⟩ := ckDefs_at c1 hf
  rw [hz] at hz'
  obtain rfl := Option.some.inj hz'
  have hnp : f.np = 1 := by
    have h := (decs (decs (decs (decs (decs hc).1).1).1).1).2
    have h := of_decide_eq_true h
    rw [hx] at h
    exact h.symm
  have hfa : He.fAd K z.d.at_ = fa := by
    have hq := List.all_eq_true.mp c2 _ (lookup_mem hat)
    obtain ⟨m1, _⟩ := decs hq
    dsimp only at m1
    rw [hz] at m1
    have m1 : z.d.at_ = (d.name, none) := of_decide_eq_true m1
    have e := (kn.glo _ _ hat fun u => by simp).symm.trans hmg
    rw [m1]
    injection e with e
    injection e
  refine law_call (sp := spZ (D.L K) K f.np (callN D.T fuel i)) (x := "script") (k := fuel) (CX := L2.CX l.prog w) (fd := fd) KX A.T.g A.T.b A.T.builtins A.T.nolimit hg hobj hints (Nat.le_trans hlen (by decide)) hr
    (fun base _ _ => ?_) (fun s u => ?_) (fun H hO hS => ?_) fun H e s' ⟨_, _, _, _, _, _, _, _, _, _, _, _, z⟩ => z
  · have h := fn_ok (P := l.prog) (w := w) (base := base) ck kn fuel i f z fd hf hz F
    rw [hx, hfa] at h
    exact h
  · have h := (binds_of hc F).2 s [u]
    rw [hx] at h
    exact h rfl
  · obtain ⟨S', hS'⟩ := hl ns hlen
    refine ⟨fun _ => a, S0 ns, [.obj 0], rel0 hO hS, VRs.cons ⟨Nat.zero_lt_one, rfl⟩ VRs.nil, by rw [hnp]; rfl, ?_⟩
    rw [hS']
    exact fun m' H' b _ _ v => v
end Z

/-! ## ZLaw -/
set_option Elab.async false
set_option linter.all false
set_option maxRecDepth 100000
set_option maxHeartbeats 4000000
/-! Z: the laws' draws. -/
namespace Z
open PySem L2

/-! ### stores: put, alloc -/
theorem Tr.set_set : ∀ (t : Tr) (k : Nat) (a b : O), (t.set k a).set k b = t.set k b
  | .nil, 0, _, _ => rfl
  | .nil, _ + 1, _, _ => rfl
  | .node _ _ _, 0, _, _ => rfl
  | .node l x r, k + 1, a, b => by
    show Tr.set (bif k % 2 == 0 then .node (l.set (k / 2) a) x r else .node l x (r.set (k / 2) a)) (k + 1) b = bif k % 2 == 0 then .node (l.set (k / 2) b) x r else .node l x (r.set (k / 2) b)
    cases hk : (k % 2 == 0)
    · show (bif k % 2 == 0 then Tr.node (l.set (k / 2) b) x (r.set (k / 2) a) else .node l x ((r.set (k / 2) a).set (k / 2) b)) = _
      rw [hk]
      show Tr.node l x ((r.set (k / 2) a).set (k / 2) b) = _
      rw [Tr.set_set]; rfl
    · show (bif k % 2 == 0 then Tr.node ((l.set (k / 2) a).set (k / 2) b) x r else .node (l.set (k / 2) a) x (r.set (k / 2) b)) = _
      rw [hk]
      show Tr.node ((l.set (k / 2) a).set (k / 2) b) x r = _
      rw [Tr.set_set]; rfl
theorem Tr.set_comm : ∀ (t : Tr) (k j : Nat) (a b : O), j ≠ k → t.get k ≠ none → (t.set k a).set j b = (t.set j b).set k a
  | .nil, _, _, _, _, _, h => absurd rfl h
  | .node _ _ _, 0, 0, _, _, h, _ => absurd rfl h
  | .node l x r, 0, j + 1, a, b, _, _ => by
    show (bif j % 2 == 0 then Tr.node (l.set (j / 2) b) (some a) r else .node l (some a) (r.set (j / 2) b)) = Tr.set (bif j % 2 == 0 then Tr.node (l.set (j / 2) b) x r else .node l x (r.set (j / 2) b)) 0 a
    cases (j % 2 == 0) <;> rfl
  | .node l x r, k + 1, 0, a, b, _, _ => by
    show Tr.set (bif k % 2 == 0 then Tr.node (l.set (k / 2) a) x r else .node l x (r.set (k / 2) a)) 0 b = (bif k % 2 == 0 then Tr.node (l.set (k / 2) a) (some b) r else .node l (some b) (r.set (k / 2) a))
    cases (k % 2 == 0) <;> rfl
  | .node l x r, k + 1, j + 1, a, b, h, hk => by
    have hk : (bif k % 2 == 0 then l.get (k / 2) else r.get (k / 2)) ≠ none := hk
    show Tr.set (bif k % 2 == 0 then Tr.node (l.set (k / 2) a) x r else .node l x (r.set (k / 2) a)) (j + 1) b = Tr.set (bif j % 2 == 0 then Tr.node (l.set (j / 2) b) x r else .node l x (r.set (j / 2) b)) (k + 1) a
    cases h1 : (k % 2 == 0) <;> cases h2 : (j % 2 == 0)
    · show (bif j % 2 == 0 then Tr.node (l.set (j / 2) b) x (r.set (k / 2) a) else .node l x ((r.set (k / 2) a).set (j / 2) b)) = (bif k % 2 == 0 then Tr.node (l.set (k / 2) a) x (r.set (j / 2) b) else .node l x ((r.set (j / 2) b).set (k / 2) a))
      rw [h1, h2]
      rw [h1] at hk
      have q1 : ¬ k % 2 = 0 := by simpa using h1
      have q2 : ¬ j % 2 = 0 := by simpa using h2
      show Tr.node l x _ = Tr.node l x _
      rw [Tr.set_comm r (k / 2) (j / 2) a b (by omega) hk]
    · show (bif j % 2 == 0 then Tr.node (l.set (j / 2) b) x (r.set (k / 2) a) else .node l x ((r.set (k / 2) a).set (j / 2) b)) = (bif k % 2 == 0 then Tr.node ((l.set (j / 2) b).set (k / 2) a) x r else .node (l.set (j / 2) b) x (r.set (k / 2) a))
      rw [h1, h2]; rfl
    · show (bif j % 2 == 0 then Tr.node ((l.set (k / 2) a).set (j / 2) b) x r else .node (l.set (k / 2) a) x (r.set (j / 2) b)) = (bif k % 2 == 0 then Tr.node (l.set (k / 2) a) x (r.set (j / 2) b) else .node l x ((r.set (j / 2) b).set (k / 2) a))
      rw [h1, h2]; rfl
    · show (bif j % 2 == 0 then Tr.node ((l.set (k / 2) a).set (j / 2) b) x r else .node (l.set (k / 2) a) x (r.set (j / 2) b)) = (bif k % 2 == 0 then Tr.node ((l.set (j / 2) b).set (k / 2) a) x r else .node (l.set (j / 2) b) x (r.set (k / 2) a))
      rw [h1, h2]
      rw [h1] at hk
      have q1 : k % 2 = 0 := by simpa using h1
      have q2 : j % 2 = 0 := by simpa using h2
      show Tr.node _ x r = Tr.node _ x r
      rw [Tr.set_comm l (k / 2) (j / 2) a b (by omega) hk]
theorem Sto.ext {S S' : Sto} (h1 : S.n = S'.n) (h2 : S.t = S'.t) : S = S' := by
  cases S; cases S'
  cases h1; cases h2; rfl
theorem Sto.put_t {S : Sto} {k : Nat} (h : k < S.n) (o : O) : (S.put k o).t = S.t.set k o := by unfold Sto.put; rw [dif_pos h]
theorem Sto.put_alloc {S : Sto} {a b : O} : (S.alloc a).put S.n b = S.alloc b :=
  Sto.ext (Sto.n_put _ _ _) (by rw [Sto.put_t (by rw [Sto.n_alloc]; omega)]; exact Tr.set_set _ _ _ _)
theorem Sto.put_under {S : Sto} {k : Nat} {a b : O} (h : k < S.n) : (S.alloc a).put k b = (S.put k b).alloc a :=
  Sto.ext (by rw [Sto.n_put, Sto.n_alloc, Sto.n_alloc, Sto.n_put]) (by
    rw [Sto.put_t (by rw [Sto.n_alloc]; omega)]
    show (S.t.set S.n a).set k b = (S.put k b).t.set (S.put k b).n a
    rw [Sto.put_t h, Sto.n_put]
    exact (Tr.set_comm S.t k S.n b a (by omega) ((S.ok k).mpr h)).symm)
theorem Sto.put_put {S : Sto} {k : Nat} {a b : O} : (S.put k a).put k b = S.put k b := by
  by_cases h : k < S.n
  · exact Sto.ext (by rw [Sto.n_put, Sto.n_put, Sto.n_put]) (by rw [Sto.put_t (by rw [Sto.n_put]; exact h), Sto.put_t h, Sto.put_t h, Tr.set_set])
  · have e : ∀ o, S.put k o = S := fun o => by unfold Sto.put; rw [dif_neg h]
    rw [e, e]
/-! ### calls -/
theorem callN_at {T : Tab} {n i : Nat} {f : Fn} {us : List U} {S : Sto} (hf : T.fns[i]? = some f) (hl : us.length = f.np) : callN T (n + 1) i us S = finS (evS T (callN T n) f.body (startE f us) S) := by
  show (match T.fns[i]? with
    | none => R.bad
    | some fn => bif us.length == fn.np then finS (evS T (callN T n) fn.body (startE fn us) S) else .bad) = _
  rw [hf]
  dsimp only
  rw [hl, beq_self_eq_true]; rfl
section
variable {T : Tab} {c : Ora}
theorem evS_seq {s t : CS} {ρ : Ev} {S : Sto} : evS T c (.seq s t) ρ S = match evS T c s ρ S with
  | .next ρ' S' => evS T c t ρ' S'
  | r => r := rfl
theorem ev_var {i : Nat} {ρ : Ev} {S : Sto} {u : U} (h : ρ[i]? = some (some u)) : ev T c (.var i) ρ S = .ok u S := by
  show (match ρ[i]? with
    | some (some u) => R.ok u S
    | _ => .bad) = _
  rw [h]
theorem ceq_int {S : Sto} {i j : Int} : ceq S (.int i) (.int j) = some (i == j) := by
  show some (PyData.eqv (.int i) (.int j)) = _
  unfold PyData.eqv; rfl
end

/-! ### the bodies -/
def bNum : CS := (.seq (.asg (.nm 1) (.newl (.tupd .nil)))
  (.seq (.fr .seq (.nm 2) (.slTo (.var 0) (.cst (.int 63))) (.ifs (.cmp .ge (.var 2) (.bin .pow (.cst (.int 10)) (.cst (.int 18)))) (.seq (.asg (.nm 3) (.var 2))
  (.fr .rng1 (.nm 4) (.cons (.cst (.int 60)) .nil) (.seq (.ifs (.cmp .eq (.var 3) (.cst (.int 0))) .brk .skip)
  (.seq (.ex (.bm .append (.var 1) (.cons (.bin .mod (.bf .int (.cons (.var 3) .nil)) (.cst (.int 997))) .nil)))
  (.asg (.nm 3) (.bin .fdiv (.var 3) (.cst (.int 997)))))))) (.fr .rng1 (.nm 4) (.cons (.cst (.int 4)) .nil) (.seq (.asg (.nm 5) (.bin .mod (.bf .int (.cons (.bin .add (.bin .add (.bin .mul (.var 2) (.cst (.int 48271))) (.bin .mul (.var 4) (.cst (.int 69621)))) (.cst (.int 11))) .nil)) (.cst (.int 2147483647))))
  (.ex (.bm .append (.var 1) (.cons (.bin .mod (.bf .int (.cons (.bin .add (.bin .mul (.var 5) (.cst (.int 16807))) (.var 4)) .nil)) (.cst (.int 2147483629))) .nil)))))))
  (.seq (.ifs (.cmp .eq (.bf .len (.cons (.var 1) .nil)) (.cst (.int 0))) (.ex (.bm .append (.var 1) (.cons (.cst (.int 0)) .nil))) .skip)
  (.ret (.var 1)))))
def bDraw : CS := (.seq (.ifs (.cmp .lt (.var 1) (.bf .len (.cons (.var 0) .nil))) (.ret (.bin .mod (.bf .int (.cons (.ix (.var 0) (.var 1)) .nil)) (.var 2))) .skip)
  (.seq (.asg (.nm 3) (.bin .mod (.bf .int (.cons (.bin .add (.bin .add (.bin .mul (.ix (.var 0) (.bin .mod (.bf .int (.cons (.var 1) .nil)) (.bf .len (.cons (.var 0) .nil)))) (.cst (.int 40692))) (.bin .mul (.var 1) (.cst (.int 7919)))) (.cst (.int 3))) .nil)) (.cst (.int 2147483399))))
  (.ret (.bin .mod (.bf .int (.cons (.bin .mod (.bf .int (.cons (.bin .add (.bin .mul (.var 3) (.cst (.int 48271))) (.var 1)) .nil)) (.cst (.int 2147483647))) .nil)) (.var 2)))))
def bTake (fd : Nat) : CS := (.seq (.seti (.var 1) (.cst (.int 0)) (.bin .add (.ix (.var 1) (.cst (.int 0))) (.cst (.int 1))))
  (.ret (.call fd (.cons (.var 0) (.cons (.bin .sub (.ix (.var 1) (.cst (.int 0))) (.cst (.int 1))) (.cons (.var 2) .nil))))))

section
variable {T : Tab} {c : Ora}
def mixA (r at_ : Int) : Int := (r * 40692 + at_ * 7919 + 3) % 2147483399
def mixB (m at_ : Int) : Int := (m * 48271 + at_) % 2147483647
/-- what a draw gives -/
def drw (row : List Int) (at_ lim : Int) : Int :=
  if at_ < (row.length : Int) then (row.getD at_.toNat 0) % lim else mixB (mixA (row.getD (at_ % (row.length : Int)).toNat 0) at_) at_ % lim
theorem drw_lo {row : List Int} {a l : Int} (h : 0 < l) : 0 ≤ drw row a l := by
  unfold drw; split <;> exact Int.emod_nonneg _ (by omega)
theorem drw_hi {row : List Int} {a l : Int} (h : 0 < l) : drw row a l < l := by
  unfold drw; split <;> exact Int.emod_lt_of_pos _ h
theorem lenU_lst {S : Sto} {k : Nat} {l : List U} (h : S.get k = some (.lst l)) : lenU S (.obj k) = some l.length := by
  show (match S.get k with
    | some (.lst l) => some l.length
    | some (.ro l) => some l.length
    | some (.dict l) => some l.length
    | _ => none) = _
  rw [h]
theorem rowU_lst {S : Sto} {k : Nat} {l : List U} (h : S.get k = some (.lst l)) : rowU S (.obj k) = some l := by
  show (match S.get k with
    | some (.lst l) => some l
    | some (.ro l) => some l
    | _ => none) = _
  rw [h]
theorem ixU_lst {S : Sto} {k : Nat} {l : List U} {i : Int} (h : S.get k = some (.lst l)) : ixU S (.obj k) (.int i) = atU l i := by
  show (match S.get k with
    | some (.lst l) => atU l i
    | some (.ro l) => atU l i
    | _ => none) = _
  rw [h]
theorem atU_int {l : List Int} {i : Int} (h0 : 0 ≤ i) (h1 : i < l.length) : atU (l.map U.int) i = some (.int (l.getD i.toNat 0)) := by
  unfold atU L2.atI L2.ixN
  rw [List.length_map, if_pos h0, if_pos h1]
  show (l.map U.int)[i.toNat]? = _
  have h2 : i.toNat < l.length := by omega
  rw [List.getElem?_map, List.getD_eq_getElem?_getD, List.getElem?_eq_getElem h2]; rfl
theorem small_nat {i : Int} (h0 : 0 ≤ i) (h1 : i < 2 ^ 64) : small i = true := by
  unfold small
  rw [decide_eq_true (by omega), decide_eq_true h1]; rfl
theorem draw_ok {n i : Nat} {r : Nat} {row : List Int} {a l : Int} {S : Sto} (hf : T.fns[i]? = some ⟨3, 4, bDraw⟩) (hr : S.get r = some (.lst (row.map U.int))) (ha : 0 ≤ a) (hl : 0 < l) (hne : 0 < row.length) :
    callN T (n + 1) i [.obj r, .int a, .int l] S = .ok (.int (drw row a l)) S := by
  rw [callN_at hf rfl]
  have e1 : lenU S (.obj r) = some row.length := by rw [lenU_lst hr, List.length_map]
  have s1 : ∀ x : Int, small 40692 || small x = true := fun x => by simp [small]
  by_cases h : a < (row.length : Int)
  · have e2 : ixU S (.obj r) (.int a) = some (.int (row.getD a.toNat 0)) := by rw [ixU_lst hr, atU_int ha h]
    simp [bDraw, evS, ev, evB, startE, R.toS, R.bind, finS, bfn, e1, e2, R.ofO, cop, tru, h, bop, hl, drw]
  · have h3 : 0 ≤ a % (row.length : Int) := Int.emod_nonneg _ (by omega)
    have h4 : a % (row.length : Int) < row.length := Int.emod_lt_of_pos _ (by omega)
    have e2 : ixU S (.obj r) (.int (a % (row.length : Int))) = some (.int (row.getD (a % (row.length : Int)).toNat 0)) := by rw [ixU_lst hr, atU_int h3 h4]
    simp [bDraw, evS, ev, evB, startE, R.toS, R.bind, finS, bfn, e1, e2, R.ofO, cop, tru, h, bop, hl, drw, Tgt.asg, small, mixA, mixB, hne]
end
end Z

/-! ## ZLaw2 -/
set_option Elab.async false
set_option linter.all false
set_option maxRecDepth 100000
set_option maxHeartbeats 4000000
/-! Z: the laws' draws, on: take; the numbers. -/
namespace Z
open PySem L2
section
variable {T : Tab} {c : Ora}
theorem take_ok {n i j : Nat} {r p : Nat} {row : List Int} {a l : Int} {S : Sto} (hf : T.fns[i]? = some ⟨3, 3, bTake j⟩) (hd : T.fns[j]? = some ⟨3, 4, bDraw⟩) (hr : S.get r = some (.lst (row.map U.int))) (hp : S.get p = some (.lst [.int a])) (hrp : r ≠ p) (ha : 0 ≤ a) (hl : 0 < l) (hne : 0 < row.length) :
    callN T (n + 2) i [.obj r, .obj p, .int l] S = .ok (.int (drw row a l)) (S.put p (.lst [.int (a + 1)])) := by
  rw [callN_at hf rfl]
  have e1 : ixU S (.obj p) (.int 0) = some (.int a) := by rw [ixU_lst hp]; rfl
  have e2 : ixU (S.put p (.lst [.int (a + 1)])) (.obj p) (.int 0) = some (.int (a + 1)) := by rw [ixU_lst (Sto.get_put_self hp _)]; rfl
  have e3 : callN T (n + 1) j [.obj r, .int a, .int l] (S.put p (.lst [.int (a + 1)])) = .ok (.int (drw row a l)) (S.put p (.lst [.int (a + 1)])) := draw_ok hd (by rw [Sto.get_put_ne _ hrp]; exact hr) ha hl hne
  have e4 : a + 1 - 1 = a := by omega
  simp [bTake, evS, ev, startE, R.toS, R.bind, finS, e1, e2, e3, e4, R.ofO, bop, hp, L2.ixN]
/-! ### the numbers -/
/-- the store while the row is made: the row at B.n, the part of the script behind it -/
def stR (B : Sto) (row sl : List U) : Sto := (B.alloc (.lst row)).alloc (.lst sl)
theorem stR_row {B : Sto} {row sl : List U} : (stR B row sl).get B.n = some (.lst row) := by
  unfold stR
  rw [Sto.get_alloc_of (Sto.get_alloc_self B _)]
theorem stR_sl {B : Sto} {row sl : List U} : (stR B row sl).get (B.n + 1) = some (.lst sl) := Sto.get_alloc_self (B.alloc (.lst row)) _
theorem stR_put {B : Sto} {row sl row' : List U} : (stR B row sl).put B.n (.lst row') = stR B row' sl := by
  unfold stR
  rw [Sto.put_under (by rw [Sto.n_alloc]; omega), Sto.put_alloc]
def innA : CS := (.seq (.ifs (.cmp .eq (.var 3) (.cst (.int 0))) .brk .skip)
  (.seq (.ex (.bm .append (.var 1) (.cons (.bin .mod (.bf .int (.cons (.var 3) .nil)) (.cst (.int 997))) .nil)))
  (.asg (.nm 3) (.bin .fdiv (.var 3) (.cst (.int 997))))))
theorem bmt_append {S : Sto} {k : Nat} {l : List U} {u : U} (h : S.get k = some (.lst l)) (hl : l.length < sizeLine) : bmt S .append (.obj k) [u] = .ok .non (S.put k (.lst (l ++ [u]))) := by
  show (match (generalizing := false) [u], S.get k with
    | [u], some (.lst l) => bif decide (l.length < sizeLine) then R.ok U.non (S.put k (.lst (l ++ [u]))) else .bad
    | _, _ => .bad) = _
  rw [h]
  dsimp only
  rw [decide_eq_true hl]; rfl
theorem isL_lst {S : Sto} {k : Nat} {l : List U} (h : S.get k = some (.lst l)) : isL S (.obj k) = true := by
  show (match S.get k with
    | some (.lst _) => true
    | _ => false) = true
  rw [h]
/-- the slots of the def: the script, the row, the cell; three that change -/
def rhoN (s : U) (B : Sto) (cell : Option U) (x y z : Option U) : Ev := [some s, some (.obj B.n), cell, x, y, z]
theorem innA_ok {s : U} {B : Sto} {sl : List U} {cell y z : Option U} {left : Int} {row : List Int} (hl : row.length < sizeLine) (k : U) :
    (match (Tgt.nm 4).asg k (rhoN s B cell (some (.int left)) y z) with
      | none => SR.bad
      | some ρ2 => evS T c innA ρ2 (stR B (row.map U.int) sl)) = if left = 0 then .brk (rhoN s B cell (some (.int left)) (some k) z) (stR B (row.map U.int) sl) else
        .next (rhoN s B cell (some (.int (left / 997))) (some k) z) (stR B ((row ++ [left % 997]).map U.int) sl) := by
  have e1 := bmt_append (u := .int (left % 997)) (stR_row (B := B) (row := row.map U.int) (sl := sl)) (by rw [List.length_map]; exact hl)
  have e2 := isL_lst (stR_row (B := B) (row := row.map U.int) (sl := sl))
  rw [stR_put] at e1
  by_cases h : left = 0
  · simp [innA, rhoN, evS, ev, evB, R.toS, R.bind, R.ofO, cop, ceq_int, tru, Tgt.asg, h]
  · have h' : (left == 0) = false := beq_eq_false_iff_ne.mpr h
    simp [innA, rhoN, evS, ev, evB, R.toS, R.bind, R.ofO, cop, ceq_int, tru, Tgt.asg, h, h', e1, e2, bfn, bop]
theorem intsU_len (lo : Int) (n : Nat) : (intsU lo n).length = n := by unfold intsU; rw [List.length_map, List.length_range]
/-- the loop over the figures of a large number -/
theorem loopA {s : U} {B : Sto} {sl : List U} {cell z : Option U} : ∀ (l : List U) (left : Int) (row : List Int) (y : Option U), row.length + l.length < sizeLine →
    ∃ x y' row', forL (fun k ρ S => match (Tgt.nm 4).asg k ρ with
      | none => SR.bad
      | some ρ2 => evS T c innA ρ2 S) l (rhoN s B cell (some (.int left)) y z) (stR B (row.map U.int) sl) = .next (rhoN s B cell x y' z) (stR B ((row' : List Int).map U.int) sl) ∧ row'.length ≤ row.length + l.length
  | [], left, row, y, _ => ⟨_, _, row, rfl, Nat.le_refl _⟩
  | u :: l, left, row, y, h => by
    rw [List.length_cons] at h
    have e := innA_ok (T := T) (c := c) (s := s) (B := B) (sl := sl) (cell := cell) (y := y) (z := z) (left := left) (row := row) (by omega) u
    by_cases h0 : left = 0
    · rw [if_pos h0] at e
      refine ⟨some (.int left), some u, row, ?_, by omega⟩
      unfold forL
      rw [e]
    · rw [if_neg h0] at e
      obtain ⟨x, y', row', e2, h2⟩ := loopA l (left / 997) (row ++ [left % 997]) (some u) (by rw [List.length_append, List.length_singleton]; omega)
      rw [List.length_append, List.length_singleton] at h2
      refine ⟨x, y', row', ?_, by rw [List.length_cons]; omega⟩
      unfold forL
      rw [e]
      exact e2
def innB : CS := (.seq (.asg (.nm 5) (.bin .mod (.bf .int (.cons (.bin .add (.bin .add (.bin .mul (.var 2) (.cst (.int 48271))) (.bin .mul (.var 4) (.cst (.int 69621)))) (.cst (.int 11))) .nil)) (.cst (.int 2147483647))))
  (.ex (.bm .append (.var 1) (.cons (.bin .mod (.bf .int (.cons (.bin .add (.bin .mul (.var 5) (.cst (.int 16807))) (.var 4)) .nil)) (.cst (.int 2147483629))) .nil))))
theorem innB_ok {s : U} {B : Sto} {sl : List U} {x y z : Option U} {cell k : Int} {row : List Int} (hl : row.length < sizeLine) :
    ∃ z' v, (match (Tgt.nm 4).asg (.int k) (rhoN s B (some (.int cell)) x y z) with
      | none => SR.bad
      | some ρ2 => evS T c innB ρ2 (stR B (row.map U.int) sl)) = .next (rhoN s B (some (.int cell)) x (some (.int k)) z') (stR B ((row ++ [v]).map U.int) sl) := by
  refine ⟨some (.int ((cell * 48271 + k * 69621 + 11) % 2147483647)), ((cell * 48271 + k * 69621 + 11) % 2147483647 * 16807 + k) % 2147483629, ?_⟩
  have e1 := bmt_append (u := .int (((cell * 48271 + k * 69621 + 11) % 2147483647 * 16807 + k) % 2147483629)) (stR_row (B := B) (row := row.map U.int) (sl := sl)) (by rw [List.length_map]; exact hl)
  have e2 := isL_lst (stR_row (B := B) (row := row.map U.int) (sl := sl))
  rw [stR_put] at e1
  simp [innB, rhoN, evS, ev, evB, R.toS, R.bind, R.ofO, Tgt.asg, e1, e2, bfn, bop, small]
theorem loopB {s : U} {B : Sto} {sl : List U} {x : Option U} {cell : Int} : ∀ (l : List Int) (row : List Int) (y z : Option U), row.length + l.length < sizeLine →
    ∃ y' z' row', forL (fun k ρ S => match (Tgt.nm 4).asg k ρ with
      | none => SR.bad
      | some ρ2 => evS T c innB ρ2 S) (l.map U.int) (rhoN s B (some (.int cell)) x y z) (stR B (row.map U.int) sl) = .next (rhoN s B (some (.int cell)) x y' z') (stR B ((row' : List Int).map U.int) sl) ∧ row'.length ≤ row.length + l.length
  | [], row, y, z, _ => ⟨_, _, row, rfl, Nat.le_refl _⟩
  | k :: l, row, y, z, h => by
    rw [List.length_cons] at h
    obtain ⟨z1, v, e⟩ := innB_ok (T := T) (c := c) (s := s) (B := B) (sl := sl) (x := x) (y := y) (z := z) (cell := cell) (k := k) (row := row) (by omega)
    obtain ⟨y', z', row', e2, h2⟩ := loopB l (row ++ [v]) (some (.int k)) z1 (by rw [List.length_append, List.length_singleton]; omega)
    rw [List.length_append, List.length_singleton] at h2
    refine ⟨y', z', row', ?_, by rw [List.length_cons]; omega⟩
    rw [List.map_cons]
    unfold forL
    rw [e]
    exact e2
def bodyN : CS := (.ifs (.cmp .ge (.var 2) (.bin .pow (.cst (.int 10)) (.cst (.int 18)))) (.seq (.asg (.nm 3) (.var 2)) (.fr .rng1 (.nm 4) (.cons (.cst (.int 60)) .nil) innA)) (.fr .rng1 (.nm 4) (.cons (.cst (.int 4)) .nil) innB))
theorem bodyN_ok {s : U} {B : Sto} {sl : List U} {cell0 x y z : Option U} {k : Int} {row : List Int} (hl : row.length + 60 < sizeLine) :
    ∃ cell x' y' z' row', (match (Tgt.nm 2).asg (.int k) (rhoN s B cell0 x y z) with
      | none => SR.bad
      | some ρ2 => evS T c bodyN ρ2 (stR B (row.map U.int) sl)) = .next (rhoN s B cell x' y' z') (stR B ((row' : List Int).map U.int) sl) ∧ row'.length ≤ row.length + 60 := by
  by_cases h : (10 : Int) ^ 18 ≤ k
  · obtain ⟨x1, y1, row1, e1, h1⟩ := loopA (T := T) (c := c) (s := s) (B := B) (sl := sl) (cell := some (.int k)) (z := z) (intsU 0 60) k row y (by rw [intsU_len]; omega)
    rw [intsU_len] at h1
    refine ⟨some (.int k), x1, y1, z, row1, ?_, h1⟩
    unfold rhoN at e1 ⊢
    simp [bodyN, evS, ev, evB, R.toS, R.bind, R.ofO, Tgt.asg, bop, cop, tru, mkIt, mid, forI]
    rw [decide_eq_true (show (1000000000000000000 : Int) ≤ k by omega)]
    exact e1
  · obtain ⟨y1, z1, row1, e1, h1⟩ := loopB (T := T) (c := c) (s := s) (B := B) (sl := sl) (x := x) (cell := k) [0, 1, 2, 3] row y z (by simp; omega)
    refine ⟨some (.int k), x, y1, z1, row1, ?_, by simp at h1; omega⟩
    unfold rhoN at e1 ⊢
    have e0 : intsU 0 4 = [0, 1, 2, 3].map U.int := rfl
    simp [bodyN, evS, ev, evB, R.toS, R.bind, R.ofO, Tgt.asg, bop, cop, tru, mkIt, mid, forI]
    rw [e0, decide_eq_false (show ¬ (1000000000000000000 : Int) ≤ k by omega)]
    exact e1
/-- the loop over the script: what is walked stays -/
theorem loopN {s : U} {B : Sto} {cells : List Int} : ∀ (n i : Nat) (cell x y z : Option U) (row : List Int), cells.length - i = n → i ≤ cells.length → row.length + 60 * n < sizeLine →
    ∃ cell' x' y' z' row', forG (Z.It.lv (B.n + 1)).row (fun k ρ S => match (Tgt.nm 2).asg k ρ with
      | none => SR.bad
      | some ρ2 => evS T c bodyN ρ2 S) (n + 1) i (rhoN s B cell x y z) (stR B (row.map U.int) (cells.map U.int)) = .next (rhoN s B cell' x' y' z') (stR B ((row' : List Int).map U.int) (cells.map U.int)) ∧ row'.length ≤ row.length + 60 * n
  | 0, i, cell, x, y, z, row, hn, hi, _ => by
    refine ⟨cell, x, y, z, row, ?_, by omega⟩
    unfold forG
    have e : (Z.It.lv (B.n + 1)).row (stR B (row.map U.int) (cells.map U.int)) = some (cells.map U.int) := rowU_lst stR_sl
    rw [e]
    have e2 : (cells.map U.int)[i]? = none := List.getElem?_eq_none (by rw [List.length_map]; omega)
    dsimp only
    rw [e2]
  | n + 1, i, cell, x, y, z, row, hn, hi, hs => by
    have hlt : i < cells.length := by omega
    obtain ⟨c1, x1, y1, z1, row1, e1, h1⟩ := bodyN_ok (T := T) (c := c) (s := s) (B := B) (sl := cells.map U.int) (cell0 := cell) (x := x) (y := y) (z := z) (k := cells[i]) (row := row) (by omega)
    obtain ⟨c2, x2, y2, z2, row2, e2, h2⟩ := loopN (cells := cells) n (i + 1) c1 x1 y1 z1 row1 (by omega) hlt (by omega)
    refine ⟨c2, x2, y2, z2, row2, ?_, by omega⟩
    unfold forG
    have e : (Z.It.lv (B.n + 1)).row (stR B (row.map U.int) (cells.map U.int)) = some (cells.map U.int) := rowU_lst stR_sl
    rw [e]
    have e3 : (cells.map U.int)[i]? = some (.int cells[i]) := by rw [List.getElem?_map, List.getElem?_eq_getElem hlt]; rfl
    dsimp only
    rw [e3]
    dsimp only
    rw [e1]
    exact e2
/-- THE NUMBERS: a row that is not empty -/
theorem num_ok {n i : Nat} {ns : List Int} (hf : T.fns[i]? = some ⟨1, 6, bNum⟩) (hl : ns.length ≤ 63) :
    ∃ row : List Int, 0 < row.length ∧ callN T (n + 1) i [.obj 0] (S0 ns) = .ok (.obj 1) (stR (S0 ns) (row.map U.int) (ns.map U.int)) := by
  rw [callN_at hf rfl]
  have hb : bNum = (.seq (.asg (.nm 1) (.newl (.tupd .nil))) (.seq (.fr .seq (.nm 2) (.slTo (.var 0) (.cst (.int 63))) bodyN)
    (.seq (.ifs (.cmp .eq (.bf .len (.cons (.var 1) .nil)) (.cst (.int 0))) (.ex (.bm .append (.var 1) (.cons (.cst (.int 0)) .nil))) .skip) (.ret (.var 1))))) := rfl
  have g0 : ((S0 ns).alloc (.lst [])).get 0 = some (.ro (ns.map U.int)) := by rw [Sto.get_alloc_of (x := .ro (ns.map U.int))]; exact Sto.get_alloc_self Sto.empty _
  have sl : sliceU ((S0 ns).alloc (.lst [])) (.obj 0) none (some 63) = .ok (.obj 2) (stR (S0 ns) [] (ns.map U.int)) := by
    show (match ((S0 ns).alloc (.lst [])).get 0 with
      | some (.lst l) => R.ok (U.obj ((S0 ns).alloc (.lst [])).n) (((S0 ns).alloc (.lst [])).alloc (.lst (cutU l none (some 63))))
      | some (.ro l) => R.ok (U.obj ((S0 ns).alloc (.lst [])).n) (((S0 ns).alloc (.lst [])).alloc (.lst (cutU l none (some 63))))
      | _ => .bad) = _
    rw [g0]
    have e : cutU (ns.map U.int) none (some 63) = ns.map U.int := by
      unfold cutU
      have e1 : HT.sIx (ns.map U.int).length 0 none = 0 := rfl
      have e2 : HT.sIx (ns.map U.int).length (ns.map U.int).length (some 63) = (ns.map U.int).length := by
        refine (HT.sIx_nat _ _ 63).trans ?_
        rw [List.length_map]
        omega
      rw [e1, e2, List.drop_zero, Nat.sub_zero, List.take_length]
    dsimp only
    rw [e]; rfl
  obtain ⟨c1, x1, y1, z1, row, e1, h1⟩ := loopN (T := T) (c := callN T n) (s := .obj 0) (B := S0 ns) (cells := ns) ns.length 0 none none none none [] rfl (Nat.zero_le _) (by show 0 + 60 * ns.length < 2 ^ 24; omega)
  have hrow : row.length ≤ 60 * 63 := by simp at h1; omega
  have hn1 : (S0 ns).n = 1 := rfl
  have gr : ∀ r, rowU (stR (S0 ns) r (ns.map U.int)) (.obj 2) = some (ns.map U.int) := fun r => rowU_lst stR_sl
  have e0 : ∀ r, (stR (S0 ns) r (ns.map U.int)).get 2 = some (.lst (ns.map U.int)) := fun r => stR_sl
  have e5 : lenU (stR (S0 ns) (row.map U.int) (ns.map U.int)) (.obj 1) = some row.length := (lenU_lst (k := 1) (show _ from stR_row)).trans (by rw [List.length_map])
  have e6 := isL_lst (stR_row (B := S0 ns) (row := row.map U.int) (sl := ns.map U.int))
  have st0 : (startE ⟨1, 6, bNum⟩ [U.obj 0]) = [some (.obj 0), none, none, none, none, none] := rfl
  have st1 : evS T (callN T n) (.asg (.nm 1) (.newl (.tupd .nil))) [some (.obj 0), none, none, none, none, none] (S0 ns) = .next (rhoN (.obj 0) (S0 ns) none none none none) ((S0 ns).alloc (.lst [])) := rfl
  have st2 : evS T (callN T n) (.fr .seq (.nm 2) (.slTo (.var 0) (.cst (.int 63))) bodyN) (rhoN (.obj 0) (S0 ns) none none none none) ((S0 ns).alloc (.lst [])) = .next (rhoN (.obj 0) (S0 ns) c1 x1 y1 z1) (stR (S0 ns) (row.map U.int) (ns.map U.int)) := by
    have q : mkIt (stR (S0 ns) [] (ns.map U.int)) .seq (.obj 2) = some (.lv 2) := by
      show (match (stR (S0 ns) [] (ns.map U.int)).get 2 with
        | some (.lst _) => some (Z.It.lv 2)
        | some (.ro _) => some (Z.It.lv 2)
        | _ => none) = _
      rw [e0]
    show (R.toS (R.bind (sliceU ((S0 ns).alloc (.lst [])) (.obj 0) none (some 63)) fun u S => .ok u S) _ _) = _
    rw [sl]
    show (match mkIt (stR (S0 ns) [] (ns.map U.int)) .seq (.obj 2) with
      | none => SR.bad
      | some it => forI _ it _ _) = _
    rw [q]
    dsimp only [forI]
    rw [gr, Option.getD_some, List.length_map]
    exact e1
  rw [st0]
  show ∃ row : List Int, 0 < row.length ∧ finS (evS T (callN T n) bNum [some (.obj 0), none, none, none, none, none] (S0 ns)) = .ok (.obj 1) (stR (S0 ns) (row.map U.int) (ns.map U.int))
  rw [hb, evS_seq, st1]
  dsimp only
  rw [evS_seq, st2]
  dsimp only
  by_cases hz : row.length = 0
  · refine ⟨[0], by decide, ?_⟩
    have hr0 : row = [] := List.length_eq_zero_iff.mp hz
    subst hr0
    rfl
  · refine ⟨row, by omega, ?_⟩
    have hz' : ((row.length : Int) == 0) = false := beq_eq_false_iff_ne.mpr (by omega)
    simp [rhoN, evS, ev, evB, R.toS, R.bind, R.ofO, finS, cop, ceq_int, tru, bfn, hn1, e5, hz']
end
end Z

/-! ## ZK07 -/
set_option maxRecDepth 100000
namespace Z
open PySem L2
abbrev f_is_integer : Nat := 0
abbrev f_is_integer_in : Nat := 1
abbrev f_named_by : Nat := 2
abbrev f_stop_marks : Nat := 3
abbrev f_stops_due : Nat := 4
abbrev f__law_so : Nat := 5
abbrev f__law_numbers : Nat := 6
abbrev f__law_draw : Nat := 7
abbrev f__law_take : Nat := 8
abbrev f__law_power : Nat := 9
abbrev f__law_named : Nat := 10
abbrev f_law : Nat := 11
abbrev x_NodesError : Nat := 0
abbrev x_BadValue : Nat := 1
/-- value -/
def b_is_integer : CS := (.ret (.and_ (.isi (.var 0) [.int]) (.not_ (.isi (.var 0) [.bool]))))
/-- value least most -/
def b_is_integer_in : CS := (.ret (.and_ (.call f_is_integer (.cons (.var 0) .nil)) (.chain .le .le (.var 1) (.var 0) (.var 2))))
/-- mark nodes node -/
def b_named_by : CS := (.ret (.br .tuple (.comp .rng1 (.nm 2) (.cons (.var 1) .nil) (.bin .band (.bin .shr (.var 0) (.var 2)) (.cst (.int 1))) (.var 2))))
/-- nodes most mark -/
def b_stop_marks : CS := (.ret (.newl (.comp .rng1 (.nm 2) (.cons (.bin .shl (.cst (.int 1)) (.var 0)) .nil) (.cmp .le (.bf .len (.cons (.call f_named_by (.cons (.var 2) (.cons (.var 0) .nil))) .nil)) (.var 1)) (.var 2))))
/-- nodes most pairs mark gone -/
def b_stops_due : CS := (.seq (.ifs (.not_ (.call f_is_integer_in (.cons (.var 0) (.cons (.cst (.int 1)) (.cons (.cst (.int 4)) .nil))))) .nev .skip)
  (.seq (.ifs (.not_ (.call f_is_integer_in (.cons (.var 1) (.cons (.cst (.int 0)) (.cons (.var 0) .nil))))) .nev .skip)
  (.seq (.asg (.nm 2) (.newl (.tupd .nil)))
  (.seq (.fr .seq (.nm 3) (.call f_stop_marks (.cons (.var 0) (.cons (.var 1) .nil))) (.seq (.asg (.nm 4) (.bf .len (.cons (.call f_named_by (.cons (.var 3) (.cons (.var 0) .nil))) .nil)))
  (.ex (.bm .append (.var 2) (.cons (.tupd (.cons (.var 3) (.cons (.ife (.cmp .le (.var 4) (.bin .sub (.var 1) (.cst (.int 2)))) (.bin .add (.var 4) (.cst (.int 2))) (.bin .add (.var 4) (.cst (.int 1)))) .nil))) .nil)))))
  (.ret (.bv .tuple (.var 2)))))))
/-- found meant k -/
def b__law_so : CS := (.seq (.ifs (.cmp .isN (.var 1) (.cst .non)) (.ret (.cmp .isN (.var 0) (.cst .non))) .skip)
  (.seq (.ifs (.isi (.var 1) [.tuple]) (.seq (.ifs (.or_ (.not_ (.isi (.var 0) [.tuple])) (.cmp .ne (.bf .len (.cons (.var 0) .nil)) (.bf .len (.cons (.var 1) .nil)))) (.ret (.cst (.bl false))) .skip)
  (.seq (.fr .rng1 (.nm 2) (.cons (.bf .len (.cons (.var 1) .nil)) .nil) (.ifs (.not_ (.call f__law_so (.cons (.ix (.var 0) (.var 2)) (.cons (.ix (.var 1) (.var 2)) .nil)))) (.ret (.cst (.bl false))) .skip))
  (.ret (.cst (.bl true))))) .skip)
  (.seq (.ifs (.or_ (.isi (.var 1) [.bool]) (.isi (.var 0) [.bool])) (.ret (.and_ (.isi (.var 1) [.bool]) (.and_ (.isi (.var 0) [.bool]) (.cmp .eq (.var 0) (.var 1))))) .skip)
  (.seq (.ifs (.isi (.var 1) [.int]) (.ret (.and_ (.isi (.var 0) [.int]) (.cmp .eq (.var 0) (.var 1)))) .skip)
  (.ret (.and_ (.isi (.var 1) [.str]) (.and_ (.isi (.var 0) [.str]) (.cmp .eq (.var 0) (.var 1)))))))))
/-- script row cell left k mixed -/
def b__law_numbers : CS := (.seq (.asg (.nm 1) (.newl (.tupd .nil)))
  (.seq (.fr .seq (.nm 2) (.slTo (.var 0) (.cst (.int 63))) (.ifs (.cmp .ge (.var 2) (.bin .pow (.cst (.int 10)) (.cst (.int 18)))) (.seq (.asg (.nm 3) (.var 2))
  (.fr .rng1 (.nm 4) (.cons (.cst (.int 60)) .nil) (.seq (.ifs (.cmp .eq (.var 3) (.cst (.int 0))) .brk .skip)
  (.seq (.ex (.bm .append (.var 1) (.cons (.bin .mod (.bf .int (.cons (.var 3) .nil)) (.cst (.int 997))) .nil)))
  (.asg (.nm 3) (.bin .fdiv (.var 3) (.cst (.int 997)))))))) (.fr .rng1 (.nm 4) (.cons (.cst (.int 4)) .nil) (.seq (.asg (.nm 5) (.bin .mod (.bf .int (.cons (.bin .add (.bin .add (.bin .mul (.var 2) (.cst (.int 48271))) (.bin .mul (.var 4) (.cst (.int 69621)))) (.cst (.int 11))) .nil)) (.cst (.int 2147483647))))
  (.ex (.bm .append (.var 1) (.cons (.bin .mod (.bf .int (.cons (.bin .add (.bin .mul (.var 5) (.cst (.int 16807))) (.var 4)) .nil)) (.cst (.int 2147483629))) .nil)))))))
  (.seq (.ifs (.cmp .eq (.bf .len (.cons (.var 1) .nil)) (.cst (.int 0))) (.ex (.bm .append (.var 1) (.cons (.cst (.int 0)) .nil))) .skip)
  (.ret (.var 1)))))
/-- row at limit mixed -/
def b__law_draw : CS := (.seq (.ifs (.cmp .lt (.var 1) (.bf .len (.cons (.var 0) .nil))) (.ret (.bin .mod (.bf .int (.cons (.ix (.var 0) (.var 1)) .nil)) (.var 2))) .skip)
  (.seq (.asg (.nm 3) (.bin .mod (.bf .int (.cons (.bin .add (.bin .add (.bin .mul (.ix (.var 0) (.bin .mod (.bf .int (.cons (.var 1) .nil)) (.bf .len (.cons (.var 0) .nil)))) (.cst (.int 40692))) (.bin .mul (.var 1) (.cst (.int 7919)))) (.cst (.int 3))) .nil)) (.cst (.int 2147483399))))
  (.ret (.bin .mod (.bf .int (.cons (.bin .mod (.bf .int (.cons (.bin .add (.bin .mul (.var 3) (.cst (.int 48271))) (.var 1)) .nil)) (.cst (.int 2147483647))) .nil)) (.var 2)))))
/-- row spot limit -/
def b__law_take : CS := (.seq (.seti (.var 1) (.cst (.int 0)) (.bin .add (.ix (.var 1) (.cst (.int 0))) (.cst (.int 1))))
  (.ret (.call f__law_draw (.cons (.var 0) (.cons (.bin .sub (.ix (.var 1) (.cst (.int 0))) (.cst (.int 1))) (.cons (.var 2) .nil))))))
/-- count made k -/
def b__law_power : CS := (.seq (.asg (.nm 1) (.cst (.int 1)))
  (.seq (.fr .rng1 (.nm 2) (.cons (.var 0) .nil) (.asg (.nm 1) (.bin .mul (.var 1) (.cst (.int 2)))))
  (.ret (.var 1))))
/-- mask nodes made left k -/
def b__law_named : CS := (.seq (.asg (.nm 2) (.newl (.tupd .nil)))
  (.seq (.asg (.nm 3) (.var 0))
  (.seq (.fr .rng1 (.nm 4) (.cons (.var 1) .nil) (.seq (.ifs (.cmp .eq (.bin .mod (.bf .int (.cons (.var 3) .nil)) (.cst (.int 2))) (.cst (.int 1))) (.ex (.bm .append (.var 2) (.cons (.var 4) .nil))) .skip)
  (.asg (.nm 3) (.bin .fdiv (.var 3) (.cst (.int 2))))))
  (.ret (.var 2)))))
/-- script row spot nodes most made mark many -/
def b_law : CS := (.seq (.asg (.nm 1) (.call f__law_numbers (.cons (.var 0) .nil)))
  (.seq (.asg (.nm 2) (.newl (.tupd (.cons (.cst (.int 0)) .nil))))
  (.seq (.asg (.nm 3) (.bin .add (.cst (.int 1)) (.call f__law_take (.cons (.var 1) (.cons (.var 2) (.cons (.cst (.int 4)) .nil))))))
  (.seq (.asg (.nm 4) (.call f__law_take (.cons (.var 1) (.cons (.var 2) (.cons (.bin .add (.var 3) (.cst (.int 1))) .nil)))))
  (.seq (.asg (.nm 5) (.newl (.tupd .nil)))
  (.seq (.fr .rng1 (.nm 6) (.cons (.call f__law_power (.cons (.var 3) .nil)) .nil) (.seq (.asg (.nm 7) (.bf .len (.cons (.call f__law_named (.cons (.var 6) (.cons (.var 3) .nil))) .nil)))
  (.ifs (.cmp .le (.var 7) (.var 4)) (.ex (.bm .append (.var 5) (.cons (.tupd (.cons (.var 6) (.cons (.ife (.cmp .le (.var 7) (.bin .sub (.var 4) (.cst (.int 2)))) (.bin .add (.var 7) (.cst (.int 2))) (.bin .add (.var 7) (.cst (.int 1)))) .nil))) .nil))) .skip)))
  (.ret (.call f__law_so (.cons (.call f_stops_due (.cons (.var 3) (.cons (.var 4) .nil))) (.cons (.bv .tuple (.var 5)) .nil))))))))))
def tab : Tab where
  fns := [⟨1, 1, b_is_integer⟩, ⟨3, 3, b_is_integer_in⟩, ⟨2, 3, b_named_by⟩, ⟨2, 3, b_stop_marks⟩, ⟨2, 5, b_stops_due⟩, ⟨2, 3, b__law_so⟩, ⟨1, 6, b__law_numbers⟩, ⟨3, 4, b__law_draw⟩, ⟨3, 3, b__law_take⟩, ⟨1, 3, b__law_power⟩, ⟨2, 5, b__law_named⟩, ⟨1, 8, b_law⟩]
  init := []
  prop := []
  mth := []
def tp (i : Nat) : Stmt := PySem.Challenge.pw_alikeruns_k07_when_stopping_nodes_are_du.main.body.getD i (.Pass ⟨0, 0, 0, 0⟩)
def zd (x : Str) (i : Nat) (N : List Str) : ZDef := ⟨⟨(x, none), x, x, defArgs (tp i), defBody (tp i), defScope (tp i), [], []⟩, N⟩
def glb : List (Str × GV) := [("is_integer", .fn 0), ("is_integer_in", .fn 1), ("named_by", .fn 2), ("stop_marks", .fn 3), ("stops_due", .fn 4), ("_law_so", .fn 5), ("_law_numbers", .fn 6), ("_law_draw", .fn 7), ("_law_take", .fn 8), ("_law_power", .fn 9), ("_law_named", .fn 10), ("law", .fn 11), ("MOST_NODES", .val (.int 4))]
def fre : List Str := ["len", "int", "tuple", "isinstance", "range", "bool", "str"]
def txt : Txt where
  defs := [zd "is_integer" 1 ["value"],
    zd "is_integer_in" 2 ["value", "least", "most"],
    zd "named_by" 8 ["mark", "nodes", "node"],
    zd "stop_marks" 9 ["nodes", "most", "mark"],
    zd "stops_due" 10 ["nodes", "most", "pairs", "mark", "gone"],
    zd "_law_so" 12 ["found", "meant", "k"],
    zd "_law_numbers" 13 ["script", "row", "cell", "left", "k", "mixed"],
    zd "_law_draw" 14 ["row", "at", "limit", "mixed"],
    zd "_law_take" 15 ["row", "spot", "limit"],
    zd "_law_power" 16 ["count", "made", "k"],
    zd "_law_named" 17 ["mask", "nodes", "made", "left", "k"],
    zd "law" 18 ["script", "row", "spot", "nodes", "most", "made", "mark", "many"]]
  T := tab
  G := ⟨glb, fre⟩
  cn := []
  xn := ["NodesError", "BadValue"]
  fl := []
  xf := []
def loose : List Str := ["is_integer", "is_integer_in", "NodesError", "BadValue", "MOST_NODES", "named_by", "stop_marks", "stops_due", "_law_so", "_law_numbers", "_law_draw", "_law_take", "_law_power", "_law_named"]
abbrev lawAt : Nat := 18
end Z

/-! ## ZC07 -/
set_option maxRecDepth 100000
set_option maxHeartbeats 0
namespace Z
open PySem L2
def bads (D : Txt) : List Nat := (List.range D.defs.length).filter fun i => match D.defs[i]?, D.T.fns[i]? with
  | some z, some f => !ckDef D.G z f
  | _, _ => true
set_option profiler true
example : bads txt = [] := by decide +kernel
theorem ckT : ckTxt txt = true := by decide +kernel
end Z

/-! ## ZH07 -/
set_option maxRecDepth 100000
set_option maxHeartbeats 0
namespace Z
open PySem L2
abbrev rowL : PySem.W.OpenRow := PySem.W.OpenLaw.row PySem.Challenge.rw_alikeruns_k07_when_stopping_nodes_are_du
theorem runL (w : World) : HandSHeadRun.RunEq rowL (PySem.W.view rowL.prog [lawAt]) (hookZ 4 txt) (obZ 4 txt) 4000 loose w := by
  intro os
  kernel_rfl
end Z

/-! ## ZP07 -/
set_option maxRecDepth 100000
set_option maxHeartbeats 0
namespace Z
open PySem L2
def isT : R U → Bool
  | .ok (.bl true) _ => true
  | _ => false
theorem isT_ok {r : R U} (h : isT r = true) : ∃ S, r = .ok (.bl true) S := by
  unfold isT at h
  split at h
  · exact ⟨_, rfl⟩
  · cases h
/-- what is left of the law, once the numbers are drawn -/
def rest : CS := (.seq (.asg (.nm 5) (.newl (.tupd .nil)))
  (.seq (.fr .rng1 (.nm 6) (.cons (.call f__law_power (.cons (.var 3) .nil)) .nil) (.seq (.asg (.nm 7) (.bf .len (.cons (.call f__law_named (.cons (.var 6) (.cons (.var 3) .nil))) .nil)))
  (.ifs (.cmp .le (.var 7) (.var 4)) (.ex (.bm .append (.var 5) (.cons (.tupd (.cons (.var 6) (.cons (.ife (.cmp .le (.var 7) (.bin .sub (.var 4) (.cst (.int 2)))) (.bin .add (.var 7) (.cst (.int 2))) (.bin .add (.var 7) (.cst (.int 1)))) .nil))) .nil))) .skip)))
  (.ret (.call f__law_so (.cons (.call f_stops_due (.cons (.var 3) (.cons (.var 4) .nil))) (.cons (.bv .tuple (.var 5)) .nil))))))
def fin (ns row : List Int) (nodes most : Int) : R U :=
  finS (evS tab (callN tab 60) rest [some (.obj 0), some (.obj 1), some (.obj 3), some (.int nodes), some (.int most), none, none, none] ((stR (S0 ns) (row.map U.int) (ns.map U.int)).alloc (.lst [.int 2])))
def all07 : List (Int × Int) := [(1, 0), (1, 1), (2, 0), (2, 1), (2, 2), (3, 0), (3, 1), (3, 2), (3, 3), (4, 0), (4, 1), (4, 2), (4, 3), (4, 4)]
theorem fin_ok (ns row : List Int) : all07.all (fun p => isT (fin ns row p.1 p.2)) = true := by
  kernel_rfl
theorem law07 (ns : List Int) (hl : ns.length ≤ 63) : ∃ S', callN tab 61 f_law [.obj 0] (S0 ns) = .ok (.bl true) S' := by
  obtain ⟨row, hr, e1⟩ := num_ok (T := tab) (n := 59) (i := f__law_numbers) (ns := ns) rfl hl
  apply isT_ok
  rw [callN_at (f := ⟨1, 8, b_law⟩) rfl rfl]
  have st : (startE ⟨1, 8, b_law⟩ [U.obj 0]) = [some (.obj 0), none, none, none, none, none, none, none] := rfl
  have n3 : (stR (S0 ns) (row.map U.int) (ns.map U.int)).n = 3 := rfl
  have gr : ∀ o, ((stR (S0 ns) (row.map U.int) (ns.map U.int)).alloc o).get 1 = some (.lst (row.map U.int)) := fun o => Sto.get_alloc_of stR_row
  have gp : ∀ o, ((stR (S0 ns) (row.map U.int) (ns.map U.int)).alloc o).get 3 = some o := fun o => Sto.get_alloc_self (stR (S0 ns) (row.map U.int) (ns.map U.int)) o
  have pp : ∀ o o', ((stR (S0 ns) (row.map U.int) (ns.map U.int)).alloc o).put 3 o' = (stR (S0 ns) (row.map U.int) (ns.map U.int)).alloc o' := fun o o' => Sto.put_alloc
  have t1 := take_ok (T := tab) (n := 58) (i := f__law_take) (j := f__law_draw) (r := 1) (p := 3) (row := row) (a := 0) (l := 4) rfl rfl (gr (.lst [.int 0])) (gp (.lst [.int 0])) (by decide) (by decide) (by decide) hr
  have l1 := drw_lo (row := row) (a := 0) (l := 4) (by decide)
  have l2 := drw_hi (row := row) (a := 0) (l := 4) (by decide)
  rw [pp] at t1
  generalize drw row 0 4 = n0 at t1 l1 l2
  have t2 := take_ok (T := tab) (n := 58) (i := f__law_take) (j := f__law_draw) (r := 1) (p := 3) (row := row) (a := 1) (l := 1 + n0 + 1) rfl rfl (gr (.lst [.int 1])) (gp (.lst [.int 1])) (by decide) (by decide) (by omega) hr
  have l3 := drw_lo (row := row) (a := 1) (l := 1 + n0 + 1) (by omega)
  have l4 := drw_hi (row := row) (a := 1) (l := 1 + n0 + 1) (by omega)
  rw [pp] at t2
  generalize drw row 1 (1 + n0 + 1) = m0 at t2 l3 l4
  have body : b_law = (.seq (.asg (.nm 1) (.call f__law_numbers (.cons (.var 0) .nil)))
    (.seq (.asg (.nm 2) (.newl (.tupd (.cons (.cst (.int 0)) .nil))))
    (.seq (.asg (.nm 3) (.bin .add (.cst (.int 1)) (.call f__law_take (.cons (.var 1) (.cons (.var 2) (.cons (.cst (.int 4)) .nil))))))
    (.seq (.asg (.nm 4) (.call f__law_take (.cons (.var 1) (.cons (.var 2) (.cons (.bin .add (.var 3) (.cst (.int 1))) .nil))))) rest)))) := rfl
  have key : isT (fin ns row (1 + n0) m0) = true := by
    have h := List.all_eq_true.mp (fin_ok ns row)
    have hm : (1 + n0, m0) ∈ all07 := by
      have a1 : n0 = 0 ∨ n0 = 1 ∨ n0 = 2 ∨ n0 = 3 := by omega
      rcases a1 with rfl | rfl | rfl | rfl
      · have a2 : m0 = 0 ∨ m0 = 1 := by omega
        rcases a2 with rfl | rfl <;> decide
      · have a2 : m0 = 0 ∨ m0 = 1 ∨ m0 = 2 := by omega
        rcases a2 with rfl | rfl | rfl <;> decide
      · have a2 : m0 = 0 ∨ m0 = 1 ∨ m0 = 2 ∨ m0 = 3 := by omega
        rcases a2 with rfl | rfl | rfl | rfl <;> decide
      · have a2 : m0 = 0 ∨ m0 = 1 ∨ m0 = 2 ∨ m0 = 3 ∨ m0 = 4 := by omega
        rcases a2 with rfl | rfl | rfl | rfl | rfl <;> decide
    exact h _ hm
  rw [st]
  show isT (finS (evS tab (callN tab 60) b_law [some (.obj 0), none, none, none, none, none, none, none] (S0 ns))) = true
  rw [body, evS_seq]
  have s1 : evS tab (callN tab 60) (.asg (.nm 1) (.call f__law_numbers (.cons (.var 0) .nil))) [some (.obj 0), none, none, none, none, none, none, none] (S0 ns) = .next [some (.obj 0), some (.obj 1), none, none, none, none, none, none] (stR (S0 ns) (row.map U.int) (ns.map U.int)) := by
    show R.toS (callN tab 60 f__law_numbers [.obj 0] (S0 ns)) _ _ = _
    rw [e1]; rfl
  rw [s1]
  dsimp only
  rw [evS_seq]
  have s2 : evS tab (callN tab 60) (.asg (.nm 2) (.newl (.tupd (.cons (.cst (.int 0)) .nil)))) [some (.obj 0), some (.obj 1), none, none, none, none, none, none] (stR (S0 ns) (row.map U.int) (ns.map U.int)) = .next [some (.obj 0), some (.obj 1), some (.obj 3), none, none, none, none, none] ((stR (S0 ns) (row.map U.int) (ns.map U.int)).alloc (.lst [.int 0])) := rfl
  rw [s2]
  dsimp only
  rw [evS_seq]
  have s3 : evS tab (callN tab 60) (.asg (.nm 3) (.bin .add (.cst (.int 1)) (.call f__law_take (.cons (.var 1) (.cons (.var 2) (.cons (.cst (.int 4)) .nil)))))) [some (.obj 0), some (.obj 1), some (.obj 3), none, none, none, none, none] ((stR (S0 ns) (row.map U.int) (ns.map U.int)).alloc (.lst [.int 0])) = .next [some (.obj 0), some (.obj 1), some (.obj 3), some (.int (1 + n0)), none, none, none, none] ((stR (S0 ns) (row.map U.int) (ns.map U.int)).alloc (.lst [.int 1])) := by
    show R.toS (R.bind (callN tab 60 f__law_take [.obj 1, .obj 3, .int 4] _) _) _ _ = _
    rw [t1]; rfl
  rw [s3]
  dsimp only
  rw [evS_seq]
  have s4 : evS tab (callN tab 60) (.asg (.nm 4) (.call f__law_take (.cons (.var 1) (.cons (.var 2) (.cons (.bin .add (.var 3) (.cst (.int 1))) .nil))))) [some (.obj 0), some (.obj 1), some (.obj 3), some (.int (1 + n0)), none, none, none, none] ((stR (S0 ns) (row.map U.int) (ns.map U.int)).alloc (.lst [.int 1])) = .next [some (.obj 0), some (.obj 1), some (.obj 3), some (.int (1 + n0)), some (.int m0), none, none, none] ((stR (S0 ns) (row.map U.int) (ns.map U.int)).alloc (.lst [.int 2])) := by
    show R.toS (callN tab 60 f__law_take [.obj 1, .obj 3, .int (1 + n0 + 1)] _) _ _ = _
    rw [t2]; rfl
  rw [s4]
  exact key
end Z
open PySem PySem.W PySem.Calls PyProof.Rows
theorem PySem.Challenge.cw_alikeruns_k07_when_stopping_nodes_are_du_holds : PySem.Challenge.rw_alikeruns_k07_when_stopping_nodes_are_du.Holds := by
  w_on; o_law
  refine HandSHeadRun.head_any (r := Z.rowL) (q := view Z.rowL.prog [Z.lawAt]) (H := Z.hookZ 4 Z.txt) (ob := Z.obZ 4 Z.txt) (M := 4000) (loose := Z.loose) (d := HandSHeadRun.topDef Z.rowL.prog Z.lawAt) (kwd := []) Z.obZ_eq
    (by kernel_rfl) (fun s => by kernel_rfl) Z.runL (by kernel_rfl) (by kernel_rfl) (by kernel_rfl) (by rfl) (by first | assumption | decide +kernel) (by decide +kernel) ⟨rfl, rfl, rfl, rfl, rfl, by decide +kernel⟩ ?hw ?hc
  case hw => w_witness2
  case hc =>
    exact Z.law_end (l := PySem.Challenge.rw_alikeruns_k07_when_stopping_nodes_are_du) (D := Z.txt) (i := Z.f_law) (fuel := 61) (f := ⟨1, 8, Z.b_law⟩) rfl (by kernel_rfl) ⟨rfl, by decide, by decide⟩ Z.ckT rfl rfl rfl (by kernel_rfl) fun ns h => Z.law07 ns h

