import PyProof.Rows.All
import Wide.All
import OpenK.AllK
import Wide.FinOn
import HandS.ForMost
import HandS.ForExc
import HandS.More
import HandS.Star
import HandS.CallSlots
import HandS.IsInst
import HandS.ExcField
import HandS.ExcInit
import HandS.DictComp
import HandS.Wide
import HandS.TupAny
import HandS.Style
import HandS.Deep
import HandS.NoneIn
import HandS.Defaults
import HandS.Flow
import HandS.HeadWalk
import PyProof.EqAt
import PyProof.EqKinds
import HandS.Base
import HandS.Call
import HandS.List
import HandS.Set
import HandS.SetFor
import HandS.Strs
import HandS.SetTxt0
import PyProof.ListNew
import KE.KDictSum
import HandS.HeadHook3
import HandS.HeadEnd
import HandS.Head0
import HandS.Head1
import HandS.Head2
import PySem.Challenge.RW_lastarrivals_k05_nests_and_begins
set_option Elab.async false
set_option linter.all false
set_option maxRecDepth 100000
/-! MP: a small language of values by reference, its evaluator. -/
namespace MP
open PySem L2

/-! ### values, objects -/
inductive W where
  | non | bl (b : Bool) | int (i : Int) | str (x : Str) | ref (n : Nat) | st (i : Nat) | exn (c : Str) (n : Nat)
  deriving DecidableEq, Inhabited
inductive O where
  | lst (xs : List W) | tup (xs : List W) | dic (kvs : List (Key × W)) | ins (c : Str) (fs : List (Str × W)) | rol (xs : List W) | xd (fs : List (Str × W)) | frz (o : O)
  deriving Inhabited

/-! ### the heap: a tree -/
inductive Tr where
  | nil | nd (l : Tr) (v : Option O) (r : Tr)
  deriving Inhabited
def Tr.get : Tr → Nat → Option O
  | .nil, _ => none
  | .nd l v r, n => match n with
    | 0 => v
    | m + 1 => if m % 2 = 0 then l.get (m / 2) else r.get (m / 2)
def Tr.setF : Nat → Tr → Nat → O → Tr
  | 0, .nil, _, o => .nd .nil (some o) .nil
  | 0, .nd l _ r, _, o => .nd l (some o) r
  | f + 1, t, n, o => match t with
    | .nil => (match n with
      | 0 => .nd .nil (some o) .nil
      | m + 1 => if m % 2 = 0 then .nd (Tr.setF f .nil (m / 2) o) none .nil else .nd .nil none (Tr.setF f .nil (m / 2) o))
    | .nd l v r => (match n with
      | 0 => .nd l (some o) r
      | m + 1 => if m % 2 = 0 then .nd (Tr.setF f l (m / 2) o) v r else .nd l v (Tr.setF f r (m / 2) o))
theorem Tr.get_nil (n : Nat) : Tr.get .nil n = none := by cases n <;> rfl
theorem Tr.get_setF : ∀ (f : Nat) (t : Tr) (n m : Nat) (o : O), n ≤ f → (Tr.setF f t n o).get m = if m = n then some o else t.get m
  | 0, .nil, n, m, o, h => by
    have e : n = 0 := by omega
    subst e
    cases m with
    | zero => rfl
    | succ m => show (if m % 2 = 0 then Tr.get .nil (m / 2) else Tr.get .nil (m / 2)) = _; simp [Tr.get_nil]
  | 0, .nd l v r, n, m, o, h => by
    have e : n = 0 := by omega
    subst e
    cases m with
    | zero => rfl
    | succ m => rw [if_neg (by omega)]; rfl
  | f + 1, .nil, 0, m, o, h => by
    cases m with
    | zero => rfl
    | succ m => show (if m % 2 = 0 then Tr.get .nil (m / 2) else Tr.get .nil (m / 2)) = _; simp [Tr.get_nil]
  | f + 1, .nil, n + 1, m, o, h => by
    have hn : n / 2 ≤ f := by omega
    show (if n % 2 = 0 then Tr.nd (Tr.setF f .nil (n / 2) o) none .nil else Tr.nd .nil none (Tr.setF f .nil (n / 2) o)).get m = _
    cases m with
    | zero => split <;> simp [Tr.get]
    | succ m =>
      split
      · rename_i e
        show (if m % 2 = 0 then (Tr.setF f .nil (n / 2) o).get (m / 2) else Tr.get .nil (m / 2)) = _
        rw [Tr.get_setF f .nil (n / 2) (m / 2) o hn]
        by_cases q : m = n
        · subst q; simp [e]
        · by_cases e2 : m % 2 = 0
          · rw [if_pos e2, if_neg (by omega), if_neg (by omega)]; simp [Tr.get_nil]
          · rw [if_neg e2, if_neg (by omega)]; simp [Tr.get_nil]
      · rename_i e
        show (if m % 2 = 0 then Tr.get .nil (m / 2) else (Tr.setF f .nil (n / 2) o).get (m / 2)) = _
        rw [Tr.get_setF f .nil (n / 2) (m / 2) o hn]
        by_cases q : m = n
        · subst q; simp [e]
        · by_cases e2 : m % 2 = 0
          · rw [if_pos e2, if_neg (by omega)]; simp [Tr.get_nil]
          · rw [if_neg e2, if_neg (by omega), if_neg (by omega)]; simp [Tr.get_nil]
  | f + 1, .nd l v r, 0, m, o, h => by
    cases m with
    | zero => rfl
    | succ m => rw [if_neg (by omega)]; rfl
  | f + 1, .nd l v r, n + 1, m, o, h => by
    have hn : n / 2 ≤ f := by omega
    show (if n % 2 = 0 then Tr.nd (Tr.setF f l (n / 2) o) v r else Tr.nd l v (Tr.setF f r (n / 2) o)).get m = _
    cases m with
    | zero => split <;> simp [Tr.get]
    | succ m =>
      split
      · rename_i e
        show (if m % 2 = 0 then (Tr.setF f l (n / 2) o).get (m / 2) else r.get (m / 2)) = _
        rw [Tr.get_setF f l (n / 2) (m / 2) o hn]
        by_cases q : m = n
        · subst q; simp [e]
        · by_cases e2 : m % 2 = 0
          · rw [if_pos e2, if_neg (by omega), if_neg (by omega)]; simp [Tr.get, e2]
          · rw [if_neg e2, if_neg (by omega)]; simp [Tr.get, e2]
      · rename_i e
        show (if m % 2 = 0 then l.get (m / 2) else (Tr.setF f r (n / 2) o).get (m / 2)) = _
        rw [Tr.get_setF f r (n / 2) (m / 2) o hn]
        by_cases q : m = n
        · subst q; simp [e]
        · by_cases e2 : m % 2 = 0
          · rw [if_pos e2, if_neg (by omega)]; simp [Tr.get, e2]
          · rw [if_neg e2, if_neg (by omega), if_neg (by omega)]; simp [Tr.get, e2]

structure Hh where
  sz : Nat
  t : Tr
  deriving Inhabited
/-- what stands at n (below the size) -/
def Hh.get (h : Hh) (n : Nat) : Option O := if n < h.sz then h.t.get n else none
def Hh.set (h : Hh) (n : Nat) (o : O) : Hh := ⟨h.sz, Tr.setF n h.t n o⟩
def Hh.push (h : Hh) (o : O) : Hh := ⟨h.sz + 1, Tr.setF h.sz h.t h.sz o⟩
theorem Hh.get_lt {h : Hh} {n : Nat} {o : O} (e : h.get n = some o) : n < h.sz := by
  unfold Hh.get at e
  split at e
  · assumption
  · cases e
theorem Hh.get_set {h : Hh} {n m : Nat} {o : O} (hn : n < h.sz) : (h.set n o).get m = if m = n then some o else h.get m := by
  show (if m < h.sz then (Tr.setF n h.t n o).get m else none) = _
  rw [Tr.get_setF _ _ _ _ _ (Nat.le_refl _)]
  unfold Hh.get
  by_cases e : m = n
  · subst e; simp [hn]
  · simp [e]
theorem Hh.get_push {h : Hh} {m : Nat} {o : O} : (h.push o).get m = if m = h.sz then some o else h.get m := by
  show (if m < h.sz + 1 then (Tr.setF h.sz h.t h.sz o).get m else none) = _
  rw [Tr.get_setF _ _ _ _ _ (Nat.le_refl _)]
  unfold Hh.get
  by_cases e : m = h.sz
  · subst e; simp
  · simp only [e, if_false]
    by_cases e2 : m < h.sz
    · rw [if_pos e2, if_pos (by omega)]
    · rw [if_neg e2, if_neg (by omega)]
theorem Hh.sz_push (h : Hh) (o : O) : (h.push o).sz = h.sz + 1 := rfl
theorem Hh.sz_set (h : Hh) (n : Nat) (o : O) : (h.set n o).sz = h.sz := rfl

/-- without what comes again -/
def ddS : List Str → List Str
  | [] => []
  | x :: r => if x ∈ r then ddS r else x :: ddS r
theorem mem_ddS : ∀ (l : List Str) (x : Str), x ∈ ddS l ↔ x ∈ l
  | [], x => Iff.rfl
  | y :: r, x => by
    unfold ddS
    split
    · rename_i h
      rw [mem_ddS r x]
      constructor
      · exact List.mem_cons_of_mem _
      · intro z
        rcases List.mem_cons.mp z with z | z
        · rw [z]; exact h
        · exact z
    · rw [List.mem_cons, List.mem_cons, mem_ddS r x]
theorem nodup_ddS : ∀ l : List Str, (ddS l).Nodup
  | [] => List.nodup_nil
  | y :: r => by
    unfold ddS
    split
    · exact nodup_ddS r
    · rename_i h
      exact List.nodup_cons.mpr ⟨fun z => h ((mem_ddS r y).mp z), nodup_ddS r⟩
/-! ### results -/
abbrev Sl := List (Option W)
inductive Rs (α : Type) where
  | ok (a : α) (h : Hh) | ex (c : Str) (n : Nat) (h : Hh) | no
@[reducible] def Rs.bind {α β : Type} (r : Rs α) (k : α → Hh → Rs β) : Rs β := match r with
  | .ok a h => k a h
  | .ex c n h => .ex c n h
  | .no => .no
inductive Out where
  | nx (σ : Sl) (h : Hh) | rt (w : W) (h : Hh) | bk (σ : Sl) (h : Hh) | ct (σ : Sl) (h : Hh) | ex (c : Str) (n : Nat) (σ : Sl) (h : Hh) | no

/-! ### the text -/
inductive Tg where
  | nm (i : Nat) | tup (ts : List Tg)
inductive BO where
  | add | sub | mul | fdv | md | pow
  deriving DecidableEq
inductive CO where
  | eq | ne | lt | le | gt | ge | inn | nin | iss | isn
  deriving DecidableEq
inductive Ty where
  | bi (n : String) | own (c : Str)
  deriving DecidableEq
inductive BF where
  | len | abs | int | all | any | sorted | list | tuple | max | min
  deriving DecidableEq
inductive BM where
  | append | extend | pop | insert | clear
  deriving DecidableEq
inductive E where
  | var (i : Nat) | con (w : W) | glb (x : Str)
  | bin (o : BO) (a b : E) | cmp (o : CO) (a b : E) | cmp2 (o o' : CO) (a b c : E)
  | and (a b : E) | or (a b : E) | not (a : E) | neg (a : E) | ite (c a b : E)
  | call (f : Str) (as : List E) | make (c : Str) (as : List E) | meth (o : E) (m : Str) (as : List E)
  | blt (f : BF) (as : List E) | bm (o : E) (m : BM) (as : List E) | isa (a : E) (c : Ty)
  | fld (o : E) (f : Str) | xf (i : Nat) (f : Str) | xi (i : Nat) (c : Str) | idx (o i : E) | slc (o : E) (lo hi : Option E) | rev (o : E)
  | tup (as : List E) | lst (as : List E) | star (e : E) | dsp (ks vs : List E)
  | cp (o : Bool) (k v : E) (tg : Tg) (it : E) (ifs : List E) (own : List Nat)
  | cp2 (o : Bool) (k v : E) (tg : Tg) (it : E) (ifs : List E) (tg1 : Tg) (it1 : E) (ifs1 : List E) (own own1 : List Nat)
  | seq (a : E) | enum (a : E) | rng (a : E) | rng2 (a b : E) | zip (a b : E) | items (a : E) | vals (a : E)
  | setOf (a : E) | srtK (a : E) (j : Nat) | minD (a : E)
inductive S where
  | asg (t : Tg) (e : E) | par (is : List Nat) (es : List E) | asgF (o : E) (f : Str) (e : E) | asgS (o i e : E) | aug (i : Nat) (o : BO) (e : E) | del (o i : E)
  | stk | exp (e : E) | ret (e : E) | retN | pas | brk | cnt
  | ite (c : E) (a b : List S) | whl (c : E) (b : List S) | frr (t : Tg) (it : E) (b : List S)
  | rse (c : Str) (as : List E) | tri (b : List S) (c : Str) (n : Nat) (u : List S)

/-! ### the program's data -/
structure Pg where
  cl : Str × Str → List W → Hh → Rs W
  gl : Str → Option W
  so : Nat → Option O
  exf : Str → Option (List Str)
  isC : Str → Str → Option Bool
  isT : Ty → Ty → Option Bool
  fd : Str → Str → Bool
  hm : Str → Str → Bool
  fu : Nat
def lim : Nat := 1000000

section
variable (P : Pg)
/-! ### reading -/
def ob (h : Hh) : W → Option O
  | .ref n => (match h.get n with
    | some (.frz o) => some o
    | o => o)
  | .st i => P.so i
  | _ => none
/-- a list's or a tuple's items -/
def sq (h : Hh) (w : W) : Option (List W) := match ob P h w with
  | some (.lst xs) => some xs
  | some (.tup xs) => some xs
  | some (.rol xs) => some xs
  | _ => none
/-- data, to a depth -/
def dat (h : Hh) : Nat → W → Option PyData
  | _, .non => some .none
  | _, .bl b => some (.bool b)
  | _, .int i => some (.int i)
  | _, .str x => some (.str x)
  | 0, _ => none
  | d + 1, w => match ob P h w with
    | some (.lst xs) => (xs.mapM (dat h d)).map .list
    | some (.rol xs) => (xs.mapM (dat h d)).map .list
    | some (.tup xs) => (xs.mapM (dat h d)).map .tuple
    | _ => none
/-! ### truth -/
def truO : Option O → Option Bool
  | some (.dic kvs) => some (!kvs.isEmpty)
  | _ => none
def tru (h : Hh) (w : W) : Option Bool := match w with
  | .non => some false
  | .bl b => some b
  | .int i => some (i != 0)
  | .str x => if x.length ≤ lim then some (x.length != 0) else none
  | .ref n => (match truO (h.get n) with
    | some b => some b
    | none => (sq P h (.ref n)).map (!·.isEmpty))
  | .st i => (sq P h (.st i)).map (!·.isEmpty)
  | .exn _ _ => none
end
end MP

set_option Elab.async false
set_option linter.all false
set_option maxRecDepth 100000
/-! MP: the evaluator. -/
namespace MP
open PySem L2

/-! ### flat values -/
def flatW : W → Bool
  | .non => true | .bl _ => true | .int _ => true | .str _ => true
  | _ => false
def eqF : W → W → Bool
  | .non, .non => true
  | .bl a, .bl b => a == b
  | .bl a, .int b => (if a then 1 else 0) == b
  | .int a, .bl b => a == (if b then 1 else 0)
  | .int a, .int b => a == b
  | .str a, .str b => a == b
  | _, _ => false
/-- == of these needs no look at data -/
def scalW : W → W → Bool
  | .non, .non => true | .non, .int _ => true | .int _, .non => true | .non, .bl _ => true | .bl _, .non => true | .non, .str _ => true | .str _, .non => true
  | .int _, .int _ => true | .bl _, .bl _ => true | .str _, .str _ => true
  | .int _, .str _ => true | .str _, .int _ => true | .bl _, .str _ => true | .str _, .bl _ => true
  | _, _ => false
def wK : Key → W
  | .inl i => .int i
  | .inr x => .str x
def keyW : W → Option Key
  | .int i => some (.inl i)
  | .str x => some (.inr x)
  | _ => none
/-! ### dicts -/
def getK (kvs : List (Key × W)) (k : Key) : Option W := (kvs.find? fun kv => decide (kv.1 = k)).map (·.2)
def putW (kvs : List (Key × W)) (k : Key) (v : W) : List (Key × W) :=
  if (kvs.any fun kv => decide (kv.1 = k)) = true then kvs.map (fun kv => if kv.1 = k then (kv.1, v) else kv) else kvs ++ [(k, v)]
def dropW (kvs : List (Key × W)) (k : Key) : List (Key × W) := kvs.filter fun kv => decide (kv.1 ≠ k)
def mergeW (kvs more : List (Key × W)) : List (Key × W) := more.foldl (fun acc kv => putW acc kv.1 kv.2) kvs
/-! ### sorting -/
def insS (x : Str) : List Str → List Str
  | [] => [x]
  | y :: r => if Spec.ltCps y.cps.toList x.cps.toList = true then y :: insS x r else x :: y :: r
def sortS : List Str → List Str
  | [] => []
  | x :: r => insS x (sortS r)
def strsW : List W → Option (List Str)
  | [] => some []
  | .str x :: r => (strsW r).map (x :: ·)
  | _ :: _ => none
def blsW : List W → Option (List Bool)
  | [] => some []
  | .bl x :: r => (blsW r).map (x :: ·)
  | _ :: _ => none
def intsW : List W → Option (List Int)
  | [] => some []
  | .int x :: r => (intsW r).map (x :: ·)
  | _ :: _ => none

section
variable (P : Pg)
/-! ### operators -/
def newL (xs : List W) (h : Hh) : Rs W := if xs.length ≤ lim then .ok (.ref h.sz) (h.push (.lst xs)) else .no
def newT (xs : List W) (h : Hh) : Rs W := if xs.length ≤ lim then .ok (.ref h.sz) (h.push (.tup xs)) else .no
def binW (o : BO) (x y : W) (h : Hh) : Rs W := match o with
  | .add => (match x, y with
    | .int i, .int j => .ok (.int (i + j)) h
    | .str a, .str b => if a.length + b.length ≤ lim then .ok (.str (a ++ b)) h else .no
    | .ref a, .ref b => (match h.get a, h.get b with
      | some (.lst xs), some (.lst ys) => newL (xs ++ ys) h
      | some (.tup xs), some (.tup ys) => if xs.isEmpty = true then .ok (.ref b) h else if ys.isEmpty = true then .ok (.ref a) h else newT (xs ++ ys) h
      | _, _ => .no)
    | _, _ => .no)
  | .sub => (match x, y with
    | .int i, .int j => .ok (.int (i - j)) h
    | _, _ => .no)
  | .mul => (match x, y with
    | .int i, .int j => if i.natAbs.log2 + j.natAbs.log2 < 1000000 then .ok (.int (i * j)) h else .no
    | .str a, .int k => if 0 ≤ k ∧ k ≤ 1000 ∧ a.length ≤ 1000 then .ok (.str (PySem.Txt.mul a k)) h else .no
    | .ref a, .int k => (match h.get a with
      | some (.lst xs) => if 0 ≤ k ∧ k ≤ 1000 ∧ xs.length ≤ 1000 then newL (List.replicate k.toNat xs).flatten h else .no
      | _ => .no)
    | _, _ => .no)
  | .fdv => (match x, y with
    | .int i, .int j => if 0 < j ∧ j.natAbs.log2 < 9000 then .ok (.int (i / j)) h else .no
    | _, _ => .no)
  | .md => (match x, y with
    | .int i, .int j => if 0 < j then .ok (.int (i % j)) h else .no
    | _, _ => .no)
  | .pow => (match x, y with
    | .int i, .int j => if 0 ≤ j ∧ j ≤ 1000000 ∧ i.natAbs < 2 ^ 64 then .ok (.int (i ^ j.toNat)) h else .no
    | _, _ => .no)
def eqW (x y : W) (h : Hh) : Option Bool :=
  if scalW x y = true then some (decide (x = y)) else match dat P h 60 x, dat P h 60 y with
    | some d, some e => if SeqAt.shaped d = true ∧ SeqAt.shaped e = true then some (PyData.eqv d e) else none
    | _, _ => none
def inW (x y : W) (h : Hh) : Option Bool := match y with
  | .str z => (match x with
    | .str a => (match a.cps.toList with
      | [c] => some (decide (c ∈ z.cps.toList))
      | _ => none)
    | _ => none)
  | .st i => (match P.so i with
    | some (.dic kvs) => (match x with
      | .str z => some (getK kvs (.inr z)).isSome
      | _ => none)
    | _ => match sq P h (.st i) with
      | some xs => if flatW x = true ∧ xs.all flatW = true then some (xs.any fun z => eqF z x) else none
      | none => none)
  | y => match ob P h y with
    | some (.dic kvs) => (match keyW x with
      | some k => some (getK kvs k).isSome
      | none => none)
    | _ => match sq P h y with
      | some xs => if flatW x = true ∧ xs.all flatW = true then some (xs.any fun z => eqF z x) else none
      | none => none
def cmpW (o : CO) (x y : W) (h : Hh) : Option Bool := match o with
  | .eq => eqW P x y h
  | .ne => (eqW P x y h).map (!·)
  | .lt => (match x, y with
    | .int i, .int j => some (decide (i < j))
    | .str a, .str b => some (decide (a.cps.toList < b.cps.toList))
    | _, _ => none)
  | .gt => (match x, y with
    | .int i, .int j => some (decide (j < i))
    | .str a, .str b => some (decide (b.cps.toList < a.cps.toList))
    | _, _ => none)
  | .le => (match x, y with
    | .int i, .int j => some (decide (i ≤ j))
    | .str a, .str b => some (!decide (b.cps.toList < a.cps.toList))
    | _, _ => none)
  | .ge => (match x, y with
    | .int i, .int j => some (decide (j ≤ i))
    | .str a, .str b => some (!decide (a.cps.toList < b.cps.toList))
    | _, _ => none)
  | .inn => inW P x y h
  | .nin => (inW P x y h).map (!·)
  | .iss => (match y with
    | .non => some (decide (x = .non))
    | .bl b => (match x with
      | .bl a => some (decide (a = b))
      | _ => none)
    | _ => none)
  | .isn => (match y with
    | .non => some (!decide (x = .non))
    | .bl b => (match x with
      | .bl a => some (!decide (a = b))
      | _ => none)
    | _ => none)
/-! ### built-ins -/
def lenW (w : W) (h : Hh) : Rs W := match w with
  | .str x => if x.length ≤ lim then .ok (.int x.length) h else .no
  | .ref n => (match h.get n with
    | some (.dic kvs) => .ok (.int kvs.length) h
    | _ => (match sq P h (.ref n) with
      | some xs => .ok (.int xs.length) h
      | none => .no))
  | w => (match sq P h w with
      | some xs => .ok (.int xs.length) h
      | none => .no)
def absW (w : W) (h : Hh) : Rs W := match w with
  | .int i => .ok (.int (if i < 0 then -i else i)) h
  | _ => .no
def intW (w : W) (h : Hh) : Rs W := match w with
  | .int i => .ok (.int i) h
  | .bl b => .ok (.int (if b then 1 else 0)) h
  | _ => .no
def boolsW (w : W) (h : Hh) : Option (List Bool) := match ob P h w with
  | some (.lst xs) => blsW xs
  | _ => none
def sortTo (xs : Option (List Str)) (h : Hh) : Rs W := match xs with
  | some xs => if xs.length < 64 then .ok (.ref h.sz) (h.push (.lst ((sortS xs).map W.str))) else .no
  | none => .no
def sortedW (w : W) (h : Hh) : Rs W := match w with
  | .ref n => (match ob P h (.ref n) with
    | some (.lst xs) => sortTo (strsW xs) h
    | some (.dic kvs) => sortTo (strsW (kvs.map fun kv => wK kv.1)) h
    | _ => .no)
  | _ => .no
/-- sorted(set(w)) of a list of texts -/
def setW (w : W) (h : Hh) : Rs W := match ob P h w with
  | some (.lst xs) => (match strsW xs with
    | some ys => if ys.length < 1000 ∧ (ddS ys).length < 64 then .ok (.ref h.sz) (h.push (.lst ((sortS (ddS ys)).map W.str))) else .no
    | none => .no)
  | _ => .no
def listW (w : W) (h : Hh) : Rs W := match sq P h w with
  | some xs => .ok (.ref h.sz) (h.push (.lst xs))
  | none => match w with
    | .ref n => (match ob P h (.ref n) with
      | some (.dic kvs) => .ok (.ref h.sz) (h.push (.lst (kvs.map fun kv => wK kv.1)))
      | _ => .no)
    | _ => .no
/-- what *w puts in -/
def starW (w : W) (h : Hh) : Option (List W) := match sq P h w with
  | some xs => some xs
  | none => match w with
    | .ref n => (match ob P h (.ref n) with
      | some (.dic kvs) => some (kvs.map fun kv => wK kv.1)
      | _ => none)
    | _ => none
def tupleW (w : W) (h : Hh) : Rs W := match ob P h w with
  | some (.lst xs) => .ok (.ref h.sz) (h.push (.tup xs))
  | some (.tup _) => .ok w h
  | _ => .no
def blt1 (f : BF) (w : W) (h : Hh) : Rs W := match f with
  | .len => lenW P w h
  | .abs => absW w h
  | .int => intW w h
  | .all => (match boolsW P w h with
    | some bs => .ok (.bl (bs.all id)) h
    | none => .no)
  | .any => (match boolsW P w h with
    | some bs => .ok (.bl (bs.any id)) h
    | none => .no)
  | .sorted => sortedW P w h
  | .list => listW P w h
  | .tuple => tupleW P w h
  | _ => .no
def blt2 (f : BF) (w u : W) (h : Hh) : Rs W := match f, w, u with
  | .max, .int i, .int j => .ok (.int (if j > i then j else i)) h
  | .min, .int i, .int j => .ok (.int (if j < i then j else i)) h
  | _, _, _ => .no
def bltW (f : BF) (as : List W) (h : Hh) : Rs W := match as with
  | [w] => blt1 P f w h
  | [w, u] => blt2 f w u h
  | _ => .no
/-! ### methods of lists, texts, dicts -/
def bmL (m : BM) (n : Nat) (xs : List W) (as : List W) (h : Hh) : Rs W := match m with
  | .append => (match as with
    | [y] => if xs.length < lim then .ok .non (h.set n (.lst (xs ++ [y]))) else .no
    | _ => .no)
  | .extend => (match as with
    | [.ref k] => (match h.get k with
      | some (.lst ys) => if xs.length + ys.length ≤ lim then .ok .non (h.set n (.lst (xs ++ ys))) else .no
      | _ => .no)
    | _ => .no)
  | .pop => (match as with
    | [] => (match xs[xs.length - 1]? with
      | some y => .ok y (h.set n (.lst xs.dropLast))
      | none => .no)
    | _ => .no)
  | .insert => (match as with
    | [.int i, y] => if 0 ≤ i ∧ i ≤ 1000000 ∧ xs.length < lim then .ok .non (h.set n (.lst (xs.take i.toNat ++ [y] ++ xs.drop i.toNat))) else .no
    | _ => .no)
  | .clear => (match as with
    | [] => .ok .non (h.set n (.lst []))
    | _ => .no)
def lstO (o : Option O) : Option (List W) := match o with
  | some (.lst xs) => some xs
  | _ => none
def isL (w : W) (h : Hh) : Bool := match w with
  | .ref n => (lstO (h.get n)).isSome
  | _ => false
def bmW (m : BM) (w : W) (as : List W) (h : Hh) : Rs W := match w with
  | .ref n => (match lstO (h.get n) with
    | some xs => bmL m n xs as h
    | none => .no)
  | _ => .no
/-! ### subscripts -/
def sqIx (xs : List W) : W → Option W
  | .int i => atI xs i
  | _ => none
def dcIx (kvs : List (Key × W)) (y : W) : Option W := (keyW y).bind (getK kvs)
def sdIx (kvs : List (Key × W)) : W → Option W
  | .str z => getK kvs (.inr z)
  | _ => none
def stIx (z : Str) : W → Option W
  | .int i => if z.length ≤ lim then (atI z.cps.toList i).map fun c => .str ⟨#[c]⟩ else none
  | _ => none
def idxW (x y : W) (h : Hh) : Option W := match x with
  | .str z => stIx z y
  | .st i => (match P.so i with
    | some (.dic kvs) => sdIx kvs y
    | _ => (sq P h (.st i)).bind (sqIx · y))
  | x => match ob P h x with
    | some (.dic kvs) => dcIx kvs y
    | _ => (sq P h x).bind (sqIx · y)
def intO : W → Option (Option Int)
  | .int i => some (some i)
  | _ => none
def cutW (xs : List W) (lo hi : Option Int) : List W := (xs.drop (HT.sIx xs.length 0 lo)).take (HT.sIx xs.length xs.length hi - HT.sIx xs.length 0 lo)
def slcW (x : W) (lo hi : Option Int) (h : Hh) : Rs W := match x with
  | .str z => if z.length ≤ lim then .ok (.str (cutS z lo hi)) h else .no
  | .ref n => (match ob P h (.ref n) with
    | some (.lst xs) => .ok (.ref h.sz) (h.push (.lst (cutW xs lo hi)))
    | some (.rol xs) => .ok (.ref h.sz) (h.push (.lst (cutW xs lo hi)))
    | some (.tup xs) => if HT.sIx xs.length 0 lo = 0 ∧ HT.sIx xs.length xs.length hi = xs.length then .ok (.ref n) h else .ok (.ref h.sz) (h.push (.tup (cutW xs lo hi)))
    | _ => .no)
  | _ => .no
/-! ### what is walked -/
inductive Nx where
  | it (x : W) (h : Hh) | stop | stuck
inductive Ik where
  | sq (t : Bool) (w : W) | st (x : Str) | rng (lo : Int) (n : Nat) | enum (w : W) | zip (w u : W)
  | keys (n : Nat) | vals (n : Nat) | items (n : Nat)
def sqB (h : Hh) (t : Bool) (w : W) : Option (List W) := match t, ob P h w with
  | false, some (.lst xs) => some xs
  | false, some (.rol xs) => some xs
  | true, some (.tup xs) => some xs
  | _, _ => none
def isDic : Option O → Bool
  | some (.dic _) => true
  | _ => false
def seqB (w : W) (h : Hh) : Option Ik := if (sqB P h false w).isSome = true then some (.sq false w) else if (sqB P h true w).isSome = true then some (.sq true w) else none
def seqK (w : W) (h : Hh) : Option Ik := match w with
  | .str z => some (.st z)
  | .ref n => if isDic (h.get n) = true then some (.keys n) else seqB P (.ref n) h
  | .st i => seqB P (.st i) h
  | _ => none
def refK (f : Nat → Ik) (w : W) (h : Hh) : Option Ik := match w with
  | .ref n => if isDic (h.get n) = true then some (f n) else none
  | _ => none
def enumK (w : W) (h : Hh) : Option Ik := if (sqB P h false w).isSome = true then some (.enum w) else none
def rngK : W → Option Ik
  | .int n => if -1000000 ≤ n ∧ n ≤ 1000000 then some (.rng 0 n.toNat) else none
  | _ => none
def rngK2 : W → W → Option Ik
  | .int lo, .int n => if -1000000 ≤ lo ∧ lo ≤ 1000000 ∧ -1000000 ≤ n ∧ n ≤ 1000000 then some (.rng lo (n - lo).toNat) else none
  | _, _ => none
def Ik.next (k : Ik) (i : Nat) (h : Hh) : Nx := match k with
  | .sq t w => (match sqB P h t w with
    | some xs => (match xs[i]? with
      | some x => .it x h
      | none => .stop)
    | none => .stuck)
  | .st x => (match x.cps.toList[i]? with
    | some c => .it (.str ⟨#[c]⟩) h
    | none => .stop)
  | .rng lo n => if i < n then .it (.int (lo + i)) h else .stop
  | .enum w => (match sqB P h false w with
    | some xs => (match xs[i]? with
      | some x => .it (.ref h.sz) (h.push (.tup [.int i, x]))
      | none => .stop)
    | none => .stuck)
  | .zip w u => (match MP.sq P h w, MP.sq P h u with
    | some xs, some ys => (match xs[i]?, ys[i]? with
      | some x, some y => .it (.ref h.sz) (h.push (.tup [x, y]))
      | _, _ => .stop)
    | _, _ => .stuck)
  | .keys n => (match h.get n with
    | some (.frz (.dic kvs)) => (match kvs[i]? with
      | some kv => .it (wK kv.1) h
      | none => .stop)
    | _ => .stuck)
  | .vals n => (match h.get n with
    | some (.frz (.dic kvs)) => (match kvs[i]? with
      | some kv => .it kv.2 h
      | none => .stop)
    | _ => .stuck)
  | .items n => (match h.get n with
    | some (.frz (.dic kvs)) => (match kvs[i]? with
      | some kv => .it (.ref h.sz) (h.push (.tup [wK kv.1, kv.2]))
      | none => .stop)
    | _ => .stuck)
/-- a dict that is walked is locked -/
def Ik.isD : Ik → Option Nat
  | .keys n | .vals n | .items n => some n
  | _ => none
def lockK (k : Ik) (h : Hh) : Option Hh := match k.isD with
  | some n => (match h.get n with
    | some (.dic kvs) => some (h.set n (.frz (.dic kvs)))
    | _ => none)
  | none => some h
def lockR (k : Ik) (h : Hh) : Rs Ik := match lockK k h with
  | some h2 => .ok k h2
  | none => .no
/-- nothing to be locked -/
def flatR (k : Ik) (h : Hh) : Rs Ik := match k.isD with
  | none => .ok k h
  | some _ => .no
def unlockK (k : Ik) (h : Hh) : Option Hh := match k.isD with
  | some n => (match h.get n with
    | some (.frz (.dic kvs)) => some (h.set n (.dic kvs))
    | _ => none)
  | none => some h
end

/-! ### targets -/
mutual
def stT (P : Pg) : Tg → W → Sl → Hh → Option Sl
  | .nm i, w, σ, _ => some (σ.set i (some w))
  | .tup ts, w, σ, h => match sq P h w with
    | some ws => if ws.length = ts.length then stTs P ts ws σ h else none
    | none => none
def stTs (P : Pg) : List Tg → List W → Sl → Hh → Option Sl
  | [], [], σ, _ => some σ
  | t :: ts, w :: ws, σ, h => (stT P t w σ h).bind fun σ' => stTs P ts ws σ' h
  | _, _, _, _ => none
end
def wipeW (σ : Sl) : List Nat → Sl
  | [] => σ
  | v :: vs => (wipeW σ vs).set v none

/-! ### loops of comprehensions -/
/-- a loop whose turn does what it does -/
def itL (nxt : Nat → Hh → Nx) (turn : W → Hh → Rs Unit) : Nat → Nat → Hh → Rs Unit
  | 0, _, _ => .no
  | f + 1, i, h => match nxt i h with
    | .stop => .ok () h
    | .stuck => .no
    | .it x h1 => match turn x h1 with
      | .ok _ h2 => itL nxt turn f (i + 1) h2
      | _ => .no
def addL (d : Nat) (y : W) (h : Hh) : Rs Unit := match h.get d with
  | some (.lst acc) => if acc.length < lim then .ok () (h.set d (.lst (acc ++ [y]))) else .no
  | _ => .no
def addD (d : Nat) (k v : W) (h : Hh) : Rs Unit := match h.get d, keyW k with
  | some (.dic kvs), some k => if kvs.length < lim then .ok () (h.set d (.dic (putW kvs k v))) else .no
  | _, _ => .no
def truR (P : Pg) (w : W) (h : Hh) : Rs Bool := match tru P h w with
  | some b => .ok b h
  | none => .no
def ofH {α : Type} (a : α) (o : Option Hh) : Rs α := match o with
  | some h => .ok a h
  | none => .no
def newO : Bool → O
  | false => .lst []
  | true => .dic []
def ofO {α : Type} (o : Option α) (h : Hh) : Rs α := match o with
  | some a => .ok a h
  | none => .no

def exfB (P : Pg) (c f : Str) : Bool := match P.exf c with
  | some fs => fs.contains f
  | none => false
def tyO : Option O → Option Ty
  | some (.lst _) => some (.bi "list")
  | some (.tup _) => some (.bi "tuple")
  | some (.dic _) => some (.bi "dict")
  | some (.ins c _) => some (.own c)
  | some (.frz (.lst _)) => some (.bi "list")
  | some (.frz (.dic _)) => some (.bi "dict")
  | _ => none
def insO : Option O → Option (Str × List (Str × W))
  | some (.ins c fs) => some (c, fs)
  | _ => none
/-- the object at a reference: its class, its fields -/
def insW (w : W) (h : Hh) : Option (Nat × Str × List (Str × W)) := match w with
  | .ref n => (insO (h.get n)).map fun x => (n, x)
  | _ => none
def fldW (P : Pg) (w : W) (f : Str) (h : Hh) : Option W := match insW w h with
  | some (_, c, fs) => if P.fd c f = true then fs.lookup f else none
  | none => none
def tyW (h : Hh) (w : W) : Option Ty := match w with
  | .non => some (.bi "NoneType")
  | .bl _ => some (.bi "bool")
  | .int _ => some (.bi "int")
  | .str _ => some (.bi "str")
  | .ref n => tyO (h.get n)
  | _ => none
/-! ### expressions -/
mutual
def ev (P : Pg) : E → Sl → Hh → Rs W
  | .var i, σ, h => match σ[i]? with
    | some (some (.exn _ _)) => .no
    | some (some w) => .ok w h
    | _ => .no
  | .xf i f, σ, h => match σ[i]? with
    | some (some (.exn k n)) => (match h.get n with
      | some (.xd fs) => if exfB P k f = true then ofO (fs.lookup f) h else .no
      | _ => .no)
    | _ => .no
  | .xi i c, σ, h => match σ[i]? with
    | some (some (.exn k _)) => ofO ((P.isC k c).map W.bl) h
    | _ => .no
  | .con w, _, h => .ok w h
  | .glb x, _, h => ofO (P.gl x) h
  | .bin o a b, σ, h => (ev P a σ h).bind fun x h1 => (ev P b σ h1).bind fun y h2 => binW o x y h2
  | .cmp o a b, σ, h => (ev P a σ h).bind fun x h1 => (ev P b σ h1).bind fun y h2 => ofO ((cmpW P o x y h2).map W.bl) h2
  | .cmp2 o o' a b c, σ, h => (ev P a σ h).bind fun x h1 => (ev P b σ h1).bind fun y h2 => match cmpW P o x y h2 with
    | some true => (ev P c σ h2).bind fun z h3 => ofO ((cmpW P o' y z h3).map W.bl) h3
    | some false => .ok (.bl false) h2
    | none => .no
  | .and a b, σ, h => (ev P a σ h).bind fun x h1 => match tru P h1 x with
    | some true => ev P b σ h1
    | some false => .ok x h1
    | none => .no
  | .or a b, σ, h => (ev P a σ h).bind fun x h1 => match tru P h1 x with
    | some true => .ok x h1
    | some false => ev P b σ h1
    | none => .no
  | .not a, σ, h => (ev P a σ h).bind fun x h1 => (truR P x h1).bind fun b h2 => .ok (.bl (!b)) h2
  | .neg a, σ, h => (ev P a σ h).bind fun x h1 => match x with
    | .int i => .ok (.int (-i)) h1
    | _ => .no
  | .ite c a b, σ, h => (ev P c σ h).bind fun x h1 => match tru P h1 x with
    | some true => ev P a σ h1
    | some false => ev P b σ h1
    | none => .no
  | .call f as, σ, h => (evs P as σ h).bind fun ws h1 => P.cl ("", f) ws h1
  | .make c as, σ, h => (evs P as σ h).bind fun ws h1 => (P.cl (c, "__init__") (.ref h1.sz :: ws) (h1.push (.ins c []))).bind fun w h2 => match w with
    | .non => .ok (.ref h1.sz) h2
    | _ => .no
  | .meth o m as, σ, h => (ev P o σ h).bind fun x h1 => match insW x h1 with
    | some (n, c, fs) => (match fs.lookup m with
      | none => if P.hm c m = true then (evs P as σ h1).bind fun ws h2 => P.cl (c, m) (.ref n :: ws) h2 else .no
      | some _ => .no)
    | none => .no
  | .blt f as, σ, h => (evs P as σ h).bind fun ws h1 => bltW P f ws h1
  | .bm o m as, σ, h => (ev P o σ h).bind fun x h1 => if isL x h1 = true then (evs P as σ h1).bind fun ws h2 => bmW m x ws h2 else .no
  | .isa a c, σ, h => (ev P a σ h).bind fun x h1 => ofO (((tyW h1 x).bind fun t => P.isT t c).map W.bl) h1
  | .fld o f, σ, h => (ev P o σ h).bind fun x h1 => ofO (fldW P x f h1) h1
  | .idx o i, σ, h => (ev P o σ h).bind fun x h1 => (ev P i σ h1).bind fun y h2 => ofO (idxW P x y h2) h2
  | .slc o lo hi, σ, h => (ev P o σ h).bind fun x h1 => (evo P lo σ h1).bind fun l h2 => (evo P hi σ h2).bind fun u h3 => slcW P x l u h3
  | .rev o, σ, h => (ev P o σ h).bind fun x h1 => match ob P h1 x with
    | some (.lst xs) => .ok (.ref h1.sz) (h1.push (.lst xs.reverse))
    | _ => .no
  | .tup as, σ, h => (evs P as σ h).bind fun ws h1 => newT ws h1
  | .lst as, σ, h => (evs P as σ h).bind fun ws h1 => newL ws h1
  | .star _, _, _ => .no
  | .dsp ks vs, _, h => if ks.isEmpty = true then .ok (.ref h.sz) (h.push (.dic [])) else .no
  | .cp o kx vx tg it ifs own, σ, h => ((evI P it σ h).bind lockR).bind fun k h2 => match itL (k.next P) (fun x h3 => match stT P tg x (wipeW σ own) h3 with
        | none => .no
        | some σ' => (evC P ifs σ' h3).bind fun b h4 => if b = true then (match o with
            | false => (ev P vx σ' h4).bind fun y h5 => addL h2.sz y h5
            | true => (ev P kx σ' h4).bind fun y h5 => (ev P vx σ' h5).bind fun z h6 => addD h2.sz y z h6) else .ok () h4) P.fu 0 (h2.push (newO o)) with
      | .ok _ h4 => ofH (.ref h2.sz) (unlockK k h4)
      | _ => .no
  | .cp2 o kx vx tg it ifs tg1 it1 ifs1 own own1, σ, h => ((evI P it σ h).bind lockR).bind fun k h2 => match itL (k.next P) (fun x h3 => match stT P tg x (wipeW σ own) h3 with
        | none => .no
        | some σ' => (evC P ifs σ' h3).bind fun b h4 => if b = true then
            ((evI P it1 σ' h4).bind flatR).bind fun k1 h6 => (match itL (k1.next P) (fun x h7 => match stT P tg1 x (wipeW σ' own1) h7 with
                  | none => .no
                  | some σ'' => (evC P ifs1 σ'' h7).bind fun b h8 => if b = true then (match o with
                      | false => (ev P vx σ'' h8).bind fun y h9 => addL h2.sz y h9
                      | true => (ev P kx σ'' h8).bind fun y h9 => (ev P vx σ'' h9).bind fun z h10 => addD h2.sz y z h10) else .ok () h8) P.fu 0 h6 with
                | .ok _ h10 => .ok () h10
                | _ => .no)
          else .ok () h4) P.fu 0 (h2.push (newO o)) with
      | .ok _ h4 => ofH (.ref h2.sz) (unlockK k h4)
      | _ => .no
  | .seq _, _, _ => .no
  | .enum _, _, _ => .no
  | .rng _, _, _ => .no
  | .rng2 _ _, _, _ => .no
  | .zip _ _, _, _ => .no
  | .items _, _, _ => .no
  | .vals _, _, _ => .no
  | .setOf a, σ, h => (ev P a σ h).bind fun x h1 => setW P x h1
  | .srtK _ _, _, _ => .no
  | .minD _, _, _ => .no
/-- what a for, a clause of a comprehension walks -/
def evI (P : Pg) : E → Sl → Hh → Rs Ik
  | .seq a, σ, h => (ev P a σ h).bind fun x h1 => ofO (seqK P x h1) h1
  | .enum a, σ, h => (ev P a σ h).bind fun x h1 => ofO (enumK P x h1) h1
  | .rng a, σ, h => (ev P a σ h).bind fun x h1 => ofO (rngK x) h1
  | .rng2 a b, σ, h => (ev P a σ h).bind fun x h1 => (ev P b σ h1).bind fun y h2 => ofO (rngK2 x y) h2
  | .items a, σ, h => (ev P a σ h).bind fun x h1 => ofO (refK .items x h1) h1
  | .vals a, σ, h => (ev P a σ h).bind fun x h1 => ofO (refK .vals x h1) h1
  | _, _, _ => .no
def evs (P : Pg) : List E → Sl → Hh → Rs (List W)
  | [], _, h => .ok [] h
  | e :: es, σ, h => (match e with
    | .star a => (ev P a σ h).bind fun x h1 => ofO (starW P x h1) h1
    | e => (ev P e σ h).bind fun x h1 => .ok [x] h1).bind fun xs h1 => (evs P es σ h1).bind fun ys h2 => .ok (xs ++ ys) h2
def evo (P : Pg) : Option E → Sl → Hh → Rs (Option Int)
  | none, _, h => .ok none h
  | some e, σ, h => (ev P e σ h).bind fun x h1 => ofO (intO x) h1
/-- the tests of a comprehension -/
def evC (P : Pg) : List E → Sl → Hh → Rs Bool
  | [], _, h => .ok true h
  | e :: es, σ, h => (ev P e σ h).bind fun x h1 => match tru P h1 x with
    | some true => evC P es σ h1
    | some false => .ok false h1
    | none => .no
end

/-! ### statements -/
@[reducible] def Rs.go {α : Type} (r : Rs α) (σ : Sl) (k : α → Hh → Out) : Out := match r with
  | .ok a h => k a h
  | .ex c n h => .ex c n σ h
  | .no => .no
/-- behind a loop's body -/
def bodyK (r : Out) (next : Sl → Hh → Out) : Out := match r with
  | .nx σ' h' => next σ' h'
  | .ct σ' h' => next σ' h'
  | .bk σ' h' => .nx σ' h'
  | r => r
def frL (nxt : Nat → Hh → Nx) (turn : W → Sl → Hh → Out) : Nat → Nat → Sl → Hh → Out
  | 0, _, _, _ => .no
  | f + 1, i, σ, h => match nxt i h with
    | .stop => .nx σ h
    | .stuck => .no
    | .it x h1 => bodyK (turn x σ h1) (frL nxt turn f (i + 1))
def whL (c : Sl → Hh → Rs Bool) (b : Sl → Hh → Out) : Nat → Sl → Hh → Out
  | 0, _, _ => .no
  | f + 1, σ, h => (c σ h).go σ fun t h1 => if t = true then bodyK (b σ h1) (whL c b f) else .nx σ h1
/-- behind the walk of a dict it is unlocked; nothing is raised meanwhile -/
def unlO (k : Ik) (r : Out) : Out := match k.isD with
  | some _ => (match r with
    | .nx σ h => (match unlockK k h with
      | some h' => .nx σ h'
      | none => .no)
    | .rt w h => (match unlockK k h with
      | some h' => .rt w h'
      | none => .no)
    | _ => .no)
  | none => r
def putFW (f : Str) (v : W) : List (Str × W) → List (Str × W)
  | [] => [(f, v)]
  | (g, u) :: r => if g = f then (f, v) :: r else (g, u) :: putFW f v r
/-- o.f = v -/
def setF (P : Pg) (o : W) (f : Str) (v : W) (h : Hh) : Option Hh := match insW o h with
  | some (n, c, fs) => if P.fd c f = true ∧ fs.length < 900 then some (h.set n (.ins c (putFW f v fs))) else none
  | none => none
/-- o[i] = v -/
def setS (o i v : W) (h : Hh) : Option Hh := match o with
  | .ref n => (match h.get n with
    | some (.lst xs) => (match i with
      | .int i => (ixN xs.length i).map fun j => h.set n (.lst (xs.set j v))
      | _ => none)
    | some (.dic kvs) => (match keyW i with
      | some k => if kvs.length < lim then some (h.set n (.dic (putW kvs k v))) else none
      | none => none)
    | _ => none)
  | _ => none
def delS (o i : W) (h : Hh) : Option Hh := match o with
  | .ref n => (match h.get n with
    | some (.dic kvs) => (match keyW i with
      | some k => if (getK kvs k).isSome = true then some (h.set n (.dic (dropW kvs k))) else none
      | none => none)
    | _ => none)
  | _ => none
def augW (o : BO) (x y : W) (h : Hh) : Rs W := match o with
  | .add => (match x, y with
    | .int i, .int j => .ok (.int (i + j)) h
    | .str a, .str b => if a.length + b.length ≤ lim then .ok (.str (a ++ b)) h else .no
    | .ref n, .ref k => (match h.get n, h.get k with
      | some (.lst xs), some (.lst ys) => if xs.length + ys.length ≤ lim then .ok (.ref n) (h.set n (.lst (xs ++ ys))) else .no
      | _, _ => .no)
    | _, _ => .no)
  | .sub => (match x, y with
    | .int i, .int j => .ok (.int (i - j)) h
    | _, _ => .no)
  | _ => .no
def setAll (σ : Sl) : List Nat → List W → Sl
  | i :: is, w :: ws => setAll (σ.set i (some w)) is ws
  | _, _ => σ
/-- no exception is held any longer -/
def clr1 : Option W → Option W
  | some (.exn _ _) => none
  | o => o
def clrX (σ : Sl) : Sl := σ.map clr1
mutual
def ex (P : Pg) : S → Sl → Hh → Out
  | .asg t e, σ, h => (ev P e σ h).go σ fun w h1 => match stT P t w σ h1 with
    | some σ' => .nx σ' h1
    | none => .no
  | .par is es, σ, h => (evs P es σ h).go σ fun ws h1 => if ws.length = is.length then .nx (setAll σ is ws) h1 else .no
  | .asgF o f e, σ, h => (ev P e σ h).go σ fun v h1 => (ev P o σ h1).go σ fun x h2 => match setF P x f v h2 with
    | some h3 => .nx σ h3
    | none => .no
  | .asgS o i e, σ, h => (ev P e σ h).go σ fun v h1 => (ev P o σ h1).go σ fun x h2 => (ev P i σ h2).go σ fun y h3 => match setS x y v h3 with
    | some h4 => .nx σ h4
    | none => .no
  | .aug i o e, σ, h => match σ[i]? with
    | some (some (.exn _ _)) => .no
    | some (some x) => (ev P e σ h).go σ fun y h1 => (augW o x y h1).go σ fun z h2 => .nx (σ.set i (some z)) h2
    | _ => .no
  | .del o i, σ, h => (ev P o σ h).go σ fun x h2 => (ev P i σ h2).go σ fun y h3 => match delS x y h3 with
    | some h4 => .nx σ h4
    | none => .no
  | .exp e, σ, h => (ev P e σ h).go σ fun _ h1 => .nx σ h1
  | .ret e, σ, h => (ev P e σ h).go σ fun w h1 => .rt w h1
  | .retN, _, h => .rt .non h
  | .stk, _, _ => .no
  | .pas, σ, h => .nx σ h
  | .brk, σ, h => .bk σ h
  | .cnt, σ, h => .ct σ h
  | .ite c a b, σ, h => (ev P c σ h).go σ fun x h1 => match tru P h1 x with
    | some true => exs P a σ h1
    | some false => exs P b σ h1
    | none => .no
  | .whl c b, σ, h => whL (fun σ h => (ev P c σ h).bind fun x h1 => truR P x h1) (fun σ h => exs P b σ h) P.fu σ h
  | .frr t it b, σ, h => ((evI P it σ h).bind lockR).go σ fun k h2 => unlO k (frL (k.next P) (fun x σ' h3 => match stT P t x σ' h3 with
      | some σ'' => exs P b σ'' h3
      | none => .no) P.fu 0 σ h2)
  | .rse c as, σ, h => match P.exf c with
    | some fs => (evs P as σ h).go σ fun ws h1 => if fs.length = ws.length then .ex c h1.sz σ (h1.push (.xd (fs.zip ws).reverse)) else .no
    | none => .no
  | .tri b c i u, σ, h => match exs P b σ h with
    | .ex c' n σ' h' => (match P.isC c' c with
      | some true => (match exs P u (σ'.set i (some (.exn c' n))) h' with
        | .nx σ'' h'' => .nx ((clrX σ'').set i none) h''
        | .rt w h'' => .rt w h''
        | _ => .no)
      | some false => .ex c' n σ' h'
      | none => .no)
    | r => r
def exs (P : Pg) : List S → Sl → Hh → Out
  | [], σ, h => .nx σ h
  | s :: r, σ, h => match ex P s σ h with
    | .nx σ' h' => exs P r σ' h'
    | o => o
end
/-! ### calls to a depth -/
structure Df where
  np : Nat
  nn : Nat
  body : List S
/-- the program with calls to depth d -/
structure Prog where
  fn : Str × Str → Option Df
  gl : Str → Option W
  so : Nat → Option O
  exf : Str → Option (List Str)
  isC : Str → Str → Option Bool
  isT : Ty → Ty → Option Bool
  fd : Str → Str → Bool
  hm : Str → Str → Bool
  fu : Nat
def Prog.pg (p : Prog) (cl : Str × Str → List W → Hh → Rs W) : Pg := ⟨cl, p.gl, p.so, p.exf, p.isC, p.isT, p.fd, p.hm, p.fu⟩
def runD (P : Pg) (d : Df) (ws : List W) (h : Hh) : Rs W :=
  if ws.length = d.np then match exs P d.body (ws.map some ++ List.replicate (d.nn - d.np) none) h with
    | .nx _ h' => .ok .non h'
    | .rt w h' => .ok w h'
    | .ex c n _ h' => .ex c n h'
    | _ => .no
  else .no
def Prog.cl (p : Prog) : Nat → Str × Str → List W → Hh → Rs W
  | 0, _, _, _ => .no
  | k + 1, f, ws, h => match p.fn f with
    | some d => runD (p.pg (p.cl k)) d ws h
    | none => .no
end MP

set_option Elab.async false
set_option linter.all false
set_option maxRecDepth 100000
/-! MP: what the evaluator's heap says of the layer's. -/
namespace MP
open PySem L2

/-! ### lists in pairs -/
section
variable {α β γ δ : Type} {F G : α → β → Prop}
theorem prd_get : ∀ {l : List α} {r : List β} {i : Nat} {x : α}, Paired F l r → l[i]? = some x → ∃ y, r[i]? = some y ∧ F x y
  | _, _, _, _, .nil, e => by simp at e
  | _, _, 0, _, .cons f _, e => by simp at e; subst e; exact ⟨_, rfl, f⟩
  | _, _, i + 1, x, .cons _ t, e => by
    obtain ⟨y, h1, h2⟩ := prd_get (i := i) (x := x) t (by simpa using e)
    exact ⟨y, by simpa using h1, h2⟩
theorem prd_none {l : List α} {r : List β} {i : Nat} (h : Paired F l r) (e : l[i]? = none) : r.length ≤ i := by
  have := h.length
  have h2 := List.getElem?_eq_none_iff.mp e
  omega
theorem prd_app : ∀ {l l' : List α} {r r' : List β}, Paired F l r → Paired F l' r' → Paired F (l ++ l') (r ++ r')
  | _, _, _, _, .nil, s => s
  | _, _, _, _, .cons f t, s => .cons f (prd_app t s)
theorem prd_set {x : α} {y : β} (f : F x y) : ∀ {l : List α} {r : List β} (i : Nat), Paired F l r → Paired F (l.set i x) (r.set i y)
  | _, _, _, .nil => .nil
  | _, _, 0, .cons _ t => .cons f t
  | _, _, i + 1, .cons g t => .cons g (prd_set f i t)
theorem prd_take : ∀ {l : List α} {r : List β} (n : Nat), Paired F l r → Paired F (l.take n) (r.take n)
  | _, _, 0, _ => .nil
  | _, _, _ + 1, .nil => .nil
  | _, _, n + 1, .cons f t => .cons f (prd_take n t)
theorem prd_drop : ∀ {l : List α} {r : List β} (n : Nat), Paired F l r → Paired F (l.drop n) (r.drop n)
  | _, _, 0, h => h
  | _, _, _ + 1, .nil => .nil
  | _, _, n + 1, .cons _ t => prd_drop n t
theorem prd_rep {l : List α} {r : List β} (h : Paired F l r) : ∀ k : Nat, Paired F (List.replicate k l).flatten (List.replicate k r).flatten
  | 0 => .nil
  | k + 1 => by
    rw [List.replicate_succ, List.replicate_succ, List.flatten_cons, List.flatten_cons]
    exact prd_app h (prd_rep h k)
theorem prd_rev : ∀ {l : List α} {r : List β}, Paired F l r → Paired F l.reverse r.reverse
  | _, _, .nil => .nil
  | _, _, .cons f t => by
    rw [List.reverse_cons, List.reverse_cons]
    exact prd_app (prd_rev t) (.cons f .nil)
theorem prd_dropLast : ∀ {l : List α} {r : List β}, Paired F l r → Paired F l.dropLast r.dropLast
  | _, _, .nil => .nil
  | _, _, .cons _ .nil => .nil
  | _, _, .cons f (.cons g t) => .cons f (prd_dropLast (.cons g t))
theorem prd_mapL {f : γ → α} {g : γ → β} (h : ∀ c, F (f c) (g c)) : ∀ l : List γ, Paired F (l.map f) (l.map g)
  | [] => .nil
  | c :: r => .cons (h c) (prd_mapL h r)
theorem prd_empty {l : List α} {r : List β} (h : Paired F l r) : l.isEmpty = r.isEmpty := by cases h <;> rfl
end

/-! ### values -/
/-- an abstract value by the addresses so far -/
def vr (sa : Nat → Addr) (ρ : List Addr) : W → V → Prop
  | .non, v => v = .non
  | .bl b, v => v = .bl b
  | .int i, v => v = .int i
  | .str x, v => v = .str x
  | .ref n, v => ∃ a, ρ[n]? = some a ∧ v = .ref a
  | .st i, v => v = .ref (sa i)
  | .exn _ _, _ => False
def pre (ρ ρ' : List Addr) : Prop := ∃ t, ρ' = ρ ++ t
theorem pre.refl (ρ : List Addr) : pre ρ ρ := ⟨[], by simp⟩
theorem pre.trans {a b c : List Addr} (h : pre a b) (h' : pre b c) : pre a c := by
  obtain ⟨t, rfl⟩ := h
  obtain ⟨u, rfl⟩ := h'
  exact ⟨t ++ u, by rw [List.append_assoc]⟩
theorem pre.snoc (ρ : List Addr) (a : Addr) : pre ρ (ρ ++ [a]) := ⟨[a], rfl⟩
theorem pre.get {ρ ρ' : List Addr} (h : pre ρ ρ') {n : Nat} {a : Addr} (e : ρ[n]? = some a) : ρ'[n]? = some a := by
  obtain ⟨t, rfl⟩ := h
  have hn : n < ρ.length := (List.getElem?_eq_some_iff.mp e).1
  rw [List.getElem?_append_left hn]
  exact e
section
variable {sa : Nat → Addr} {ρ ρ' : List Addr}
theorem vr.mono (h : pre ρ ρ') : ∀ {w : W} {v : V}, vr sa ρ w v → vr sa ρ' w v
  | .non, _, r => r
  | .bl _, _, r => r
  | .int _, _, r => r
  | .str _, _, r => r
  | .ref _, _, ⟨a, e, r⟩ => ⟨a, h.get e, r⟩
  | .st _, _, r => r
  | .exn _ _, _, r => r.elim
abbrev vrs (sa : Nat → Addr) (ρ : List Addr) : List W → List V → Prop := Paired (vr sa ρ)
theorem vrs.mono (h : pre ρ ρ') {ws : List W} {vs : List V} (r : vrs sa ρ ws vs) : vrs sa ρ' ws vs := Paired.mapP r fun _ _ x => x.mono h
/-- a value has one image -/
theorem vr.fn {w : W} {v u : V} (a : vr sa ρ w v) (b : vr sa ρ w u) : v = u := by
  cases w with
  | ref n =>
    obtain ⟨x, e, rfl⟩ := a
    obtain ⟨y, e', rfl⟩ := b
    rw [e] at e'
    cases e'
    rfl
  | exn _ _ => exact a.elim
  | _ => exact (show v = _ from a).trans (show u = _ from b).symm
end
abbrev fr (sa : Nat → Addr) (ρ : List Addr) : List (Str × W) → List (Str × V) → Prop := Paired fun p q => p.1 = q.1 ∧ vr sa ρ p.2 q.2
abbrev kr (sa : Nat → Addr) (ρ : List Addr) : List (Key × W) → List (Key × V) → Prop := Paired fun p q => p.1 = q.1 ∧ vr sa ρ p.2 q.2
/-! ### objects -/
def ur (sa : Nat → Addr) (ca : Str → Addr) (ρ : List Addr) : O → HO → Prop
  | .lst ws, u => ∃ vs, vrs sa ρ ws vs ∧ u = .lst vs
  | .tup ws, u => ∃ vs, vrs sa ρ ws vs ∧ u = .tup vs
  | .dic ws, u => ∃ vs, kr sa ρ ws vs ∧ u = .dK vs
  | .ins c fs, u => ∃ dx vs, fr sa ρ fs vs ∧ u = .ins (ca c) dx vs
  | .xd fs, u => ∃ vs, fr sa ρ fs vs ∧ u = .xd vs
  | .rol _, _ => False
  | .frz _, _ => False
def orl (sa : Nat → Addr) (ca : Str → Addr) (fz : Addr → Option (Obj × HO)) (ρ : List Addr) (a : Addr) (H : Hp) : O → Prop
  | .frz o => ∃ ob u, H a = some (.frz ob u) ∧ fz a = some (ob, u) ∧ ur sa ca ρ o u
  | o => ∃ u, H a = some u ∧ ur sa ca ρ o u
/-- a thing of the top, or the script -/
def srl (K : PySem.W.Frag) (w : World) (sa : Nat → Addr) (a : Addr) (H : Hp) : O → Prop
  | .rol ws => ∃ vs, vrs sa [] ws vs ∧ ((∃ o, H a = some (.frz o (.lst vs))) ∨ ∀ H, SqL K H a vs)
  | .tup ws => ∃ vs, vrs sa [] ws vs ∧ ∀ H, SqT K H a vs
  | .dic kvs => (∃ es n, KDict K w a es n) ∧ ∀ z : Str, ∃ r, PySem.W.nsIn K a z = some r ∧ (match getK kvs (.inr z), r with
    | none, none => True
    | some x, some u => ∃ v, vr sa [] x v ∧ RelV v u
    | _, _ => False)
  | _ => False
section
variable {sa : Nat → Addr} {ca : Str → Addr} {fz : Addr → Option (Obj × HO)} {ρ ρ' : List Addr}
theorem ur.mono (h : pre ρ ρ') : ∀ {o : O} {u : HO}, ur sa ca ρ o u → ur sa ca ρ' o u
  | .lst _, _, ⟨vs, r, e⟩ => ⟨vs, r.mono h, e⟩
  | .tup _, _, ⟨vs, r, e⟩ => ⟨vs, r.mono h, e⟩
  | .dic _, _, ⟨vs, r, e⟩ => ⟨vs, Paired.mapP r fun _ _ x => ⟨x.1, x.2.mono h⟩, e⟩
  | .ins _ _, _, ⟨dx, vs, r, e⟩ => ⟨dx, vs, Paired.mapP r fun _ _ x => ⟨x.1, x.2.mono h⟩, e⟩
  | .xd _, _, ⟨vs, r, e⟩ => ⟨vs, Paired.mapP r fun _ _ x => ⟨x.1, x.2.mono h⟩, e⟩
  | .rol _, _, r => r.elim
  | .frz _, _, r => r.elim
theorem orl.mono (h : pre ρ ρ') {a : Addr} {H : Hp} {o : O} (r : orl sa ca fz ρ a H o) : orl sa ca fz ρ' a H o := by
  cases o with
  | frz o => obtain ⟨ob, u, e, z, r⟩ := r; exact ⟨ob, u, e, z, r.mono h⟩
  | _ => obtain ⟨u, e, r⟩ := r; exact ⟨u, e, r.mono h⟩
theorem orl.some {a : Addr} {H : Hp} {o : O} (r : orl sa ca fz ρ a H o) : ∃ u, H a = some u := by
  cases o with
  | frz o => obtain ⟨ob, u, e, _, _⟩ := r; exact ⟨_, e⟩
  | _ => obtain ⟨u, e, _⟩ := r; exact ⟨_, e⟩
theorem orl.eqH {a : Addr} {H H' : Hp} {o : O} (r : orl sa ca fz ρ a H o) (e : H' a = H a) : orl sa ca fz ρ a H' o := by
  cases o with
  | frz o => obtain ⟨ob, u, x, z, r⟩ := r; exact ⟨ob, u, e.trans x, z, r⟩
  | _ => obtain ⟨u, x, r⟩ := r; exact ⟨u, e.trans x, r⟩
end
/-! ### heaps -/
/-- what links the text's names with the heap -/
structure Ln where
  sa : Nat → Addr
  ca : Str → Addr
  so : Nat → Option O
  fz : Addr → Option (Obj × HO) := fun _ => none
/-- with other locks -/
abbrev Ln.at (L : Ln) (fz : Addr → Option (Obj × HO)) : Ln := { L with fz := fz }
structure HR (L : Ln) (K : PySem.W.Frag) (w : World) (ρ : List Addr) (h : Hh) (H : Hp) : Prop where
  len : ρ.length = h.sz
  nd : ρ.Nodup
  at_ : ∀ n, n < h.sz → ∃ o a, h.get n = some o ∧ ρ[n]? = some a ∧ orl L.sa L.ca L.fz ρ a H o
  st : ∀ i o, L.so i = some o → srl K w L.sa (L.sa i) H o
section
variable {L : Ln} {K : PySem.W.Frag} {w : World} {ρ ρ' : List Addr} {h h' : Hh} {H H' : Hp}
theorem HR.obj (R : HR L K w ρ h H) {n : Nat} {o : O} (e : h.get n = some o) : ∃ a, ρ[n]? = some a ∧ orl L.sa L.ca L.fz ρ a H o := by
  obtain ⟨o', a, e1, e2, r⟩ := R.at_ n (Hh.get_lt e)
  rw [e1] at e
  cases e
  exact ⟨a, e2, r⟩
theorem HR.objAt (R : HR L K w ρ h H) {n : Nat} {o : O} {a : Addr} (e : h.get n = some o) (ea : ρ[n]? = some a) : orl L.sa L.ca L.fz ρ a H o := by
  obtain ⟨a', e2, r⟩ := R.obj e
  rw [ea] at e2
  cases e2
  exact r
theorem HR.ne (R : HR L K w ρ h H) {n m : Nat} {a b : Addr} (e : ρ[n]? = some a) (e' : ρ[m]? = some b) (hn : n ≠ m) : a ≠ b := fun q => by
  subst q
  obtain ⟨h1, e1⟩ := List.getElem?_eq_some_iff.mp e
  obtain ⟨h2, e2⟩ := List.getElem?_eq_some_iff.mp e'
  exact hn ((List.getElem_inj R.nd).mp (e1.trans e2.symm))
theorem srl.upd {a b : Addr} {u : HO} {o : O} (r : srl K w L.sa a H o) (hb : ∀ ob x, H b ≠ some (.frz ob x)) : srl K w L.sa a (upd H b u) o := by
  cases o with
  | rol ws =>
    obtain ⟨vs, r, q⟩ := r
    refine ⟨vs, r, ?_⟩
    rcases q with ⟨ob, q⟩ | q
    · refine .inl ⟨ob, ?_⟩
      rw [upd_ne (fun z => hb ob _ (by rw [← z]; exact q))]
      exact q
    · exact .inr q
  | tup ws => exact r
  | dic kvs => exact r
  | _ => exact r.elim
/-- a new object -/
theorem HR.push (R : HR L K w ρ h H) {p : Addr} (np : H p = none) {o : O} {u : HO} (r : ur L.sa L.ca (ρ ++ [p]) o u) : HR L K w (ρ ++ [p]) (h.push o) (upd H p u) where
  len := by rw [List.length_append, R.len]; rfl
  nd := by
    rw [List.nodup_append]
    refine ⟨R.nd, by simp, fun x hx y hy e => ?_⟩
    simp only [List.mem_singleton] at hy
    subst hy
    subst e
    obtain ⟨n, hn, en⟩ := List.mem_iff_getElem.mp hx
    obtain ⟨o', a, _, e2, r'⟩ := R.at_ n (by rw [← R.len]; exact hn)
    rw [List.getElem?_eq_getElem hn, en] at e2
    cases e2
    obtain ⟨u', e⟩ := r'.some
    rw [np] at e
    cases e
  at_ := fun n hn => by
    rw [Hh.get_push]
    by_cases e : n = h.sz
    · subst e
      refine ⟨o, p, if_pos rfl, by rw [← R.len]; simp, ?_⟩
      cases o with
      | frz o => exact r.elim
      | _ => exact ⟨u, upd_same, r⟩
    · have hn' : n < h.sz := by have h2 : n < h.sz + 1 := hn; omega
      obtain ⟨o', a, e1, e2, r'⟩ := R.at_ n hn'
      rw [if_neg e]
      refine ⟨o', a, e1, (pre.snoc ρ p).get e2, ?_⟩
      obtain ⟨u', eu⟩ := r'.some
      exact (r'.mono (pre.snoc ρ p)).eqH (upd_ne (ne_of_none eu np))
  st := fun i o' e => (R.st i o' e).upd fun ob x z => by rw [np] at z; cases z
/-- an object changed -/
theorem HR.set (R : HR L K w ρ h H) {n : Nat} {a : Addr} (ea : ρ[n]? = some a) {o : O} {u : HO} (hf : ∀ ob x, H a ≠ some (.frz ob x)) (r : ur L.sa L.ca ρ o u) : HR L K w ρ (h.set n o) (upd H a u) where
  len := R.len
  nd := R.nd
  at_ := fun m hm => by
    have hn : n < h.sz := by rw [← R.len]; exact (List.getElem?_eq_some_iff.mp ea).1
    rw [Hh.get_set hn]
    by_cases e : m = n
    · subst e
      refine ⟨o, a, if_pos rfl, ea, ?_⟩
      cases o with
      | frz o => exact r.elim
      | _ => exact ⟨u, upd_same, r⟩
    · obtain ⟨o', b, e1, e2, r'⟩ := R.at_ m hm
      rw [if_neg e]
      exact ⟨o', b, e1, e2, r'.eqH (upd_ne (R.ne e2 ea e))⟩
  st := fun i o' e => (R.st i o' e).upd hf
end
end MP

set_option Elab.async false
set_option linter.all false
set_option maxRecDepth 100000
/-! MP: the readings; operators. -/
namespace MP
open PySem L2

/-! ### what is wanted behind an evaluation -/
def pst (L : Ln) (K : PySem.W.Frag) (w : World) {α β : Type} (rel : List Addr → α → β → Prop) (ρ : List Addr) (r : Rs α) (E : Str → Addr → Hp → Prop) (Q : β → Hp → Prop) : Prop := match r with
  | .ok a h' => ∀ ρ' H' b, pre ρ ρ' → HR L K w ρ' h' H' → rel ρ' a b → Q b H'
  | .ex c n h' => ∀ ρ' H' d, pre ρ ρ' → HR L K w ρ' h' H' → ρ'[n]? = some d → E c d H'
  | .no => False
section
variable {L : Ln} {K : PySem.W.Frag} {w : World} {α β γ δ : Type} {rel : List Addr → α → β → Prop} {rel' : List Addr → γ → δ → Prop} {ρ ρ' : List Addr} {r : Rs α} {E : Str → Addr → Hp → Prop} {Q Q' : β → Hp → Prop}
theorem pst.imp (p : pst L K w rel ρ r E Q) (h : ∀ b H, Q b H → Q' b H) : pst L K w rel ρ r E Q' := by
  cases r with
  | ok a h' => exact fun ρ' H' b h1 h2 h3 => h _ _ (p ρ' H' b h1 h2 h3)
  | ex c n h' => exact p
  | no => exact p
theorem pst.mono (p : pst L K w rel ρ r E Q) (h : pre ρ ρ') : pst L K w rel ρ' r E Q := by
  cases r with
  | ok a h' => exact fun ρ2 H' b h1 h2 h3 => p ρ2 H' b (h.trans h1) h2 h3
  | ex c n h' => exact fun ρ2 H' d h1 h2 h3 => p ρ2 H' d (h.trans h1) h2 h3
  | no => exact p
theorem pst.exc {E' : Str → Addr → Hp → Prop} (p : pst L K w rel ρ r E Q) (h : ∀ c d H, E c d H → E' c d H) : pst L K w rel ρ r E' Q := by
  cases r with
  | ok a h' => exact p
  | ex c n h' => exact fun ρ2 H' d h1 h2 h3 => h _ _ _ (p ρ2 H' d h1 h2 h3)
  | no => exact p
theorem pst.bind {k : α → Hh → Rs γ} {Q2 : δ → Hp → Prop} (p : pst L K w rel' ρ (r.bind k) E Q2) :
    pst L K w rel ρ r E fun b H1 => ∃ ρ1 h1 a, pre ρ ρ1 ∧ HR L K w ρ1 h1 H1 ∧ rel ρ1 a b ∧ pst L K w rel' ρ1 (k a h1) E Q2 := by
  cases r with
  | ok a h' => exact fun ρ' H' b h1 h2 h3 => ⟨ρ', h', a, h1, h2, h3, (show pst L K w rel' ρ (k a h') E Q2 from p).mono h1⟩
  | ex c n h' => exact p
  | no => exact p
theorem pst.ok {a : α} {h : Hh} {H : Hp} {b : β} (p : pst L K w rel ρ (.ok a h) E Q) (R : HR L K w ρ h H) (r : rel ρ a b) : Q b H := p ρ H b (pre.refl ρ) R r
theorem pst.ofO {o : Option α} {h : Hh} (p : pst L K w rel ρ (ofO o h) E Q) : ∃ a, o = some a ∧ pst L K w rel ρ (.ok a h) E Q := by
  cases o with
  | none => exact p.elim
  | some a => exact ⟨a, rfl, p⟩
end
abbrev pv (L : Ln) (K : PySem.W.Frag) (w : World) (ρ : List Addr) (r : Rs W) (E : Str → Addr → Hp → Prop) (Q : V → Hp → Prop) : Prop := pst L K w (vr L.sa) ρ r E Q

/-! ### operators by values -/
def bop : BO → Operator
  | .add => .Add | .sub => .Sub | .mul => .Mult | .fdv => .FloorDiv | .md => .Mod | .pow => .Pow
def cop : CO → CmpOp
  | .eq => .Eq | .ne => .NotEq | .lt => .Lt | .le => .LtE | .gt => .Gt | .ge => .GtE | .inn => .In | .nin => .NotIn | .iss => .Is | .isn => .IsNot
/-- nothing is raised -/
abbrev E1 : Str → Addr → Hp → Prop := fun _ _ _ => False
theorem sizeL {n : Nat} (h : n ≤ lim) : n ≤ sizeLine := Nat.le_trans h (by decide)
theorem sizeLt {n : Nat} (h : n < lim) : n < sizeLine := Nat.lt_of_lt_of_le h (by decide)
def rBin (L : Ln) (K : PySem.W.Frag) (w : World) (o : BO) : R2 := fun x y H Q => ∃ ρ h a b, HR L K w ρ h H ∧ vr L.sa ρ a x ∧ vr L.sa ρ b y ∧ ∃ E, pv L K w ρ (binW o a b h) E Q
section
variable {X : Cx} {L : Ln}
theorem HR.lstAt {K : PySem.W.Frag} {w : World} {ρ : List Addr} {h : Hh} {H : Hp} (R : HR L K w ρ h H) {n : Nat} {a : Addr} {xs : List W} (e : h.get n = some (.lst xs)) (ea : ρ[n]? = some a) : ∃ vs, vrs L.sa ρ xs vs ∧ H a = some (.lst vs) := by
  obtain ⟨u, eu, vs, r, rfl⟩ := R.objAt e ea
  exact ⟨vs, r, eu⟩
theorem HR.tupAt {K : PySem.W.Frag} {w : World} {ρ : List Addr} {h : Hh} {H : Hp} (R : HR L K w ρ h H) {n : Nat} {a : Addr} {xs : List W} (e : h.get n = some (.tup xs)) (ea : ρ[n]? = some a) : ∃ vs, vrs L.sa ρ xs vs ∧ H a = some (.tup vs) := by
  obtain ⟨u, eu, vs, r, rfl⟩ := R.objAt e ea
  exact ⟨vs, r, eu⟩
theorem HR.dicAt {K : PySem.W.Frag} {w : World} {ρ : List Addr} {h : Hh} {H : Hp} (R : HR L K w ρ h H) {n : Nat} {a : Addr} {xs : List (Key × W)} (e : h.get n = some (.dic xs)) (ea : ρ[n]? = some a) : ∃ vs, kr L.sa ρ xs vs ∧ H a = some (.dK vs) := by
  obtain ⟨u, eu, vs, r, rfl⟩ := R.objAt e ea
  exact ⟨vs, r, eu⟩
theorem HR.insAt {K : PySem.W.Frag} {w : World} {ρ : List Addr} {h : Hh} {H : Hp} (R : HR L K w ρ h H) {n : Nat} {a : Addr} {c : Str} {xs : List (Str × W)} (e : h.get n = some (.ins c xs)) (ea : ρ[n]? = some a) : ∃ dx vs, fr L.sa ρ xs vs ∧ H a = some (.ins (L.ca c) dx vs) := by
  obtain ⟨u, eu, dx, vs, r, rfl⟩ := R.objAt e ea
  exact ⟨dx, vs, r, eu⟩
/-- a new list, a new tuple -/
theorem pv.newL {K : PySem.W.Frag} {w : World} {ρ : List Addr} {h : Hh} {H : Hp} {xs : List W} {vs : List V} {E : Str → Addr → Hp → Prop} {Q : VK} (R : HR L K w ρ h H) (r : vrs L.sa ρ xs vs) (p : pv L K w ρ (newL xs h) E Q) : vs.length ≤ sizeLine ∧ ∀ q, H q = none → Q (.ref q) (upd H q (.lst vs)) := by
  unfold MP.newL at p
  split at p
  · rename_i hl
    refine ⟨by rw [← r.length]; exact sizeL hl, fun q nq => p (ρ ++ [q]) _ _ (pre.snoc ρ q) (R.push nq ⟨vs, r.mono (pre.snoc ρ q), rfl⟩) ⟨q, by rw [← R.len]; simp, rfl⟩⟩
  · exact p.elim
theorem pv.newT {K : PySem.W.Frag} {w : World} {ρ : List Addr} {h : Hh} {H : Hp} {xs : List W} {vs : List V} {E : Str → Addr → Hp → Prop} {Q : VK} (R : HR L K w ρ h H) (r : vrs L.sa ρ xs vs) (p : pv L K w ρ (newT xs h) E Q) : vs.length ≤ sizeLine ∧ ∀ q, H q = none → Q (.ref q) (upd H q (.tup vs)) := by
  unfold MP.newT at p
  split at p
  · rename_i hl
    refine ⟨by rw [← r.length]; exact sizeL hl, fun q nq => p (ρ ++ [q]) _ _ (pre.snoc ρ q) (R.push nq ⟨vs, r.mono (pre.snoc ρ q), rfl⟩) ⟨q, by rw [← R.len]; simp, rfl⟩⟩
  · exact p.elim
theorem or_bin (o : BO) : OpR X (binaryOp (bop o)) (rBin L X.K X.w o) := by
  intro pins s σ H x y v u Q I rx ry hh
  obtain ⟨ρ, h, a, b, R, ra, rb, E, p⟩ := hh
  cases o with
  | add =>
    cases a with
    | int i =>
      cases b with
      | int j =>
        cases ra; cases rb
        exact op_add pins s σ H _ _ v u Q I rx ry ⟨i, j, rfl, rfl, p.ok R rfl⟩
      | _ => exact p.elim
    | str i =>
      cases b with
      | str j =>
        cases ra; cases rb
        change pv L X.K X.w ρ (if i.length + j.length ≤ lim then .ok (.str (i ++ j)) h else .no) E Q at p
        split at p
        · rename_i hl
          exact op_add_str pins s σ H _ _ v u Q I rx ry ⟨i, j, rfl, rfl, sizeL hl, p.ok R rfl⟩
        · exact p.elim
      | _ => exact p.elim
    | ref n =>
      cases b with
      | ref m =>
        obtain ⟨pa, ea, rfl⟩ := ra
        obtain ⟨pb, eb, rfl⟩ := rb
        change pv L X.K X.w ρ (match h.get n, h.get m with
          | some (.lst xs), some (.lst ys) => newL (xs ++ ys) h
          | some (.tup xs), some (.tup ys) => if xs.isEmpty = true then .ok (.ref m) h else if ys.isEmpty = true then .ok (.ref n) h else newT (xs ++ ys) h
          | _, _ => .no) E Q at p
        split at p
        · rename_i xs ys e1 e2
          obtain ⟨us, r1, h1⟩ := R.lstAt e1 ea
          obtain ⟨ws, r2, h2⟩ := R.lstAt e2 eb
          obtain ⟨q1, q2⟩ := pv.newL R (prd_app r1 r2) p
          rw [List.length_append] at q1
          exact op_cat pins s σ H _ _ v u Q I rx ry ⟨pa, pb, us, ws, rfl, rfl, h1, h2, q1, q2⟩
        · rename_i xs ys e1 e2
          obtain ⟨us, r1, h1⟩ := R.tupAt e1 ea
          obtain ⟨ws, r2, h2⟩ := R.tupAt e2 eb
          have b1 := prd_empty r1
          have b2 := prd_empty r2
          have hl : ∀ {a b : List V}, us.length + ws.length ≤ sizeLine → True := fun _ => trivial
          refine op_catA pins s σ H _ _ v u Q I rx ry ⟨pa, pb, us, ws, rfl, rfl, SqT.of h1, SqT.of h2, ?_, fun z => ?_, fun z z2 => ?_, fun z z2 => ?_⟩
          · obtain ⟨l1, _⟩ := I.hok pa _ h1
            obtain ⟨l2, _⟩ := I.hok pb _ h2
            split at p
            · rename_i hx
              rw [b1, List.isEmpty_iff] at hx
              rw [hx]; simpa using l2
            · split at p
              · rename_i hx
                rw [b2, List.isEmpty_iff] at hx
                rw [hx]; simpa using l1
              · obtain ⟨q1, _⟩ := pv.newT R (prd_app r1 r2) p
                rw [List.length_append] at q1
                exact q1
          · subst z
            rw [if_pos (by rw [b1]; rfl)] at p
            exact p.ok R ⟨pb, eb, rfl⟩
          · rw [if_neg (by rw [b1, List.isEmpty_iff]; exact z), if_pos (by rw [b2, z2]; rfl)] at p
            exact p.ok R ⟨pa, ea, rfl⟩
          · rw [if_neg (by rw [b1, List.isEmpty_iff]; exact z), if_neg (by rw [b2, List.isEmpty_iff]; exact z2)] at p
            exact (pv.newT R (prd_app r1 r2) p).2
        · exact p.elim
      | _ => exact p.elim
    | _ => exact p.elim
  | sub =>
    cases a with
    | int i =>
      cases b with
      | int j =>
        cases ra; cases rb
        exact op_sub pins s σ H _ _ v u Q I rx ry ⟨i, j, rfl, rfl, p.ok R rfl⟩
      | _ => exact p.elim
    | _ => exact p.elim
  | mul =>
    cases a with
    | int i =>
      cases b with
      | int j =>
        cases ra; cases rb
        change pv L X.K X.w ρ (if i.natAbs.log2 + j.natAbs.log2 < 1000000 then .ok (.int (i * j)) h else .no) E Q at p
        split at p
        · rename_i hl
          exact op_mulW pins s σ H _ _ v u Q I rx ry ⟨i, j, rfl, rfl, hl, p.ok R rfl⟩
        · exact p.elim
      | _ => exact p.elim
    | str i =>
      cases b with
      | int j =>
        cases ra; cases rb
        change pv L X.K X.w ρ (if 0 ≤ j ∧ j ≤ 1000 ∧ i.length ≤ 1000 then .ok (.str (PySem.Txt.mul i j)) h else .no) E Q at p
        split at p
        · rename_i hl
          obtain ⟨t1, rfl⟩ := rx
          obtain ⟨t2, rfl⟩ := ry
          refine PySem.SB.mul ⟨?_, fun h1 _ => ?_, fun h1 _ => ?_⟩ fun t' k => ⟨.str _, H, I.tok _, ⟨t', rfl⟩, p.ok R rfl⟩
          · simp; omega
          · have : (1000 : Int) ≤ (2 ^ 63 - 1) / j := by
              apply Int.le_ediv_of_mul_le (by omega)
              omega
            have h3 := hl.2.2
            omega
          · have h2 : i.length * j.toNat ≤ 1000 * 1000 := Nat.mul_le_mul hl.2.2 (by omega)
            unfold Builtin.Str.tooLong
            simp only [sizeLine_eq, decide_eq_false_iff_not]
            omega
        · exact p.elim
      | _ => exact p.elim
    | ref n =>
      cases b with
      | int j =>
        obtain ⟨pa, ea, rfl⟩ := ra
        cases rb
        change pv L X.K X.w ρ (match h.get n with
          | some (.lst xs) => if 0 ≤ j ∧ j ≤ 1000 ∧ xs.length ≤ 1000 then newL (List.replicate j.toNat xs).flatten h else .no
          | _ => .no) E Q at p
        split at p
        · rename_i xs e1
          obtain ⟨us, r1, h1⟩ := R.lstAt e1 ea
          split at p
          · rename_i hl
            obtain ⟨q1, q2⟩ := pv.newL R (prd_rep r1 j.toNat) p
            refine op_rep pins s σ H _ _ v u Q I rx ry ⟨pa, j, us, rfl, rfl, h1, by omega, by omega, ?_, q2⟩
            have : us.length ≤ 1000 := by rw [← r1.length]; exact hl.2.2
            have h2 : us.length * j.toNat ≤ 1000 * 1000 := Nat.mul_le_mul this (by omega)
            exact Nat.le_trans h2 (by decide)
          · exact p.elim
        · exact p.elim
      | _ => exact p.elim
    | _ => exact p.elim
  | fdv =>
    cases a with
    | int i =>
      cases b with
      | int j =>
        cases ra; cases rb
        change pv L X.K X.w ρ (if 0 < j ∧ j.natAbs.log2 < 9000 then .ok (.int (i / j)) h else .no) E Q at p
        split at p
        · rename_i hl
          exact op_fdivW pins s σ H _ _ v u Q I rx ry ⟨i, j, rfl, rfl, hl, p.ok R rfl⟩
        · exact p.elim
      | _ => exact p.elim
    | _ => exact p.elim
  | md =>
    cases a with
    | int i =>
      cases b with
      | int j =>
        cases ra; cases rb
        change pv L X.K X.w ρ (if 0 < j then .ok (.int (i % j)) h else .no) E Q at p
        split at p
        · rename_i hl
          exact op_mod pins s σ H _ _ v u Q I rx ry ⟨i, j, rfl, rfl, hl, p.ok R rfl⟩
        · exact p.elim
      | _ => exact p.elim
    | _ => exact p.elim
  | pow =>
    cases a with
    | int i =>
      cases b with
      | int j =>
        cases ra; cases rb
        change pv L X.K X.w ρ (if 0 ≤ j ∧ j ≤ 1000000 ∧ i.natAbs < 2 ^ 64 then .ok (.int (i ^ j.toNat)) h else .no) E Q at p
        split at p
        · rename_i hl
          exact op_pow pins s σ H _ _ v u Q I rx ry ⟨i, j, rfl, rfl, hl, p.ok R rfl⟩
        · exact p.elim
      | _ => exact p.elim
    | _ => exact p.elim
end

/-! ### reading -/
section
variable {P : Pg} {L : Ln} {K : PySem.W.Frag} {w : World} {ρ : List Addr} {h : Hh} {H : Hp}
theorem HR.static (hs : P.so = L.so) (R : HR L K w ρ h H) {i : Nat} {o : O} (e : P.so i = some o) : srl K w L.sa (L.sa i) H o := R.st i o (by rw [← hs]; exact e)
theorem vrs_up {ws : List W} {vs : List V} (r : vrs L.sa [] ws vs) : vrs L.sa ρ ws vs := r.mono ⟨ρ, rfl⟩
/-- an object of ours -/
theorem ob_ref (R : HR L K w ρ h H) {n : Nat} {v : V} {o : O} (r : vr L.sa ρ (.ref n) v) (e : ob P h (.ref n) = some o) : ∃ a u, ρ[n]? = some a ∧ v = .ref a ∧ ur L.sa L.ca ρ o u ∧ Rd H a u := by
  obtain ⟨a, ea, rfl⟩ := r
  unfold ob at e
  cases q : h.get n with
  | none => simp [q] at e
  | some o' =>
    have rr := R.objAt q ea
    simp only [q] at e
    cases o' with
    | frz o2 =>
      cases e
      obtain ⟨ob', u, eu, _, r⟩ := rr
      exact ⟨a, u, ea, rfl, r, .inr ⟨_, eu⟩⟩
    | _ =>
      cases e
      obtain ⟨u, eu, r⟩ := rr
      exact ⟨a, u, ea, rfl, r, .inl eu⟩
theorem ob_lst (hs : P.so = L.so) (R : HR L K w ρ h H) {x : W} {v : V} {xs : List W} (r : vr L.sa ρ x v) (e : ob P h x = some (.lst xs)) : ∃ a vs, v = .ref a ∧ vrs L.sa ρ xs vs ∧ SqL K H a vs := by
  cases x with
  | ref n =>
    obtain ⟨a, u, _, rfl, ⟨vs, r, rfl⟩, rd⟩ := ob_ref R r e
    exact ⟨a, vs, rfl, r, .inl rd⟩
  | st i => exact (R.static hs (show P.so i = _ from e)).elim
  | _ => exact absurd e (by simp [ob])
theorem ob_rol (hs : P.so = L.so) (R : HR L K w ρ h H) {x : W} {v : V} {xs : List W} (r : vr L.sa ρ x v) (e : ob P h x = some (.rol xs)) : ∃ a vs, v = .ref a ∧ vrs L.sa ρ xs vs ∧ SqL K H a vs := by
  cases x with
  | ref n =>
    obtain ⟨a, u, _, rfl, r, rd⟩ := ob_ref R r e
    exact r.elim
  | st i =>
    obtain ⟨vs, r', z⟩ := R.static hs (show P.so i = _ from e)
    refine ⟨_, vs, r, vrs_up r', ?_⟩
    rcases z with ⟨o, z⟩ | z
    · exact .inl (.inr ⟨o, z⟩)
    · exact z H
  | _ => exact absurd e (by simp [ob])
theorem ob_tup (hs : P.so = L.so) (R : HR L K w ρ h H) {x : W} {v : V} {xs : List W} (r : vr L.sa ρ x v) (e : ob P h x = some (.tup xs)) : ∃ a vs, v = .ref a ∧ vrs L.sa ρ xs vs ∧ SqT K H a vs := by
  cases x with
  | ref n =>
    obtain ⟨a, u, _, rfl, ⟨vs, r, rfl⟩, rd⟩ := ob_ref R r e
    exact ⟨a, vs, rfl, r, .inl rd⟩
  | st i =>
    obtain ⟨vs, r', z⟩ := R.static hs (show P.so i = _ from e)
    exact ⟨_, vs, r, vrs_up r', z H⟩
  | _ => exact absurd e (by simp [ob])
theorem ob_dic (hs : P.so = L.so) (R : HR L K w ρ h H) {x : W} {v : V} {xs : List (Key × W)} (r : vr L.sa ρ x v) (e : ob P h x = some (.dic xs)) :
    (∃ n a vs, x = .ref n ∧ ρ[n]? = some a ∧ v = .ref a ∧ kr L.sa ρ xs vs ∧ Rd H a (.dK vs)) ∨ ∃ i, x = .st i ∧ P.so i = some (.dic xs) := by
  cases x with
  | ref n =>
    obtain ⟨a, u, ea, rfl, ⟨vs, r, rfl⟩, rd⟩ := ob_ref R r e
    exact .inl ⟨n, a, vs, rfl, ea, rfl, r, rd⟩
  | st i => exact .inr ⟨i, rfl, e⟩
  | _ => exact absurd e (by simp [ob])
theorem ob_ins (hs : P.so = L.so) (R : HR L K w ρ h H) {x : W} {v : V} {c : Str} {fs : List (Str × W)} (r : vr L.sa ρ x v) (e : ob P h x = some (.ins c fs)) :
    ∃ n a dx vs, x = .ref n ∧ ρ[n]? = some a ∧ v = .ref a ∧ fr L.sa ρ fs vs ∧ Rd H a (.ins (L.ca c) dx vs) := by
  cases x with
  | ref n =>
    obtain ⟨a, u, ea, rfl, ⟨dx, vs, r, rfl⟩, rd⟩ := ob_ref R r e
    exact ⟨n, a, dx, vs, rfl, ea, rfl, r, rd⟩
  | st i => exact (R.static hs (show P.so i = _ from e)).elim
  | _ => exact absurd e (by simp [ob])
/-- a list, or what is like one -/
theorem sq_read (hs : P.so = L.so) (R : HR L K w ρ h H) {x : W} {v : V} {xs : List W} (r : vr L.sa ρ x v) (e : sq P h x = some xs) : ∃ a vs, v = .ref a ∧ vrs L.sa ρ xs vs ∧ (SqL K H a vs ∨ SqT K H a vs) := by
  unfold sq at e
  split at e
  · cases e; rename_i q; obtain ⟨a, vs, r1, r2, r3⟩ := ob_lst hs R r q; exact ⟨a, vs, r1, r2, .inl r3⟩
  · cases e; rename_i q; obtain ⟨a, vs, r1, r2, r3⟩ := ob_tup hs R r q; exact ⟨a, vs, r1, r2, .inr r3⟩
  · cases e; rename_i q; obtain ⟨a, vs, r1, r2, r3⟩ := ob_rol hs R r q; exact ⟨a, vs, r1, r2, .inl r3⟩
  · cases e
theorem mapM_some {α β : Type} {f : α → Option β} : ∀ {xs : List α} {ys : List β}, xs.mapM f = some ys → Paired (fun x y => f x = some y) xs ys
  | [], ys, e => by simp at e; subst e; exact .nil
  | x :: xs, ys, e => by
    rw [List.mapM_cons] at e
    cases q : f x with
    | none => rw [q] at e; simp at e
    | some y =>
      rw [q] at e
      cases q2 : xs.mapM f with
      | none => rw [q2] at e; simp at e
      | some r =>
        rw [q2] at e
        simp at e
        subst e
        exact .cons q (mapM_some q2)
theorem dpAll_of {d : Nat} {xs : List W} {ds : List PyData} {vs : List V} (hd : ∀ x v D, vr L.sa ρ x v → dat P h d x = some D → Dp K H v D) (p : Paired (fun x y => dat P h d x = some y) xs ds) : vrs L.sa ρ xs vs → DpAll K H vs ds := by
  induction p generalizing vs with
  | nil => intro r; cases r; exact .nil
  | cons f t ih => intro r; cases r with
    | cons g t' => exact .cons (hd _ _ _ g f) (ih t')
theorem dat_read (hs : P.so = L.so) (R : HR L K w ρ h H) : ∀ (d : Nat) (x : W) (v : V) (D : PyData), vr L.sa ρ x v → dat P h d x = some D → Dp K H v D := by
  intro d
  induction d with
  | zero =>
    intro x v D r e
    cases x <;> simp [dat] at e
    · subst e; cases r; exact .non
    · subst e; cases r; exact .bl _
    · subst e; cases r; exact .int _
    · subst e; cases r; exact .str _
  | succ d ih =>
    intro x v D r e
    have deep : (match ob P h x with
        | some (.lst xs) => (xs.mapM (dat P h d)).map PyData.list
        | some (.rol xs) => (xs.mapM (dat P h d)).map .list
        | some (.tup xs) => (xs.mapM (dat P h d)).map .tuple
        | _ => none) = some D → Dp K H v D := by
      intro e
      split at e
      · rename_i xs q
        obtain ⟨ds, e1, rfl⟩ := Option.map_eq_some_iff.mp e
        obtain ⟨a, vs, rfl, r2, r3⟩ := ob_lst hs R r q
        exact .lst r3 (dpAll_of ih (mapM_some e1) r2)
      · rename_i xs q
        obtain ⟨ds, e1, rfl⟩ := Option.map_eq_some_iff.mp e
        obtain ⟨a, vs, rfl, r2, r3⟩ := ob_rol hs R r q
        exact .lst r3 (dpAll_of ih (mapM_some e1) r2)
      · rename_i xs q
        obtain ⟨ds, e1, rfl⟩ := Option.map_eq_some_iff.mp e
        obtain ⟨a, vs, rfl, r2, r3⟩ := ob_tup hs R r q
        exact .tup r3 (dpAll_of ih (mapM_some e1) r2)
      · cases e
    cases x with
    | non => simp [dat] at e; subst e; cases r; exact .non
    | bl b => simp [dat] at e; subst e; cases r; exact .bl _
    | int i => simp [dat] at e; subst e; cases r; exact .int _
    | str z => simp [dat] at e; subst e; cases r; exact .str _
    | ref n => exact deep e
    | st i => exact deep e
    | exn _ _ => exact r.elim
end
end MP

set_option Elab.async false
set_option linter.all false
set_option maxRecDepth 100000
/-! MP: comparisons, subscripts, built-ins, methods by values. -/
namespace MP
open PySem L2

/-! ### sorted texts -/
def leS (x y : Str) : Prop := ¬ y.cps.toList < x.cps.toList
theorem leS_lt {x y : Str} : Spec.ltCps y.cps.toList x.cps.toList = true ↔ y.cps.toList < x.cps.toList := by
  rw [PyProof.Rows.ltCps_eq, decide_eq_true_iff]
theorem insS_perm (x : Str) : ∀ l : List Str, (insS x l).Perm (x :: l)
  | [] => .refl _
  | y :: r => by
    unfold insS
    split
    · exact ((insS_perm x r).cons y).trans (.swap x y r)
    · exact .refl _
theorem sortS_perm : ∀ l : List Str, (sortS l).Perm l
  | [] => .refl _
  | x :: r => (insS_perm x (sortS r)).trans ((sortS_perm r).cons x)
theorem leS_trans {x y z : Str} (a : leS x y) (b : leS y z) : leS x z := fun q =>
  (List.le_trans (α := Nat) (List.not_lt.mp a) (List.not_lt.mp b)) q
theorem leS_total (x y : Str) : leS x y ∨ leS y x := List.le_total (α := Nat) x.cps.toList y.cps.toList
theorem insS_sorted (x : Str) : ∀ l : List Str, l.Pairwise leS → (insS x l).Pairwise leS
  | [], _ => by simp [insS]
  | y :: r, h => by
    obtain ⟨h1, h2⟩ := List.pairwise_cons.mp h
    unfold insS
    split
    · rename_i q
      have hyx : leS y x := by
        rcases leS_total x y with z | z
        · exact absurd (leS_lt.mp q) z
        · exact z
      refine List.pairwise_cons.mpr ⟨fun z hz => ?_, insS_sorted x r h2⟩
      rcases List.mem_cons.mp ((insS_perm x r).mem_iff.mp hz) with rfl | hz
      · exact hyx
      · exact h1 z hz
    · rename_i q
      have hxy : leS x y := fun z => q (leS_lt.mpr z)
      refine List.pairwise_cons.mpr ⟨fun z hz => ?_, h⟩
      rcases List.mem_cons.mp hz with rfl | hz
      · exact hxy
      · exact leS_trans hxy (h1 z hz)
theorem sortS_sorted : ∀ l : List Str, (sortS l).Pairwise leS
  | [] => .nil
  | x :: r => insS_sorted x _ (sortS_sorted r)
theorem rising_pair : ∀ (l : List Str) (p : Str), PyProof.Rows.risingS p l = true → (p :: l).Pairwise leS
  | [], p, _ => by simp
  | x :: r, p, h => by
    unfold PyProof.Rows.risingS at h
    obtain ⟨h1, h2⟩ := Bool.and_eq_true_iff.mp h
    have ih := rising_pair r x h2
    have hpx : leS p x := fun z => by rw [leS_lt.mpr z] at h1; cases h1
    refine List.pairwise_cons.mpr ⟨fun z hz => ?_, ih⟩
    rcases List.mem_cons.mp hz with rfl | hz
    · exact hpx
    · exact leS_trans hpx ((List.pairwise_cons.mp ih).1 z hz)
theorem sorted_pair {l : List Str} (h : PyProof.Rows.sortedS l = true) : l.Pairwise leS := by
  cases l with
  | nil => exact .nil
  | cons x r => exact rising_pair r x h
theorem sortS_eq {xs ys : List Str} (p : ys.Perm xs) (s : PyProof.Rows.sortedS ys = true) : ys = sortS xs := by
  refine List.Perm.eq_of_pairwise (le := leS) (fun a b _ _ h1 h2 => ?_) (sorted_pair s) (sortS_sorted xs) (p.trans (sortS_perm xs).symm)
  have e : a.cps.toList = b.cps.toList := List.le_antisymm (List.not_lt.mp h1) (List.not_lt.mp h2)
  obtain ⟨a⟩ := a
  obtain ⟨b⟩ := b
  simp only at e
  rw [Array.toList_inj.mp e]

/-! ### comparisons -/
section
variable {L : Ln} {P : Pg} {ρ : List Addr} {K : PySem.W.Frag} {w : World} {h : Hh} {H : Hp}
theorem flat_r {a : W} {x : V} (r : vr L.sa ρ a x) (f : flatW a = true) : flatV x = true := by
  cases a <;> first | (cases f; done) | (cases r; rfl)
theorem eqF_r {a b : W} {x y : V} (ra : vr L.sa ρ a x) (rb : vr L.sa ρ b y) (fa : flatW a = true) (fb : flatW b = true) : eqV x y = eqF a b := by
  cases a <;> cases b <;> first | (cases fa; done) | (cases fb; done) | (cases ra; cases rb; rfl)
theorem flats_r : ∀ {xs : List W} {vs : List V}, vrs L.sa ρ xs vs → xs.all flatW = true → vs.all flatV = true
  | _, _, .nil, _ => rfl
  | _, _, .cons r t, f => by
    rw [List.all_cons] at f ⊢
    obtain ⟨f1, f2⟩ := Bool.and_eq_true_iff.mp f
    rw [flat_r r f1, flats_r t f2]
    rfl
theorem inV_r {a : W} {x : V} (ra : vr L.sa ρ a x) (fa : flatW a = true) : ∀ {xs : List W} {vs : List V}, vrs L.sa ρ xs vs → xs.all flatW = true → inV x vs = xs.any fun z => eqF z a
  | _, _, .nil, _ => rfl
  | _, _, .cons r t, f => by
    rw [List.all_cons] at f
    obtain ⟨f1, f2⟩ := Bool.and_eq_true_iff.mp f
    unfold inV
    rw [List.any_cons, List.any_cons, eqF_r r ra f1 fa]
    have := inV_r ra fa t f2
    unfold inV at this
    rw [this]
theorem scal_r {a b : W} {x y : V} (ra : vr L.sa ρ a x) (rb : vr L.sa ρ b y) (f : scalW a b = true) : scal x y = true ∧ decide (x = y) = decide (a = b) := by
  cases a <;> cases b <;> first | (cases f; done) | (cases ra; cases rb; refine ⟨rfl, ?_⟩; simp)
theorem getK_r : ∀ {kws : List (Key × W)} {kvs : List (Key × V)} (k : Key), kr L.sa ρ kws kvs → (match getK kws k, valV kvs k with
    | some a, some x => vr L.sa ρ a x
    | none, none => True
    | _, _ => False)
  | _, _, k, .nil => trivial
  | _, _, k, .cons (a := p) (b := q) (l₁ := r) (l₂ := s) f t => by
    obtain ⟨e, v⟩ := f
    by_cases hk : p.1 = k
    · have h1 : getK (p :: r) k = some p.2 := by unfold getK; rw [List.find?_cons]; simp [hk]
      rw [h1, valV_pos (e ▸ hk)]
      exact v
    · have h1 : getK (p :: r) k = getK r k := by unfold getK; rw [List.find?_cons]; simp [hk]
      rw [h1, valV_neg (by rw [← e]; exact hk)]
      exact getK_r k t
theorem getK_some {kws : List (Key × W)} {kvs : List (Key × V)} {k : Key} {a : W} (r : kr L.sa ρ kws kvs) (e : getK kws k = some a) : ∃ x, valV kvs k = some x ∧ vr L.sa ρ a x := by
  have := getK_r k r
  rw [e] at this
  cases q : valV kvs k with
  | none => rw [q] at this; exact this.elim
  | some x => rw [q] at this; exact ⟨x, rfl, this⟩
theorem getK_isSome {kws : List (Key × W)} {kvs : List (Key × V)} (k : Key) (r : kr L.sa ρ kws kvs) : (valV kvs k).isSome = (getK kws k).isSome := by
  have := getK_r k r
  cases q : valV kvs k with
  | none => cases q2 : getK kws k with
    | none => rfl
    | some a => rw [q, q2] at this; exact this.elim
  | some x => cases q2 : getK kws k with
    | none => rw [q, q2] at this; exact this.elim
    | some a => rfl
theorem keyW_r {a : W} {k : Key} {x : V} (r : vr L.sa ρ a x) (e : keyW a = some k) : x = kV k := by
  cases a <;> simp [keyW] at e
  · subst e; cases r; rfl
  · subst e; cases r; rfl
theorem wK_r (k : Key) : vr L.sa ρ (wK k) (kV k) := by cases k <;> rfl
theorem kr_len {kws : List (Key × W)} {kvs : List (Key × V)} (r : kr L.sa ρ kws kvs) : kws.length = kvs.length := r.length
theorem any_key {k : Key} : ∀ {kws : List (Key × W)} {kvs : List (Key × V)}, kr L.sa ρ kws kvs → (kws.any fun kv => decide (kv.1 = k)) = kvs.any fun kv => decide (kv.1 = k)
  | _, _, .nil => rfl
  | _, _, .cons f t => by rw [List.any_cons, List.any_cons, f.1, any_key t]
theorem map_key {k : Key} {a : W} {x : V} (r : vr L.sa ρ a x) : ∀ {kws : List (Key × W)} {kvs : List (Key × V)}, kr L.sa ρ kws kvs → kr L.sa ρ (kws.map fun kv => if kv.1 = k then (kv.1, a) else kv) (kvs.map fun kv => if kv.1 = k then (kv.1, x) else kv)
  | _, _, .nil => .nil
  | _, _, .cons (a := p) (b := q) f t => by
    refine .cons ?_ (map_key r t)
    dsimp only
    by_cases hk : p.1 = k
    · rw [if_pos hk, if_pos (f.1 ▸ hk)]; exact ⟨f.1, r⟩
    · rw [if_neg hk, if_neg (by rw [← f.1]; exact hk)]; exact f
theorem putW_r {kws : List (Key × W)} {kvs : List (Key × V)} (k : Key) {a : W} {x : V} (r : kr L.sa ρ kws kvs) (ra : vr L.sa ρ a x) : kr L.sa ρ (putW kws k a) (putK kvs k x) := by
  unfold putW putK
  rw [any_key r]
  split
  · exact map_key ra r
  · exact prd_app r (.cons ⟨rfl, ra⟩ .nil)
theorem dropW_r {k : Key} : ∀ {kws : List (Key × W)} {kvs : List (Key × V)}, kr L.sa ρ kws kvs → kr L.sa ρ (dropW kws k) (dropK kvs k)
  | _, _, .nil => .nil
  | _, _, .cons (a := p) (b := q) (l₁ := l) (l₂ := l') f t => by
    have ih := dropW_r (k := k) t
    unfold dropW dropK at ih ⊢
    rw [List.filter_cons, List.filter_cons, f.1]
    split
    · exact .cons f ih
    · exact ih
theorem keys_r : ∀ {kws : List (Key × W)} {kvs : List (Key × V)}, kr L.sa ρ kws kvs → kws.map (·.1) = kvs.map (·.1)
  | _, _, .nil => rfl
  | _, _, .cons f t => by rw [List.map_cons, List.map_cons, f.1, keys_r t]
theorem wkeys_r : ∀ {kws : List (Key × W)} {kvs : List (Key × V)}, kr L.sa ρ kws kvs → vrs L.sa ρ (kws.map fun kv => wK kv.1) (kvs.map fun kv => kV kv.1)
  | _, _, .nil => .nil
  | _, _, .cons f t => .cons (by dsimp only; rw [f.1]; exact wK_r _) (wkeys_r t)
end
def rCmp (P : Pg) (L : Ln) (K : PySem.W.Frag) (w : World) (o : CO) : R2 := fun x y H Q => ∃ ρ h a b c, HR L K w ρ h H ∧ vr L.sa ρ a x ∧ vr L.sa ρ b y ∧ cmpW P o a b h = some c ∧ Q (.bl c) H
section
variable {X : Cx} {L : Ln} {P : Pg}
theorem eqW_r (hu : X.A.units + 65 < cLine) (hs : P.so = L.so) {pins : List (Addr × Obj)} {s : Shared} {σ : St} {H : Hp} {x y : V} {v u : Value} {Q : VK} (I : Inv X pins σ H s) (rx : RelV x v) (ry : RelV y u) {ρ : List Addr} {h : Hh} {a b : W} {c : Bool} (R : HR L X.K X.w ρ h H) (ra : vr L.sa ρ a x) (rb : vr L.sa ρ b y) (e : eqW P a b h = some c) :
    (Q (.bl c) H → wpAny (model X.prog X.w) X.A (compareOp .Eq v u) (EP X pins σ Q) X.xe s) ∧ (Q (.bl (!c)) H → wpAny (model X.prog X.w) X.A (compareOp .NotEq v u) (EP X pins σ Q) X.xe s) := by
  unfold eqW at e
  split at e
  · rename_i f
    obtain ⟨f1, f2⟩ := scal_r ra rb f
    cases e
    refine ⟨fun q => op_eq pins s σ H x y v u Q I rx ry ⟨f1, ?_⟩, fun q => op_ne pins s σ H x y v u Q I rx ry ⟨f1, ?_⟩⟩
    · rw [f2]; exact q
    · rw [f2]; exact q
  · split at e
    · rename_i d e' q1 q2
      split at e
      · rename_i sh
        cases e
        exact ⟨fun q => op_eqD (by omega) pins s σ H x y v u Q I rx ry ⟨d, e', dat_read hs R 60 a x d ra q1, dat_read hs R 60 b y e' rb q2, sh.1, sh.2, q⟩,
          fun q => op_neD (by omega) pins s σ H x y v u Q I rx ry ⟨d, e', dat_read hs R 60 a x d ra q1, dat_read hs R 60 b y e' rb q2, sh.1, sh.2, q⟩⟩
      · cases e
    · cases e
theorem inW_r (hu : X.A.units + 65 < cLine) (hs : P.so = L.so) {pins : List (Addr × Obj)} {s : Shared} {σ : St} {H : Hp} {x y : V} {v u : Value} {Q : VK} (I : Inv X pins σ H s) (rx : RelV x v) (ry : RelV y u) {ρ : List Addr} {h : Hh} {a b : W} {c : Bool} (R : HR L X.K X.w ρ h H) (ra : vr L.sa ρ a x) (rb : vr L.sa ρ b y) (e : inW P a b h = some c) :
    (Q (.bl c) H → wpAny (model X.prog X.w) X.A (compareOp .In v u) (EP X pins σ Q) X.xe s) ∧ (Q (.bl (!c)) H → wpAny (model X.prog X.w) X.A (compareOp .NotIn v u) (EP X pins σ Q) X.xe s) := by
  have seqs : ∀ xs, sq P h b = some xs → flatW a = true ∧ xs.all flatW = true → (Q (.bl (xs.any fun z => eqF z a)) H → wpAny (model X.prog X.w) X.A (compareOp .In v u) (EP X pins σ Q) X.xe s) ∧
      (Q (.bl (!(xs.any fun z => eqF z a))) H → wpAny (model X.prog X.w) X.A (compareOp .NotIn v u) (EP X pins σ Q) X.xe s) := by
    intro xs q f
    obtain ⟨p, vs, rfl, rv, z⟩ := sq_read hs R rb q
    have e1 := inV_r ra f.1 rv f.2
    exact ⟨fun q => op_in_seq pins s σ H x _ v u Q I rx ry ⟨p, vs, rfl, z, flat_r ra f.1, flats_r rv f.2, by rw [e1]; exact q⟩,
      fun q => op_notIn_seq pins s σ H x _ v u Q I rx ry ⟨p, vs, rfl, z, flat_r ra f.1, flats_r rv f.2, by rw [e1]; exact q⟩⟩
  have tail : ∀ c, (match sq P h b with
      | some xs => if flatW a = true ∧ xs.all flatW = true then some (xs.any fun z => eqF z a) else none
      | none => none) = some c → (Q (.bl c) H → wpAny (model X.prog X.w) X.A (compareOp .In v u) (EP X pins σ Q) X.xe s) ∧ (Q (.bl (!c)) H → wpAny (model X.prog X.w) X.A (compareOp .NotIn v u) (EP X pins σ Q) X.xe s) := by
    intro c e
    split at e
    · rename_i xs q
      split at e
      · rename_i f
        cases e
        exact seqs xs q f
      · cases e
    · cases e
  unfold inW at e
  split at e
  · -- a text
    rename_i z
    split at e
    · rename_i t
      split at e
      · rename_i k ek
        cases e
        cases ra; cases rb
        have et : t = ⟨#[k]⟩ := by
          obtain ⟨t⟩ := t
          simp only at ek
          rw [show t = #[k] from Array.toList_inj.mp ek]
        subst et
        exact ⟨fun q => op_in_sign pins s σ H _ _ v u Q I rx ry ⟨k, z, rfl, rfl, q⟩, fun q => op_notIn_sign pins s σ H _ _ v u Q I rx ry ⟨k, z, rfl, rfl, q⟩⟩
      · cases e
    · cases e
  · -- a thing of the top
    rename_i i
    split at e
    · rename_i kvs q
      split at e
      · rename_i z
        cases e
        cases ra; cases rb
        obtain ⟨⟨es, n, kd⟩, look⟩ := R.static hs q
        obtain ⟨r, er, m⟩ := look z
        have eb : r.isSome = (getK kvs (.inr z)).isSome := by
          cases r with
          | none => cases q2 : getK kvs (.inr z) with
            | none => rfl
            | some _ => rw [q2] at m; exact m.elim
          | some _ => cases q2 : getK kvs (.inr z) with
            | none => rw [q2] at m; exact m.elim
            | some _ => rfl
        exact ⟨fun q => op_in_kd kd pins s σ H _ _ v u Q I rx ry ⟨z, r, rfl, rfl, er, by rw [eb]; exact q⟩, fun q => op_notIn_kd kd pins s σ H _ _ v u Q I rx ry ⟨z, r, rfl, rfl, er, by rw [eb]; exact q⟩⟩
      · cases e
    · exact tail c e
  · -- an object
    rename_i n1 n2
    split at e
    · rename_i kvs q
      split at e
      · rename_i k ek
        cases e
        rcases ob_dic hs R rb q with ⟨n, p, vs, rfl, _, rfl, rk, rd⟩ | ⟨i, rfl, _⟩
        · have ex := keyW_r ra ek
          subst ex
          have g : DGet H p (kV k) (valV vs k) := .inl ⟨vs, k, rd, rfl, rfl⟩
          have eb := getK_isSome k rk
          obtain rfl : u = Value.ref p := ry
          exact ⟨fun q => d_in (by omega) I g rx fun s' I' => ⟨.bl _, H, I', rfl, by rw [eb]; exact q⟩, fun q => d_notIn (by omega) I g rx fun s' I' => ⟨.bl _, H, I', rfl, by rw [eb]; exact q⟩⟩
        · exact absurd rfl (n2 i)
      · cases e
    · exact tail c e
theorem or_cmp (hu : X.A.units + 65 < cLine) (hs : P.so = L.so) (o : CO) : OpR X (compareOp (cop o)) (rCmp P L X.K X.w o) := by
  intro pins s σ H x y v u Q I rx ry hh
  obtain ⟨ρ, h, a, b, c, R, ra, rb, e, q⟩ := hh
  cases o with
  | eq => exact (eqW_r hu hs I rx ry R ra rb e).1 q
  | ne =>
    obtain ⟨c', e1, rfl⟩ := Option.map_eq_some_iff.mp e
    exact (eqW_r hu hs I rx ry R ra rb e1).2 q
  | inn => exact (inW_r hu hs I rx ry R ra rb e).1 q
  | nin =>
    obtain ⟨c', e1, rfl⟩ := Option.map_eq_some_iff.mp e
    exact (inW_r hu hs I rx ry R ra rb e1).2 q
  | lt => cases a <;> cases b <;> first
    | (cases e; cases ra; cases rb; exact op_lt pins s σ H _ _ v u Q I rx ry ⟨_, _, rfl, rfl, q⟩)
    | (cases e; cases ra; cases rb; exact op_lt_str pins s σ H _ _ v u Q I rx ry ⟨_, _, rfl, rfl, q⟩)
    | cases e
  | gt => cases a <;> cases b <;> first
    | (cases e; cases ra; cases rb; exact op_gt pins s σ H _ _ v u Q I rx ry ⟨_, _, rfl, rfl, q⟩)
    | (cases e; cases ra; cases rb; exact op_gt_str pins s σ H _ _ v u Q I rx ry ⟨_, _, rfl, rfl, q⟩)
    | cases e
  | le => cases a <;> cases b <;> first
    | (cases e; cases ra; cases rb; exact op_le pins s σ H _ _ v u Q I rx ry ⟨_, _, rfl, rfl, q⟩)
    | (cases e; cases ra; cases rb; exact op_le_str pins s σ H _ _ v u Q I rx ry ⟨_, _, rfl, rfl, q⟩)
    | cases e
  | ge => cases a <;> cases b <;> first
    | (cases e; cases ra; cases rb; exact op_ge pins s σ H _ _ v u Q I rx ry ⟨_, _, rfl, rfl, q⟩)
    | (cases e; cases ra; cases rb; exact op_ge_str pins s σ H _ _ v u Q I rx ry ⟨_, _, rfl, rfl, q⟩)
    | cases e
  | iss => cases b <;> first
    | (cases e; cases rb; refine op_isN pins s σ H _ _ v u Q I rx ry ⟨rfl, ?_⟩; rw [show decide (x = .non) = decide (a = W.non) from ?_]; exact q; cases a <;> first | (cases ra; rfl) | (obtain ⟨_, _, rfl⟩ := ra; rfl) | exact ra.elim)
    | (cases a <;> first | (cases e; cases ra; cases rb; exact op_isBl pins s σ H _ _ v u Q I rx ry ⟨_, _, rfl, rfl, q⟩) | cases e)
    | cases e
  | isn => cases b <;> first
    | (cases e; cases rb; refine op_notN pins s σ H _ _ v u Q I rx ry ⟨rfl, ?_⟩; rw [show decide (x = .non) = decide (a = W.non) from ?_]; exact q; cases a <;> first | (cases ra; rfl) | (obtain ⟨_, _, rfl⟩ := ra; rfl) | exact ra.elim)
    | (cases a <;> first | (cases e; cases ra; cases rb; exact op_notBl pins s σ H _ _ v u Q I rx ry ⟨_, _, rfl, rfl, q⟩) | cases e)
    | cases e
end
end MP

set_option Elab.async false
set_option linter.all false
set_option maxRecDepth 100000
/-! MP: subscripts, slices, built-ins, methods by values. -/
namespace MP
open PySem PyProof.Rows L2
section
variable {X : Cx} {L : Ln} {P : Pg}
/-! ### subscripts -/
theorem ix_dict (hu : X.A.units + 65 < cLine) : IxR X (fun x y H Q => ∃ a v, x = .ref a ∧ DGet H a y (some v) ∧ Q v H) := by
  intro value slice pins s σ H x y v u Q I rx ry h hs
  obtain ⟨a, z, rfl, g, q⟩ := h
  obtain rfl : v = Value.ref a := rx
  have d : IsD H a := by
    rcases g with ⟨kvs, k, rd, _, _⟩ | ⟨kvs, k, b, rd, _, _, _⟩
    · exact .inl ⟨kvs, rd⟩
    · exact .inr ⟨kvs, rd⟩
  exact tail_any (isD_at I d).1 PySem.F.slot_dict_getitem.lookup (d_getItem (by omega) I g ry fun w' s' I' rw' => ⟨z, H, I', rw', q⟩) hs
def rIdx (P : Pg) (L : Ln) (K : PySem.W.Frag) (w : World) : R2 := fun x y H Q => ∃ ρ h a b c, HR L K w ρ h H ∧ vr L.sa ρ a x ∧ vr L.sa ρ b y ∧ idxW P a b h = some c ∧ ∀ z, vr L.sa ρ c z → Q z H
theorem atI_r {ρ : List Addr} {ws : List W} {vs : List V} {i : Int} {c : W} (r : vrs L.sa ρ ws vs) (e : atI ws i = some c) : ∃ z, atI vs i = some z ∧ vr L.sa ρ c z := by
  unfold atI at e ⊢
  rw [← r.length]
  cases q : ixN ws.length i with
  | none => rw [q] at e; cases e
  | some j =>
    rw [q] at e
    exact prd_get r (show ws[j]? = some c from e)
theorem or_idx (hu : X.A.units + 65 < cLine) (hs : P.so = L.so) : IxR X (rIdx P L X.K X.w) := by
  intro value slice pins s σ H x y v u Q I rx ry h hsub
  obtain ⟨ρ, h, a, b, c, R, ra, rb, e, q⟩ := h
  have tail : (sq P h a).bind (sqIx · b) = some c → wpAny (model X.prog X.w) X.A (subscriptTail value slice v u) (EP X pins σ Q) X.xe s := by
    intro e
    cases q1 : sq P h a with
    | none => rw [q1] at e; cases e
    | some xs =>
      rw [q1] at e
      obtain ⟨i, rfl, e⟩ : ∃ i, b = .int i ∧ atI xs i = some c := by
        cases b <;> first | exact ⟨_, rfl, e⟩ | cases e
      obtain ⟨p, vs, rfl, rv, z⟩ := sq_read hs R ra q1
      obtain ⟨t, et, rt⟩ := atI_r rv e
      cases rb
      rcases z with z | z
      · exact ix_list value slice pins s σ H _ _ v u Q I rx ry ⟨p, vs, i, t, rfl, rfl, z, et, q _ rt⟩ hsub
      · exact ix_tup value slice pins s σ H _ _ v u Q I rx ry ⟨p, vs, i, t, rfl, rfl, z, et, q _ rt⟩ hsub
  cases a with
  | str z =>
    cases b with
    | int i =>
      have e : (if z.length ≤ lim then (atI z.cps.toList i).map fun c => W.str ⟨#[c]⟩ else none) = some c := e
      by_cases hl : z.length ≤ lim
      · rw [if_pos hl] at e
        obtain ⟨t, et, rfl⟩ := Option.map_eq_some_iff.mp e
        cases ra; cases rb
        exact ix_str value slice pins s σ H _ _ v u Q I rx ry ⟨z, i, t, rfl, rfl, sizeL hl, et, q _ rfl⟩ hsub
      · rw [if_neg hl] at e; cases e
    | _ => cases e
  | st i =>
    unfold idxW at e
    simp only at e
    split at e
    · rename_i kvs q1
      cases b with
      | str z =>
        have e : getK kvs (.inr z) = some c := e
        cases ra; cases rb
        obtain ⟨⟨es, n, kd⟩, look⟩ := R.static hs q1
        obtain ⟨r, er, m⟩ := look z
        rw [e] at m
        cases r with
        | none => exact m.elim
        | some u0 =>
          obtain ⟨t, rt, ru⟩ := m
          exact ix_kdict value slice pins s σ H _ _ v u Q I rx ry ⟨_, z, t, rfl, rfl, ⟨es, n, u0, kd.at_, kd.lit, er, ru⟩, q _ (rt.mono ⟨ρ, rfl⟩)⟩ hsub
      | _ => cases e
    · exact tail e
  | ref n =>
    unfold idxW at e
    simp only at e
    split at e
    · rename_i kvs q1
      cases ek : keyW b with
      | none => unfold dcIx at e; rw [ek] at e; cases e
      | some k =>
        unfold dcIx at e
        rw [ek] at e
        rcases ob_dic hs R ra q1 with ⟨n, p, vs, _, _, rfl, rk, rd⟩ | ⟨i, z, _⟩
        · have ex := keyW_r rb ek
          subst ex
          obtain ⟨t, et, rt⟩ := getK_some rk e
          exact ix_dict hu value slice pins s σ H _ _ v u Q I rx ry ⟨p, t, rfl, .inl ⟨vs, k, rd, rfl, et.symm⟩, q _ rt⟩ hsub
        · cases z
    · exact tail e
  | exn _ _ => exact ra.elim
  | _ => simp [idxW, ob, sq] at e
/-! ### slices -/
theorem cutW_r {ρ : List Addr} {ws : List W} {vs : List V} (lo hi : Option Int) (r : vrs L.sa ρ ws vs) : vrs L.sa ρ (cutW ws lo hi) (cutV vs lo hi) := by
  unfold cutW cutV
  rw [r.length]
  exact prd_take _ (prd_drop _ r)
def rSlc (P : Pg) (L : Ln) (K : PySem.W.Frag) (w : World) : V → Option Int → Option Int → Hp → VK → Prop := fun x lo hi H Q => ∃ ρ h a E, HR L K w ρ h H ∧ vr L.sa ρ a x ∧ pv L K w ρ (slcW P a lo hi h) E Q
theorem sr_slc (hs : P.so = L.so) : SlR X (rSlc P L X.K X.w) := by
  have base : SlR X (fun x lo hi H Q => rSlL X.K x lo hi H Q ∨ (rSlA X.K x lo hi H Q ∨ rSlS x lo hi H Q)) := SlR.or sl_list (SlR.or sl_tupA sl_str)
  have imp : ∀ x lo hi H Q, rSlc P L X.K X.w x lo hi H Q → (rSlL X.K x lo hi H Q ∨ (rSlA X.K x lo hi H Q ∨ rSlS x lo hi H Q)) := by
    intro x lo hi H Q hh
    obtain ⟨ρ, h, a, E, R, ra, p⟩ := hh
    unfold slcW at p
    split at p
    · split at p
      · rename_i z hl
        cases ra
        exact .inr (.inr ⟨z, rfl, sizeL hl, p.ok R rfl⟩)
      · exact p.elim
    · split at p
      · rename_i xs q
        obtain ⟨b, vs, rfl, rv, sq⟩ := ob_lst hs R ra q
        exact .inl ⟨b, vs, rfl, sq, fun c nc => p (ρ ++ [c]) _ _ (pre.snoc ρ c) (R.push nc ⟨_, (cutW_r lo hi rv).mono (pre.snoc ρ c), rfl⟩) ⟨c, by rw [← R.len]; simp, rfl⟩⟩
      · rename_i xs q
        obtain ⟨b, vs, rfl, rv, sq⟩ := ob_rol hs R ra q
        exact .inl ⟨b, vs, rfl, sq, fun c nc => p (ρ ++ [c]) _ _ (pre.snoc ρ c) (R.push nc ⟨_, (cutW_r lo hi rv).mono (pre.snoc ρ c), rfl⟩) ⟨c, by rw [← R.len]; simp, rfl⟩⟩
      · rename_i xs q
        obtain ⟨b, vs, rfl, rv, sq⟩ := ob_tup hs R ra q
        refine .inr (.inl ⟨b, vs, rfl, sq, fun z => ?_, fun z c nc => ?_⟩)
        · rw [← rv.length] at z
          rw [if_pos z] at p
          exact p.ok R ra
        · rw [← rv.length] at z
          rw [if_neg z] at p
          exact p (ρ ++ [c]) _ _ (pre.snoc ρ c) (R.push nc ⟨_, (cutW_r lo hi rv).mono (pre.snoc ρ c), rfl⟩) ⟨c, by rw [← R.len]; simp, rfl⟩
      · exact p.elim
    · exact p.elim
  intro pins s σ H x v vl vu lo hi sl Q I rx i1 i2 i3 h
  exact base pins s σ H x v vl vu lo hi sl Q I rx i1 i2 i3 (imp _ _ _ _ _ h)
/-! ### built-ins -/
def rBlt (P : Pg) (L : Ln) (K : PySem.W.Frag) (w : World) (f : BF) : List V → Hp → VK → Prop := fun vs H Q => ∃ ρ h ws E, HR L K w ρ h H ∧ vrs L.sa ρ ws vs ∧ pv L K w ρ (bltW P f ws h) E Q
theorem CallR.imp {f : Value} {r r' : List V → Hp → VK → Prop} (h : CallR X f r) (i : ∀ vs H Q, r' vs H Q → r vs H Q) : CallR X f r' := fun pins s σ H vs us Q I rv q => h pins s σ H vs us Q I rv (i _ _ _ q)
theorem pv.push {K : PySem.W.Frag} {w : World} {ρ : List Addr} {h : Hh} {H : Hp} {o : O} {u : HO} {E : Str → Addr → Hp → Prop} {Q : VK} (R : HR L K w ρ h H) (p : pv L K w ρ (.ok (.ref h.sz) (h.push o)) E Q) (r : ∀ q, ur L.sa L.ca (ρ ++ [q]) o u) : ∀ q, H q = none → Q (.ref q) (upd H q u) :=
  fun q nq => p (ρ ++ [q]) _ _ (pre.snoc ρ q) (R.push nq (r q)) ⟨q, by rw [← R.len]; simp, rfl⟩
theorem rBlt.one {K : PySem.W.Frag} {w : World} {f : BF} {vs : List V} {H : Hp} {Q : VK} (hh : rBlt P L K w f vs H Q) (h2 : ∀ a b h, blt2 f a b h = .no) : ∃ ρ h a x E, vs = [x] ∧ HR L K w ρ h H ∧ vr L.sa ρ a x ∧ pv L K w ρ (blt1 P f a h) E Q := by
  obtain ⟨ρ, h, ws, E, R, rv, p⟩ := hh
  cases rv with
  | nil => exact p.elim
  | cons r t =>
    cases t with
    | nil => exact ⟨ρ, h, _, _, E, rfl, R, r, p⟩
    | cons r2 t2 =>
      cases t2 with
      | nil =>
        have p : pv L K w ρ (blt2 f _ _ h) E Q := p
        rw [h2] at p
        exact p.elim
      | cons _ _ => exact p.elim
theorem cr_len (hs : P.so = L.so) : CallR X (.builtin "len") (rBlt P L X.K X.w .len) := by
  refine CallR.imp (CallR.or call_len_seq (CallR.or call_len_str call_lenD)) fun vs H Q hh => ?_
  obtain ⟨ρ, h, a, x, E, rfl, R, r, p⟩ := hh.one fun _ _ _ => rfl
  have p : pv L X.K X.w ρ (lenW P a h) E Q := p
  have seqs : pv L X.K X.w ρ (match sq P h a with
      | some xs => .ok (.int xs.length) h
      | none => .no) E Q → ∃ p ys, [x] = [V.ref p] ∧ (SqL X.K H p ys ∨ SqT X.K H p ys) ∧ Q (.int ys.length) H := by
    intro p
    split at p
    · rename_i xs q
      obtain ⟨b, us, rfl, ru, z⟩ := sq_read hs R r q
      exact ⟨b, us, rfl, z, by rw [← ru.length]; exact p.ok R rfl⟩
    · exact p.elim
  cases a with
  | str z =>
    cases r
    unfold lenW at p
    simp only at p
    split at p
    · rename_i hl
      exact .inr (.inl ⟨z, rfl, sizeL hl, p.ok R rfl⟩)
    · exact p.elim
  | ref n =>
    unfold lenW at p
    simp only at p
    split at p
    · rename_i kvs q
      obtain ⟨a, ea, rfl⟩ := r
      obtain ⟨us, rk, e⟩ := R.dicAt q ea
      exact .inr (.inr ⟨a, us, rfl, e, by rw [← rk.length]; exact p.ok R rfl⟩)
    · exact .inl (seqs p)
  | _ => exact .inl (seqs p)
theorem cr_abs : CallR X (.builtin "abs") (rBlt P L X.K X.w .abs) := by
  refine CallR.imp call_abs fun vs H Q hh => ?_
  obtain ⟨ρ, h, a, x, E, rfl, R, r, p⟩ := hh.one fun _ _ _ => rfl
  cases a with
  | int i => cases r; exact ⟨i, rfl, pst.ok p R rfl⟩
  | _ => exact False.elim p
theorem cr_int : CallR X (.type "int") (rBlt P L X.K X.w .int) := by
  refine CallR.imp call_int1 fun vs H Q hh => ?_
  obtain ⟨ρ, h, a, x, E, rfl, R, r, p⟩ := hh.one fun _ _ _ => rfl
  cases a with
  | int i => cases r; exact .inl ⟨i, rfl, pst.ok p R rfl⟩
  | bl b => cases r; exact .inr ⟨b, rfl, pst.ok p R rfl⟩
  | _ => exact False.elim p
theorem bls_r {ρ : List Addr} : ∀ {xs : List W} {bs : List Bool} {vs : List V}, blsW xs = some bs → vrs L.sa ρ xs vs → vs = bs.map V.bl
  | [], bs, _, e, .nil => by cases e; rfl
  | .bl b :: r, bs, _, e, .cons f t => by
    obtain ⟨cs, e1, rfl⟩ := Option.map_eq_some_iff.mp (show (blsW r).map (b :: ·) = some bs from e)
    cases f
    rw [bls_r e1 t]
    rfl
  | .non :: _, _, _, e, _ => by cases e
  | .int _ :: _, _, _, e, _ => by cases e
  | .str _ :: _, _, _, e, _ => by cases e
  | .ref _ :: _, _, _, e, _ => by cases e
  | .st _ :: _, _, _, e, _ => by cases e
  | .exn _ _ :: _, _, _, e, _ => by cases e
theorem strs_r {ρ : List Addr} : ∀ {xs : List W} {bs : List Str} {vs : List V}, strsW xs = some bs → vrs L.sa ρ xs vs → vs = bs.map V.str
  | [], bs, _, e, .nil => by cases e; rfl
  | .str b :: r, bs, _, e, .cons f t => by
    obtain ⟨cs, e1, rfl⟩ := Option.map_eq_some_iff.mp (show (strsW r).map (b :: ·) = some bs from e)
    cases f
    rw [strs_r e1 t]
    rfl
  | .non :: _, _, _, e, _ => by cases e
  | .int _ :: _, _, _, e, _ => by cases e
  | .bl _ :: _, _, _, e, _ => by cases e
  | .ref _ :: _, _, _, e, _ => by cases e
  | .st _ :: _, _, _, e, _ => by cases e
  | .exn _ _ :: _, _, _, e, _ => by cases e
theorem strs_map {ρ : List Addr} : ∀ ss : List Str, vrs L.sa ρ (ss.map W.str) (ss.map V.str) := fun ss => prd_mapL (F := vr L.sa ρ) (f := W.str) (g := V.str) (fun _ => rfl) ss
/-- all, any ask a list -/
theorem bools_r (hs : P.so = L.so) {ρ : List Addr} {h : Hh} {H : Hp} {a : W} {x : V} {bs : List Bool} (R : HR L X.K X.w ρ h H) (r : vr L.sa ρ a x) (e : boolsW P a h = some bs) : ∃ b, x = .ref b ∧ SqL X.K H b (bs.map V.bl) := by
  unfold boolsW at e
  split at e
  · rename_i xs q
    obtain ⟨b, us, rfl, ru, z⟩ := ob_lst hs R r q
    rw [bls_r e ru] at z
    exact ⟨b, rfl, z⟩
  · cases e
theorem cr_allA (hs : P.so = L.so) (hc : X.calm = true) : CallR X (.builtin "all") (rBlt P L X.K X.w .all) := by
  refine CallR.imp (cr_all hc) fun vs H Q hh => ?_
  obtain ⟨ρ, h, a, x, E, rfl, R, r, p⟩ := hh.one fun _ _ _ => rfl
  unfold blt1 at p
  simp only at p
  split at p
  · rename_i bs q
    obtain ⟨b, rfl, z⟩ := bools_r hs R r q
    exact ⟨b, bs, rfl, z, p.ok R rfl⟩
  · exact p.elim
theorem cr_anyA (hs : P.so = L.so) (hc : X.calm = true) : CallR X (.builtin "any") (rBlt P L X.K X.w .any) := by
  refine CallR.imp (cr_any hc) fun vs H Q hh => ?_
  obtain ⟨ρ, h, a, x, E, rfl, R, r, p⟩ := hh.one fun _ _ _ => rfl
  unfold blt1 at p
  simp only at p
  split at p
  · rename_i bs q
    obtain ⟨b, rfl, z⟩ := bools_r hs R r q
    exact ⟨b, bs, rfl, z, p.ok R rfl⟩
  · exact p.elim
theorem sortTo_r {ρ : List Addr} {h : Hh} {H : Hp} {xs : Option (List Str)} {E : Str → Addr → Hp → Prop} {Q : VK} (R : HR L X.K X.w ρ h H) (p : pv L X.K X.w ρ (sortTo xs h) E Q) :
    ∃ ys, xs = some ys ∧ ys.length < 64 ∧ ∀ zs c, zs.Perm ys → sortedS zs = true → H c = none → Q (.ref c) (upd H c (.lst (zs.map V.str))) := by
  unfold sortTo at p
  split at p
  · rename_i ys
    split at p
    · rename_i hl
      refine ⟨ys, rfl, hl, fun zs c pm so nc => ?_⟩
      rw [sortS_eq pm so]
      exact pv.push R p (fun _ => ⟨_, strs_map _, rfl⟩) c nc
    · exact p.elim
  · exact p.elim
theorem cr_sortedA (hs : P.so = L.so) (hc : X.calm = true) : CallR X (.builtin "sorted") (rBlt P L X.K X.w .sorted) := by
  refine CallR.imp (CallR.or cr_sortedS (call_sortedD hc)) fun vs H Q hh => ?_
  obtain ⟨ρ, h, a, x, E, rfl, R, r, p⟩ := hh.one fun _ _ _ => rfl
  have p : pv L X.K X.w ρ (sortedW P a h) E Q := p
  cases a with
  | ref n =>
    unfold sortedW at p
    simp only at p
    split at p
    · rename_i xs q
      obtain ⟨ys, e, hl, k⟩ := sortTo_r R p
      obtain ⟨a, us, rfl, ru, z⟩ := ob_lst hs R r q
      rw [strs_r e ru] at z
      exact .inl ⟨a, ys, rfl, z, hl, k⟩
    · rename_i kvs q
      obtain ⟨ys, e, hl, k⟩ := sortTo_r R p
      rcases ob_dic hs R r q with ⟨n, a, us, _, _, rfl, rk, rd⟩ | ⟨i, z, _⟩
      · have e2 := strs_r e (wkeys_r rk)
        have e3 : us.map (·.1) = ys.map Sum.inr := by
          have h1 : (us.map (·.1)).map kV = (ys.map (Sum.inr : Str → Key)).map kV := by
            rw [List.map_map, List.map_map]
            exact e2
          refine (List.map_inj_right (fun x y hxy => ?_)).mp h1
          cases x <;> cases y <;> simp [kV] at hxy <;> rw [hxy]
        exact .inr ⟨a, us, ys, rfl, rd, e3, hl, k⟩
      · cases z
    · exact p.elim
  | _ => exact False.elim p
theorem cr_listA (hs : P.so = L.so) (hc : X.calm = true) : CallR X (.type "list") (rBlt P L X.K X.w .list) := by
  refine CallR.imp (CallR.or call_list_of (call_listD hc)) fun vs H Q hh => ?_
  obtain ⟨ρ, h, a, x, E, rfl, R, r, p⟩ := hh.one fun _ _ _ => rfl
  have p : pv L X.K X.w ρ (listW P a h) E Q := p
  unfold listW at p
  split at p
  · rename_i ys q
    obtain ⟨a, us, rfl, ru, z⟩ := sq_read hs R r q
    exact .inl ⟨a, us, rfl, z, pv.push R p (fun c => ⟨_, ru.mono (pre.snoc ρ c), rfl⟩)⟩
  · cases a with
    | ref n =>
      simp only at p
      split at p
      · rename_i kvs q
        rcases ob_dic hs R r q with ⟨n, a, us, _, _, rfl, rk, rd⟩ | ⟨i, z, _⟩
        · exact .inr ⟨a, us, rfl, rd, pv.push R p (fun c => ⟨_, wkeys_r (ρ := ρ ++ [c]) (Paired.mapP rk fun _ _ x => ⟨x.1, x.2.mono (pre.snoc ρ c)⟩), rfl⟩)⟩
        · cases z
      · exact p.elim
    | _ => exact False.elim p
theorem cr_tuple (hs : P.so = L.so) : CallR X (.type "tuple") (rBlt P L X.K X.w .tuple) := by
  refine CallR.imp call_tuple_of fun vs H Q hh => ?_
  obtain ⟨ρ, h, a, x, E, rfl, R, r, p⟩ := hh.one fun _ _ _ => rfl
  have p : pv L X.K X.w ρ (tupleW P a h) E Q := p
  unfold tupleW at p
  split at p
  · rename_i ys q
    obtain ⟨a, us, rfl, ru, z⟩ := ob_lst hs R r q
    exact ⟨a, us, rfl, .inl ⟨z, pv.push R p (fun c => ⟨_, ru.mono (pre.snoc ρ c), rfl⟩)⟩⟩
  · rename_i ys q
    obtain ⟨a, us, rfl, ru, z⟩ := ob_tup hs R r q
    exact ⟨a, us, rfl, .inr ⟨z, p.ok R r⟩⟩
  · exact p.elim
theorem rBlt.two {K : PySem.W.Frag} {w : World} {f : BF} {vs : List V} {H : Hp} {Q : VK} (hh : rBlt P L K w f vs H Q) (h1 : ∀ a h, blt1 P f a h = .no) (g : Int → Int → Int) (h2 : ∀ a b h, blt2 f a b h = match a, b with | .int i, .int j => .ok (.int (g i j)) h | _, _ => .no) :
    ∃ i j, vs = [.int i, .int j] ∧ Q (.int (g i j)) H := by
  obtain ⟨ρ, h, ws, E, R, rv, p⟩ := hh
  cases rv with
  | nil => exact p.elim
  | cons r t =>
    cases t with
    | nil =>
      have p : pv L K w ρ (blt1 P f _ h) E Q := p
      rw [h1] at p
      exact p.elim
    | cons r2 t2 =>
      cases t2 with
      | nil =>
        have p : pv L K w ρ (blt2 f _ _ h) E Q := p
        rw [h2] at p
        split at p
        · cases r; cases r2; exact ⟨_, _, rfl, p.ok R rfl⟩
        · exact p.elim
      | cons _ _ => exact p.elim
theorem cr_maxA (hc : X.calm = true) : CallR X (.builtin "max") (rBlt P L X.K X.w .max) := by
  refine CallR.imp (call_max2 hc) fun vs H Q hh => ?_
  exact hh.two (fun _ _ => rfl) _ fun a b h => by cases a <;> cases b <;> rfl
theorem cr_minA (hc : X.calm = true) : CallR X (.builtin "min") (rBlt P L X.K X.w .min) := by
  refine CallR.imp (call_min2 hc) fun vs H Q hh => ?_
  exact hh.two (fun _ _ => rfl) _ fun a b h => by cases a <;> cases b <;> rfl
/-! ### methods of lists -/
def rBm (L : Ln) (K : PySem.W.Frag) (w : World) (m : BM) : V → List V → Hp → VK → Prop := fun x vs H Q => ∃ ρ h a ws E, HR L K w ρ h H ∧ vr L.sa ρ a x ∧ vrs L.sa ρ ws vs ∧ pv L K w ρ (bmW m a ws h) E Q
theorem rBm.get {K : PySem.W.Frag} {w : World} {m : BM} {x : V} {vs : List V} {H : Hp} {Q : VK} (hh : rBm L K w m x vs H Q) : ∃ ρ h n a xs us ws E, x = .ref a ∧ ρ[n]? = some a ∧ HR L K w ρ h H ∧ h.get n = some (.lst xs) ∧ vrs L.sa ρ xs us ∧ H a = some (.lst us) ∧ vrs L.sa ρ ws vs ∧ pv L K w ρ (bmL m n xs ws h) E Q := by
  obtain ⟨ρ, h, a, ws, E, R, ra, rv, p⟩ := hh
  cases a with
  | ref n =>
    unfold bmW at p
    simp only at p
    split at p
    · rename_i xs q
      have q2 : h.get n = some (.lst xs) := by
        unfold lstO at q
        split at q
        · rename_i q3; cases q; exact q3
        · cases q
      obtain ⟨a, ea, rfl⟩ := ra
      obtain ⟨us, r, e⟩ := R.lstAt q2 ea
      exact ⟨ρ, h, n, a, xs, us, ws, E, rfl, ea, R, q2, r, e, rv, p⟩
    · exact p.elim
  | _ => exact False.elim p
theorem HR.setL {K : PySem.W.Frag} {w : World} {ρ : List Addr} {h : Hh} {H : Hp} (R : HR L K w ρ h H) {n : Nat} {a : Addr} (ea : ρ[n]? = some a) {us : List V} (e : H a = some (.lst us)) {xs : List W} {vs : List V} (r : vrs L.sa ρ xs vs) : HR L K w ρ (h.set n (.lst xs)) (upd H a (.lst vs)) :=
  R.set ea (fun ob x z => by rw [e] at z; cases z) ⟨vs, r, rfl⟩
theorem mtr_append : MtR X "list.append" (rBm L X.K X.w .append) := by
  intro pins s σ H x vs v us Q I rx rs hh
  obtain ⟨ρ, h, n, a, xs, ys, ws, E, rfl, ea, R, q, r, e, rv, p⟩ := hh.get
  refine mt_append pins s σ H _ vs v us Q I rx rs ?_
  unfold bmL at p
  cases rv with
  | cons f t =>
    cases t with
    | nil =>
      simp only at p
      split at p
      · rename_i hl
        exact ⟨a, ys, _, rfl, rfl, e, by rw [← r.length]; exact sizeLt hl, p ρ _ _ (pre.refl ρ) (R.setL ea e (prd_app r (.cons f .nil))) rfl⟩
      · exact p.elim
    | cons _ _ => exact p.elim
  | nil => exact p.elim
theorem mtr_extend : MtR X "list.extend" (rBm L X.K X.w .extend) := by
  intro pins s σ H x vs v us Q I rx rs hh
  obtain ⟨ρ, h, n, a, xs, ys, ws, E, rfl, ea, R, q, r, e, rv, p⟩ := hh.get
  refine mt_extend pins s σ H _ vs v us Q I rx rs ?_
  unfold bmL at p
  cases rv with
  | @cons w0 _ _ _ f t =>
    cases t with
    | nil =>
      cases w0 with
      | ref k =>
        simp only at p
        split at p
        · rename_i zs q2
          obtain ⟨b, eb, rfl⟩ := f
          obtain ⟨vs2, r2, e2⟩ := R.lstAt q2 eb
          split at p
          · rename_i hl
            exact ⟨a, b, ys, vs2, rfl, rfl, e, e2, by rw [← r.length, ← r2.length]; exact sizeL hl, p ρ _ _ (pre.refl ρ) (R.setL ea e (prd_app r r2)) rfl⟩
          · exact p.elim
        · exact p.elim
      | _ => exact p.elim
    | cons _ _ => cases w0 <;> exact p.elim
  | nil => exact p.elim
theorem mtr_pop : MtR X "list.pop" (rBm L X.K X.w .pop) := by
  intro pins s σ H x vs v us Q I rx rs hh
  obtain ⟨ρ, h, n, a, xs, ys, ws, E, rfl, ea, R, q, r, e, rv, p⟩ := hh.get
  refine mt_pop pins s σ H _ vs v us Q I rx rs ?_
  unfold bmL at p
  cases rv with
  | cons f t => exact p.elim
  | nil =>
    simp only at p
    split at p
    · rename_i y q2
      obtain ⟨z, ez, rz⟩ := prd_get r q2
      exact ⟨a, ys, z, rfl, rfl, e, by rw [← r.length]; exact ez, p ρ _ _ (pre.refl ρ) (R.setL ea e (prd_dropLast r)) rz⟩
    · exact p.elim
theorem mtr_clear : MtR X "list.clear" (rBm L X.K X.w .clear) := by
  intro pins s σ H x vs v us Q I rx rs hh
  obtain ⟨ρ, h, n, a, xs, ys, ws, E, rfl, ea, R, q, r, e, rv, p⟩ := hh.get
  refine mt_clear pins s σ H _ vs v us Q I rx rs ?_
  unfold bmL at p
  cases rv with
  | cons f t => exact p.elim
  | nil => exact ⟨a, ys, rfl, rfl, e, p ρ _ _ (pre.refl ρ) (R.setL ea e .nil) rfl⟩
theorem mtr_insert : MtR X "list.insert" (rBm L X.K X.w .insert) := by
  intro pins s σ H x vs v us Q I rx rs hh
  obtain ⟨ρ, h, n, a, xs, ys, ws, E, rfl, ea, R, q, r, e, rv, p⟩ := hh.get
  refine mt_insert pins s σ H _ vs v us Q I rx rs ?_
  unfold bmL at p
  cases rv with
  | @cons w0 _ _ _ f t =>
    cases t with
    | nil => cases w0 <;> exact p.elim
    | cons f2 t2 =>
      cases t2 with
      | nil =>
        cases w0 with
        | int i =>
          simp only at p
          split at p
          · rename_i hl
            cases f
            refine ⟨a, ys, i, _, rfl, rfl, e, by rw [← r.length]; exact sizeLt hl.2.2, hl.1, by omega, p ρ _ _ (pre.refl ρ) (R.setL ea e (prd_app (prd_app (prd_take _ r) (.cons f2 .nil)) (prd_drop _ r))) rfl⟩
          · exact p.elim
        | _ => exact p.elim
      | cons _ _ => cases w0 <;> exact p.elim
  | nil => exact p.elim
def bmId : BM → String
  | .append => "list.append" | .extend => "list.extend" | .pop => "list.pop" | .insert => "list.insert" | .clear => "list.clear"
theorem mtr_all (m : BM) : MtR X (bmId m) (rBm L X.K X.w m) := by
  cases m
  · exact mtr_append
  · exact mtr_extend
  · exact mtr_pop
  · exact mtr_insert
  · exact mtr_clear
end
end MP

set_option Elab.async false
set_option linter.all false
set_option maxRecDepth 100000
/-! MP: from the text to the small language. -/
namespace MP
open PySem L2

/-- what a def's text is read by: its names by slot; own defs, classes, errors, constants; q: not within an except suite -/
structure Ct where
  N : List Str
  fns : List (Str × Nat)
  cls : List (Str × Nat)
  mts : List (Str × Nat)
  exs : List Str
  gls : List Str
  exv : List Str
def bfOf (x : Str) : Option BF :=
  if x = "len" then some .len else if x = "abs" then some .abs else if x = "int" then some .int else if x = "all" then some .all else if x = "any" then some .any
  else if x = "sorted" then some .sorted else if x = "list" then some .list else if x = "tuple" then some .tuple else if x = "max" then some .max else if x = "min" then some .min else none
def bmOf (x : Str) : Option BM :=
  if x = "append" then some .append else if x = "extend" then some .extend else if x = "pop" then some .pop else if x = "insert" then some .insert else if x = "clear" then some .clear else none
def boOf : Operator → Option BO
  | .Add => some .add | .Sub => some .sub | .Mult => some .mul | .FloorDiv => some .fdv | .Mod => some .md | .Pow => some .pow
  | _ => none
def coOf : CmpOp → CO
  | .Eq => .eq | .NotEq => .ne | .Lt => .lt | .LtE => .le | .Gt => .gt | .GtE => .ge | .In => .inn | .NotIn => .nin | .Is => .iss | .IsNot => .isn
theorem cop_coOf (o : CmpOp) : cop (coOf o) = o := by cases o <;> rfl
theorem bop_boOf {o : Operator} {b : BO} (h : boOf o = some b) : bop b = o := by cases o <;> simp [boOf] at h <;> subst h <;> rfl
def slot (T : Ct) (x : Str) : Option Nat := T.N.findIdx? (· == x)
def visible (sc : Scope) (x : Str) : Bool := sc.names.lookup x == some .local || sc.names.lookup x == some .cell || sc.names.lookup x == some .free
def stored (sc : Scope) (x : Str) : Bool := sc.names.lookup x == some .local || sc.names.lookup x == some .cell
def isGl (sc : Scope) (x : Str) : Bool := sc.names.lookup x == some .globalImplicit
def notStar : Expr → Bool
  | .Starred _ _ => false
  | _ => true
def notSet : Expr → Bool
  | .Set _ _ _ => false
  | _ => true
def isStar : E → Bool
  | .star _ => true
  | _ => false
/-- a slot of its own name -/
def okName (x : Str) : Bool := !(x == ("__debug__" : Str)) && !(x == ("__classdict__" : Str)) && !(x == ("__name__" : Str))
def wOf : Const → Option W
  | .none => some .non
  | .bool b => some (.bl b)
  | .int i => some (.int i)
  | .str x => some (.str x)
  | _ => none
mutual
def tgOf (T : Ct) (sc : Scope) : Nat → Expr → Option Tg
  | 0, _ => none
  | _ + 1, .Name x _ => if stored sc x = true then (slot T x).map .nm else none
  | n + 1, .Tuple es _ _ => (tgsOf T sc n es).map .tup
  | _, _ => none
def tgsOf (T : Ct) (sc : Scope) : Nat → List Expr → Option (List Tg)
  | 0, _ => none
  | _ + 1, [] => some []
  | n + 1, e :: es => (tgOf T sc n e).bind fun t => (tgsOf T sc n es).map (t :: ·)
end
/-- the names of a comprehension by their slots -/
def ownOf (T : Ct) (sc : Scope) : List (Str × NameKind) → Option (List (Str × Nat))
  | [] => some []
  | (x, k) :: r => if k = .local ∨ k = .cell then (slot T x).bind fun i => (ownOf T sc r).map ((x, i) :: ·) else ownOf T sc r
mutual
def tgSlots : Tg → List Nat
  | .nm i => [i]
  | .tup ts => tgsSlots ts
def tgsSlots : List Tg → List Nat
  | [] => []
  | t :: ts => tgSlots t ++ tgsSlots ts
end
/-- a builtin type's name -/
def tyOf (T : Ct) (sc : Scope) (x : Str) : Option Ty :=
  if isGl sc x = false then none else
  if (T.cls.lookup x).isSome = true then some (.own x) else
  if x = "str" then some (.bi "str") else if x = "int" then some (.bi "int") else if x = "bool" then some (.bi "bool") else if x = "list" then some (.bi "list") else if x = "tuple" then some (.bi "tuple") else if x = "dict" then some (.bi "dict") else none
/-- sorted(set(b)) -/
def setArg (sc : Scope) (f : Str) : List Expr → Option Expr
  | [.Call (.Name g _) [b] [] _] => if f = "sorted" ∧ g = "set" ∧ isGl sc g = true ∧ notStar b = true then some b else none
  | _ => none
mutual
def cE (T : Ct) (q : Bool) : Nat → Scope → Expr → Option E
  | 0, _, _ => none
  | n + 1, sc, e => match e with
    | .Name x _ => if okName x = false then none else if visible sc x = true then (slot T x).map .var else if isGl sc x = true ∧ T.gls.contains x = true then some (.glb x) else none
    | .Constant c _ _ => (wOf c).map .con
    | .BinOp a op b _ => (boOf op).bind fun o => (cE T q n sc a).bind fun a' => (cE T q n sc b).map fun b' => .bin o a' b'
    | .UnaryOp .Not a _ => (cE T q n sc a).map .not
    | .UnaryOp .USub a _ => (cE T q n sc a).map .neg
    | .BoolOp op es _ => cBs T q n sc op es
    | .Compare a [op] [b] _ => if notSet b = false then none else (cE T q n sc a).bind fun a' => (cE T q n sc b).map fun b' => .cmp (coOf op) a' b'
    | .Compare a [op, op'] [b, c] _ => if notSet c = false then none else (cE T q n sc a).bind fun a' => (cE T q n sc b).bind fun b' => (cE T q n sc c).map fun c' => .cmp2 (coOf op) (coOf op') a' b' c'
    | .IfExp c a b _ => (cE T q n sc c).bind fun c' => (cE T q n sc a).bind fun a' => (cE T q n sc b).map fun b' => .ite c' a' b'
    | .Call (.Name f _) (a :: as) [] _ =>
      if okName f = false ∨ isGl sc f = false then none else
      if notStar a = false ∨ as.all notStar = false then none else
      if f = "isinstance" then (match as with
        | [.Name c _] => if okName c = false then none else (cE T q n sc a).bind fun a' => (tyOf T sc c).map fun c' => .isa a' c'
        | _ => none) else
      if q = false then none else
      (match setArg sc f (a :: as) with
       | some b => (cE T q n sc b).map .setOf
       | none => match T.fns.lookup f with
        | some m => if (a :: as).length = m then (cEs T q n sc (a :: as)).map fun as' => .call f as' else none
        | none => match T.cls.lookup f with
          | some m => if (a :: as).length + 1 = m then (cEs T q n sc (a :: as)).map fun as' => .make f as' else none
          | none => (bfOf f).bind fun b => (cEs T q n sc (a :: as)).map fun as' => .blt b as')
    | .Call (.Attribute o m apos) as [] pos =>
      if as.all notStar = false ∨ q = false ∨ (as.length < 29) = false ∨ (apos.endLine == pos.line) = false then none else
      (match bmOf m with
        | some b => (cE T q n sc o).bind fun o' => (cEs T q n sc as).map fun as' => .bm o' b as'
        | none => match T.mts.lookup m with
          | some k => if as.length + 1 = k then (cE T q n sc o).bind fun o' => (cEs T q n sc as).map fun as' => .meth o' m as' else none
          | none => none)
    | .Attribute o f _ => (match o with
      | .Name x _ => if T.exv.contains x = true then (if visible sc x = true ∧ okName x = true then (slot T x).map fun i => .xf i f else none) else (cE T q n sc o).map fun o' => .fld o' f
      | .Call _ _ _ _ => none
      | o => (cE T q n sc o).map fun o' => .fld o' f)
    | .Subscript e (.Slice none none (some (.UnaryOp .USub (.Constant (.int 1) _ _) _)) _) _ => (cE T q n sc e).map fun e' => .rev e'
    | .Subscript e (.Slice lo hi none _) _ => (cE T q n sc e).bind fun e' => (cO T q n sc lo).bind fun l => (cO T q n sc hi).map fun h => .slc e' l h
    | .Subscript e i _ => (cE T q n sc e).bind fun e' => (cE T q n sc i).map fun i' => .idx e' i'
    | .Tuple es _ _ => (cEs T q n sc es).map .tup
    | .List es _ => (cEs T q n sc es).map .lst
    | .Dict [] [] _ => some (.dsp [] [])
    | .ListComp elt [⟨tg, it, ifs, 0⟩] scope _ => if q = false then none else
      (ownOf T sc scope.names).bind fun own => if blkC T.N sc scope own = false then none else
      (cI T q n sc tg it).bind fun it' => (tgOf T scope n tg).bind fun tg' => (cEs T q n (relS scope sc) ifs).bind fun ifs' => if ifs.all notStar = false ∨ (ifs.length < 2) = false ∨ ((tgSlots tg').all fun i => (own.map (·.2)).contains i) = false then none else (cE T q n (relS scope sc) elt).map fun elt' =>
        .cp false (.con .non) elt' tg' it' ifs' (own.map (·.2))
    | .DictComp k v [⟨tg, it, ifs, 0⟩] scope _ => if q = false then none else
      (ownOf T sc scope.names).bind fun own => if blkC T.N sc scope own = false then none else
      (cI T q n sc tg it).bind fun it' => (tgOf T scope n tg).bind fun tg' => (cEs T q n (relS scope sc) ifs).bind fun ifs' => if ifs.all notStar = false ∨ (ifs.length < 2) = false ∨ ((tgSlots tg').all fun i => (own.map (·.2)).contains i) = false then none else (cE T q n (relS scope sc) k).bind fun k' => (cE T q n (relS scope sc) v).map fun v' =>
        .cp true k' v' tg' it' ifs' (own.map (·.2))
    | .ListComp elt [⟨tg, it, ifs, 0⟩, ⟨tg1, it1, ifs1, 0⟩] scope _ => if q = false then none else
      (ownOf T sc scope.names).bind fun own => if blkC T.N sc scope own = false then none else
      (cI T q n sc tg it).bind fun it' => (tgOf T scope n tg).bind fun tg' => (cEs T q n (relS scope sc) ifs).bind fun ifs' => if ifs.all notStar = false ∨ ifs1.all notStar = false ∨ (ifs.length < 2) = false ∨ (ifs1.length < 2) = false ∨ ((tgSlots tg').all fun i => (own.map (·.2)).contains i) = false then none else
      (cI T q n (relS scope sc) tg1 it1).bind fun it1' => (tgOf T scope n tg1).bind fun tg1' => (cEs T q n (relS scope sc) ifs1).bind fun ifs1' => if ((tgSlots tg1').all fun i => (own.map (·.2)).contains i) = false then none else (cE T q n (relS scope sc) elt).map fun elt' =>
        .cp2 false (.con .non) elt' tg' it' ifs' tg1' it1' ifs1' (own.map (·.2)) (tgSlots tg1')
    | .DictComp k v [⟨tg, it, ifs, 0⟩, ⟨tg1, it1, ifs1, 0⟩] scope _ => if q = false then none else
      (ownOf T sc scope.names).bind fun own => if blkC T.N sc scope own = false then none else
      (cI T q n sc tg it).bind fun it' => (tgOf T scope n tg).bind fun tg' => (cEs T q n (relS scope sc) ifs).bind fun ifs' => if ifs.all notStar = false ∨ ifs1.all notStar = false ∨ (ifs.length < 2) = false ∨ (ifs1.length < 2) = false ∨ ((tgSlots tg').all fun i => (own.map (·.2)).contains i) = false then none else
      (cI T q n (relS scope sc) tg1 it1).bind fun it1' => (tgOf T scope n tg1).bind fun tg1' => (cEs T q n (relS scope sc) ifs1).bind fun ifs1' => if ((tgSlots tg1').all fun i => (own.map (·.2)).contains i) = false then none else (cE T q n (relS scope sc) k).bind fun k' => (cE T q n (relS scope sc) v).map fun v' =>
        .cp2 true k' v' tg' it' ifs' tg1' it1' ifs1' (own.map (·.2)) (tgSlots tg1')
    | _ => none
/-- and, or -/
def cBs (T : Ct) (q : Bool) : Nat → Scope → BoolOp → List Expr → Option E
  | 0, _, _, _ => none
  | n + 1, sc, _, [a] => cE T q n sc a
  | n + 1, sc, op, a :: b :: r => (cE T q n sc a).bind fun a' => (cBs T q n sc op (b :: r)).map fun b' => match op with
    | .And => .and a' b'
    | .Or => .or a' b'
  | _, _, _, [] => none
def cEs (T : Ct) (q : Bool) : Nat → Scope → List Expr → Option (List E)
  | 0, _, _ => none
  | _ + 1, _, [] => some []
  | n + 1, sc, e :: es => (match e with
    | .Starred a _ => if q = false then none else (cE T q n sc a).map E.star
    | e => (cE T q n sc e).bind fun c => if isStar c = true then none else some c).bind fun e' => (cEs T q n sc es).map (e' :: ·)
def cO (T : Ct) (q : Bool) : Nat → Scope → Option Expr → Option (Option E)
  | 0, _, _ => none
  | _ + 1, _, none => some none
  | n + 1, sc, some e => (cE T q n sc e).map some
/-- what is walked -/
def cI (T : Ct) (q : Bool) : Nat → Scope → Expr → Expr → Option E
  | 0, _, _, _ => none
  | n + 1, sc, tg, e => match e with
    | .Call (.Name f _) [a] [] _ =>
      if f = "enumerate" then (if isGl sc f = false ∨ notStar a = false then none else (match tg with
        | .Tuple _ _ _ => (cE T q n sc a).map .enum
        | _ => none))
      else if f = "range" then (if isGl sc f = false ∨ notStar a = false then none else (cE T q n sc a).map .rng)
      else (cE T q n sc e).map .seq
    | .Call (.Name f _) [a, b] [] _ =>
      if f = "zip" then none
      else if f = "range" then (if isGl sc f = false ∨ notStar a = false ∨ notStar b = false then none else (cE T q n sc a).bind fun a' => (cE T q n sc b).map fun b' => .rng2 a' b')
      else (cE T q n sc e).map .seq
    | .Call (.Attribute o m apos) [] [] pos =>
      if (apos.endLine == pos.line) = false then none else
      if m = "items" then (match tg with
        | .Tuple _ _ _ => (cE T q n sc o).map .items
        | _ => none)
      else if m = "values" then (cE T q n sc o).map .vals
      else (cE T q n sc e).map .seq
    | .Set _ _ _ => none
    | e => (cE T q n sc e).map .seq
end
/-! ### statements -/
/-- x, y = a, b: stored one by one, from the right -/
def parOk (sc : Scope) (ts es : List Expr) : Bool := (match ts with
  | [.Name x px, .Name y py] => sc.names.lookup x == some .local && (sc.names.lookup y == some .local && (px.line == py.line && (!(x == y) && es.length == 2)))
  | [.Name x px, .Name y py, .Name z pz] => sc.names.lookup x == some .local && (sc.names.lookup y == some .local && (sc.names.lookup z == some .local && (px.line == py.line && (px.line == pz.line && (!(x == y) && (!(x == z) && (!(y == z) && es.length == 3)))))))
  | _ => false) && (es.all notStar && (!(es.all (foldedForSure 8)) && !(es.all (constantsAlone 8))))
def parIs (T : Ct) : List Expr → Option (List Nat)
  | [] => some []
  | .Name x _ :: r => (slot T x).bind fun i => (parIs T r).map (i :: ·)
  | _ => none
mutual
def cS (T : Ct) : Nat → Bool → Scope → Stmt → Option S
  | 0, _, _, _ => none
  | n + 1, q, sc, st => match st with
    | .Assign [t] e pos => (match t with
      | .Attribute o f _ => if q = false then none else (cE T q n sc e).bind fun e' => (cE T q n sc o).map fun o' => .asgF o' f e'
      | .Subscript o i _ => (match i with
        | .Slice _ _ _ _ => none
        | i => if q = false then none else (cE T q n sc e).bind fun e' => (cE T q n sc o).bind fun o' => (cE T q n sc i).map fun i' => .asgS o' i' e')
      | .Name _ _ => (tgOf T sc n t).bind fun t' => (cE T q n sc e).map fun e' => .asg t' e'
      | .Tuple ts _ _ => if q = false then none else (match e with
        | .Tuple es _ _ => if parOk sc ts es = true then (parIs T ts).bind fun is => (cEs T q n sc es).map fun es' => .par is es' else none
        | e => (tgOf T sc n t).bind fun t' => (cE T q n sc e).map fun e' => .asg t' e')
      | _ => none)
    | .AugAssign (.Name x _) op e _ => if q = false ∨ stored sc x = false then none else (slot T x).bind fun i => (boOf op).bind fun o => (cE T q n sc e).map fun e' => .aug i o e'
    | .Delete [.Subscript o i _] _ => (match i with
      | .Slice _ _ _ _ => none
      | i => if q = false then none else (cE T q n sc o).bind fun o' => (cE T q n sc i).map fun i' => .del o' i')
    | .Expr e _ => (match e with
      | .Constant (.str _) _ _ => some .pas
      | .Call _ _ _ _ => (cE T q n sc e).map .exp
      | _ => none)
    | .Return (some e) _ => (cE T q n sc e).map .ret
    | .Return none _ => some .retN
    | .Pass _ => some .pas
    | .Break _ => some .brk
    | .Continue _ => some .cnt
    | .If c a b _ => (cE T q n sc c).bind fun c' => (cSs T n q sc a).bind fun a' => (cSs T n q sc b).map fun b' => .ite c' a' b'
    | .While c b [] _ => if q = false then none else (cE T q n sc c).bind fun c' => (cSs T n q sc b).map fun b' => .whl c' b'
    | .For t it b [] _ => if q = false then none else (tgOf T sc n t).bind fun t' => (cI T q n sc t it).bind fun it' => (cSs T n q sc b).map fun b' => .frr t' it' b'
    | .Raise (some (.Call (.Name c _) (a :: as) [] _)) none _ =>
      if q = false ∨ okName c = false ∨ isGl sc c = false ∨ T.exs.contains c = false ∨ notStar a = false ∨ as.all notStar = false then none else (cEs T q n sc (a :: as)).map fun as' => .rse c as'
    | .Try b [.ExceptHandler (some (.Name c _)) (some x) (u₀ :: u) _] [] [] _ =>
      if q = false ∨ okName c = false ∨ isGl sc c = false ∨ T.exs.contains c = false ∨ (sc.names.lookup x == some .local) = false ∨ T.exv.contains x = false then none else
      (slot T x).bind fun i => (cSs T n true sc b).bind fun b' => (cSs T n false sc (u₀ :: u)).map fun u' => .tri b' c i u'
    | _ => none
def cSs (T : Ct) : Nat → Bool → Scope → List Stmt → Option (List S)
  | 0, _, _, _ => none
  | _ + 1, _, _, [] => some []
  | n + 1, q, sc, s :: r => (cSs T n q sc r).map (((cS T n q sc s).getD .stk) :: ·)
end
end MP

set_option Elab.async false
set_option linter.all false
set_option maxRecDepth 100000
/-! MP: readings of the small language; targets. -/
namespace MP
open PySem L2

/-! ### weaker readings -/
section
variable {X : Cx}
theorem peW {e : Expr} {t t' : TE} (h : PE X e t) (i : ∀ σ H Q, t' σ H Q → t σ H Q) : PE X e t' := ⟨fun pins s σ H Q I hw => h.run pins s σ H Q I (i _ _ _ hw)⟩
theorem ptW {e : Expr} {t t' : TT} (h : PT X e t) (i : ∀ σ H Q, t' σ H Q → t σ H Q) : PT X e t' := ⟨fun pins s σ H Q I hw => h.run pins s σ H Q I (i _ _ _ hw)⟩
theorem pwW {e : Expr} {t t' : TT} (h : PW X e t) (i : ∀ σ H Q, t' σ H Q → t σ H Q) : PW X e t' := ⟨fun wh pins s σ H Q I hw => h.run wh pins s σ H Q I (i _ _ _ hw)⟩
theorem paW {e : List Expr} {t t' : TA} (h : PA X e t) (i : ∀ σ H Q, t' σ H Q → t σ H Q) : PA X e t' := ⟨fun pos pins s σ H Q I hw => h.run pos pins s σ H Q I (i _ _ _ hw)⟩
theorem poW {e : Option Expr} {t t' : TO} (h : PO X e t) (i : ∀ σ H Q, t' σ H Q → t σ H Q) : PO X e t' := ⟨fun pins s σ H Q I hw => h.run pins s σ H Q I (i _ _ _ hw)⟩
theorem piW {tg e : Expr} {t t' : TI} (h : PI X tg e t) (i : ∀ σ H Q, t' σ H Q → t σ H Q) : PI X tg e t' := ⟨fun pins s σ H Q I hw => h.run pins s σ H Q I (i _ _ _ hw)⟩
theorem psW {e : Stmt} {t t' : TS} (h : PS X e t) (i : ∀ D σ H, t' D σ H → t D σ H) : PS X e t' := ⟨fun pins s σ H D I hw => h.run pins s σ H D I (i _ _ _ hw)⟩
theorem pssW {e : List Stmt} {t t' : TS} (h : PSs X e t) (i : ∀ D σ H, t' D σ H → t D σ H) : PSs X e t' := ⟨fun pins s σ H D I hw => h.run pins s σ H D I (i _ _ _ hw)⟩
theorem pgW {e : Expr} {t t' : TG} (h : PG X e t) (i : ∀ v σ H Q, t' v σ H Q → t v σ H Q) : PG X e t' := ⟨fun pins s σ H v u Q I r hw => h.run pins s σ H v u Q I r (i _ _ _ _ hw)⟩
theorem pgsW {e : List Expr} {t t' : TGs} (h : PGs X e t) (i : ∀ v σ H Q, t' v σ H Q → t v σ H Q) : PGs X e t' := ⟨fun pins s σ H v u Q I r hw => h.run pins s σ H v u Q I r (i _ _ _ _ hw)⟩
theorem OpR.ex {ι : Type} {f : Value → Value → Sem Value} {r : ι → R2} (h : ∀ i, OpR X f (r i)) : OpR X f (fun x y H Q => ∃ i, r i x y H Q) := fun pins s σ H x y v u Q I rx ry ⟨i, q⟩ => h i pins s σ H x y v u Q I rx ry q
theorem IxR.ex {ι : Type} {r : ι → R2} (h : ∀ i, IxR X (r i)) : IxR X (fun x y H Q => ∃ i, r i x y H Q) := fun vl sl pins s σ H x y v u Q I rx ry ⟨i, q⟩ => h i vl sl pins s σ H x y v u Q I rx ry q
theorem CallR.ex {ι : Type} {f : Value} {r : ι → List V → Hp → VK → Prop} (h : ∀ i, CallR X f (r i)) : CallR X f (fun x H Q => ∃ i, r i x H Q) := fun pins s σ H x y Q I rx ⟨i, q⟩ => h i pins s σ H x y Q I rx q
theorem MtR.ex {ι : Type} {id : String} {r : ι → V → List V → Hp → VK → Prop} (h : ∀ i, MtR X id (r i)) : MtR X id (fun x xs H Q => ∃ i, r i x xs H Q) := fun pins s σ H x y u v Q I rx ry ⟨i, q⟩ => h i pins s σ H x y u v Q I rx ry q
theorem SlR.ex {ι : Type} {r : ι → V → Option Int → Option Int → Hp → VK → Prop} (h : ∀ i, SlR X (r i)) : SlR X (fun x l u H Q => ∃ i, r i x l u H Q) := fun pins s σ H x v vl vu lo hi sl Q I rx hs pl pu ⟨i, q⟩ => h i pins s σ H x v vl vu lo hi sl Q I rx hs pl pu q
end

/-! ### slots -/
/-- the caught exception: its address, class, dict -/
abbrev Xa := Option (Addr × Value × Option Addr)
def sw (L : Ln) (xa : Xa) (ρ : List Addr) : W → V → Prop
  | .exn c n, v => ∃ a d, xa = some (a, .ref (L.ca c), some d) ∧ v = .ref a ∧ ρ[n]? = some d
  | w, v => vr L.sa ρ w v
def sr1 (L : Ln) (xa : Xa) (ρ : List Addr) : Option W → Option V → Prop
  | none, _ => True
  | some w, some v => sw L xa ρ w v
  | some _, none => False
abbrev SR (L : Ln) (xa : Xa) (ρ : List Addr) : Sl → St → Prop := Paired (sr1 L xa ρ)
section
variable {L : Ln} {xa : Xa} {ρ ρ' : List Addr} {ws : Sl} {σ : St}
theorem sw.of {w : W} {v : V} (r : vr L.sa ρ w v) : sw L xa ρ w v := by
  cases w with
  | exn c n => exact r.elim
  | _ => exact r
theorem sw.mono (h : pre ρ ρ') {w : W} {v : V} (r : sw L xa ρ w v) : sw L xa ρ' w v := by
  cases w with
  | exn c n => obtain ⟨a, d, e1, e2, e3⟩ := r; exact ⟨a, d, e1, e2, h.get e3⟩
  | non => exact vr.mono (sa := L.sa) (w := .non) h r
  | bl b => exact vr.mono (sa := L.sa) (w := .bl b) h r
  | int b => exact vr.mono (sa := L.sa) (w := .int b) h r
  | str b => exact vr.mono (sa := L.sa) (w := .str b) h r
  | ref b => exact vr.mono (sa := L.sa) (w := .ref b) h r
  | st b => exact vr.mono (sa := L.sa) (w := .st b) h r
theorem SR.mono (h : pre ρ ρ') (S : SR L xa ρ ws σ) : SR L xa ρ' ws σ := Paired.mapP S fun a b r => by
  cases a with
  | none => trivial
  | some w => cases b with
    | none => exact r
    | some v => exact sw.mono h r
theorem SR.get (S : SR L xa ρ ws σ) {i : Nat} {w : W} (e : ws[i]? = some (some w)) : ∃ v, σ[i]? = some (some v) ∧ sw L xa ρ w v := by
  obtain ⟨y, h1, h2⟩ := prd_get S e
  cases y with
  | none => exact h2.elim
  | some v => exact ⟨v, h1, h2⟩
theorem SR.set (S : SR L xa ρ ws σ) (i : Nat) {w : W} {v : V} (r : sw L xa ρ w v) : SR L xa ρ (ws.set i (some w)) (σ.set i (some v)) := prd_set (F := sr1 L xa ρ) (x := some w) (y := some v) r i S
theorem SR.unset (S : SR L xa ρ ws σ) (i : Nat) {o : Option V} : SR L xa ρ (ws.set i none) (σ.set i o) := prd_set (F := sr1 L xa ρ) (x := none) (y := o) trivial i S
theorem SR.wipe (S : SR L xa ρ ws σ) : ∀ vs : List Nat, SR L xa ρ (wipeW ws vs) (wipe σ vs)
  | [] => S
  | v :: vs => prd_set (F := sr1 L xa ρ) (x := none) (y := none) trivial v (SR.wipe S vs)
end
theorem wipe_set {σ : St} {i : Nat} {o : Option V} : ∀ {vs : List Nat}, i ∈ vs → wipe (σ.set i o) vs = wipe σ vs
  | v :: vs, h => by
    by_cases e : i ∈ vs
    · show (wipe (σ.set i o) vs).set v none = _
      rw [wipe_set e]; rfl
    · have e2 : i = v := by rcases List.mem_cons.mp h with z | z; exact z; exact absurd z e
      subst e2
      have go : ∀ {vs : List Nat}, i ∉ vs → wipe (σ.set i o) vs = (wipe σ vs).set i o := by
        intro vs
        induction vs with
        | nil => intro _; rfl
        | cons u us ih =>
          intro h
          show (wipe (σ.set i o) us).set u none = ((wipe σ us).set u none).set i o
          rw [ih fun z => h (List.mem_cons_of_mem _ z)]
          exact List.set_comm _ _ fun z => h (by rw [z]; exact List.mem_cons_self)
      show (wipe (σ.set i o) vs).set i none = (wipe σ vs).set i none
      rw [go e, List.set_set]
theorem wipe_wipe {σ : St} (us : List Nat) : ∀ vs : List Nat, (∀ i ∈ us, i ∈ vs) → wipe (wipe σ us) vs = wipe σ vs := by
  induction us with
  | nil => intro vs _; rfl
  | cons u us ih =>
    intro vs h
    show wipe ((wipe σ us).set u none) vs = _
    rw [wipe_set (h u List.mem_cons_self)]
    exact ih vs fun i hi => h i (List.mem_cons_of_mem _ hi)

/-! ### readings -/
def wx (W : WX) (L : Ln) (σ : St) : Str → Addr → Hp → Prop := fun c d H => W (.ref (L.ca c)) (some d) σ H
section
variable (P : Pg) (L : Ln) (K : PySem.W.Frag) (w : World) (W : WX) (xa : Xa)
def tG {α β : Type} (rel : List Addr → α → β → Prop) (f : Sl → Hh → Rs α) : St → Hp → (β → Hp → Prop) → Prop := fun σ H Q =>
  ∃ fz ρ ws h, HR (L.at fz) K w ρ h H ∧ SR L xa ρ ws σ ∧ pst (L.at fz) K w rel ρ (f ws h) (wx W L σ) Q
abbrev tD (c : E) : TE := tG L K w W xa (vr L.sa) (ev P c)
abbrev eqR {α : Type} : List Addr → α → α → Prop := fun _ a b => a = b
abbrev tT (c : E) : TT := tG L K w W xa eqR (fun ws h => (ev P c ws h).bind (truR P))
abbrev tA (cs : List E) : TA := tG L K w W xa (vrs L.sa) (evs P cs)
abbrev tO (c : Option E) : TO := tG L K w W xa eqR (evo P c)
abbrev tC (cs : List E) : TT := tG L K w W xa eqR (evC P cs)
end
section
variable {L : Ln} {K : PySem.W.Frag} {w : World} {W : WX} {xa : Xa} {α β γ δ : Type} {rel : List Addr → α → β → Prop} {rel' : List Addr → γ → δ → Prop} {σ : St} {H : Hp} {fz : Addr → Option (Obj × HO)} {ρ : List Addr} {ws : Sl} {h : Hh}
theorem tG.imp {f : Sl → Hh → Rs α} {Q Q' : β → Hp → Prop} (p : tG L K w W xa rel f σ H Q) (i : ∀ b H, Q b H → Q' b H) : tG L K w W xa rel f σ H Q' := by
  obtain ⟨fz, ρ, ws, h, R, S, p⟩ := p
  exact ⟨fz, ρ, ws, h, R, S, p.imp i⟩
theorem step {g : Sl → Hh → Rs α} {k : α → Hh → Rs γ} {Q : δ → Hp → Prop} (R : HR (L.at fz) K w ρ h H) (S : SR L xa ρ ws σ) (p : pst (L.at fz) K w rel' ρ ((g ws h).bind k) (wx W L σ) Q) :
    tG L K w W xa rel g σ H fun b H1 => ∃ ρ1 h1 a, pre ρ ρ1 ∧ HR (L.at fz) K w ρ1 h1 H1 ∧ SR L xa ρ1 ws σ ∧ rel ρ1 a b ∧ pst (L.at fz) K w rel' ρ1 (k a h1) (wx W L σ) Q :=
  ⟨fz, ρ, ws, h, R, S, (p.bind (rel := rel)).imp fun b H1 ⟨ρ1, h1, a, pr, R1, r, p1⟩ => ⟨ρ1, h1, a, pr, R1, S.mono pr, r, p1⟩⟩
end

/-! ### truth -/
section
variable {P : Pg} {L : Ln} {K : PySem.W.Frag} {w : World} {ρ : List Addr} {h : Hh} {H : Hp}
theorem sq_empty {x : W} {v : V} {b : Bool} (hs : P.so = L.so) (R : HR L K w ρ h H) (r : vr L.sa ρ x v) (e : (sq P h x).map (!·.isEmpty) = some b) : TruV K v H b := by
  obtain ⟨xs, e1, rfl⟩ := Option.map_eq_some_iff.mp e
  obtain ⟨a, vs, rfl, r2, q⟩ := sq_read hs R r e1
  rcases q with q | q
  · exact .inl ⟨vs, q, by rw [prd_empty r2]⟩
  · exact .inr (.inl ⟨vs, q, by rw [prd_empty r2]⟩)
theorem tru_read (hs : P.so = L.so) (R : HR L K w ρ h H) {x : W} {v : V} {b : Bool} (r : vr L.sa ρ x v) (e : tru P h x = some b) : TruV K v H b := by
  cases x with
  | non => cases r; cases e; rfl
  | bl c => cases r; cases e; rfl
  | int i => cases r; cases e; rfl
  | str z =>
    cases r
    unfold tru at e
    simp only at e
    split at e
    · rename_i hl
      cases e
      refine ⟨sizeL hl, ?_⟩
      cases hz : z.length <;> simp
      omega
    · cases e
  | ref n =>
    unfold tru at e
    simp only at e
    split at e
    · rename_i b' q
      cases e
      obtain ⟨a, ea, rfl⟩ := r
      cases q2 : h.get n with
      | none => rw [q2] at q; cases q
      | some o =>
        rw [q2] at q
        cases o with
        | dic kvs =>
          cases q
          obtain ⟨vs, r2, e2⟩ := R.dicAt q2 ea
          exact .inr (.inr ⟨vs, e2, by rw [prd_empty r2]⟩)
        | _ => cases q
    · exact sq_empty hs R r e
  | st i => exact sq_empty hs R r e
  | exn _ _ => cases e
end
section
variable {P : Pg} {L : Ln} {X : Cx} {W : WX} {xa : Xa}
/-- a test by its value -/
theorem pt_of (hs : P.so = L.so) {e : Expr} {c : E} (hp : PE X e (tD P L X.K X.w W xa c)) (he : ∀ whole, isTrue e X.env whole = (do let v ← whole; standAt e.pos; holding [v] (truthy v))) : PT X e (tT P L X.K X.w W xa c) := by
  refine ptW (pt_truth hp he) fun σ H Q ⟨fz, ρ, ws, h, R, S, p⟩ => ?_
  refine tG.imp (step R S p) fun x H1 ⟨ρ1, h1, a, pr, R1, S1, r, p1⟩ => ?_
  unfold truR at p1
  split at p1
  · rename_i b e
    exact ⟨b, tru_read (L := L.at fz) hs R1 r e, p1.ok R1 rfl⟩
  · exact p1.elim
end

/-! ### targets -/
section
variable (P : Pg) (L : Ln) (K : PySem.W.Frag) (w : World) (xa : Xa)
def tgT (t : Tg) : TG := fun v σ H Q => ∃ fz ρ ws h x ws', HR (L.at fz) K w ρ h H ∧ SR L xa ρ ws σ ∧ vr L.sa ρ x v ∧ stT P t x ws h = some ws' ∧ ∀ σ', SR L xa ρ ws' σ' → (∀ vs, (∀ i ∈ tgSlots t, i ∈ vs) → wipe σ' vs = wipe σ vs) → Q σ' H
def tgsT (ts : List Tg) : TGs := fun v σ H Q => ∃ fz ρ ws h x ws', HR (L.at fz) K w ρ h H ∧ SR L xa ρ ws σ ∧ vrs L.sa ρ x v ∧ stTs P ts x ws h = some ws' ∧ ∀ σ', SR L xa ρ ws' σ' → (∀ vs, (∀ i ∈ tgsSlots ts, i ∈ vs) → wipe σ' vs = wipe σ vs) → Q σ' H
end
/-- the names of the context; sc: where targets stand -/
structure Nm (T : Ct) (X : Cx) (sc : Scope) : Prop where
  N : X.N = T.N
  nd : T.N.Nodup
  st : ∀ x, stored sc x = true → Loc X.env.scope x ∧ (X.fn x = true ∨ X.env.scope.names.lookup x = some .local)
theorem slot_get {T : Ct} {x : Str} {i : Nat} (h : slot T x = some i) : T.N[i]? = some x := by
  unfold slot at h
  obtain ⟨h1, h2⟩ := List.findIdx?_eq_some_iff_getElem.mp h
  rw [List.getElem?_eq_getElem h1]
  have h3 := h2.1
  simp only [beq_iff_eq] at h3
  rw [h3]
theorem stored_loc {sc : Scope} {x : Str} (h : stored sc x = true) : Loc sc x := by
  unfold stored at h
  rcases Bool.or_eq_true_iff.mp h with h | h
  · exact .inl (beq_iff_eq.mp h)
  · exact .inr (beq_iff_eq.mp h)
theorem visible_vis {sc : Scope} {x : Str} (h : visible sc x = true) : Vis sc x := by
  unfold visible at h
  rcases Bool.or_eq_true_iff.mp h with h | h
  · rcases Bool.or_eq_true_iff.mp h with h | h
    · exact .inl (beq_iff_eq.mp h)
    · exact .inr (.inl (beq_iff_eq.mp h))
  · exact .inr (.inr (beq_iff_eq.mp h))
section
variable {P : Pg} {L : Ln} {X : Cx} {xa : Xa} {T : Ct} {sc : Scope}
theorem tg_name (G : Nm T X sc) {x : Str} {pos : Pos} {i : Nat} (hst : stored sc x = true) (hi : slot T x = some i) : PG X (.Name x pos) (tgT P L X.K X.w xa (.nm i)) := by
  refine pgW (pg_name (i := i) (by rw [G.N]; exact G.nd) (by rw [G.N]; exact slot_get hi) (G.st x hst).1 (G.st x hst).2) fun v σ H Q ⟨fz, ρ, ws, h, y, ws', R, S, r, e, q⟩ => ?_
  cases e
  exact q _ (S.set i (sw.of r)) fun vs hv => wipe_set (hv i (by simp [tgSlots]))
theorem tg_ok (hs : P.so = L.so) (G : Nm T X sc) (hc : X.calm = true) : ∀ n : Nat, (∀ e t, tgOf T sc n e = some t → PG X e (tgT P L X.K X.w xa t) ∧ assignEach (e :: []) X.env = [(false, assign e X.env)] ∧ ∀ es, assignEach (e :: es) X.env = (false, assign e X.env) :: assignEach es X.env) ∧
    (∀ es ts, tgsOf T sc n es = some ts → PGs X es (tgsT P L X.K X.w xa ts) ∧ (assignEach es X.env).length = ts.length ∧ (assignEach es X.env).findIdx? (·.1) = none) := by
  intro n
  induction n with
  | zero => exact ⟨fun e t h => by simp [tgOf] at h, fun es ts h => by simp [tgsOf] at h⟩
  | succ n ih =>
    refine ⟨fun e t h => ?_, fun es ts h => ?_⟩
    · cases e with
      | Name x pos =>
        simp only [tgOf] at h
        split at h
        · rename_i hst
          obtain ⟨i, hi, rfl⟩ := Option.map_eq_some_iff.mp h
          exact ⟨tg_name G hst hi, rfl, fun _ => rfl⟩
        · cases h
      | Tuple es k pos =>
        simp only [tgOf] at h
        obtain ⟨ts, ht, rfl⟩ := Option.map_eq_some_iff.mp h
        obtain ⟨p1, p2, p3⟩ := ih.2 es ts ht
        refine ⟨?_, rfl, fun _ => rfl⟩
        have pT := pg_tup (k := k) (pos := pos) hc p1 (n := ts.length) p2 p3
        have pL := pg_lst (k := k) (pos := pos) hc p1 (n := ts.length) p2 p3
        refine ⟨fun pins s σ H v u Q I r hw => ?_⟩
        obtain ⟨fz, ρ, ws, h, y, ws', R, S, rv, e, q⟩ := hw
        unfold stT at e
        split at e
        · rename_i xs hq
          split at e
          · rename_i hl
            obtain ⟨a, vs, rfl, r2, z⟩ := sq_read (L := L.at fz) hs R rv hq
            have hlen : vs.length = ts.length := by rw [← r2.length]; exact hl
            have qq : tgsT P L X.K X.w xa ts vs σ H Q := ⟨fz, ρ, ws, h, xs, ws', R, S, r2, e, fun σ' S' hw => q σ' S' fun us hu => hw us fun i hi => hu i (by simpa [tgSlots] using hi)⟩
            rcases z with z | z
            · exact pL.run pins s σ H _ u Q I r ⟨a, vs, rfl, z, hlen, qq⟩
            · exact pT.run pins s σ H _ u Q I r ⟨a, vs, rfl, z, hlen, qq⟩
          · cases e
        · cases e
      | _ => simp [tgOf] at h
    · cases es with
      | nil =>
        simp only [tgsOf] at h
        cases h
        refine ⟨pgsW pgs_nil fun v σ H Q ⟨fz, ρ, ws, h, y, ws', R, S, rv, e, q⟩ => ?_, rfl, rfl⟩
        cases rv with
        | nil => cases e; exact ⟨rfl, q _ S fun _ _ => rfl⟩
        | cons _ _ => simp [stTs] at e
      | cons e es =>
        simp only [tgsOf] at h
        obtain ⟨t, ht, h⟩ := Option.bind_eq_some_iff.mp h
        obtain ⟨ts, hts, rfl⟩ := Option.map_eq_some_iff.mp h
        obtain ⟨p1, _, p3⟩ := ih.1 e t ht
        obtain ⟨q1, q2, q3⟩ := ih.2 es ts hts
        refine ⟨pgsW (pgs_cons p1 q1 (by rw [p3]; rfl)) fun v σ H Q ⟨fz, ρ, ws, h, y, ws', R, S, rv, e, q⟩ => ?_, by rw [p3]; simp [q2], by rw [p3, List.findIdx?_cons]; simp [q3]⟩
        cases rv with
        | nil => simp [stTs] at e
        | cons r rr =>
          rename_i x v xs vs _
          unfold stTs at e
          obtain ⟨ws1, e1, e2⟩ := Option.bind_eq_some_iff.mp e
          refine ⟨_, _, rfl, fz, ρ, ws, h, x, ws1, R, S, r, e1, fun σ1 S1 w1 => ⟨fz, ρ, ws1, h, xs, ws', R, S1, rr, e2, fun σ2 S2 w2 => q σ2 S2 fun us hu => ?_⟩⟩
          rw [w2 us fun i hi => hu i (by simp [tgsSlots, hi]), w1 us fun i hi => hu i (by simp [tgsSlots, hi])]
end
end MP

set_option Elab.async false
set_option linter.all false
set_option maxRecDepth 100000
/-! MP: what is walked; locks. -/
namespace MP
open PySem L2

theorem Rs.bind_assoc {α β γ : Type} (r : Rs α) (f : α → Hh → Rs β) (g : β → Hh → Rs γ) : (r.bind f).bind g = r.bind fun a h => (f a h).bind g := by cases r <;> rfl

/-! ### locks -/
section
variable {L : Ln} {K : PySem.W.Frag} {w : World} {ρ : List Addr} {h : Hh} {H : Hp} {fz fz' : Addr → Option (Obj × HO)}
theorem HR.lt (R : HR L K w ρ h H) {n : Nat} {a : Addr} (ea : ρ[n]? = some a) : n < h.sz := by rw [← R.len]; exact (List.getElem?_eq_some_iff.mp ea).1
theorem orl.fzEq {sa : Nat → Addr} {ca : Str → Addr} {a : Addr} {o : O} (r : orl sa ca fz ρ a H o) (e : fz' a = fz a) : orl sa ca fz' ρ a H o := by
  cases o with
  | frz o => obtain ⟨ob, u, x, z, r⟩ := r; exact ⟨ob, u, x, e.trans z, r⟩
  | _ => exact r
theorem HR.lock (R : HR (L.at fz) K w ρ h H) {n : Nat} {a : Addr} {kvs : List (Key × W)} (e : h.get n = some (.dic kvs)) (ea : ρ[n]? = some a) {vs : List (Key × V)} (ev : H a = some (.dK vs)) (r : kr L.sa ρ kvs vs) (od : Obj) :
    HR (L.at fun b => if b = a then some (od, .dK vs) else fz b) K w ρ (h.set n (.frz (.dic kvs))) (upd H a (.frz od (.dK vs))) where
  len := R.len
  nd := R.nd
  at_ := fun m hm => by
    rw [Hh.get_set (R.lt ea)]
    by_cases q : m = n
    · subst q
      exact ⟨_, a, if_pos rfl, ea, od, .dK vs, upd_same, if_pos rfl, vs, r, rfl⟩
    · obtain ⟨o', b, e1, e2, r'⟩ := R.at_ m hm
      rw [if_neg q]
      have ne := R.ne e2 ea q
      exact ⟨o', b, e1, e2, (r'.eqH (upd_ne ne)).fzEq (if_neg ne)⟩
  st := fun i o' z => (R.st i o' z).upd fun ob x z => by rw [ev] at z; cases z
theorem HR.frzAt (R : HR (L.at fz) K w ρ h H) {n : Nat} {a : Addr} {kvs : List (Key × W)} (e : h.get n = some (.frz (.dic kvs))) (ea : ρ[n]? = some a) : ∃ od vs, H a = some (.frz od (.dK vs)) ∧ fz a = some (od, .dK vs) ∧ kr L.sa ρ kvs vs := by
  obtain ⟨od, u, e1, e2, vs, r, rfl⟩ := R.objAt e ea
  exact ⟨od, vs, e1, e2, r⟩
theorem HR.unlock (R : HR (L.at fz') K w ρ h H) {n : Nat} {a : Addr} {kvs : List (Key × W)} (e : h.get n = some (.frz (.dic kvs))) (ea : ρ[n]? = some a) (hf : ∀ b, b ≠ a → fz' b = fz b) :
    ∃ od vs, H a = some (.frz od (.dK vs)) ∧ HR (L.at fz) K w ρ (h.set n (.dic kvs)) (upd H a (.dK vs)) := by
  obtain ⟨od, vs, e1, e2, r⟩ := R.frzAt e ea
  refine ⟨od, vs, e1, R.len, R.nd, fun m hm => ?_, fun i o z => ?_⟩
  · rw [Hh.get_set (R.lt ea)]
    by_cases q : m = n
    · subst q
      exact ⟨_, a, if_pos rfl, ea, .dK vs, upd_same, vs, r, rfl⟩
    · obtain ⟨o', b, e1, e2, r'⟩ := R.at_ m hm
      rw [if_neg q]
      have ne := R.ne e2 ea q
      exact ⟨o', b, e1, e2, (r'.eqH (upd_ne ne)).fzEq (hf b ne).symm⟩
  · have s := R.st i o z
    cases o with
    | rol ws =>
      obtain ⟨us, r, q⟩ := s
      refine ⟨us, r, ?_⟩
      rcases q with ⟨ob, q⟩ | q
      · refine .inl ⟨ob, ?_⟩
        rw [upd_ne (fun y => by rw [y, e1] at q; cases q)]
        exact q
      · exact .inr q
    | tup ws => exact s
    | dic kvs => exact s
    | _ => exact s.elim
end
section
variable {X : Cx}
/-- an object may be unlocked at the end -/
def unl (X : Cx) (Q : Hp → Prop) : Hp → Prop := fun H => Q H ∨ ∃ d od u, H d = some (.frz od u) ∧ (∀ o' u', X.H_0 d ≠ some (.frz o' u')) ∧ Q (upd H d u)
theorem unl_ok {pins : List (Addr × Obj)} {σ : L2.St} {H : Hp} {s : Shared} {Q : Hp → Prop} (I : Inv X pins σ H s) (h : unl X Q H) : ∃ H', Inv X pins σ H' s ∧ Q H' := by
  rcases h with h | ⟨d, od, u, e, hn, h⟩
  · exact ⟨H, I, h⟩
  · exact ⟨_, I.unlock e hn, h⟩
theorem pe_unl {e : Expr} {t : TE} (h : PE X e t) : PE X e (fun σ H Q => t σ H fun v H' => unl X (Q v) H') := ⟨fun pins s σ H Q I hw =>
  thn (h.run pins s σ H _ I hw) fun v s1 ⟨x, H1, I1, r, q⟩ => let ⟨H', I', q'⟩ := unl_ok I1 q; ⟨x, H', I', r, q'⟩⟩
theorem ps_unl {st : Stmt} {t : TS} (h : PS X st t) : PS X st (fun D σ H => t ⟨fun σ' H' => unl X (D.nx σ') H', fun v H' => unl X (D.rt v) H', fun σ' H' => unl X (D.bk σ') H', fun σ' H' => unl X (D.ct σ') H'⟩ σ H) := ⟨fun pins s σ H D I hw => by
  refine thn (h.run pins s σ H _ I hw) fun f s1 q => ?_
  cases f with
  | next => obtain ⟨σ', H', I2, q⟩ := q; obtain ⟨H3, I3, q⟩ := unl_ok I2 q; exact ⟨σ', H3, I3, q⟩
  | brk => obtain ⟨σ', H', I2, q⟩ := q; obtain ⟨H3, I3, q⟩ := unl_ok I2 q; exact ⟨σ', H3, I3, q⟩
  | cont => obtain ⟨σ', H', I2, q⟩ := q; obtain ⟨H3, I3, q⟩ := unl_ok I2 q; exact ⟨σ', H3, I3, q⟩
  | ret v => obtain ⟨x, σ', H', I2, r, q⟩ := q; obtain ⟨H3, I3, q⟩ := unl_ok I2 q; exact ⟨x, σ', H3, I3, r, q⟩⟩
end

/-! ### iterators -/
section
variable (P : Pg) (L : Ln) (K : PySem.W.Frag) (w : World) (W : WX) (xa : Xa) (H0 : Hp)
def nxR (ρ : List Addr) (J : It) (i : Nat) (H : Hp) : Nx → Prop
  | .stop => J.stop i H
  | .stuck => True
  | .it x h' => J.go i H ∧ ∀ v H', J.yld i H v H' → ∃ ρ', pre ρ ρ' ∧ HR L K w ρ' h' H' ∧ vr L.sa ρ' x v
def iR (ρ : List Addr) (k : Ik) (J : It) : Prop :=
  (∀ ρ2 h2 H2 i, pre ρ ρ2 → HR L K w ρ2 h2 H2 → nxR L K w ρ2 J i H2 (k.next P i h2)) ∧ ∀ n, k.isD = some n → ∃ a, ρ[n]? = some a ∧ ∀ o' u', H0 a ≠ some (.frz o' u')
/-- .. behind its lock -/
def pI (fz : Addr → Option (Obj × HO)) (ρ : List Addr) (r : Rs Ik) (E : Str → Addr → Hp → Prop) (R : It → Hp → Prop) : Prop := match r with
  | .ok k h2 => ∀ fz' ρ' H2 J, pre ρ ρ' → (∀ b, (∀ n, k.isD = some n → ρ'[n]? ≠ some b) → fz' b = fz b) → HR (L.at fz') K w ρ' h2 H2 → iR P (L.at fz') K w H0 ρ' k J → R J H2
  | .ex c n h' => ∀ ρ' H' d, pre ρ ρ' → HR (L.at fz) K w ρ' h' H' → ρ'[n]? = some d → E c d H'
  | .no => False
def tI (c : E) : TI := fun σ H R => ∃ fz ρ ws h, HR (L.at fz) K w ρ h H ∧ SR L xa ρ ws σ ∧ pI P L K w H0 fz ρ ((evI P c ws h).bind lockR) (wx W L σ) R
end
section
variable {P : Pg} {L : Ln} {K : PySem.W.Frag} {w : World} {W : WX} {xa : Xa} {H0 : Hp} {α β : Type} {rel : List Addr → α → β → Prop} {σ : L2.St} {H : Hp} {fz : Addr → Option (Obj × HO)} {ρ ρ' : List Addr} {ws : Sl} {h : Hh}
theorem pI.mono {r : Rs Ik} {E : Str → Addr → Hp → Prop} {R : It → Hp → Prop} (p : pI P L K w H0 fz ρ r E R) (h : pre ρ ρ') : pI P L K w H0 fz ρ' r E R := by
  cases r with
  | ok k h2 => exact fun fz' ρ2 H2 J h1 => p fz' ρ2 H2 J (h.trans h1)
  | ex c n h' => exact fun ρ2 H' d h1 => p ρ2 H' d (h.trans h1)
  | no => exact p
theorem stepI {g : Sl → Hh → Rs α} {k : α → Hh → Rs Ik} {Q : It → Hp → Prop} (R : HR (L.at fz) K w ρ h H) (S : SR L xa ρ ws σ) (p : pI P L K w H0 fz ρ ((g ws h).bind k) (wx W L σ) Q) :
    tG L K w W xa rel g σ H fun b H1 => ∃ ρ1 h1 a, pre ρ ρ1 ∧ HR (L.at fz) K w ρ1 h1 H1 ∧ SR L xa ρ1 ws σ ∧ rel ρ1 a b ∧ pI P L K w H0 fz ρ1 (k a h1) (wx W L σ) Q := by
  refine ⟨fz, ρ, ws, h, R, S, ?_⟩
  cases q : g ws h with
  | ok a h' => rw [q] at p; exact fun ρ' H' b pr R' r => ⟨ρ', h', a, pr, R', S.mono pr, r, pI.mono p pr⟩
  | ex c n h' => rw [q] at p; exact p
  | no => rw [q] at p; exact p
/-- what is walked is there -/
theorem pI_there {o : Option Ik} {E : Str → Addr → Hp → Prop} {Q : It → Hp → Prop} (p : pI P L K w H0 fz ρ ((ofO o h).bind lockR) E Q) : ∃ k h2, o = some k ∧ lockK k h = some h2 ∧ pI P L K w H0 fz ρ (.ok k h2) E Q := by
  cases o with
  | none => exact p.elim
  | some k =>
    change pI P L K w H0 fz ρ (lockR k h) E Q at p
    unfold lockR at p
    split at p
    · rename_i h2 e
      exact ⟨k, h2, rfl, e, p⟩
    · exact p.elim
theorem pI.flat {k : Ik} {h2 : Hh} {E : Str → Addr → Hp → Prop} {Q : It → Hp → Prop} {J : It} (p : pI P L K w H0 fz ρ (.ok k h2) E Q) (hk : k.isD = none) (e : lockK k h = some h2) (R : HR (L.at fz) K w ρ h H) (i : iR P (L.at fz) K w H0 ρ k J) : Q J H := by
  unfold lockK at e
  rw [hk] at e
  cases e
  exact p fz ρ H J (pre.refl ρ) (fun _ _ => rfl) R i
end
section
variable {P : Pg} {L : Ln} {K : PySem.W.Frag} {w : World} {H0 : Hp} {H : Hp} {ρ : List Addr} {h : Hh}
theorem sqB_read (hs : P.so = L.so) (R : HR L K w ρ h H) {t : Bool} {x : W} {v : V} {xs : List W} (r : vr L.sa ρ x v) (e : sqB P h t x = some xs) : ∃ a vs, v = .ref a ∧ vrs L.sa ρ xs vs ∧ (if t = true then SqT K H a vs else SqL K H a vs) := by
  unfold sqB at e
  split at e
  · cases e; rename_i q; obtain ⟨a, vs, r1, r2, r3⟩ := ob_lst hs R r q; exact ⟨a, vs, r1, r2, r3⟩
  · cases e; rename_i q; obtain ⟨a, vs, r1, r2, r3⟩ := ob_rol hs R r q; exact ⟨a, vs, r1, r2, r3⟩
  · cases e; rename_i q; obtain ⟨a, vs, r1, r2, r3⟩ := ob_tup hs R r q; exact ⟨a, vs, r1, r2, r3⟩
  · cases e
theorem iR_lst (hs : P.so = L.so) {x : W} {a : Addr} (r : vr L.sa ρ x (.ref a)) : iR P L K w H0 ρ (.sq false x) (Itl K a) := by
  refine ⟨fun ρ2 h2 H2 i pr R => ?_, fun n e => nomatch e⟩
  show nxR L K w ρ2 _ i H2 (match sqB P h2 false x with
    | some xs => (match xs[i]? with
      | some x => .it x h2
      | none => .stop)
    | none => .stuck)
  cases q : sqB P h2 false x with
  | none => trivial
  | some xs =>
    obtain ⟨b, vs, e, r2, z⟩ := sqB_read hs R (r.mono pr) q
    cases e
    have z : SqL K H2 a vs := z
    simp only
    cases q2 : xs[i]? with
    | none => exact ⟨vs, z, prd_none r2 q2⟩
    | some y =>
      obtain ⟨v, ev, rv⟩ := prd_get r2 q2
      refine ⟨⟨vs, v, z, ev⟩, fun u H3 ⟨e3, hu⟩ => ⟨ρ2, pre.refl _, by rw [e3]; exact R, ?_⟩⟩
      have := hu vs z
      rw [ev] at this
      cases this
      exact rv
theorem iR_tup (hs : P.so = L.so) {x : W} {a : Addr} (r : vr L.sa ρ x (.ref a)) : iR P L K w H0 ρ (.sq true x) (Itt K a) := by
  refine ⟨fun ρ2 h2 H2 i pr R => ?_, fun n e => nomatch e⟩
  show nxR L K w ρ2 _ i H2 (match sqB P h2 true x with
    | some xs => (match xs[i]? with
      | some x => .it x h2
      | none => .stop)
    | none => .stuck)
  cases q : sqB P h2 true x with
  | none => trivial
  | some xs =>
    obtain ⟨b, vs, e, r2, z⟩ := sqB_read hs R (r.mono pr) q
    cases e
    have z : SqT K H2 a vs := z
    simp only
    cases q2 : xs[i]? with
    | none => exact ⟨vs, z, prd_none r2 q2⟩
    | some y =>
      obtain ⟨v, ev, rv⟩ := prd_get r2 q2
      refine ⟨⟨vs, v, z, ev⟩, fun u H3 ⟨e3, hu⟩ => ⟨ρ2, pre.refl _, by rw [e3]; exact R, ?_⟩⟩
      have := hu vs z
      rw [ev] at this
      cases this
      exact rv
theorem iR_enum (hs : P.so = L.so) {x : W} {a : Addr} (r : vr L.sa ρ x (.ref a)) : iR P L K w H0 ρ (.enum x) (Ite K a) := by
  refine ⟨fun ρ2 h2 H2 i pr R => ?_, fun n e => nomatch e⟩
  show nxR L K w ρ2 _ i H2 (match sqB P h2 false x with
    | some xs => (match xs[i]? with
      | some x => .it (.ref h2.sz) (h2.push (.tup [.int i, x]))
      | none => .stop)
    | none => .stuck)
  cases q : sqB P h2 false x with
  | none => trivial
  | some xs =>
    obtain ⟨b, vs, e, r2, z⟩ := sqB_read hs R (r.mono pr) q
    cases e
    have z : SqL K H2 a vs := z
    simp only
    cases q2 : xs[i]? with
    | none => exact ⟨vs, z, prd_none r2 q2⟩
    | some y =>
      obtain ⟨v, ev, rv⟩ := prd_get r2 q2
      refine ⟨⟨vs, v, z, ev⟩, fun u H3 ⟨T, u2, eu, nT, e3, hu⟩ => ?_⟩
      have := hu vs z
      rw [ev] at this
      cases this
      subst eu
      subst e3
      refine ⟨ρ2 ++ [T], pre.snoc _ _, R.push nT ⟨[.int i, v], .cons rfl (.cons (rv.mono (pre.snoc _ _)) .nil), rfl⟩, T, by rw [← R.len]; simp, rfl⟩
theorem iR_str (x : Str) : iR P L K w H0 ρ (.st x) (Its x) := by
  refine ⟨fun ρ2 h2 H2 i pr R => ?_, fun n e => nomatch e⟩
  show nxR L K w ρ2 _ i H2 (match x.cps.toList[i]? with
    | some c => .it (.str ⟨#[c]⟩) h2
    | none => .stop)
  cases q : x.cps.toList[i]? with
  | none =>
    have := List.getElem?_eq_none_iff.mp q
    show x.cps.size ≤ i
    simpa using this
  | some c =>
    have q' : x.cps[i]? = some c := by simpa using q
    refine ⟨?_, fun v H3 ⟨e3, c', ec, ev⟩ => ⟨ρ2, pre.refl _, by rw [e3]; exact R, ?_⟩⟩
    · show i < x.cps.size
      have := (List.getElem?_eq_some_iff.mp q).1
      simpa using this
    · rw [q'] at ec
      cases ec
      exact ev
theorem iR_rng (lo : Int) (n : Nat) : iR P L K w H0 ρ (.rng lo n) (Itr lo n) := by
  refine ⟨fun ρ2 h2 H2 i pr R => ?_, fun n e => nomatch e⟩
  show nxR L K w ρ2 _ i H2 (if i < n then .it (.int (lo + i)) h2 else .stop)
  split
  · rename_i hi
    exact ⟨hi, fun v H3 ⟨e3, ev⟩ => ⟨ρ2, pre.refl _, by rw [e3]; exact R, ev⟩⟩
  · exact Nat.le_of_not_lt ‹_›
theorem frz_get (R : HR L K w ρ h H) {n : Nat} {a : Addr} {od : Obj} {vs : List (Key × V)} (ea : ρ[n]? = some a) (hf : L.fz a = some (od, .dK vs)) {kvs : List (Key × W)} (e : h.get n = some (.frz (.dic kvs))) : H a = some (.frz od (.dK vs)) ∧ kr L.sa ρ kvs vs := by
  obtain ⟨od', u, e1, e2, vs', r, e3⟩ := R.objAt e ea
  rw [hf] at e2
  cases e2
  cases e3
  exact ⟨e1, r⟩
theorem iR_dict {n : Nat} {a : Addr} {od : Obj} {vs : List (Key × V)} (ea : ρ[n]? = some a) (hf : L.fz a = some (od, .dK vs)) (h0 : ∀ o' u', H0 a ≠ some (.frz o' u')) :
    iR P L K w H0 ρ (.keys n) (Itk a od vs) ∧ iR P L K w H0 ρ (.vals n) (Itd a od vs) ∧ iR P L K w H0 ρ (.items n) (Iti a od vs) := by
  refine ⟨⟨fun ρ2 h2 H2 i pr R => ?_, fun m e => by cases e; exact ⟨a, ea, h0⟩⟩, ⟨fun ρ2 h2 H2 i pr R => ?_, fun m e => by cases e; exact ⟨a, ea, h0⟩⟩, ⟨fun ρ2 h2 H2 i pr R => ?_, fun m e => by cases e; exact ⟨a, ea, h0⟩⟩⟩
  · unfold Ik.next
    simp only
    split
    · rename_i kvs e
      obtain ⟨eH, r⟩ := frz_get R (pr.get ea) hf e
      cases q : kvs[i]? with
      | none => exact ⟨eH, prd_none r q⟩
      | some kv =>
        obtain ⟨kv', e1, e2, e3⟩ := prd_get r q
        refine ⟨⟨eH, (List.getElem?_eq_some_iff.mp e1).1⟩, fun v H3 ⟨e4, k, u, e5, e6⟩ => ⟨ρ2, pre.refl _, by rw [e4]; exact R, ?_⟩⟩
        rw [e1] at e5
        cases e5
        subst e6
        rw [e2]
        exact wK_r _
    · trivial
  · unfold Ik.next
    simp only
    split
    · rename_i kvs e
      obtain ⟨eH, r⟩ := frz_get R (pr.get ea) hf e
      cases q : kvs[i]? with
      | none => exact ⟨eH, prd_none r q⟩
      | some kv =>
        obtain ⟨kv', e1, e2, e3⟩ := prd_get r q
        refine ⟨⟨eH, (List.getElem?_eq_some_iff.mp e1).1⟩, fun v H3 ⟨e4, k, e5⟩ => ⟨ρ2, pre.refl _, by rw [e4]; exact R, ?_⟩⟩
        rw [e1] at e5
        cases e5
        exact e3
    · trivial
  · unfold Ik.next
    simp only
    split
    · rename_i kvs e
      obtain ⟨eH, r⟩ := frz_get R (pr.get ea) hf e
      cases q : kvs[i]? with
      | none => exact ⟨eH, prd_none r q⟩
      | some kv =>
        obtain ⟨kv', e1, e2, e3⟩ := prd_get r q
        refine ⟨⟨eH, (List.getElem?_eq_some_iff.mp e1).1⟩, fun v H3 ⟨T, k, u, e5, e6, nT, e7⟩ => ?_⟩
        rw [e1] at e5
        cases e5
        subst e6
        subst e7
        refine ⟨ρ2 ++ [T], pre.snoc _ _, R.push nT ⟨[kV k, u], .cons (by rw [e2]; exact wK_r _) (.cons (e3.mono (pre.snoc _ _)) .nil), rfl⟩, T, by rw [← R.len]; simp, rfl⟩
    · trivial
end
section
variable {P : Pg}
theorem refK_some {f : Nat → Ik} {x : W} {h : Hh} {k : Ik} (e : refK f x h = some k) : ∃ n, x = .ref n ∧ k = f n := by
  unfold refK at e
  split at e
  · split at e
    · cases e; exact ⟨_, rfl, rfl⟩
    · cases e
  · cases e
theorem seqB_some {x : W} {h : Hh} {k : Ik} (e : seqB P x h = some k) : ∃ t xs, k = .sq t x ∧ sqB P h t x = some xs := by
  unfold seqB at e
  split at e
  · rename_i q; cases e; obtain ⟨xs, q⟩ := Option.isSome_iff_exists.mp q; exact ⟨false, xs, rfl, q⟩
  · split at e
    · rename_i q; cases e; obtain ⟨xs, q⟩ := Option.isSome_iff_exists.mp q; exact ⟨true, xs, rfl, q⟩
    · cases e
theorem seqK_some {x : W} {h : Hh} {k : Ik} (e : seqK P x h = some k) : (∃ z, x = .str z ∧ k = .st z) ∨ (∃ n, x = .ref n ∧ k = .keys n) ∨ ∃ t xs, k = .sq t x ∧ sqB P h t x = some xs := by
  unfold seqK at e
  split at e
  · cases e; exact .inl ⟨_, rfl, rfl⟩
  · split at e
    · cases e; exact .inr (.inl ⟨_, rfl, rfl⟩)
    · exact .inr (.inr (seqB_some e))
  · exact .inr (.inr (seqB_some e))
  · cases e
end
section
variable {P : Pg} {L : Ln} {X : Cx} {V0 : WX} {xa : Xa}
/-- the lock of a dict that is walked -/
theorem pI_dict {K : PySem.W.Frag} {w : World} {pins : List (Addr × Obj)} {σ : L2.St} {H : Hp} {s : Shared} (I : Inv X pins σ H s) (f : Nat → Ik) (hf : ∀ n, (f n).isD = some n) {fz : Addr → Option (Obj × HO)} {ρ : List Addr} {h : Hh} {n : Nat} {h2 : Hh} {E : Str → Addr → Hp → Prop} {Q : It → Hp → Prop}
    (R : HR (L.at fz) K w ρ h H) {v : V} (r : vr L.sa ρ (.ref n) v) (e : lockK (f n) h = some h2) (p : pI P L K w X.H_0 fz ρ (.ok (f n) h2) E Q) {J : Addr → Obj → List (Key × V) → It}
    (hJ : ∀ fz' a od vs, ρ[n]? = some a → fz' a = some (od, .dK vs) → (∀ o' u', X.H_0 a ≠ some (.frz o' u')) → iR P (L.at fz') K w X.H_0 ρ (f n) (J a od vs)) :
    ∃ d o kvs H', v = .ref d ∧ Inv X pins σ H' s ∧ H' d = some (.frz o (.dK kvs)) ∧ Q (J d o kvs) H' := by
  unfold lockK at e
  rw [hf] at e
  simp only at e
  split at e
  · rename_i kvs q
    cases e
    obtain ⟨a, ea, rfl⟩ := r
    obtain ⟨vs, r2, e2⟩ := R.dicAt q ea
    obtain ⟨od, I2⟩ := I.lock e2 trivial
    have h0 := I.nofrz e2 trivial
    refine ⟨a, od, vs, _, rfl, I2, upd_same, ?_⟩
    refine p (fun b => if b = a then some (od, .dK vs) else fz b) ρ _ _ (pre.refl ρ) (fun b hb => ?_) (R.lock q ea e2 r2 od) (hJ _ a od vs ea (if_pos rfl) h0)
    exact if_neg fun z => hb n (hf n) (by rw [z]; exact ea)
  · cases e
/-- over a value -/
theorem pi_seq (hs : P.so = L.so) {tg e : Expr} {c : E} (he : PE X e (tD P L X.K X.w V0 xa c)) : PI X tg e (tI P L X.K X.w V0 xa X.H_0 (.seq c)) := by
  refine ⟨fun pins s σ H R I ⟨fz, ρ, ws, h, R0, S, p⟩ => ?_⟩
  rw [show evI P (.seq c) ws h = (ev P c ws h).bind fun x h1 => ofO (seqK P x h1) h1 from rfl, Rs.bind_assoc] at p
  have t := stepI (rel := vr L.sa) (g := ev P c) R0 S p
  refine thn (he.run pins s σ H _ I t) fun v s1 ⟨x, H1, I1, rv, ρ1, h1, a, pr, R1, S1, ra, p1⟩ => ?_
  obtain ⟨k, h2, ek, el, p2⟩ := pI_there p1
  rcases seqK_some ek with ⟨z, rfl, rfl⟩ | ⟨n, rfl, rfl⟩ | ⟨t, xs, rfl, ex⟩
  · cases ra
    have q := p2.flat rfl el R1 (iR_str z)
    obtain ⟨t, rfl⟩ := rv
    cases ha : z.cps.all (· < 128)
    · exact wpAny_pyIter_wide ha (pi_one (tk := s1.toks) I1 _ (turn_str _ z t "str_iterator" (.inr rfl)) ⟨_, Heap.get?_push_size _ rfl, rfl, rfl⟩ q)
    · exact wpAny_pyIter_ascii ha (pi_one (tk := s1.toks) I1 _ (turn_str _ z t "str_ascii_iterator" (.inl rfl)) ⟨_, Heap.get?_push_size _ rfl, rfl, rfl⟩ q)
  · obtain ⟨d, o, kvs, H2, rfl, I2, hd, q⟩ := pI_dict I1 .keys (fun _ => rfl) R1 ra el p2 (J := Itk) fun fz' a od vs e1 e2 e3 => (iR_dict (L := L.at fz') e1 e2 e3).1
    obtain rfl : v = Value.ref d := rv
    obtain ⟨hs, hgd, hx, es, ep, vs, hdt, hsz, kv, hm⟩ := I2.frzK hd
    refine iter_keys hs hgd hx hdt (pi_one (tk := s1.toks) I2 _ (turn_keys _ hdt) ⟨_, Heap.get?_push_size _ rfl, rfl, ?_⟩ q)
    rw [hsz] <;> rfl
  · obtain ⟨d, vs, rfl, r2, z⟩ := sqB_read (L := L.at fz) hs R1 ra ex
    obtain rfl : v = Value.ref d := rv
    cases t with
    | false =>
      have q := p2.flat rfl el R1 (iR_lst (L := L.at fz) hs ra)
      obtain ⟨its, rv, p, hz⟩ := I1.list z
      exact wpAny_pyIter_list p.isList (pi_one (tk := s1.toks) I1 _ (turn_list d _) ⟨_, Heap.get?_push_size _ rfl, rfl, rfl⟩ q)
    | true =>
      have q := p2.flat rfl el R1 (iR_tup (L := L.at fz) hs ra)
      obtain ⟨its, rv, p, hz⟩ := I1.tuple z
      exact wpAny_pyIter_tuple (show s1.heap.IsTuple d its.toArray from p) (pi_one (tk := s1.toks) I1 _ (turn_tuple d _) ⟨_, Heap.get?_push_size _ rfl, rfl, rfl⟩ q)
theorem enumK_some {x : W} {h : Hh} {k : Ik} (e : enumK P x h = some k) : k = .enum x ∧ ∃ xs, sqB P h false x = some xs := by
  unfold enumK at e
  split at e
  · rename_i q; cases e; obtain ⟨xs, q⟩ := Option.isSome_iff_exists.mp q; exact ⟨rfl, xs, q⟩
  · cases e
theorem pi_enumE (hs : P.so = L.so) {a : Expr} {c : E} {elts : List Expr} {kk : Nat} {tpos p pos : Pos} (hg : Gl X "enumerate") (hm : X.mg "enumerate" = none) (he : PE X a (tD P L X.K X.w V0 xa c)) (hst : starEach [a] X.env = [(false, eval a X.env)]) :
    PI X (.Tuple elts kk tpos) (.Call (.Name "enumerate" p) [a] [] pos) (tI P L X.K X.w V0 xa X.H_0 (.enum c)) := by
  refine piW (pi_enum hg hm (pa_cons he pa_nil hst) hst) fun σ H R ⟨fz, ρ, ws, h, R0, S, p⟩ => ?_
  rw [show evI P (.enum c) ws h = (ev P c ws h).bind fun x h1 => ofO (enumK P x h1) h1 from rfl, Rs.bind_assoc] at p
  refine tG.imp (stepI (rel := vr L.sa) (g := ev P c) R0 S p) fun x H1 ⟨ρ1, h1, a, pr, R1, S1, ra, p1⟩ => ?_
  obtain ⟨k, h2, ek, el, p2⟩ := pI_there p1
  obtain ⟨rfl, xs, ex⟩ := enumK_some ek
  obtain ⟨d, vs, rfl, r2, z⟩ := sqB_read (L := L.at fz) hs R1 ra ex
  exact ⟨d, vs, rfl, z, p2.flat rfl el R1 (iR_enum (L := L.at fz) hs ra)⟩
theorem pi_rng1 {tg a : Expr} {c : E} {p pos : Pos} (hg : Gl X "range") (hm : X.mg "range" = none) (he : PE X a (tD P L X.K X.w V0 xa c)) (hst : starEach [a] X.env = [(false, eval a X.env)]) :
    PI X tg (.Call (.Name "range" p) [a] [] pos) (tI P L X.K X.w V0 xa X.H_0 (.rng c)) := by
  refine piW (pi_range1 hg hm (pa_cons he pa_nil hst) hst) fun σ H R ⟨fz, ρ, ws, h, R0, S, p⟩ => ?_
  rw [show evI P (.rng c) ws h = (ev P c ws h).bind fun x h1 => ofO (rngK x) h1 from rfl, Rs.bind_assoc] at p
  refine tG.imp (stepI (rel := vr L.sa) (g := ev P c) R0 S p) fun x H1 ⟨ρ1, h1, a, pr, R1, S1, ra, p1⟩ => ?_
  obtain ⟨k, h2, ek, el, p2⟩ := pI_there p1
  unfold rngK at ek
  split at ek
  · split at ek
    · rename_i n hn
      cases ek
      cases ra
      exact ⟨n, rfl, by omega, by omega, p2.flat rfl el R1 (iR_rng _ _)⟩
    · cases ek
  · cases ek
theorem pi_rng2 {tg a b : Expr} {c d : E} {p pos : Pos} (hg : Gl X "range") (hm : X.mg "range" = none) (he : PE X a (tD P L X.K X.w V0 xa c)) (he2 : PE X b (tD P L X.K X.w V0 xa d)) (hst : starEach [a, b] X.env = [(false, eval a X.env), (false, eval b X.env)]) (hst2 : starEach [b] X.env = [(false, eval b X.env)]) :
    PI X tg (.Call (.Name "range" p) [a, b] [] pos) (tI P L X.K X.w V0 xa X.H_0 (.rng2 c d)) := by
  refine piW (pi_range2 hg hm (pa_cons he (pa_cons he2 pa_nil hst2) (by rw [hst, hst2])) hst hst2) fun σ H R ⟨fz, ρ, ws, h, R0, S, p⟩ => ?_
  rw [show evI P (.rng2 c d) ws h = (ev P c ws h).bind fun x h1 => (ev P d ws h1).bind fun y h2 => ofO (rngK2 x y) h2 from rfl, Rs.bind_assoc] at p
  refine tG.imp (stepI (rel := vr L.sa) (g := ev P c) R0 S p) fun x H1 ⟨ρ1, h1, a, pr, R1, S1, ra, p1⟩ => ?_
  rw [Rs.bind_assoc] at p1
  refine tG.imp (stepI (rel := vr L.sa) (g := ev P d) R1 S1 p1) fun y H2 ⟨ρ2, h2, b, pr2, R2, S2, rb, p2⟩ => ?_
  obtain ⟨k, h3, ek, el, p3⟩ := pI_there p2
  unfold rngK2 at ek
  split at ek
  · split at ek
    · rename_i lo n _ hn
      cases ek
      cases ra
      cases rb
      exact ⟨lo, n, rfl, by omega, p3.flat rfl el R2 (iR_rng _ _)⟩
    · cases ek
  · cases ek
/-- an expression's reading, behind which the abstract heap may still be told otherwise (a lock is laid) -/
def tMore (X : Cx) (te : TE) : TE := fun σ H Q => te σ H fun x H1 => ∀ pins s, Inv X pins σ H1 s → ∃ H2, Inv X pins σ H2 s ∧ Q x H2
theorem pe_more {e : Expr} {te : TE} (he : PE X e te) : PE X e (tMore X te) := ⟨fun pins s σ H Q I h => thn (he.run pins s σ H _ I h) fun _ t ⟨x, _, I1, r, more⟩ => let ⟨H2, I2, q⟩ := more pins t I1; ⟨x, H2, I2, r, q⟩⟩
theorem ref_read {c : E} {f : Nat → Ik} {J : Addr → Obj → List (Key × V) → It} (hf : ∀ n, (f n).isD = some n) {σ : L2.St} {H : Hp} {R : It → Hp → Prop} {fz : Addr → Option (Obj × HO)} {ρ : List Addr} {ws : Sl} {h : Hh} (R0 : HR (L.at fz) X.K X.w ρ h H) (S : SR L xa ρ ws σ)
    (p : pI P L X.K X.w X.H_0 fz ρ ((ev P c ws h).bind fun x h1 => (ofO (refK f x h1) h1).bind lockR) (wx V0 L σ) R)
    (hJ : ∀ {ρ : List Addr} {n : Nat} fz' a od vs, ρ[n]? = some a → fz' a = some (od, .dK vs) → (∀ o' u', X.H_0 a ≠ some (.frz o' u')) → iR P (L.at fz') X.K X.w X.H_0 ρ (f n) (J a od vs)) :
    tMore X (tD P L X.K X.w V0 xa c) σ H fun x H1 => ∃ d o kvs, x = .ref d ∧ H1 d = some (.frz o (.dK kvs)) ∧ R (J d o kvs) H1 := by
  refine tG.imp (stepI (rel := vr L.sa) (g := ev P c) R0 S p) fun x H1 ⟨ρ1, h1, a, pr, R1, S1, ra, p1⟩ pins s I1 => ?_
  obtain ⟨k, h2, ek, el, p2⟩ := pI_there p1
  obtain ⟨n, rfl, rfl⟩ := refK_some ek
  obtain ⟨d, o, kvs, H2, e, I2, hd, q⟩ := pI_dict I1 f hf R1 ra el p2 hJ
  exact ⟨H2, I2, d, o, kvs, e, hd, q⟩
theorem pi_itemsE {a : Expr} {c : E} {elts : List Expr} {kk : Nat} {tpos apos cpos : Pos} (he : PE X a (tD P L X.K X.w V0 xa c)) (hbase : attributeBase a "items" X.env (eval a X.env) = eval a X.env) (hline : (apos.endLine == cpos.line) = true) :
    PI X (.Tuple elts kk tpos) (.Call (.Attribute a "items" apos) [] [] cpos) (tI P L X.K X.w V0 xa X.H_0 (.items c)) := by
  refine piW (pi_items (pe_more he) hbase hline) fun σ H R ⟨fz, ρ, ws, h, R0, S, p⟩ => ?_
  rw [show evI P (.items c) ws h = (ev P c ws h).bind fun x h1 => ofO (refK .items x h1) h1 from rfl, Rs.bind_assoc] at p
  exact ref_read (f := .items) (J := Iti) (fun _ => rfl) R0 S p fun fz' a od vs e1 e2 e3 => (iR_dict (L := L.at fz') e1 e2 e3).2.2
theorem pi_valsE {tg a : Expr} {c : E} {apos cpos : Pos} (he : PE X a (tD P L X.K X.w V0 xa c)) (hbase : attributeBase a "values" X.env (eval a X.env) = eval a X.env) (hline : (apos.endLine == cpos.line) = true) :
    PI X tg (.Call (.Attribute a "values" apos) [] [] cpos) (tI P L X.K X.w V0 xa X.H_0 (.vals c)) := by
  refine piW (pi_values (pe_more he) hbase hline) fun σ H R ⟨fz, ρ, ws, h, R0, S, p⟩ => ?_
  rw [show evI P (.vals c) ws h = (ev P c ws h).bind fun x h1 => ofO (refK .vals x h1) h1 from rfl, Rs.bind_assoc] at p
  exact ref_read (f := .vals) (J := Itd) (fun _ => rfl) R0 S p fun fz' a od vs e1 e2 e3 => (iR_dict (L := L.at fz') e1 e2 e3).2.1
end
end MP

set_option Elab.async false
set_option linter.all false
set_option maxRecDepth 100000
/-! MP: expressions. -/
namespace MP
open PySem L2

def bltNs : List Str := ["len", "abs", "int", "all", "any", "sorted", "list", "tuple", "max", "min", "isinstance", "enumerate", "range", "str", "bool", "dict", "set", "repr"]
/-- a def's promise -/
def spF (P : Pg) (L : Ln) (K : PySem.W.Frag) (w : World) (f : Str × Str) : Sp := fun vs H Q E =>
  ∃ fz ρ ws h, HR (L.at fz) K w ρ h H ∧ vrs L.sa ρ ws vs ∧ pv (L.at fz) K w ρ (P.cl f ws h) (fun c d H => E (.ref (L.ca c)) (some d) H) Q
/-- what the __init__ of an own error promises: its arguments are its fields -/
def spX (C : Addr) (fs : List Str) : Sp := fun vs H Q _ => ∃ a ws, vs = .ref a :: ws ∧ ws.length = fs.length ∧ H a = some (exo a C none) ∧
  ∀ dx, H dx = none → dx ≠ a → Q .non (upd (upd H dx (exd dx (fs.zip ws).reverse)) a (exo a C (some dx)))
/-- an own class of which isinstance is asked -/
structure InsK (K : PySem.W.Frag) (C : Addr) : Prop where
  cl : Cls K C
  ha : PySem.W.findIn K (.ref C) "__class__" = some (some (.builtin "object.__class__"))
  hn : PySem.W.specialIn K (.builtin "object.__class__") "__get__" = some (some (.builtin "getset_descriptor.__get__"))
  htk : PySem.W.takesIn K (.builtin "object.__class__") = some true
  hm : PySem.W.mroIn K C (.type "object") = some true
def tyVal (L : Ln) : Ty → Value
  | .bi s => .type s
  | .own c => .ref (L.ca c)
section
variable (P : Pg) (L : Ln) (T : Ct) (k : Nat) (prog : Program) (w : World) (K : PySem.W.Frag) (mg : Str → Option Value) (base : Heap)
structure FnL (f : Str × Str) (a : Addr) (fd : FuncData) (ps : List Str) : Prop where
  bd : Binds K fd ps []
  ok : FnOk prog w K mg base (L2.CX prog w) k a fd ps (spF P L K w f)
/-- what the text's names stand for -/
structure Lk : Prop where
  so : P.so = L.so
  fn : ∀ f m, T.fns.lookup f = some m → ∃ a fd ps, mg f = some (.ref a) ∧ PySem.W.keepIn K (.ref a) = true ∧ FnL P L k prog w K mg base ("", f) a fd ps
  cls : ∀ c m, T.cls.lookup c = some m → mg c = some (.ref (L.ca c)) ∧ ∃ a fd ps, Mk K (L.ca c) a ∧ FnL P L k prog w K mg base (c, "__init__") a fd ps
  mt : ∀ c m, P.hm c m = true → ∃ a fd ps, Cls K (L.ca c) ∧ Meth K (L.ca c) m a ∧ FnL P L k prog w K mg base (c, m) a fd ps
  fd : ∀ c f, P.fd c f = true → Cls K (L.ca c) ∧ NoAttr K (L.ca c) f
  gl : ∀ x y, P.gl x = some y → ∃ v u, mg x = some u ∧ RelV v u ∧ vr L.sa [] y v
  bl : ∀ x, x ∈ bltNs → mg x = none
  ty : ∀ t c b, P.isT t c = some b → PySem.W.kitOne K (tyVal L t) (tyVal L c) = some b ∧ ∀ x, t = .own x → InsK K (L.ca x)
  tc : ∀ c, (T.cls.lookup c).isSome = true → mg c = some (.ref (L.ca c))
  ex : ∀ c, c ∈ T.exs → mg c = some (.ref (L.ca c)) ∧ ∀ fs, P.exf c = some fs → fs.length ≤ 1000 ∧ ∃ fI fd ps, OexC K (L.ca c) ∧ PySem.W.findIn K (.ref (L.ca c)) "__init__" = some (some (.ref fI)) ∧ PySem.W.typeIn K (.ref fI) = some (.type "function") ∧
    Binds K fd ps [] ∧ FnOk prog w K mg base (L2.CX prog w) k fI fd ps (spX (L.ca c) fs)
  ic : ∀ c' c b, P.isC c' c = some b → PySem.W.exmOne K (.ref (L.ca c')) (.ref (L.ca c)) = some b
  xf : ∀ c fs, P.exf c = some fs → XfC K (L.ca c) ∧ ∀ f ∈ fs, PySem.W.findIn K (.ref (L.ca c)) f = some none
end
/-- the context -/
structure Gd (P : Pg) (L : Ln) (T : Ct) (k : Nat) (X : Cx) (q : Bool) (sc : Scope) (V : WX) (xa : Xa) : Prop where
  N : X.N = T.N
  nd : T.N.Nodup
  se : X.env.scope = sc
  lk : Lk P L T k X.prog X.w X.K X.mg X.base
  calm : q = true → X.calm = true
  room : q = true → Room (k + 1) X.A
  un : X.A.units + 65 < cLine
  tk : Takes X V
  xs : ∀ a cls d, xa = some (a, cls, d) → ∃ X0 oe pn, X = Cx.suite X0 a ((a, oe) :: pn) ∧ Zc cls d oe ∧ ∃ vs, oe.data = .fields vs
/-- no exception -/
abbrev V0 : WX := fun _ _ _ _ => False
theorem relS_cell {sc : Scope} : ∀ {names : List (Str × NameKind)} {x : Str}, names.lookup x = some .cell →
    (names.map fun (n, k) => if (k == .free && sc.kind == .function && sc.names.lookup n == some .cell) then (n, .cell) else (n, k)).lookup x = some .cell
  | [], _, h => by simp at h
  | (n, k) :: r, x, h => by
    have ih := @relS_cell sc r x
    show List.lookup x ((if (k == NameKind.free && sc.kind == .function && sc.names.lookup n == some .cell) = true then (n, NameKind.cell) else (n, k)) :: _) = _
    cases hx : x == n with
    | true =>
      simp only [List.lookup_cons, hx] at h
      cases h
      simp [List.lookup_cons, hx]
    | false =>
      simp only [List.lookup_cons, hx] at h
      by_cases hc : (k == NameKind.free && sc.kind == .function && sc.names.lookup n == some .cell) = true
      · rw [if_pos hc]; simp only [List.lookup_cons, hx]; exact ih h
      · rw [if_neg hc]; simp only [List.lookup_cons, hx]; exact ih h
theorem blk_names {X : Cx} {s : Shared} {H : Hp} {scope : Scope} {C : Addr} {cl : List (Str × Addr)} {fp : List Addr} {T : Ct} (hN : X.N = T.N) (nd : T.N.Nodup) : Nm T (X.blk s H scope (compEnvC scope cl C X.env) fp) scope where
  N := hN
  nd := nd
  st := fun x h => by
    rcases stored_loc h with z | z
    · have e : (X.blk s H scope (compEnvC scope cl C X.env) fp).env.scope.names.lookup x = some .local := lookup_relabel_local (env := X.env) z
      exact ⟨.inl e, .inr e⟩
    · exact ⟨.inr (relS_cell (sc := X.env.scope) z), .inl (by show (scope.names.lookup x == some .cell) = true; rw [z]; rfl)⟩
theorem takes_no {X : Cx} : Takes X V0 := fun u s' ⟨_, _, _, _, _, _, _, _, _, _, _, _, _, _, _, _, z⟩ => z.elim
theorem Gd.xa0 {P : Pg} {L : Ln} {T : Ct} {k : Nat} {X : Cx} {q : Bool} {sc : Scope} {V : WX} {xa : Xa} (G : Gd P L T k X q sc V xa) (hc : X.calm = true) : xa = none := by
  cases xa with
  | none => rfl
  | some t =>
    obtain ⟨a, cls, d⟩ := t
    obtain ⟨X0, oe, pn, e, _⟩ := G.xs a cls d rfl
    have : X.calm = false := by rw [e]
    rw [hc] at this
    cases this
theorem Gd.blk {P : Pg} {L : Ln} {T : Ct} {k : Nat} {X : Cx} {sc : Scope} {V : WX} {xa : Xa} (G : Gd P L T k X true sc V xa) (s : Shared) (H : Hp) (scope : Scope) (C : Addr) (cl : List (Str × Addr)) (fp : List Addr) :
    Gd P L T k (X.blk s H scope (compEnvC scope cl C X.env) fp) true (relS scope sc) V0 xa where
  N := G.N
  nd := G.nd
  se := by rw [← G.se]; rfl
  lk := G.lk
  calm := G.calm
  room := G.room
  un := G.un
  tk := takes_no
  xs := fun a cls d e => by rw [G.xa0 (G.calm rfl)] at e; cases e
/-! ### argument lists -/
theorem star_cons {e : Expr} {es : List Expr} {env : Env} (h : notStar e = true) : starEach (e :: es) env = (false, eval e env) :: starEach es env := by
  cases e <;> first | rfl | (cases h)
theorem star_plain {pos : Pos} {env : Env} : ∀ {es : List Expr}, es.all notStar = true → (backTo pos (starEach es env)).any (·.1) = false
  | [], _ => rfl
  | e :: es, h => by
    obtain ⟨h1, h2⟩ := Bool.and_eq_true_iff.mp (show (notStar e && es.all notStar) = true from h)
    rw [star_cons h1]
    have ih := star_plain (pos := pos) (env := env) h2
    exact ih
theorem base_ok {T : Ct} {q : Bool} {n : Nat} {sc : Scope} {o : Expr} {c : E} (h : cE T q n sc o = some c) (f : Str) (env : Env) (whole : Sem Value) : attributeBase o f env whole = whole := by
  cases o with
  | Call g as kws pos =>
    cases g with
    | Name x p =>
      cases as with
      | nil =>
        cases kws with
        | nil => cases n <;> simp [cE] at h
        | cons _ _ => rfl
      | cons _ _ => rfl
    | _ => rfl
  | _ => rfl

/-! ### expressions, one by one -/
section
variable {P : Pg} {L : Ln} {T : Ct} {k : Nat} {X : Cx} {q : Bool} {sc : Scope} {V : WX} {xa : Xa}
theorem pe_false {e : Expr} : PE X e (fun _ _ _ => False) := ⟨fun _ _ _ _ _ _ h => h.elim⟩
theorem pe_no {e : Expr} {c : E} (h : ∀ ws h, ev P c ws h = .no) : PE X e (tD P L X.K X.w V xa c) := peW pe_false fun σ H Q ⟨fz, ρ, ws, hh, R, S, p⟩ => by rw [h] at p; exact p
theorem e_var (G : Gd P L T k X q sc V xa) {x : Str} {pos : Pos} {i : Nat} (hv : visible sc x = true) (ho : okName x = true) (hi : slot T x = some i) : PE X (.Name x pos) (tD P L X.K X.w V xa (.var i)) := by
  unfold okName at ho
  simp only [Bool.and_eq_true, Bool.not_eq_true'] at ho
  refine peW (pe_var (i := i) (by rw [G.N]; exact slot_get hi) (by rw [G.se]; exact visible_vis hv) ho.1.1 ho.1.2) fun σ H Q ⟨fz, ρ, ws, h, R, S, p⟩ => ?_
  unfold ev at p
  split at p
  · exact p.elim
  · rename_i x' hne hx
    obtain ⟨v, e1, r⟩ := S.get hx
    refine ⟨v, e1, p.ok R ?_⟩
    cases x' with
    | exn c n => exact absurd rfl (hne c n)
    | _ => exact r
  · exact p.elim
theorem gl_of (G : Gd P L T k X q sc V xa) {x : Str} (hg : isGl sc x = true) : Gl X x := by
  show X.env.scope.names.lookup x = some .globalImplicit
  rw [G.se]
  exact beq_iff_eq.mp hg
theorem ok_db {x : Str} (ho : okName x = true) : (x == ("__debug__" : Str)) = false ∧ x ≠ "__name__" := by
  unfold okName at ho
  simp only [Bool.and_eq_true, Bool.not_eq_true'] at ho
  exact ⟨ho.1.1, by simpa using ho.2⟩
theorem e_glb (G : Gd P L T k X q sc V xa) {x : Str} {pos : Pos} (hg : isGl sc x = true) (ho : okName x = true) : PE X (.Name x pos) (tD P L X.K X.w V xa (.glb x)) := by
  cases e : P.gl x with
  | none => exact pe_no fun ws h => by unfold ev; rw [e]; rfl
  | some y =>
    obtain ⟨v, u, hm, r, rv⟩ := G.lk.gl x y e
    refine peW (pe_glob (gl_of G hg) hm r (ok_db ho).1) fun σ H Q ⟨fz, ρ, ws, h, R, S, p⟩ => ?_
    unfold ev at p
    rw [e] at p
    exact p.ok R (rv.mono ⟨ρ, rfl⟩)
theorem e_con {c : Const} {j : Nat} {pos : Pos} {w : W} (h : wOf c = some w) : PE X (.Constant c j pos) (tD P L X.K X.w V xa (.con w)) := by
  cases c with
  | none => cases h; exact peW pe_non fun σ H Q ⟨fz, ρ, ws, h, R, S, p⟩ => p.ok R rfl
  | bool b => cases h; exact peW pe_bl fun σ H Q ⟨fz, ρ, ws, h, R, S, p⟩ => p.ok R rfl
  | int i => cases h; exact peW pe_int fun σ H Q ⟨fz, ρ, ws, h, R, S, p⟩ => p.ok R rfl
  | str x => cases h; exact peW pe_str fun σ H Q ⟨fz, ρ, ws, h, R, S, p⟩ => p.ok R rfl
  | _ => simp [wOf] at h
theorem e_bin {a b : Expr} {op : Operator} {o : BO} {pos : Pos} {ca cb : E} (h : boOf op = some o) (ha : PE X a (tD P L X.K X.w V xa ca)) (hb : PE X b (tD P L X.K X.w V xa cb)) : PE X (.BinOp a op b pos) (tD P L X.K X.w V xa (.bin o ca cb)) := by
  rw [← bop_boOf h]
  refine peW (pe_op (OpR.ex fun fz => or_bin (L := L.at fz) o) ha hb) fun σ H Q ⟨fz, ρ, ws, h, R, S, p⟩ => ?_
  refine tG.imp (step R S p) fun x H1 ⟨ρ1, h1, a', pr, R1, S1, rx, p1⟩ => ?_
  refine tG.imp (step R1 S1 p1) fun y H2 ⟨ρ2, h2, b', pr2, R2, S2, ry, p2⟩ => ?_
  exact ⟨fz, ρ2, h2, a', b', R2, rx.mono pr2, ry, _, p2⟩
theorem e_not (G : Gd P L T k X q sc V xa) {a : Expr} {pos : Pos} {c : E} (ha : PE X a (tD P L X.K X.w V xa c)) : PE X (.UnaryOp .Not a pos) (tD P L X.K X.w V xa (.not c)) := by
  refine peW (pe_notT ha) fun σ H Q ⟨fz, ρ, ws, h, R, S, p⟩ => ?_
  refine tG.imp (step R S p) fun x H1 ⟨ρ1, h1, a', pr, R1, S1, rx, p1⟩ => ?_
  change pst _ _ _ _ _ ((truR P a' h1).bind fun b h2 => .ok (W.bl (!b)) h2) _ _ at p1
  unfold truR at p1
  split at p1
  · rename_i b e
    exact ⟨b, tru_read (L := L.at fz) G.lk.so R1 rx e, p1.ok R1 rfl⟩
  · exact p1.elim
theorem t_not {a : Expr} {pos : Pos} {c : E} (ha : PT X a (tT P L X.K X.w V xa c)) : PT X (.UnaryOp .Not a pos) (tT P L X.K X.w V xa (.not c)) := by
  refine ptW (pt_not ha) fun σ H Q ⟨fz, ρ, ws, h, R, S, p⟩ => ?_
  change pst _ _ _ _ _ ((ev P (.not c) ws h).bind (truR P)) _ _ at p
  rw [show ev P (.not c) ws h = (ev P c ws h).bind fun x h1 => (truR P x h1).bind fun b h2 => .ok (.bl (!b)) h2 from rfl, ← Rs.bind_assoc, Rs.bind_assoc] at p
  refine tG.imp (step (rel := eqR) (g := fun ws h => (ev P c ws h).bind (truR P)) R S p) fun b H1 ⟨ρ1, h1, b', pr, R1, S1, e, p1⟩ => ?_
  cases e
  exact p1.ok R1 rfl
theorem e_neg {a : Expr} {pos : Pos} {c : E} (ha : PE X a (tD P L X.K X.w V xa c)) : PE X (.UnaryOp .USub a pos) (tD P L X.K X.w V xa (.neg c)) := by
  refine peW (pe_un un_neg ha) fun σ H Q ⟨fz, ρ, ws, h, R, S, p⟩ => ?_
  refine tG.imp (step R S p) fun x H1 ⟨ρ1, h1, a', pr, R1, S1, rx, p1⟩ => ?_
  cases a' with
  | int i => cases rx; exact ⟨i, rfl, p1.ok R1 rfl⟩
  | _ => exact p1.elim
theorem e_and (G : Gd P L T k X q sc V xa) {a b : Expr} {rest : List Expr} {pos : Pos} {c d : E} (ha : PE X a (tD P L X.K X.w V xa c)) (hb : PE X (.BoolOp .And (b :: rest) pos) (tD P L X.K X.w V xa d)) : PE X (.BoolOp .And (a :: b :: rest) pos) (tD P L X.K X.w V xa (.and c d)) := by
  refine peW (pe_andT ha hb) fun σ H Q ⟨fz, ρ, ws, h, R, S, p⟩ => ?_
  refine tG.imp (step R S p) fun x H1 ⟨ρ1, h1, a', pr, R1, S1, rx, p1⟩ => ?_
  cases e : tru P h1 a' with
  | none => simp only [e] at p1; exact p1.elim
  | some t =>
    refine ⟨t, tru_read (L := L.at fz) G.lk.so R1 rx e, ?_⟩
    simp only [e] at p1
    cases t with
    | true => exact ⟨fz, ρ1, ws, h1, R1, S1, p1⟩
    | false => exact p1.ok R1 rx
theorem e_or (G : Gd P L T k X q sc V xa) {a b : Expr} {rest : List Expr} {pos : Pos} {c d : E} (ha : PE X a (tD P L X.K X.w V xa c)) (hb : PE X (.BoolOp .Or (b :: rest) pos) (tD P L X.K X.w V xa d)) : PE X (.BoolOp .Or (a :: b :: rest) pos) (tD P L X.K X.w V xa (.or c d)) := by
  refine peW (pe_orT ha hb) fun σ H Q ⟨fz, ρ, ws, h, R, S, p⟩ => ?_
  refine tG.imp (step R S p) fun x H1 ⟨ρ1, h1, a', pr, R1, S1, rx, p1⟩ => ?_
  cases e : tru P h1 a' with
  | none => simp only [e] at p1; exact p1.elim
  | some t =>
    refine ⟨t, tru_read (L := L.at fz) G.lk.so R1 rx e, ?_⟩
    simp only [e] at p1
    cases t with
    | true => exact p1.ok R1 rx
    | false => exact ⟨fz, ρ1, ws, h1, R1, S1, p1⟩
/-- a test's value and its truth are one -/
theorem t_and {a b : Expr} {rest : List Expr} {pos : Pos} {c d : E} (ha : PT X a (tT P L X.K X.w V xa c)) (hb : PW X (.BoolOp .And (b :: rest) pos) (tT P L X.K X.w V xa d)) : PW X (.BoolOp .And (a :: b :: rest) pos) (tT P L X.K X.w V xa (.and c d)) := by
  refine pwW (pw_and ha hb) fun σ H Q ⟨fz, ρ, ws, h, R, S, p⟩ => ?_
  change pst _ _ _ _ _ ((ev P (.and c d) ws h).bind (truR P)) _ _ at p
  rw [show ev P (.and c d) ws h = (ev P c ws h).bind fun x h1 => match tru P h1 x with
    | some true => ev P d ws h1
    | some false => .ok x h1
    | none => .no from rfl, Rs.bind_assoc] at p
  have e : ((ev P c ws h).bind fun x h1 => ((match tru P h1 x with
    | some true => ev P d ws h1
    | some false => .ok x h1
    | none => .no : Rs W)).bind (truR P)) = ((ev P c ws h).bind (truR P)).bind fun b h1 => if b = true then (ev P d ws h1).bind (truR P) else .ok false h1 := by
    rw [Rs.bind_assoc]
    congr 1
    funext x h1
    unfold truR
    cases e : tru P h1 x with
    | none => rfl
    | some t => cases t with
      | true => rfl
      | false => show (match tru P h1 x with | some b => Rs.ok b h1 | none => .no) = _; rw [e]; rfl
  rw [e] at p
  refine tG.imp (step (rel := eqR) (g := fun ws h => (ev P c ws h).bind (truR P)) R S p) fun b H1 ⟨ρ1, h1, b', pr, R1, S1, e, p1⟩ => ?_
  cases e
  cases b with
  | true => exact ⟨fz, ρ1, ws, h1, R1, S1, p1⟩
  | false => exact p1.ok R1 rfl
theorem t_or {a b : Expr} {rest : List Expr} {pos : Pos} {c d : E} (ha : PT X a (tT P L X.K X.w V xa c)) (hb : PW X (.BoolOp .Or (b :: rest) pos) (tT P L X.K X.w V xa d)) : PW X (.BoolOp .Or (a :: b :: rest) pos) (tT P L X.K X.w V xa (.or c d)) := by
  refine pwW (pw_or ha hb) fun σ H Q ⟨fz, ρ, ws, h, R, S, p⟩ => ?_
  change pst _ _ _ _ _ ((ev P (.or c d) ws h).bind (truR P)) _ _ at p
  rw [show ev P (.or c d) ws h = (ev P c ws h).bind fun x h1 => match tru P h1 x with
    | some true => .ok x h1
    | some false => ev P d ws h1
    | none => .no from rfl, Rs.bind_assoc] at p
  have e : ((ev P c ws h).bind fun x h1 => ((match tru P h1 x with
    | some true => .ok x h1
    | some false => ev P d ws h1
    | none => .no : Rs W)).bind (truR P)) = ((ev P c ws h).bind (truR P)).bind fun b h1 => if b = true then .ok true h1 else (ev P d ws h1).bind (truR P) := by
    rw [Rs.bind_assoc]
    congr 1
    funext x h1
    unfold truR
    cases e : tru P h1 x with
    | none => rfl
    | some t => cases t with
      | true => show (match tru P h1 x with | some b => Rs.ok b h1 | none => .no) = _; rw [e]; rfl
      | false => rfl
  rw [e] at p
  refine tG.imp (step (rel := eqR) (g := fun ws h => (ev P c ws h).bind (truR P)) R S p) fun b H1 ⟨ρ1, h1, b', pr, R1, S1, e, p1⟩ => ?_
  cases e
  cases b with
  | true => exact p1.ok R1 rfl
  | false => exact ⟨fz, ρ1, ws, h1, R1, S1, p1⟩
theorem set_marks {b : Expr} (h : notSet b = true) (op : CmpOp) : behindInMarks op b = false := by
  cases b <;> first | rfl | (cases h)
theorem tO_cmp (fz : Addr → Option (Obj × HO)) {o : CO} {ca cb : E} {σ : L2.St} {H : Hp} {Q : L2.V → Hp → Prop} {ρ : List Addr} {ws : Sl} {h : Hh} (R : HR (L.at fz) X.K X.w ρ h H) (S : SR L xa ρ ws σ) (p : pv (L.at fz) X.K X.w ρ (ev P (.cmp o ca cb) ws h) (wx V L σ) Q) :
    tOp (fun x y H Q => ∃ fz, rCmp P (L.at fz) X.K X.w o x y H Q) (tD P L X.K X.w V xa ca) (tD P L X.K X.w V xa cb) σ H Q := by
  refine tG.imp (step R S p) fun x H1 ⟨ρ1, h1, a', pr, R1, S1, rx, p1⟩ => ?_
  refine tG.imp (step R1 S1 p1) fun y H2 ⟨ρ2, h2, b', pr2, R2, S2, ry, p2⟩ => ?_
  obtain ⟨w, e, p3⟩ := p2.ofO
  obtain ⟨t, e2, rfl⟩ := Option.map_eq_some_iff.mp e
  exact ⟨fz, ρ2, h2, a', b', t, R2, rx.mono pr2, ry, e2, p3.ok R2 rfl⟩
theorem e_cmp (G : Gd P L T k X q sc V xa) {a b : Expr} {op : CmpOp} {pos : Pos} {ca cb : E} (hn : notSet b = true) (ha : PE X a (tD P L X.K X.w V xa ca)) (hb : PE X b (tD P L X.K X.w V xa cb)) : PE X (.Compare a [op] [b] pos) (tD P L X.K X.w V xa (.cmp (coOf op) ca cb)) := by
  have ho := OpR.ex fun fz => or_cmp (X := X) (P := P) (L := L.at fz) G.un G.lk.so (coOf op)
  rw [cop_coOf] at ho
  exact peW (pe_cmpR ho ha hb (set_marks hn op)) fun σ H Q ⟨fz, ρ, ws, h, R, S, p⟩ => tO_cmp fz R S p
/-- a bool and its truth -/
theorem blT {L : Ln} {K : PySem.W.Frag} {w : World} {α : Type} {ρ : List Addr} {r : Rs α} {f : α → Hh → Rs W} {E : Str → Addr → Hp → Prop} {Q : Bool → Hp → Prop} (hf : ∀ a h w h', f a h = .ok w h' → ∃ b, w = .bl b) (p : pst L K w eqR ρ ((r.bind f).bind (truR P)) E Q) :
    pv L K w ρ (r.bind f) E (fun z H => ∃ b, z = .bl b ∧ Q b H) := by
  cases r with
  | ok a h =>
    change pst L K w eqR ρ ((f a h).bind (truR P)) E Q at p
    show pv L K w ρ (f a h) E _
    cases e : f a h with
    | ok w' h' =>
      obtain ⟨b, rfl⟩ := hf _ _ _ _ e
      rw [e] at p
      intro ρ' H' z pr R rz
      exact ⟨b, rz, p ρ' H' b pr R rfl⟩
    | ex c n h' => rw [e] at p; exact p
    | no => rw [e] at p; exact p
  | ex c n h => exact p
  | no => exact p
theorem bind_bl {r : Rs W} {g : W → Hh → Rs W} (hg : ∀ a h w h', g a h = .ok w h' → ∃ b, w = .bl b) {w : W} {h' : Hh} (e : r.bind g = .ok w h') : ∃ b, w = .bl b := by
  cases r with
  | ok a h => exact hg a h w h' e
  | ex c n h => cases e
  | no => cases e
theorem ofO_bl {o : Option Bool} {h h' : Hh} {w : W} (e : ofO (o.map W.bl) h = .ok w h') : ∃ b, w = .bl b := by
  cases o with
  | none => cases e
  | some b => cases e; exact ⟨b, rfl⟩
theorem t_cmp (G : Gd P L T k X q sc V xa) {a b : Expr} {op : CmpOp} {pos : Pos} {ca cb : E} (hn : notSet b = true) (ha : PE X a (tD P L X.K X.w V xa ca)) (hb : PE X b (tD P L X.K X.w V xa cb)) : PT X (.Compare a [op] [b] pos) (tT P L X.K X.w V xa (.cmp (coOf op) ca cb)) := by
  have ho := OpR.ex fun fz => or_cmp (X := X) (P := P) (L := L.at fz) G.un G.lk.so (coOf op)
  rw [cop_coOf] at ho
  exact ptW (pt_cmpR ho ha hb (set_marks hn op)) fun σ H Q ⟨fz, ρ, ws, h, R, S, p⟩ => tO_cmp fz R S (blT (f := fun x h1 => (ev P cb ws h1).bind fun y h2 => ofO ((cmpW P (coOf op) x y h2).map W.bl) h2) (fun a h w h' e => bind_bl (fun a h w h' e => ofO_bl e) e) p)
end
end MP

set_option Elab.async false
set_option linter.all false
set_option maxRecDepth 100000
/-! MP: [*d], d a dict: its keys. -/
namespace MP
open PySem L2
/-- what *d hands on -/
theorem star_dk {X : Cx} {pins : List (Addr × Obj)} {σ : L2.St} {H : Hp} {s : Shared} (hc : X.calm = true) {a : Addr} {kvs : List (Key × L2.V)} {E : Value → Shared → Prop} {Q : List Value → Shared → Prop} (I : Inv X pins σ H s) (hd : Rd H a (.dK kvs))
    (hQ : ∀ us s', Inv X pins σ H s' → Vals (kvs.map fun kv => kV kv.1) us → Q us s') : PySem.W.StarOf (model X.prog X.w) X.A E (.ref a) Q s := by
  obtain ⟨few, at_, ps, same, dict⟩ := dk_rd I.hok hd
  obtain ⟨ep, da⟩ := dict.dictAt
  have keys : (kvs.map fun kv => kV kv.1) = ps.map fun p => kV p.1 := by simpa [List.map_map, Function.comp_def] using congrArg (List.map kV) same.keys
  refine wpAny_bind (wpAny_specialOf dict.typeIs PySem.F.slot_dict_iter.lookup (wpAny_pure ⟨rfl, ?_⟩))
  refine PySem.W.kdu_collect (PySem.W.kdl_dict (knd := mixKind X.prog X.w) (kvs := ps) (ep := ep) at_) (I.ok.hd hc) da (by rw [← same.length]; exact few) fun h tk acc keep items => hQ _ _ (I.kept (t' := tk) keep) ?_
  rw [keys]
  exact keys_at (by rw [Array.length_toList]; exact items.1) fun j v z => items.2 j v (by rw [← Array.getElem?_toList]; exact z)
section
variable {X : Cx} {e : Expr} {es : List Expr} {te : TE} {t : TA} {p : Pos}
def tStarD (K : PySem.W.Frag) (te : TE) (t : TA) : TA := fun σ H Q => te σ H fun x H1 => ∃ a xs, x = L2.V.ref a ∧ (SqT K H1 a xs ∨ SqL K H1 a xs ∨ ∃ kvs : List (Key × L2.V), Rd H1 a (.dK kvs) ∧ xs = kvs.map fun kv => kV kv.1) ∧ t σ H1 fun ys H2 => Q (xs ++ ys) H2
theorem pa_starD (hc : X.calm = true) (he : PE X e te) (hr : PA X es t) : PA X (.Starred e p :: es) (tStarD X.K te t) := by
  refine ⟨fun pos pins s σ H Q I h => PySem.W.items_star (thn (he.run pins s σ H _ I h) fun v s1 ⟨y, H1, I1, ry, a, xs, ey, hx, q⟩ => ?_) rfl⟩
  subst ey
  cases (show v = Value.ref a from ry)
  have rest : ∀ us s2, Inv X pins σ H1 s2 → Vals xs us → wpAny (model X.prog X.w) X.A (PySem.spliced (backTo pos (starEach es X.env))) (fun vs s3 => AP X pins σ Q (us ++ vs) s3) X.xe s2 := fun us s2 I2 rv =>
    thn (hr.run pos pins s2 σ H1 _ I2 q) fun ws s3 ⟨vs, H3, I3, r3, q3⟩ => ⟨_, H3, I3, rv.append r3, q3⟩
  rcases hx with z | z | ⟨kvs, hd, rfl⟩
  · exact StX.star_any I1 (.inl z) rest
  · exact StX.star_any I1 (.inr z) rest
  · exact star_dk hc I1 hd rest
end
end MP

set_option Elab.async false
set_option linter.all false
set_option maxRecDepth 100000
/-! MP: expressions, part two. -/
namespace MP
open PySem L2

section
variable {P : Pg} {L : Ln} {T : Ct} {k : Nat} {X : Cx} {q : Bool} {sc : Scope} {V : WX} {xa : Xa}
/-! ### chains -/
theorem tO_chain (fz : Addr → Option (Obj × HO)) {o o' : CO} {ca cb cc : E} {σ : L2.St} {H : Hp} {Q : L2.V → Hp → Prop} {ρ : List Addr} {ws : Sl} {h : Hh} (R : HR (L.at fz) X.K X.w ρ h H) (S : SR L xa ρ ws σ) (p : pv (L.at fz) X.K X.w ρ (ev P (.cmp2 o o' ca cb cc) ws h) (wx V L σ) Q) :
    tChain (fun x y H Q => ∃ fz, rCmp P (L.at fz) X.K X.w o x y H Q) (fun x y H Q => ∃ fz, rCmp P (L.at fz) X.K X.w o' x y H Q) (tD P L X.K X.w V xa ca) (tD P L X.K X.w V xa cb) (tD P L X.K X.w V xa cc) σ H Q := by
  refine tG.imp (step R S p) fun x H1 ⟨ρ1, h1, a', pr, R1, S1, rx, p1⟩ => ?_
  refine tG.imp (step R1 S1 p1) fun y H2 ⟨ρ2, h2, b', pr2, R2, S2, ry, p2⟩ => ?_
  cases e : cmpW P o a' b' h2 with
  | none => simp only [e] at p2; exact p2.elim
  | some t =>
    refine ⟨fz, ρ2, h2, a', b', t, R2, rx.mono pr2, ry, e, t, rfl, ?_⟩
    simp only [e] at p2
    cases t with
    | false => exact p2.ok R2 rfl
    | true =>
      refine tG.imp (step R2 S2 p2) fun z H3 ⟨ρ3, h3, c', pr3, R3, S3, rz, p3⟩ => ?_
      obtain ⟨w, e, p4⟩ := p3.ofO
      obtain ⟨u, e2, rfl⟩ := Option.map_eq_some_iff.mp e
      exact ⟨fz, ρ3, h3, b', c', u, R3, ry.mono pr3, rz, e2, p4.ok R3 rfl⟩
theorem e_chain (G : Gd P L T k X q sc V xa) {a b c : Expr} {op op' : CmpOp} {pos : Pos} {ca cb cc : E} (hn : notSet c = true) (ha : PE X a (tD P L X.K X.w V xa ca)) (hb : PE X b (tD P L X.K X.w V xa cb)) (hc : PE X c (tD P L X.K X.w V xa cc)) :
    PE X (.Compare a [op, op'] [b, c] pos) (tD P L X.K X.w V xa (.cmp2 (coOf op) (coOf op') ca cb cc)) := by
  have ho := OpR.ex fun fz => or_cmp (X := X) (P := P) (L := L.at fz) G.un G.lk.so (coOf op)
  have ho' := OpR.ex fun fz => or_cmp (X := X) (P := P) (L := L.at fz) G.un G.lk.so (coOf op')
  rw [cop_coOf] at ho ho'
  exact peW (pe_chain ho ho' ha hb hc (set_marks hn op')) fun σ H Q ⟨fz, ρ, ws, h, R, S, p⟩ => tO_chain fz R S p
theorem t_chain (G : Gd P L T k X q sc V xa) {a b c : Expr} {op op' : CmpOp} {pos : Pos} {ca cb cc : E} (hn : notSet c = true) (ha : PE X a (tD P L X.K X.w V xa ca)) (hb : PE X b (tD P L X.K X.w V xa cb)) (hc : PE X c (tD P L X.K X.w V xa cc)) :
    PT X (.Compare a [op, op'] [b, c] pos) (tT P L X.K X.w V xa (.cmp2 (coOf op) (coOf op') ca cb cc)) := by
  have ho := OpR.ex fun fz => or_cmp (X := X) (P := P) (L := L.at fz) G.un G.lk.so (coOf op)
  have ho' := OpR.ex fun fz => or_cmp (X := X) (P := P) (L := L.at fz) G.un G.lk.so (coOf op')
  rw [cop_coOf] at ho ho'
  refine ptW (pt_chain ho ho' ha hb hc (set_marks hn op')) fun σ H Q ⟨fz, ρ, ws, h, R, S, p⟩ => tO_chain fz R S ?_
  refine blT (f := fun x h1 => (ev P cb ws h1).bind fun y h2 => match cmpW P (coOf op) x y h2 with
    | some true => (ev P cc ws h2).bind fun z h3 => ofO ((cmpW P (coOf op') y z h3).map W.bl) h3
    | some false => .ok (.bl false) h2
    | none => .no) (fun a h w h' e => bind_bl (fun a h w h' e => ?_) e) p
  split at e
  · exact bind_bl (fun a h w h' e => ofO_bl e) e
  · cases e; exact ⟨false, rfl⟩
  · cases e
/-! ### a if c else b -/
theorem ite_eq {α : Type} {c : E} {ws : Sl} {h : Hh} {f g : Hh → Rs α} : ((ev P c ws h).bind fun x h1 => match tru P h1 x with
    | some true => f h1
    | some false => g h1
    | none => .no) = ((ev P c ws h).bind (truR P)).bind fun b h1 => if b = true then f h1 else g h1 := by
  rw [Rs.bind_assoc]
  congr 1
  funext x h1
  unfold truR
  cases e : tru P h1 x with
  | none => rfl
  | some t => cases t <;> rfl
theorem e_ite {c a b : Expr} {pos : Pos} {cc ca cb : E} (hc : PT X c (tT P L X.K X.w V xa cc)) (ha : PE X a (tD P L X.K X.w V xa ca)) (hb : PE X b (tD P L X.K X.w V xa cb)) : PE X (.IfExp c a b pos) (tD P L X.K X.w V xa (.ite cc ca cb)) := by
  refine peW (pe_ifExp hc ha hb) fun σ H Q ⟨fz, ρ, ws, h, R, S, p⟩ => ?_
  rw [show ev P (.ite cc ca cb) ws h = (ev P cc ws h).bind fun x h1 => match tru P h1 x with
    | some true => ev P ca ws h1
    | some false => ev P cb ws h1
    | none => .no from rfl, ite_eq] at p
  refine tG.imp (step (rel := eqR) (g := fun ws h => (ev P cc ws h).bind (truR P)) R S p) fun t H1 ⟨ρ1, h1, t', pr, R1, S1, e, p1⟩ => ?_
  cases e
  cases t with
  | true => exact ⟨fz, ρ1, ws, h1, R1, S1, p1⟩
  | false => exact ⟨fz, ρ1, ws, h1, R1, S1, p1⟩
theorem t_ite {c a b : Expr} {pos : Pos} {cc ca cb : E} (hc : PT X c (tT P L X.K X.w V xa cc)) (ha : PT X a (tT P L X.K X.w V xa ca)) (hb : PT X b (tT P L X.K X.w V xa cb)) : PT X (.IfExp c a b pos) (tT P L X.K X.w V xa (.ite cc ca cb)) := by
  refine ⟨fun pins s σ H Q I ⟨fz, ρ, ws, h, R, S, p⟩ => ?_⟩
  have e : (ev P (.ite cc ca cb) ws h).bind (truR P) = ((ev P cc ws h).bind (truR P)).bind fun b h1 => if b = true then (ev P ca ws h1).bind (truR P) else (ev P cb ws h1).bind (truR P) := by
    rw [← ite_eq, show ev P (.ite cc ca cb) ws h = (ev P cc ws h).bind fun x h1 => match tru P h1 x with
    | some true => ev P ca ws h1
    | some false => ev P cb ws h1
    | none => .no from rfl, Rs.bind_assoc]
    congr 1
    funext x h1
    cases tru P h1 x with
    | none => rfl
    | some t => cases t <;> rfl
  change pst _ _ _ _ _ ((ev P (.ite cc ca cb) ws h).bind (truR P)) _ _ at p
  rw [e] at p
  refine PyProof.Rows.isTrue_IfExp (thn (hc.run pins s σ H _ I (step (rel := eqR) (g := fun ws h => (ev P cc ws h).bind (truR P)) R S p)) fun t s1 ⟨H1, I1, ρ1, h1, t', pr, R1, S1, e, p1⟩ => ?_)
  cases e
  cases t with
  | true => exact ha.run pins s1 σ H1 Q I1 ⟨fz, ρ1, ws, h1, R1, S1, p1⟩
  | false => exact hb.run pins s1 σ H1 Q I1 ⟨fz, ρ1, ws, h1, R1, S1, p1⟩
/-! ### argument lists -/
theorem a_nil : PA X [] (tA P L X.K X.w V xa []) := paW pa_nil fun σ H Q ⟨fz, ρ, ws, h, R, S, p⟩ => p.ok R .nil
theorem a_cons {e : Expr} {es : List Expr} {c : E} {cs : List E} (hs : isStar c = false) (hn : notStar e = true) (he : PE X e (tD P L X.K X.w V xa c)) (hr : PA X es (tA P L X.K X.w V xa cs)) : PA X (e :: es) (tA P L X.K X.w V xa (c :: cs)) := by
  refine paW (pa_cons he hr (star_cons hn)) fun σ H Q ⟨fz, ρ, ws, h, R, S, p⟩ => ?_
  have e : evs P (c :: cs) ws h = (ev P c ws h).bind fun x h1 => (evs P cs ws h1).bind fun ys h2 => .ok (x :: ys) h2 := by
    have : evs P (c :: cs) ws h = ((ev P c ws h).bind fun x h1 => Rs.ok [x] h1).bind fun xs h1 => (evs P cs ws h1).bind fun ys h2 => .ok (xs ++ ys) h2 := by
      cases c <;> first | rfl | (cases hs)
    rw [this, Rs.bind_assoc]
    rfl
  rw [e] at p
  refine tG.imp (step (rel := vr L.sa) R S p) fun x H1 ⟨ρ1, h1, a', pr, R1, S1, rx, p1⟩ => ?_
  refine tG.imp (step (rel := vrs L.sa) R1 S1 p1) fun xs H2 ⟨ρ2, h2, as', pr2, R2, S2, rxs, p2⟩ => ?_
  exact p2.ok R2 (.cons (rx.mono pr2) rxs)
theorem star_read {K : PySem.W.Frag} {w : World} {ρ : List Addr} {h : Hh} {H : Hp} (hs : P.so = L.so) (R : HR L K w ρ h H) {x : W} {v : L2.V} {xs : List W} (r : vr L.sa ρ x v) (e : starW P x h = some xs) :
    ∃ a vs, v = .ref a ∧ vrs L.sa ρ xs vs ∧ (SqT K H a vs ∨ SqL K H a vs ∨ ∃ kvs : List (Key × L2.V), Rd H a (.dK kvs) ∧ vs = kvs.map fun kv => kV kv.1) := by
  unfold starW at e
  split at e
  · rename_i ys q
    cases e
    obtain ⟨a, vs, rfl, r2, z⟩ := sq_read hs R r q
    rcases z with z | z
    · exact ⟨a, vs, rfl, r2, .inr (.inl z)⟩
    · exact ⟨a, vs, rfl, r2, .inl z⟩
  · split at e
    · split at e
      · rename_i kvs q
        cases e
        rcases ob_dic hs R r q with ⟨n, a, us, _, _, rfl, rk, rd⟩ | ⟨i, z, _⟩
        · exact ⟨a, _, rfl, wkeys_r rk, .inr (.inr ⟨us, rd, rfl⟩)⟩
        · cases z
      · cases e
    · cases e
theorem a_star (G : Gd P L T k X q sc V xa) (hq : q = true) {e : Expr} {es : List Expr} {sp : Pos} {c : E} {cs : List E} (he : PE X e (tD P L X.K X.w V xa c)) (hr : PA X es (tA P L X.K X.w V xa cs)) : PA X (.Starred e sp :: es) (tA P L X.K X.w V xa (.star c :: cs)) := by
  refine paW (pa_starD (G.calm hq) he hr) fun σ H Q ⟨fz, ρ, ws, h, R, S, p⟩ => ?_
  have e : evs P (.star c :: cs) ws h = (ev P c ws h).bind fun x h1 => (ofO (starW P x h1) h1).bind fun xs h1 => (evs P cs ws h1).bind fun ys h2 => .ok (xs ++ ys) h2 := by
    have : evs P (.star c :: cs) ws h = ((ev P c ws h).bind fun x h1 => ofO (starW P x h1) h1).bind fun xs h1 => (evs P cs ws h1).bind fun ys h2 => .ok (xs ++ ys) h2 := rfl
    rw [this, Rs.bind_assoc]
  rw [e] at p
  refine tG.imp (step (rel := vr L.sa) R S p) fun x H1 ⟨ρ1, h1, a', pr, R1, S1, rx, p1⟩ => ?_
  cases eq : starW P a' h1 with
  | none => rw [eq] at p1; exact p1.elim
  | some xs =>
    rw [eq] at p1
    obtain ⟨a, vs, rfl, r2, z⟩ := star_read (L := L.at fz) G.lk.so R1 rx eq
    refine ⟨a, vs, rfl, z, ?_⟩
    refine tG.imp (step (rel := vrs L.sa) R1 S1 p1) fun ys H2 ⟨ρ2, h2, as', pr2, R2, S2, rys, p2⟩ => ?_
    exact p2.ok R2 (prd_app (r2.mono pr2) rys)
/-! ### displays -/
theorem e_tup {es : List Expr} {cs : List E} {x1 : Nat} {pos : Pos} (h : PA X es (tA P L X.K X.w V xa cs)) : PE X (.Tuple es x1 pos) (tD P L X.K X.w V xa (.tup cs)) := by
  refine peW (pe_tup h) fun σ H Q ⟨fz, ρ, ws, h, R, S, p⟩ => ?_
  refine tG.imp (step (rel := vrs L.sa) R S p) fun xs H1 ⟨ρ1, h1, a', pr, R1, S1, rx, p1⟩ => ?_
  exact pv.newT R1 rx p1
theorem e_lst {es : List Expr} {cs : List E} {pos : Pos} (h : PA X es (tA P L X.K X.w V xa cs)) : PE X (.List es pos) (tD P L X.K X.w V xa (.lst cs)) := by
  refine peW (pe_lst h) fun σ H Q ⟨fz, ρ, ws, h, R, S, p⟩ => ?_
  refine tG.imp (step (rel := vrs L.sa) R S p) fun xs H1 ⟨ρ1, h1, a', pr, R1, S1, rx, p1⟩ => ?_
  exact pv.newL R1 rx p1
theorem e_dsp {pos : Pos} : PE X (.Dict [] [] pos) (tD P L X.K X.w V xa (.dsp [] [])) :=
  peW pe_dnewK fun σ H Q ⟨fz, ρ, ws, h, R, S, p⟩ => pv.push R p fun q => ⟨[], .nil, rfl⟩
/-! ### subscripts, slices -/
theorem plain_ix {b : Expr} {T : Ct} {q : Bool} {n : Nat} {sc : Scope} {c : E} (h : cE T q n sc b = some c) : PlainIx b := by
  intro o i
  cases b with
  | Slice _ _ _ _ => cases n <;> simp [cE] at h
  | _ => rfl
theorem e_idx (G : Gd P L T k X q sc V xa) {a b : Expr} {pos : Pos} {ca cb : E} (hp : PlainIx b) (ha : PE X a (tD P L X.K X.w V xa ca)) (hb : PE X b (tD P L X.K X.w V xa cb)) : PE X (.Subscript a b pos) (tD P L X.K X.w V xa (.idx ca cb)) := by
  refine peW (pe_ix (IxR.ex fun fz => or_idx (X := X) (P := P) (L := L.at fz) G.un G.lk.so) ha hb hp) fun σ H Q ⟨fz, ρ, ws, h, R, S, p⟩ => ?_
  refine tG.imp (step (rel := vr L.sa) R S p) fun x H1 ⟨ρ1, h1, a', pr, R1, S1, rx, p1⟩ => ?_
  refine tG.imp (step (rel := vr L.sa) R1 S1 p1) fun y H2 ⟨ρ2, h2, b', pr2, R2, S2, ry, p2⟩ => ?_
  obtain ⟨c, e, p3⟩ := p2.ofO
  exact ⟨fz, ρ2, h2, a', b', c, R2, rx.mono pr2, ry, e, fun z rz => p3.ok R2 rz⟩
theorem o_none : PO X none (tO P L X.K X.w V xa none) := poW po_none fun σ H Q ⟨fz, ρ, ws, h, R, S, p⟩ => p.ok R rfl
theorem o_some {e : Expr} {c : E} (he : PE X e (tD P L X.K X.w V xa c)) : PO X (some e) (tO P L X.K X.w V xa (some c)) := by
  refine poW (po_some he) fun σ H Q ⟨fz, ρ, ws, h, R, S, p⟩ => ?_
  refine tG.imp (step (rel := vr L.sa) R S p) fun x H1 ⟨ρ1, h1, a', pr, R1, S1, rx, p1⟩ => ?_
  cases a' with
  | int i => cases rx; exact ⟨i, rfl, p1.ok R1 rfl⟩
  | _ => exact p1.elim
theorem e_slc (G : Gd P L T k X q sc V xa) {a : Expr} {lo hi : Option Expr} {p2 pos : Pos} {ca : E} {cl ch : Option E} (ha : PE X a (tD P L X.K X.w V xa ca)) (hl : PO X lo (tO P L X.K X.w V xa cl)) (hh : PO X hi (tO P L X.K X.w V xa ch)) :
    PE X (.Subscript a (.Slice lo hi none p2) pos) (tD P L X.K X.w V xa (.slc ca cl ch)) := by
  refine peW (pe_slice (SlR.ex fun fz => sr_slc (X := X) (P := P) (L := L.at fz) G.lk.so) ha hl hh) fun σ H Q ⟨fz, ρ, ws, h, R, S, p⟩ => ?_
  refine tG.imp (step (rel := vr L.sa) R S p) fun x H1 ⟨ρ1, h1, a', pr, R1, S1, rx, p1⟩ => ?_
  refine tG.imp (step (rel := eqR) R1 S1 p1) fun y H2 ⟨ρ2, h2, l, pr2, R2, S2, el, p2⟩ => ?_
  refine tG.imp (step (rel := eqR) R2 S2 p2) fun z H3 ⟨ρ3, h3, u, pr3, R3, S3, eu, p3⟩ => ?_
  cases el
  cases eu
  exact ⟨fz, ρ3, h3, a', _, R3, (rx.mono pr2).mono pr3, p3⟩
theorem e_rev (G : Gd P L T k X q sc V xa) {a : Expr} {j : Nat} {p1 p2 p3 pos : Pos} {ca : E} (ha : PE X a (tD P L X.K X.w V xa ca)) :
    PE X (.Subscript a (.Slice none none (some (.UnaryOp .USub (.Constant (.int 1) j p1) p2)) p3) pos) (tD P L X.K X.w V xa (.rev ca)) := by
  refine peW (pe_revL ha) fun σ H Q ⟨fz, ρ, ws, h, R, S, p⟩ => ?_
  refine tG.imp (step (rel := vr L.sa) R S p) fun x H1 ⟨ρ1, h1, a', pr, R1, S1, rx, p1⟩ => ?_
  cases e : ob P h1 a' with
  | none => simp only [e] at p1; exact p1.elim
  | some o =>
    cases o with
    | lst xs =>
      simp only [e] at p1
      obtain ⟨a, vs, rfl, r2, z⟩ := ob_lst (L := L.at fz) G.lk.so R1 rx e
      exact ⟨a, vs, rfl, z, pv.push R1 p1 fun q => ⟨_, prd_rev (r2.mono (pre.snoc _ _)), rfl⟩⟩
    | _ => simp only [e] at p1; exact p1.elim
/-! ### fields -/
theorem insW_some {w : W} {h : Hh} {n : Nat} {c : Str} {fs : List (Str × W)} (e : insW w h = some (n, c, fs)) : w = .ref n ∧ h.get n = some (.ins c fs) := by
  unfold insW at e
  split at e
  · rename_i m
    obtain ⟨x, e1, e2⟩ := Option.map_eq_some_iff.mp e
    cases e2
    refine ⟨rfl, ?_⟩
    unfold insO at e1
    split at e1
    · cases e1; assumption
    · cases e1
  · cases e
theorem fr_get {sa : Nat → Addr} {ρ : List Addr} {f : Str} {w : W} : ∀ {fs : List (Str × W)} {vs : List (Str × L2.V)}, fr sa ρ fs vs → fs.lookup f = some w → ∃ v, vs.lookup f = some v ∧ vr sa ρ w v
  | _, _, .nil, e => by simp at e
  | (g, x) :: r, (g', y) :: r', .cons ⟨h1, h2⟩ t, e => by
    cases h1
    rw [List.lookup_cons] at e ⊢
    cases hb : f == g with
    | true => simp only [hb] at e ⊢; cases e; exact ⟨y, rfl, h2⟩
    | false => simp only [hb] at e ⊢; exact fr_get t e
theorem fr_none {sa : Nat → Addr} {ρ : List Addr} {f : Str} : ∀ {fs : List (Str × W)} {vs : List (Str × L2.V)}, fr sa ρ fs vs → fs.lookup f = none → vs.lookup f = none
  | _, _, .nil, e => rfl
  | (g, x) :: r, (g', y) :: r', .cons ⟨h1, h2⟩ t, e => by
    cases h1
    rw [List.lookup_cons] at e ⊢
    cases hb : f == g with
    | true => simp only [hb] at e; cases e
    | false => simp only [hb] at e ⊢; exact fr_none t e
theorem fldW_some {x : W} {f : Str} {h : Hh} {y : W} (e : fldW P x f h = some y) : ∃ n c fs, x = .ref n ∧ h.get n = some (.ins c fs) ∧ P.fd c f = true ∧ fs.lookup f = some y := by
  unfold fldW at e
  split at e
  · rename_i n c fs q
    split at e
    · rename_i hf
      obtain ⟨rfl, q2⟩ := insW_some q
      exact ⟨_, _, _, rfl, q2, hf, e⟩
    · cases e
  · cases e
theorem e_fld (G : Gd P L T k X q sc V xa) {a : Expr} {f : Str} {pos : Pos} {ca : E} (hb : attributeBase a f X.env (eval a X.env) = eval a X.env) (ha : PE X a (tD P L X.K X.w V xa ca)) : PE X (.Attribute a f pos) (tD P L X.K X.w V xa (.fld ca f)) := by
  refine peW (pe_fld ha hb) fun σ H Q ⟨fz, ρ, ws, h, R, S, p⟩ => ?_
  refine tG.imp (step (rel := vr L.sa) R S p) fun x H1 ⟨ρ1, h1, a', pr, R1, S1, rx, p1⟩ => ?_
  obtain ⟨y, e, p2⟩ := p1.ofO
  obtain ⟨n, c, fs, rfl, en, hf, el⟩ := fldW_some e
  obtain ⟨b, eb, rfl⟩ := rx
  obtain ⟨dx, vs, rf, eH⟩ := R1.insAt en eb
  obtain ⟨hc, hn⟩ := G.lk.fd c f hf
  obtain ⟨v, ev, rv⟩ := fr_get rf el
  exact ⟨b, _, dx, vs, v, rfl, eH, hc, hn, ev, p2.ok R1 rv⟩
theorem e_xf (G : Gd P L T k X q sc V xa) {x : Str} {f : Str} {ps pos : Pos} {i : Nat} (hv : visible sc x = true) (ho : okName x = true) (hi : slot T x = some i) : PE X (.Attribute (.Name x ps) f pos) (tD P L X.K X.w V xa (.xf i f)) := by
  cases hx : xa with
  | none =>
    refine peW pe_false fun σ H Q ⟨fz, ρ, ws, h, R, S, p⟩ => ?_
    unfold ev at p
    split at p
    · rename_i kk n e
      obtain ⟨v, _, r⟩ := S.get e
      obtain ⟨a, d, e2, _⟩ := r
      cases e2
    · exact p
  | some t =>
    obtain ⟨a, cls, d⟩ := t
    obtain ⟨X0, oe, pn, eX, hz, hvs⟩ := G.xs a cls d hx
    unfold okName at ho
    simp only [Bool.and_eq_true, Bool.not_eq_true'] at ho
    have hn := pe_var (X := X) (i := i) (pos := ps) (by rw [G.N]; exact slot_get hi) (by rw [G.se]; exact visible_vis hv) ho.1.1 ho.1.2
    refine ⟨fun pins s σ H Q I ⟨fz, ρ, ws, h, R, S, p⟩ => ?_⟩
    unfold ev at p
    split at p
    · rename_i kk n e
      obtain ⟨v, ev, r⟩ := S.get e
      obtain ⟨a2, d2, e2, rfl, e3⟩ := r
      cases e2
      split at p
      · rename_i fs en
        split at p
        · rename_i hf
          unfold exfB at hf
          split at hf
          · rename_i nms en2
            obtain ⟨y, ey, p2⟩ := p.ofO
            obtain ⟨u, eu, vs, rf, rfl⟩ := R.objAt en e3
            obtain ⟨v, ev2, rv⟩ := fr_get rf ey
            obtain ⟨hC, hno⟩ := G.lk.xf _ _ en2
            have hno := hno f (List.contains_iff_mem.mp hf)
            subst eX
            exact (pe_xf (X := X0) (pn := pn) hC hno hz hvs hn rfl).run pins s σ H Q I ⟨_, ev, rfl, rfl, d2, vs, v, rfl, eu, ev2, p2.ok R rv⟩
          · cases hf
        · exact p.elim
      · exact p.elim
    · exact p.elim
end
end MP

set_option Elab.async false
set_option linter.all false
set_option maxRecDepth 100000
/-! MP: expressions, part three: calls. -/
namespace MP
open PySem L2

/-! ### calls that let exceptions out, at the caller's slots -/
section
variable {X : Cx} {CX : CXT} {k : Nat} {f C : Addr} {fd : FuncData} {ps : List Str} {sp : Sp} {E : L2.St → XK} {x m : Str} {p pos apos : Pos} {e o : Expr} {es : List Expr} {ta : TE} {t : TA}
/-- C(..): __init__ runs on the new instance, however its arguments are bound -/
theorem run_init {pins : List (Addr × Obj)} {σ : L2.St} {H : Hp} {s : Shared} {Q : VK} {us given : List Value} {kw : List (Str × Value)} {vs : List L2.V} (M : Mk X.K C f) (F : FnOk X.prog X.w X.K X.mg X.base CX k f fd ps sp) (hr : Room (k + 1) X.A) (hx : PassesAt CX X σ (E σ)) (I : Inv X pins σ H s)
    (b : BindsTo { s with heap := (s.heap.push PySem.W.emptyDict).push (PySem.W.instObj C s.heap.objs.size) } fd ⟨.ref (s.heap.objs.size + 1) :: given, kw⟩ (ps.zip us)) (r : Vals vs us)
    (h : sp vs (upd (upd H s.heap.objs.size (.own (s.heap.objs.size + 1))) (s.heap.objs.size + 1) (.ins C s.heap.objs.size [])) (fun v H2 => v = .non ∧ Q (.ref (s.heap.objs.size + 1)) H2) (E σ)) :
    wpAny (model X.prog X.w) X.A (call (.ref C) given kw) (EP X pins σ Q) X.xe s := by
  have made := Inv.made (C := C) I
  refine wpAny_call (make_map (f := f) I.kIn M.makes M.init (beq_iff_eq.mp M.fn) (codeAny_mono (F.run _ X.stack _ _ _ us vs _ (E σ) (hr.make C given kw) (made.env0.make C given kw) b r h) fun z t out => ?_))
  match z, out with
  | .error e, out => exact hx pins _ _ e t made out
  | .ok (.ret u), out =>
    obtain ⟨v, H', I', rv, rfl, q⟩ := made.after out
    exact ⟨rv, .ref _, H', I', rfl, q⟩
/-- two new places -/
theorem two_new {pins : List (Addr × Obj)} {σ : L2.St} {H : Hp} {s : Shared} (I : Inv X pins σ H s) {G : Addr → Addr → Prop} (h : ∀ x dx, H x = none → H dx = none → dx ≠ x → G x dx) : G (s.heap.objs.size + 1) s.heap.objs.size :=
  h _ _ (I.hok.fresh (Nat.le_add_right _ 1)) (I.hok.fresh (Nat.le_refl _)) (Nat.succ_ne_self _).symm
def tMakeS (C : Addr) (sp : Sp) (E : L2.St → XK) (t : TA) : TE := fun σ H Q => t σ H fun vs H1 => ∀ x dx, H1 x = none → H1 dx = none → dx ≠ x →
  sp (.ref x :: vs) (upd (upd H1 dx (.own x)) x (.ins C dx [])) (fun v H2 => v = .non ∧ Q (.ref x) H2) (E σ)
theorem pe_makeSD (M : Mk X.K C f) (F : FnOk X.prog X.w X.K X.mg X.base CX k f fd ps sp) (hr : Room (k + 1) X.A) (hg : Gl X x) (hm : X.mg x = some (.ref C)) (hb : Binds X.K fd ps []) (hx : ∀ σ, PassesAt CX X σ (E σ))
    (ha : PA X (e :: es) t) (hdb : (x == ("__debug__" : Str)) = false) (he : starEach (e :: es) X.env = (false, eval e X.env) :: starEach es X.env) (hpl : (backTo pos (starEach es X.env)).any (·.1) = false) :
    PE X (.Call (.Name x p) (e :: es) [] pos) (tMakeS C sp E t) :=
  ⟨fun pins s σ H Q I h => wpAny_Call_Name_kw (ld_glob I hg hm (PySem.W.callWith_K (h₀ := X.base) I.ok.mod.kin M.kp (thn (ha.run pos pins s σ H _ I h) fun us s1 ⟨vs, H1, I1, r, q⟩ => ⟨I1.kIn, by
    have want := two_new I1 q
    have r2 : Vals (L2.V.ref (s1.heap.objs.size + 1) :: vs) (Value.ref (s1.heap.objs.size + 1) :: us) := .cons rfl r
    have b := hb { s1 with heap := (s1.heap.push PySem.W.emptyDict).push (PySem.W.instObj C s1.heap.objs.size) } (Value.ref (s1.heap.objs.size + 1) :: us) (Inv.made (C := C) I1).kIn (by rw [List.append_nil, ← r2.length]; exact F.len _ _ _ _ want)
    rw [List.append_nil] at b
    exact run_init M F hr (hx σ) I1 b r2 want⟩) he hpl) hdb)⟩
/-- a method of the object's own class -/
def tMethS (X : Cx) (CX : CXT) (k : Nat) (m : Str) (E : L2.St → XK) (ta : TE) (t : TA) : TE := fun σ H Q => ta σ H fun x H1 => ∃ (a C dx : Addr) (fs : List (Str × L2.V)) (f : Addr) (fd : FuncData) (ps : List Str) (sp : Sp), x = .ref a ∧ H1 a = some (.ins C dx fs) ∧ fs.lookup m = none ∧
  Cls X.K C ∧ Meth X.K C m f ∧ Binds X.K fd ps [] ∧ FnOk X.prog X.w X.K X.mg X.base CX k f fd ps sp ∧ t σ H1 fun vs H2 => sp (x :: vs) H2 Q (E σ)
/-- the method is found; what follows is the call with the object ahead -/
theorem meth_to {pl : Sem Bool} {pins : List (Addr × Obj)} {σ : L2.St} {H : Hp} {s : Shared} {Q : VK} (I : Inv X pins σ H s) (he : PE X o ta)
    (ht : eval (.Call (.Attribute o m apos) es [] pos) X.env = (eval o X.env >>= fun ov => standAt apos.atName >>= fun _ => holding [ov] (getMethod ov m pl) >>= fun x => callWith pos x.1 x.2 (backTo pos (starEach es X.env)) (backToKw pos (keywordEach [] X.env))))
    (h : tMethS X CX k m E ta t σ H Q)
    (go : ∀ (a f : Addr) (fd : FuncData) (ps : List Str) (sp : Sp) (s1 : Shared) (H1 : Hp), Inv X pins σ H1 s1 → PySem.W.keepIn X.K (.ref f) = true → Binds X.K fd ps [] → FnOk X.prog X.w X.K X.mg X.base CX k f fd ps sp → t σ H1 (fun vs H2 => sp (.ref a :: vs) H2 Q (E σ)) →
      wpAny (model X.prog X.w) X.A (callWith pos (.ref f) [.ref a] (backTo pos (starEach es X.env)) []) (EP X pins σ Q) X.xe s1) :
    wpAny (model X.prog X.w) X.A (eval (.Call (.Attribute o m apos) es [] pos) X.env) (EP X pins σ Q) X.xe s := by
  refine PySem.W.methodCall_KW (pl := pl) (thn (he.run pins s σ H _ I h) fun u s1 ⟨x, H1, I1, rx, a, C, dx, fs, f, fd, ps, sp, ex, ea, l, c, hm, hb, F, q⟩ => ?_) ht
  subst ex
  cases (show u = Value.ref a from rx)
  exact getmeth_ok I1 ea c hm l (go a f fd ps sp s1 H1 I1 hm.kp hb F q)
theorem pe_methSD {pl : Sem Bool} (he : PE X o ta) (hr : Room k X.A) (hx : ∀ σ, PassesAt CX X σ (E σ)) (ha : PA X (e :: es) t) (h1 : notStar e = true) (h2 : es.all notStar = true)
    (ht : eval (.Call (.Attribute o m apos) (e :: es) [] pos) X.env = (eval o X.env >>= fun ov => standAt apos.atName >>= fun _ => holding [ov] (getMethod ov m pl) >>= fun x => callWith pos x.1 x.2 (backTo pos (starEach (e :: es) X.env)) (backToKw pos (keywordEach [] X.env)))) :
    PE X (.Call (.Attribute o m apos) (e :: es) [] pos) (tMethS X CX k m E ta t) :=
  ⟨fun pins s σ H Q I h => meth_to I he ht h fun a f fd ps sp s1 H1 I1 kp hb F q => PySem.W.callWith_K (first := [.ref a]) (h₀ := X.base) I.ok.mod.kin kp
    (thn (ha.run pos pins s1 σ H1 _ I1 q) fun us s2 ⟨vs, H2, I2, r, q2⟩ => ⟨I2.kIn, run_fnS (us := .ref a :: us) (vs := .ref a :: vs) F hr hb (hx σ) I2 (.cons rfl r) q2⟩) (star_cons h1) (star_plain h2)⟩
theorem pe_methSD0 {pl : Sem Bool} (he : PE X o ta) (hr : Room k X.A) (hx : ∀ σ, PassesAt CX X σ (E σ))
    (ht : eval (.Call (.Attribute o m apos) [] [] pos) X.env = (eval o X.env >>= fun ov => standAt apos.atName >>= fun _ => holding [ov] (getMethod ov m pl) >>= fun x => callWith pos x.1 x.2 (backTo pos (starEach [] X.env)) (backToKw pos (keywordEach [] X.env)))) :
    PE X (.Call (.Attribute o m apos) [] [] pos) (tMethS X CX k m E ta tNil) :=
  ⟨fun pins s σ H Q I h => meth_to I he ht h fun a f fd ps sp s1 H1 I1 kp hb F q => PySem.W.callWith_K0 (first := [.ref a]) I1.kIn kp (run_fnS (us := [.ref a]) (vs := [.ref a]) F hr hb (hx σ) I1 (.cons rfl .nil) q)⟩
end
section
variable {P : Pg} {L : Ln} {T : Ct} {k : Nat} {X : Cx} {q : Bool} {sc : Scope} {V : WX} {xa : Xa}
theorem e_call (G : Gd P L T k X q sc V xa) (hq : q = true) {f : Str} {m : Nat} {p pos : Pos} {a : Expr} {as : List Expr} {cs : List E} (hf : T.fns.lookup f = some m) (hg : isGl sc f = true) (ho : okName f = true) (hn : notStar a = true) (hn2 : as.all notStar = true)
    (ha : PA X (a :: as) (tA P L X.K X.w V xa cs)) : PE X (.Call (.Name f p) (a :: as) [] pos) (tD P L X.K X.w V xa (.call f cs)) := by
  obtain ⟨fa, fd, ps, hm, hk, F⟩ := G.lk.fn f m hf
  refine peW (pe_callS F.ok ((G.room hq).mono (Nat.le_succ k)) (gl_of G hg) hm hk F.bd (passAt G.tk) ha (ok_db ho).1 (star_cons hn) (star_plain hn2)) fun σ H Q ⟨fz, ρ, ws, h, R, S, p⟩ => ?_
  refine tG.imp (step (rel := vrs L.sa) R S p) fun vs H1 ⟨ρ1, h1, a', pr, R1, S1, rx, p1⟩ => ?_
  exact ⟨fz, ρ1, a', h1, R1, rx, p1⟩
theorem HR.extra {K : PySem.W.Frag} {w : World} {ρ : List Addr} {h : Hh} {H : Hp} (R : HR L K w ρ h H) {p : Addr} (np : H p = none) (u : HO) : HR L K w ρ h (upd H p u) where
  len := R.len
  nd := R.nd
  at_ := fun n hn => by
    obtain ⟨o, a, e1, e2, r⟩ := R.at_ n hn
    obtain ⟨u', eu⟩ := r.some
    exact ⟨o, a, e1, e2, r.eqH (upd_ne (ne_of_none eu np))⟩
  st := fun i o' e => (R.st i o' e).upd fun ob x z => by rw [np] at z; cases z
theorem e_make (G : Gd P L T k X q sc V xa) (hq : q = true) {f : Str} {m : Nat} {p pos : Pos} {a : Expr} {as : List Expr} {cs : List E} (hf : T.cls.lookup f = some m) (hg : isGl sc f = true) (ho : okName f = true) (hn : notStar a = true) (hn2 : as.all notStar = true)
    (ha : PA X (a :: as) (tA P L X.K X.w V xa cs)) : PE X (.Call (.Name f p) (a :: as) [] pos) (tD P L X.K X.w V xa (.make f cs)) := by
  obtain ⟨hm, fa, fd, ps, M, F⟩ := G.lk.cls f m hf
  refine peW (pe_makeSD M F.ok (G.room hq) (gl_of G hg) hm F.bd (passAt G.tk) ha (ok_db ho).1 (star_cons hn) (star_plain hn2)) fun σ H Q ⟨fz, ρ, ws, h, R, S, p⟩ => ?_
  refine tG.imp (step (rel := vrs L.sa) R S p) fun vs H1 ⟨ρ1, h1, a', pr, R1, S1, rx, p1⟩ => ?_
  intro x dx nx ndx hne
  have R2 := (R1.extra ndx (.own x)).push (p := x) (by rw [upd_ne (Ne.symm hne)]; exact nx) (o := .ins f []) (u := .ins (L.ca f) dx []) ⟨dx, [], .nil, rfl⟩
  have ex : (ρ1 ++ [x])[h1.sz]? = some x := by rw [← R1.len]; simp
  refine ⟨fz, ρ1 ++ [x], _, _, R2, .cons (show vr L.sa _ (.ref h1.sz) (.ref x) from ⟨x, ex, rfl⟩) (rx.mono (pre.snoc _ _)), ?_⟩
  refine ((p1.mono (pre.snoc ρ1 x)).bind (rel := vr L.sa)).imp fun v H2 ⟨ρ2, h2, b', pr2, R3, rv, p2⟩ => ?_
  cases b' with
  | non => exact ⟨rv, p2.ok R3 ⟨x, pr2.get ex, rfl⟩⟩
  | _ => exact p2.elim
theorem meth_read (G : Gd P L T k X q sc V xa) {m : Str} {c : E} {cs : List E} {t : TA} {σ : L2.St} {H : Hp} {Q : VK} (h : tD P L X.K X.w V xa (.meth c m cs) σ H Q) (ht : ∀ σ H Q, tA P L X.K X.w V xa cs σ H Q → t σ H Q) :
    tMethS X (L2.CX X.prog X.w) k m (WE V) (tD P L X.K X.w V xa c) t σ H Q := by
  obtain ⟨fz, ρ, ws, h, R, S, p⟩ := h
  refine tG.imp (step (rel := vr L.sa) R S p) fun x H1 ⟨ρ1, h1, a', pr, R1, S1, rx, p1⟩ => ?_
  cases ei : insW a' h1 with
  | none => simp only [ei] at p1; exact p1.elim
  | some t =>
    obtain ⟨i, cn, fs⟩ := t
    simp only [ei] at p1
    obtain ⟨rfl, en⟩ := insW_some ei
    obtain ⟨b, eb, rfl⟩ := rx
    obtain ⟨dx, vs, rf, eH⟩ := R1.insAt en eb
    cases el : fs.lookup m with
    | some _ => simp only [el] at p1; exact p1.elim
    | none =>
      simp only [el] at p1
      split at p1
      · rename_i hh
        obtain ⟨fa, fd, ps, hc, hme, F⟩ := G.lk.mt cn m hh
        refine ⟨b, _, dx, vs, fa, fd, ps, _, rfl, eH, fr_none rf el, hc, hme, F.bd, F.ok, ?_⟩
        refine ht _ _ _ (tG.imp (step (rel := vrs L.sa) R1 S1 p1) fun vs H2 ⟨ρ2, h2, xs, pr2, R2, S2, rxs, p2⟩ => ?_)
        exact ⟨fz, ρ2, _, h2, R2, .cons (show vr L.sa _ (.ref i) (.ref b) from ⟨b, pr2.get eb, rfl⟩) rxs, p2⟩
      · exact p1.elim
theorem mcall_eval {o : Expr} {m : Str} {apos pos : Pos} {as : List Expr} (hl : (apos.endLine == pos.line) = true) (hn2 : as.all notStar = true) (hfew : as.length < 29) (hb : ∀ f env whole, attributeBase o f env whole = whole) (env : Env) :
    eval (.Call (.Attribute o m apos) as [] pos) env = (do
      let ov ← eval o env
      standAt apos.atName
      let (f, first) ← holding [ov] (getMethod ov m (plainOf o env))
      callWith pos f first (backTo pos (starEach as env)) (backToKw pos (keywordEach [] env))) := by
  have hform : methodCallForm (as.length + 0) (backTo pos (starEach as env)) (backToKw pos (keywordEach [] env)) = true := by
    unfold methodCallForm
    have h1 : (backTo pos (starEach as env)).all (fun x => !x.1) = true := by
      have := star_plain (pos := pos) (env := env) hn2
      rw [List.all_eq_not_any_not]
      simpa using this
    rw [h1]
    show (true && true && decide (as.length + 0 + 0 < 30)) = true
    simp
    omega
  show (do
    let ov ← attributeBase o m env (eval o env)
    standAt apos.atName
    methodCall o m apos pos env ov (as.length + ([] : List Keyword).length) (backTo pos (starEach as env)) (backToKw pos (keywordEach [] env))) = _
  rw [hb]
  congr 1
  funext ov
  congr 1
  funext _
  exact mcall_line hform hl
theorem e_meth (G : Gd P L T k X q sc V xa) (hq : q = true) {o : Expr} {m : Str} {apos pos : Pos} {as : List Expr} {c : E} {cs : List E} (hl : (apos.endLine == pos.line) = true) (hn2 : as.all notStar = true) (hfew : as.length < 29) (hcs : as = [] → cs = [])
    (hb : ∀ f env whole, attributeBase o f env whole = whole) (ho : PE X o (tD P L X.K X.w V xa c)) (ha : PA X as (tA P L X.K X.w V xa cs)) : PE X (.Call (.Attribute o m apos) as [] pos) (tD P L X.K X.w V xa (.meth c m cs)) := by
  cases as with
  | nil =>
    cases hcs rfl
    exact peW (pe_methSD0 ho ((G.room hq).mono (Nat.le_succ k)) (passAt G.tk) (mcall_eval hl hn2 hfew hb _)) fun σ H Q h => meth_read G h fun σ H Q ⟨fz, ρ, ws, h, R, S, p⟩ => p.ok R .nil
  | cons e es =>
    obtain ⟨h1, h2⟩ := Bool.and_eq_true_iff.mp (show (notStar e && es.all notStar) = true from hn2)
    exact peW (pe_methSD ho ((G.room hq).mono (Nat.le_succ k)) (passAt G.tk) ha h1 h2 (mcall_eval hl hn2 hfew hb _)) fun σ H Q h => meth_read G h fun _ _ _ x => x
/-! ### built-ins -/
def bfN : BF → Str
  | .len => "len" | .abs => "abs" | .int => "int" | .all => "all" | .any => "any" | .sorted => "sorted" | .list => "list" | .tuple => "tuple" | .max => "max" | .min => "min"
theorem bfOf_name {x : Str} {b : BF} (h : bfOf x = some b) : x = bfN b := by
  unfold bfOf at h
  repeat' (split at h; rename_i e; (cases h; exact e))
  cases h
theorem bf_mem (b : BF) : bfN b ∈ bltNs := by cases b <;> decide +kernel
theorem boot_abs : bootBuiltins "abs" = some (.builtin "abs") := by decide +kernel
theorem boot_all : bootBuiltins "all" = some (.builtin "all") := by decide +kernel
theorem boot_any : bootBuiltins "any" = some (.builtin "any") := by decide +kernel
theorem boot_sorted : bootBuiltins "sorted" = some (.builtin "sorted") := by decide +kernel
theorem cr_of (hs : P.so = L.so) (hc : X.calm = true) (b : BF) : (∃ id, bootBuiltins (bfN b) = some (.builtin id) ∧ CallR X (.builtin id) (rBlt P L X.K X.w b)) ∨ ∃ n, bootBuiltins (bfN b) = some (.type n) ∧ CallR X (.type n) (rBlt P L X.K X.w b) := by
  cases b
  · exact .inl ⟨_, PyProof.Rows.bootS_len, cr_len hs⟩
  · exact .inl ⟨_, boot_abs, cr_abs⟩
  · exact .inr ⟨_, PyProof.Rows.boot_int, cr_int⟩
  · exact .inl ⟨_, boot_all, cr_allA hs hc⟩
  · exact .inl ⟨_, boot_any, cr_anyA hs hc⟩
  · exact .inl ⟨_, boot_sorted, cr_sortedA hs hc⟩
  · exact .inr ⟨_, PyProof.Rows.boot_list, cr_listA hs hc⟩
  · exact .inr ⟨_, PyProof.Rows.boot_tuple, cr_tuple hs⟩
  · exact .inl ⟨_, PyProof.Rows.boot_max, cr_maxA hc⟩
  · exact .inl ⟨_, PyProof.Rows.boot_min, cr_minA hc⟩
theorem e_blt (G : Gd P L T k X q sc V xa) (hq : q = true) {f : Str} {b : BF} {p pos : Pos} {a : Expr} {as : List Expr} {cs : List E} (hf : bfOf f = some b) (hg : isGl sc f = true) (ho : okName f = true) (hn : notStar a = true) (hn2 : as.all notStar = true)
    (ha : PA X (a :: as) (tA P L X.K X.w V xa cs)) : PE X (.Call (.Name f p) (a :: as) [] pos) (tD P L X.K X.w V xa (.blt b cs)) := by
  have hx := bfOf_name hf
  have hm : X.mg f = none := G.lk.bl f (by rw [hx]; exact bf_mem b)
  have rd : ∀ σ H Q, tD P L X.K X.w V xa (.blt b cs) σ H Q → tCB (fun x H Q => ∃ fz, rBlt P (L.at fz) X.K X.w b x H Q) (tA P L X.K X.w V xa cs) σ H Q := fun σ H Q ⟨fz, ρ, ws, h, R, S, p⟩ => by
    refine tG.imp (step (rel := vrs L.sa) R S p) fun vs H1 ⟨ρ1, h1, xs, pr, R1, S1, rx, p1⟩ => ?_
    exact ⟨fz, ρ1, h1, xs, _, R1, rx, p1⟩
  by_cases hb : ∃ id, bootBuiltins (bfN b) = some (.builtin id)
  · obtain ⟨id, e⟩ := hb
    have hc : ∀ fz, CallR X (.builtin id) (rBlt P (L.at fz) X.K X.w b) := fun fz => by
      rcases cr_of (L := L.at fz) G.lk.so (G.calm hq) b with ⟨id', e', r⟩ | ⟨n, e', _⟩
      · rw [e] at e'; cases e'; exact r
      · rw [e] at e'; cases e'
    exact peW (pe_callB (CallR.ex hc) (gl_of G hg) hm (by rw [hx]; exact e) ha (ok_db ho).2 (ok_db ho).1 (star_cons hn) (star_plain hn2)) rd
  · rcases cr_of (L := L) G.lk.so (G.calm hq) b with ⟨id', e', r⟩ | ⟨n, e, _⟩
    · exact absurd ⟨id', e'⟩ hb
    · have hc : ∀ fz, CallR X (.type n) (rBlt P (L.at fz) X.K X.w b) := fun fz => by
        rcases cr_of (L := L.at fz) G.lk.so (G.calm hq) b with ⟨id', e', r⟩ | ⟨n', e', r⟩
        · rw [e] at e'; cases e'
        · rw [e] at e'; cases e'; exact r
      exact peW (pe_callTy (CallR.ex hc) (gl_of G hg) hm (by rw [hx]; exact e) ha (ok_db ho).2 (ok_db ho).1 (star_cons hn) (star_plain hn2)) rd
/-! ### methods of lists -/
def bmN : BM → Str
  | .append => "append" | .extend => "extend" | .pop => "pop" | .insert => "insert" | .clear => "clear"
theorem bmOf_name {x : Str} {b : BM} (h : bmOf x = some b) : x = bmN b := by
  unfold bmOf at h
  repeat' (split at h; rename_i e; (cases h; exact e))
  cases h
theorem bm_slot (b : BM) : Slot "list" (bmN b) (bmId b) ∧ typeOf (.builtin (bmId b)) = pure (.type "method_descriptor") := by
  cases b
  · exact ⟨F.slot_list_append, F.type_list_append⟩
  · exact ⟨F.slot_list_extend, F.type_list_extend⟩
  · exact ⟨F.slot_list_pop, F.type_list_pop⟩
  · exact ⟨F.slot_list_insert, F.type_list_insert⟩
  · exact ⟨F.slot_list_clear, F.type_list_clear⟩
end
end MP

set_option Elab.async false
set_option linter.all false
set_option maxRecDepth 100000
/-! MP: expressions, part four: methods of lists, isinstance, comprehensions. -/
namespace MP
open PySem L2
section
variable {P : Pg} {L : Ln} {T : Ct} {k : Nat} {X : Cx} {q : Bool} {sc : Scope} {V : WX} {xa : Xa}
theorem isL_some {x : W} {h : Hh} (e : isL x h = true) : ∃ n xs, x = .ref n ∧ h.get n = some (.lst xs) := by
  cases x with
  | ref n =>
    change (lstO (h.get n)).isSome = true at e
    cases q : h.get n with
    | none => rw [q] at e; cases e
    | some o =>
      rw [q] at e
      cases o with
      | lst xs => exact ⟨n, xs, rfl, q⟩
      | _ => cases e
  | _ => cases e
theorem few_ok {as : List Expr} {pos : Pos} {env : Env} (hn2 : as.all notStar = true) (hfew : as.length < 29) :
    ((backTo pos (starEach as env)).all (fun x => !x.1) && (backToKw pos (keywordEach [] env)).all (fun x => x.1.isSome) && decide (as.length + ([] : List Keyword).length + (if ([] : List Keyword).isEmpty then 0 else 1) < 30)) = true := by
  have h1 : (backTo pos (starEach as env)).all (fun x => !x.1) = true := by
    have := star_plain (pos := pos) (env := env) hn2
    rw [List.all_eq_not_any_not]
    simpa using this
  rw [h1]
  show (true && true && decide (as.length + 0 + 0 < 30)) = true
  simp
  omega
theorem bm_read {m : BM} {c : E} {cs : List E} {t : TA} {σ : L2.St} {H : Hp} {Q : VK} (h : tD P L X.K X.w V xa (.bm c m cs) σ H Q) (ht : ∀ σ H Q, tA P L X.K X.w V xa cs σ H Q → t σ H Q) :
    tBM X.K "list" (fun x xs H Q => ∃ fz, rBm (L.at fz) X.K X.w m x xs H Q) (tD P L X.K X.w V xa c) t σ H Q := by
  obtain ⟨fz, ρ, ws, h, R, S, p⟩ := h
  refine tG.imp (step (rel := vr L.sa) R S p) fun x H1 ⟨ρ1, h1, a', pr, R1, S1, rx, p1⟩ => ?_
  split at p1
  · rename_i hl
    obtain ⟨n, xs, rfl, en⟩ := isL_some hl
    obtain ⟨b, eb, rfl⟩ := rx
    obtain ⟨us, ru, eH⟩ := R1.lstAt en eb
    refine ⟨.inl ⟨rfl, us, SqL.of eH⟩, ht _ _ _ (tG.imp (step (rel := vrs L.sa) R1 S1 p1) fun vs H2 ⟨ρ2, h2, as, pr2, R2, S2, ras, p2⟩ => ?_)⟩
    exact ⟨fz, ρ2, h2, .ref n, as, _, R2, ⟨b, pr2.get eb, rfl⟩, ras, p2⟩
  · exact p1.elim
theorem e_bm {o : Expr} {m : Str} {b : BM} {apos pos : Pos} {as : List Expr} {c : E} {cs : List E} (hm : bmOf m = some b) (hl : (apos.endLine == pos.line) = true) (hn2 : as.all notStar = true) (hfew : as.length < 29) (hcs : as = [] → cs = [])
    (hb : ∀ f env whole, attributeBase o f env whole = whole) (ho : PE X o (tD P L X.K X.w V xa c)) (ha : PA X as (tA P L X.K X.w V xa cs)) : PE X (.Call (.Attribute o m apos) as [] pos) (tD P L X.K X.w V xa (.bm c b cs)) := by
  have hx := bmOf_name hm
  subst hx
  obtain ⟨hs, hty⟩ := bm_slot b
  have hM := MtR.ex fun fz => mtr_all (X := X) (L := L.at fz) b
  cases as with
  | nil =>
    cases hcs rfl
    refine peW (pe_bm0 F.plainAttrs_list hs hty hM ho (hb _ _ _) hl) fun σ H Q h => ?_
    exact bm_read (t := tNil) h fun σ H Q ⟨fz, ρ, ws, h, R, S, p⟩ => p.ok R .nil
  | cons e es =>
    obtain ⟨h1, h2⟩ := Bool.and_eq_true_iff.mp (show (notStar e && es.all notStar) = true from hn2)
    exact peW (pe_bm F.plainAttrs_list hs hty hM ho ha (hb _ _ _) (few_ok hn2 hfew) hl (star_cons h1) (star_plain h2)) fun σ H Q h => bm_read h fun _ _ _ x => x
/-! ### isinstance -/
theorem ty_read {K : PySem.W.Frag} {w : World} {ρ : List Addr} {h : Hh} {H : Hp} (R : HR L K w ρ h H) {x : W} {v : L2.V} {t : Ty} (r : vr L.sa ρ x v) (e : tyW h x = some t) (hi : ∀ c, t = .own c → InsK K (L.ca c)) : TyX K H v (tyVal L t) := by
  cases x with
  | non => cases r; cases e; exact .base .non
  | bl b => cases r; cases e; exact .base (.bl b)
  | int i => cases r; cases e; exact .base (.int i)
  | str z => cases r; cases e; exact .base (.str z)
  | ref n =>
    obtain ⟨a, ea, rfl⟩ := r
    change tyO (h.get n) = some t at e
    cases q : h.get n with
    | none => rw [q] at e; cases e
    | some o =>
      rw [q] at e
      cases o with
      | lst xs => cases e; obtain ⟨vs, _, eH⟩ := R.lstAt q ea; exact .base (.lst eH)
      | tup xs => cases e; obtain ⟨vs, _, eH⟩ := R.tupAt q ea; exact .base (.tup eH)
      | dic xs => cases e; obtain ⟨vs, _, eH⟩ := R.dicAt q ea; exact .base (.dK eH)
      | ins c fs =>
        cases e
        obtain ⟨dx, vs, _, eH⟩ := R.insAt q ea
        obtain ⟨h1, h2, h3, h4, h5⟩ := hi c rfl
        exact .base (.ins eH h1 h2 h3 h4 h5)
      | frz o =>
        cases o with
        | lst xs => cases e; obtain ⟨ob, u, eH, _, vs, _, rfl⟩ := R.objAt q ea; exact .base (.frz eH)
        | dic xs => cases e; obtain ⟨ob, u, eH, _, vs, _, rfl⟩ := R.objAt q ea; exact .fDict eH
        | _ => cases e
      | _ => cases e
  | st i => cases e
  | exn _ _ => cases e
def clsV (L : Ln) : Ty → L2.V
  | .bi s => .ty s
  | .own c => .ref (L.ca c)
theorem boot_bool : bootBuiltins "bool" = some (.type "bool") := by decide +kernel
theorem boot_dict : bootBuiltins "dict" = some (.type "dict") := by decide +kernel
theorem boot_str : bootBuiltins "str" = some (.type "str") := by decide +kernel
/-- a class's name -/
theorem pe_ty (G : Gd P L T k X q sc V xa) {x : Str} {t : Ty} {pos : Pos} (ho : okName x = true) (h : tyOf T sc x = some t) : PE X (.Name x pos) (L2.tC (clsV L t)) := by
  unfold tyOf at h
  split at h
  · cases h
  · rename_i hg
    have hg : isGl sc x = true := by simpa using hg
    split at h
    · rename_i hc
      cases h
      exact pe_glob (gl_of G hg) (G.lk.tc x hc) rfl (ok_db ho).1
    · have go : ∀ n : String, x = Str.ofString n → Str.ofString n ∈ bltNs → bootBuiltins (Str.ofString n) = some (.type n) → t = .bi n → PE X (.Name x pos) (L2.tC (clsV L t)) := fun n e hm hb et => by
        subst e
        subst et
        exact pe_bltn (gl_of G hg) (G.lk.bl _ hm) hb rfl (ok_db ho).2 (ok_db ho).1
      split at h
      · rename_i e; cases h; exact go "str" e (by decide +kernel) boot_str rfl
      · split at h
        · rename_i e; cases h; exact go "int" e (by decide +kernel) PyProof.Rows.boot_int rfl
        · split at h
          · rename_i e; cases h; exact go "bool" e (by decide +kernel) boot_bool rfl
          · split at h
            · rename_i e; cases h; exact go "list" e (by decide +kernel) PyProof.Rows.boot_list rfl
            · split at h
              · rename_i e; cases h; exact go "tuple" e (by decide +kernel) PyProof.Rows.boot_tuple rfl
              · split at h
                · rename_i e; cases h; exact go "dict" e (by decide +kernel) boot_dict rfl
                · cases h
theorem e_isa (G : Gd P L T k X q sc V xa) {a : Expr} {x : Str} {t : Ty} {p pc pos : Pos} {c : E} (hg : isGl sc "isinstance" = true) (ho : okName x = true) (hn : notStar a = true) (h : tyOf T sc x = some t) (ha : PE X a (tD P L X.K X.w V xa c)) :
    PE X (.Call (.Name "isinstance" p) [a, .Name x pc] [] pos) (tD P L X.K X.w V xa (.isa c t)) := by
  have hp : PA X [a, .Name x pc] (tCons (tD P L X.K X.w V xa c) (tCons (L2.tC (clsV L t)) tNil)) := pa_cons ha (pa_cons (pe_ty G ho h) pa_nil rfl) (star_cons hn)
  refine peW (pe_callB call_isi (gl_of G hg) (G.lk.bl _ (by decide +kernel)) PyProof.Rows.boot_isinstance hp (by decide) (by decide) (star_cons hn) rfl) fun σ H Q ⟨fz, ρ, ws, h, R, S, p⟩ => ?_
  refine tG.imp (step (rel := vr L.sa) R S p) fun v H1 ⟨ρ1, h1, a', pr, R1, S1, rx, p1⟩ => ?_
  obtain ⟨w, e, p2⟩ := p1.ofO
  obtain ⟨b, e2, rfl⟩ := Option.map_eq_some_iff.mp e
  obtain ⟨t', e3, e4⟩ := Option.bind_eq_some_iff.mp e2
  obtain ⟨hk, hi⟩ := G.lk.ty t' t b e4
  refine ⟨v, clsV L t, tyVal L t', tyVal L t, b, rfl, ?_, ty_read (L := L.at fz) R1 rx e3 hi, hk, p2.ok R1 rfl⟩
  cases t with
  | bi s => exact .ty s
  | own c => exact .own _
end
end MP

set_option Elab.async false
set_option linter.all false
set_option maxRecDepth 100000
/-! MP: comprehensions. -/
namespace MP
open PySem L2
section
variable {P : Pg} {L : Ln} {T : Ct} {k : Nat} {X : Cx} {q : Bool} {sc : Scope} {V : WX} {xa : Xa}
/-- behind the loop the lock is gone -/
theorem unlock_end {w0 : W} {ρ ρ' ρ3 : List Addr} {κ : Ik} {hE : Hh} {HE : Hp} {J : It} {fz fz' : Addr → Option (Obj × HO)} {E : Str → Addr → Hp → Prop} {Q : VK} {v : L2.V} (pr : pre ρ ρ') (pr3 : pre ρ' ρ3)
    (hfz : ∀ b, (∀ n, κ.isD = some n → ρ'[n]? ≠ some b) → fz' b = fz b) (i : iR P (L.at fz') X.K X.w X.H_0 ρ' κ J) (R : HR (L.at fz') X.K X.w ρ3 hE HE) (rv : vr L.sa ρ3 w0 v)
    (p : pv (L.at fz) X.K X.w ρ (ofH w0 (unlockK κ hE)) E Q) : unl X (Q v) HE := by
  unfold unlockK at p
  cases e : κ.isD with
  | none =>
    simp only [e] at p
    have : fz' = fz := funext fun b => hfz b fun n z => by rw [e] at z; cases z
    rw [this] at R
    exact .inl (p ρ3 HE v (pr.trans pr3) R rv)
  | some n =>
    simp only [e] at p
    obtain ⟨a, ea, h0⟩ := i.2 n e
    split at p
    · rename_i kvs eg
      obtain ⟨od, vs, eH, R2⟩ := R.unlock (fz := fz) eg (pr3.get ea) fun b hb => hfz b fun n' e' z => by
        rw [e] at e'
        cases e'
        rw [ea] at z
        cases z
        exact hb rfl
      exact .inr ⟨a, od, .dK vs, eH, h0, p ρ3 _ v (pr.trans pr3) R2 rv⟩
    · exact p.elim
/-- a turn of a clause -/
abbrev turnW (P : Pg) (tg : Tg) (ifs : List E) (vs : List Nat) (ws : Sl) (tail : Sl → Hh → Rs Unit) : W → Hh → Rs Unit := fun x h3 => match stT P tg x (wipeW ws vs) h3 with
  | none => .no
  | some σ' => (evC P ifs σ' h3).bind fun b h4 => if b = true then tail σ' h4 else .ok () h4
abbrev rU {β : Type} : List Addr → Unit → β → Prop := fun _ _ _ => True
/-- the law of a clause: the loop's steps, by what the tail does -/
theorem clause {tg : Tg} {ifs : List E} {vs : List Nat} {ws : Sl} {tail : Sl → Hh → Rs Unit} {κ : Ik} {J : It} {σ : L2.St} {ρ : List Addr} {hE : Hh} {fz : Addr → Option (Obj × HO)} {Qe : Hp → Prop} {tt : L2.St → Hp → (Hp → Prop) → Prop}
    (i : iR P (L.at fz) X.K X.w X.H_0 ρ κ J) (S : SR L xa ρ ws σ) (hv : ∀ i ∈ tgSlots tg, i ∈ vs)
    (ht : ∀ (ρ4 : List Addr) (ws4 : Sl) (σ4 : L2.St) (h4 : Hh) (H4 : Hp) (N : Hp → Prop), pre ρ ρ4 → HR (L.at fz) X.K X.w ρ4 h4 H4 → SR L xa ρ4 ws4 σ4 → wipe σ4 vs = wipe σ vs → pst (L.at fz) X.K X.w rU ρ4 (tail ws4 h4) (fun _ _ _ => False) (fun (_ : Unit) H => N H) → tt σ4 H4 N)
    (fin : ∀ ρ' HE, pre ρ ρ' → HR (L.at fz) X.K X.w ρ' hE HE → Qe HE) (H2 : Hp) (h2 : Hh) (R : HR (L.at fz) X.K X.w ρ h2 H2) (m0 : Nat) (hl : itL (κ.next P) (turnW P tg ifs vs ws tail) m0 0 h2 = .ok () hE) :
    ∃ Wv : Nat → Nat → Hp → Prop, (∃ m, Wv 0 m H2) ∧ ∀ i m H, Wv i m H →
      (J.stop i H ∧ Qe H) ∨ (J.go i H ∧ ∃ Nx : Hp → Prop, (∀ H', Nx H' → ∃ m', m' < m ∧ Wv (i + 1) m' H') ∧ ∀ x H', J.yld i H x H' → tgT P L X.K X.w xa tg x (wipe σ vs) H' fun σ2 H2 => wipe σ2 vs = wipe σ vs ∧ tC P L X.K X.w V0 xa ifs σ2 H2 fun b H3 =>
        if b = true then tt σ2 H3 Nx else Nx H3) := by
  refine ⟨fun i m H => ∃ ρ2 h, pre ρ ρ2 ∧ HR (L.at fz) X.K X.w ρ2 h H ∧ itL (κ.next P) (turnW P tg ifs vs ws tail) m i h = .ok () hE, ⟨m0, ρ, h2, pre.refl ρ, R, hl⟩, ?_⟩
  rintro j m H ⟨ρ2, h, pr, R2, e⟩
  cases m with
  | zero => cases e
  | succ m =>
    have nx := i.1 ρ2 h H j pr R2
    unfold itL at e
    cases en : κ.next P j h with
    | stop =>
      rw [en] at e nx
      cases e
      exact .inl ⟨nx, fin ρ2 H pr R2⟩
    | stuck => rw [en] at e; cases e
    | it x h1 =>
      rw [en] at e nx
      simp only at e
      cases et : turnW P tg ifs vs ws tail x h1 with
      | no => rw [et] at e; cases e
      | ex c n h' => rw [et] at e; cases e
      | ok u h' =>
        rw [et] at e
        refine .inr ⟨nx.1, fun H' => ∃ ρ3 h3, pre ρ ρ3 ∧ HR (L.at fz) X.K X.w ρ3 h3 H' ∧ itL (κ.next P) (turnW P tg ifs vs ws tail) m (j + 1) h3 = .ok () hE, fun H' ⟨ρ3, h3, p3, R3, e3⟩ => ⟨m, Nat.lt_succ_self m, ρ3, h3, p3, R3, e3⟩, fun v H' hy => ?_⟩
        obtain ⟨ρ3, pr3, R3, rv⟩ := nx.2 v H' hy
        have pt : pst (L.at fz) X.K X.w rU ρ3 (turnW P tg ifs vs ws tail x h1) (fun _ _ _ => False) (fun (_ : Unit) H' => ∃ ρ3 h3, pre ρ ρ3 ∧ HR (L.at fz) X.K X.w ρ3 h3 H' ∧ itL (κ.next P) (turnW P tg ifs vs ws tail) m (j + 1) h3 = .ok () hE) := by
          rw [et]
          exact fun ρ' H' b p' R' _ => ⟨ρ', h', (pr.trans pr3).trans p', R', e⟩
        unfold turnW at pt
        split at pt
        · exact pt.elim
        · rename_i ws' es
          refine ⟨fz, ρ3, wipeW ws vs, h1, x, ws', R3, (S.mono (pr.trans pr3)).wipe vs, rv, es, fun σ2 S2 hw => ?_⟩
          have hw2 : wipe σ2 vs = wipe σ vs := (hw vs hv).trans (wipe_wipe vs vs fun _ z => z)
          refine ⟨hw2, tG.imp (step (rel := eqR) (W := V0) (g := evC P ifs) R3 S2 pt) fun b H3 ⟨ρ4, h4, b', pr4, R4, S4, eb, p4⟩ => ?_⟩
          cases eb
          cases b with
          | true => exact ht ρ4 ws' σ2 h4 H3 _ ((pr.trans pr3).trans pr4) R4 S4 hw2 p4
          | false => exact pst.ok (b := ()) p4 R4 trivial
/-- an item goes to the list -/
theorem addL_read {fz : Addr → Option (Obj × HO)} {ρ : List Addr} {h : Hh} {H : Hp} {d : Nat} {D : Addr} {y : W} {v : L2.V} {N : Hp → Prop} (R : HR (L.at fz) X.K X.w ρ h H) (eD : ρ[d]? = some D) (rv : vr L.sa ρ y v) (p : pst (L.at fz) X.K X.w rU ρ (addL d y h) (fun _ _ _ => False) (fun (_ : Unit) H => N H)) :
    ∃ acc, H D = some (.lst acc) ∧ acc.length < sizeLine ∧ N (upd H D (.lst (acc ++ [v]))) := by
  unfold addL at p
  split at p
  · rename_i acc e
    split at p
    · rename_i hl
      obtain ⟨vs, r, eH⟩ := R.lstAt e eD
      exact ⟨vs, eH, by rw [← r.length]; exact sizeLt hl, p ρ _ () (pre.refl ρ) (R.setL eD eH (prd_app r (.cons rv .nil))) trivial⟩
    · exact p.elim
  · exact p.elim
theorem addD_read {fz : Addr → Option (Obj × HO)} {ρ : List Addr} {h : Hh} {H : Hp} {d : Nat} {D : Addr} {y z : W} {u v : L2.V} {N : Hp → Prop} (R : HR (L.at fz) X.K X.w ρ h H) (eD : ρ[d]? = some D) (ru : vr L.sa ρ y u) (rv : vr L.sa ρ z v)
    (p : pst (L.at fz) X.K X.w rU ρ (addD d y z h) (fun _ _ _ => False) (fun (_ : Unit) H => N H)) : ∃ kvs key, u = kV key ∧ H D = some (.dK kvs) ∧ kvs.length < sizeLine ∧ N (upd H D (.dK (putK kvs key v))) := by
  unfold addD at p
  split at p
  · rename_i kvs key e ek
    split at p
    · rename_i hl
      obtain ⟨vs, r, eH⟩ := R.dicAt e eD
      refine ⟨vs, key, keyW_r ru ek, eH, by rw [← r.length]; exact sizeLt hl, p ρ _ () (pre.refl ρ) (R.set eD (fun ob x q => by rw [eH] at q; cases q) ⟨_, putW_r key r rv, rfl⟩) trivial⟩
    · exact p.elim
  · exact p.elim
/-- the tests of a clause -/
theorem pts_of {ifs : List Expr} {cs : List E} (hl : ifs.length < 2) (h : Paired (fun e c => PT X e (tT P L X.K X.w V xa c)) ifs cs) : PTs X ifs (tC P L X.K X.w V xa cs) := by
  cases h with
  | nil => exact ⟨fun pins s σ H Q I ⟨fz, ρ, ws, h, R, S, p⟩ => pts_nil.run pins s σ H Q I (p.ok R rfl)⟩
  | cons h t =>
    cases t with
    | nil =>
      rename_i e c
      refine ⟨fun pins s σ H Q I ⟨fz, ρ, ws, h', R, S, p⟩ => (pts_one h).run pins s σ H Q I ?_⟩
      have e : evC P [c] ws h' = (ev P c ws h').bind (truR P) := by
        show ((ev P c ws h').bind fun x h1 => match tru P h1 x with
          | some true => evC P [] ws h1
          | some false => .ok false h1
          | none => .no) = _
        congr 1
        funext x h1
        unfold truR
        cases tru P h1 x with
        | none => rfl
        | some t => cases t <;> rfl
      rw [e] at p
      exact ⟨fz, ρ, ws, h', R, S, p⟩
    | cons _ _ => simp at hl; omega
/-- what a comprehension walks, and its loop -/
theorem comp_read {o : Bool} {it : E} {tail : Nat → Sl → Hh → Rs Unit} {tg : Tg} {ifs : List E} {vs : List Nat} {σ : L2.St} {H : Hp} {Q : VK} {fz : Addr → Option (Obj × HO)} {ρ : List Addr} {ws : Sl} {h : Hh} {G2 : It → Hp → Prop}
    (R : HR (L.at fz) X.K X.w ρ h H) (S : SR L xa ρ ws σ)
    (p : pv (L.at fz) X.K X.w ρ (((evI P it ws h).bind lockR).bind fun κ h2 => match itL (κ.next P) (turnW P tg ifs vs ws (tail h2.sz)) P.fu 0 (h2.push (newO o)) with
      | .ok _ h4 => ofH (.ref h2.sz) (unlockK κ h4)
      | _ => .no) (wx V L σ) Q)
    (hG : ∀ κ J fz' ρ1 h2 H1 hE, pre ρ ρ1 → HR (L.at fz') X.K X.w ρ1 h2 H1 → iR P (L.at fz') X.K X.w X.H_0 ρ1 κ J → SR L xa ρ1 ws σ → itL (κ.next P) (turnW P tg ifs vs ws (tail h2.sz)) P.fu 0 (h2.push (newO o)) = .ok () hE →
      (∀ ρ3 HE D, pre ρ1 ρ3 → HR (L.at fz') X.K X.w ρ3 hE HE → ρ3[h2.sz]? = some D → unl X (Q (.ref D)) HE) → G2 J H1) :
    tI P L X.K X.w V xa X.H_0 it σ H G2 := by
  refine ⟨fz, ρ, ws, h, R, S, ?_⟩
  cases e : (evI P it ws h).bind lockR with
  | no => rw [e] at p; exact p
  | ex c n h' => rw [e] at p; exact p
  | ok κ h2 =>
    rw [e] at p
    intro fz' ρ1 H1 J pr hfz R1 i
    change pv (L.at fz) X.K X.w ρ (match itL (κ.next P) (turnW P tg ifs vs ws (tail h2.sz)) P.fu 0 (h2.push (newO o)) with
      | .ok _ h4 => ofH (.ref h2.sz) (unlockK κ h4)
      | _ => .no) (wx V L σ) Q at p
    split at p
    · rename_i u hE el
      exact hG κ J fz' ρ1 h2 H1 hE pr R1 i (S.mono pr) el fun ρ3 HE D pr3 R3 eD => unlock_end pr pr3 hfz i R3 (show vr L.sa ρ3 (.ref h2.sz) (.ref D) from ⟨D, eD, rfl⟩) p
    · exact p.elim
theorem snoc_get {ρ : List Addr} {D : Addr} {h : Hh} {K : PySem.W.Frag} {w : World} {H : Hp} (R : HR L K w ρ h H) : (ρ ++ [D])[h.sz]? = some D := by rw [← R.len]; simp
section
variable {scope : Scope} {own : List (Str × Nat)} {pos : Pos} {elt kx tg iter : Expr} {ifs : List Expr} {ce ck ci : E} {ct : Tg} {cs : List E}
theorem lc_read {σ : L2.St} {H : Hp} {Q : VK} (hv : ∀ i ∈ tgSlots ct, i ∈ own.map (·.2)) (hp : tD P L X.K X.w V xa (.cp false (.con .non) ce ct ci cs (own.map (·.2))) σ H Q) :
    tLc (tI P L X.K X.w V xa X.H_0 ci) (tgT P L X.K X.w xa ct) (tC P L X.K X.w V0 xa cs) (tD P L X.K X.w V0 xa ce) (own.map (·.2)) σ H fun v H' => unl X (Q v) H' := by
  obtain ⟨fz, ρ, ws, h, R, S, p⟩ := hp
  refine comp_read (o := false) (tail := fun d σ' h4 => (ev P ce σ' h4).bind fun y h5 => addL d y h5) (tg := ct) (ifs := cs) (vs := own.map fun x : Str × Nat => x.2) (Q := Q) R S p fun κ J fz' ρ1 h2 H1 hE pr R1 i S1 el fin D nD => ?_
  have R2 := R1.push nD (o := .lst []) (u := .lst []) ⟨[], .nil, rfl⟩
  refine clause (tt := fun σ4 H4 N => tD P L X.K X.w V0 xa ce σ4 H4 fun y H5 => ∃ acc, H5 D = some (.lst acc) ∧ acc.length < sizeLine ∧ N (upd H5 D (.lst (acc ++ [y]))))
    (Qe := fun H => unl X (Q (.ref D)) H) ⟨fun ρ2 h2 H2 j p2 => i.1 ρ2 h2 H2 j ((pre.snoc ρ1 D).trans p2), fun n e => let ⟨a, ea, z⟩ := i.2 n e; ⟨a, (pre.snoc ρ1 D).get ea, z⟩⟩ (S1.mono (pre.snoc ρ1 D)) hv
    (fun ρ4 ws4 σ4 h4 H4 N p4 R4 S4 hw pt => ?_) (fun ρ' HE p' R' => fin ρ' HE D ((pre.snoc ρ1 D).trans p') R' (p'.get (snoc_get R1))) _ _ R2 P.fu el
  refine tG.imp (step (rel := vr L.sa) (W := V0) (g := ev P ce) R4 S4 pt) fun y H5 ⟨ρ5, h5, y', pr5, R5, S5, ry, p5⟩ => ?_
  exact addL_read R5 (pr5.get (p4.get (snoc_get R1))) ry p5
theorem e_lc (G : Gd P L T k X q sc V xa) (hq : q = true) (ok : blkC T.N sc scope own = true) (hi : PI X tg iter (tI P L X.K X.w V xa X.H_0 ci)) (hl : ifs.length < 2) (hv : ∀ i ∈ tgSlots ct, i ∈ own.map (·.2)) (hfs : ∀ x, foldedSetIterable iter X.env x = pure x)
    (hg : ∀ (s : Shared) (H : Hp) (C : Addr) (cl : List (Str × Addr)) (fp : List Addr), PG (X.blk s H scope (compEnvC scope cl C X.env) fp) tg (tgT P L X.K X.w xa ct))
    (ht : ∀ (s : Shared) (H : Hp) (C : Addr) (cl : List (Str × Addr)) (fp : List Addr), Paired (fun e c => PT (X.blk s H scope (compEnvC scope cl C X.env) fp) e (tT P L X.K X.w V0 xa c)) ifs cs)
    (he : ∀ (s : Shared) (H : Hp) (C : Addr) (cl : List (Str × Addr)) (fp : List Addr), PE (X.blk s H scope (compEnvC scope cl C X.env) fp) elt (tD P L X.K X.w V0 xa ce)) :
    PE X (.ListComp elt [⟨tg, iter, ifs, 0⟩] scope pos) (tD P L X.K X.w V xa (.cp false (.con .non) ce ct ci cs (own.map (·.2)))) := by
  have hN : X.N.Nodup := by rw [G.N]; exact G.nd
  have bo : BlkOk X.N X.env.scope scope own := by rw [G.N, G.se]; exact blkOk_by ok
  refine peW (pe_unl (pe_lc (tt := tC P L X.K X.w V0 xa cs) (G.calm hq) hN hi bo hg (fun s H C cl fp => pts_of (X := X.blk s H scope (compEnvC scope cl C X.env) fp) hl (ht s H C cl fp)) he hfs)) fun σ H Q hp => lc_read hv hp
theorem dc_read {σ : L2.St} {H : Hp} {Q : VK} (hv : ∀ i ∈ tgSlots ct, i ∈ own.map (·.2)) (hp : tD P L X.K X.w V xa (.cp true ck ce ct ci cs (own.map (·.2))) σ H Q) :
    tDc (tI P L X.K X.w V xa X.H_0 ci) (tgT P L X.K X.w xa ct) (tC P L X.K X.w V0 xa cs) (tD P L X.K X.w V0 xa ck) (tD P L X.K X.w V0 xa ce) (own.map (·.2)) σ H fun v H' => unl X (Q v) H' := by
  obtain ⟨fz, ρ, ws, h, R, S, p⟩ := hp
  refine comp_read (o := true) (tail := fun d σ' h4 => (ev P ck σ' h4).bind fun y h5 => (ev P ce σ' h5).bind fun z h6 => addD d y z h6) (tg := ct) (ifs := cs) (vs := own.map fun x : Str × Nat => x.2) (Q := Q) R S p fun κ J fz' ρ1 h2 H1 hE pr R1 i S1 el fin D nD => ?_
  have R2 := R1.push nD (o := .dic []) (u := .dK []) ⟨[], .nil, rfl⟩
  refine clause (tt := fun σ4 H4 N => tD P L X.K X.w V0 xa ck σ4 H4 fun y H5 => tD P L X.K X.w V0 xa ce σ4 H5 fun z H6 => ∃ kvs k, y = kV k ∧ H6 D = some (.dK kvs) ∧ kvs.length < sizeLine ∧ N (upd H6 D (.dK (putK kvs k z))))
    (Qe := fun H => unl X (Q (.ref D)) H) ⟨fun ρ2 h2 H2 j p2 => i.1 ρ2 h2 H2 j ((pre.snoc ρ1 D).trans p2), fun n e => let ⟨a, ea, z⟩ := i.2 n e; ⟨a, (pre.snoc ρ1 D).get ea, z⟩⟩ (S1.mono (pre.snoc ρ1 D)) hv
    (fun ρ4 ws4 σ4 h4 H4 N p4 R4 S4 hw pt => ?_) (fun ρ' HE p' R' => fin ρ' HE D ((pre.snoc ρ1 D).trans p') R' (p'.get (snoc_get R1))) _ _ R2 P.fu el
  refine tG.imp (step (rel := vr L.sa) (W := V0) (g := ev P ck) R4 S4 pt) fun y H5 ⟨ρ5, h5, y', pr5, R5, S5, ry, p5⟩ => ?_
  refine tG.imp (step (rel := vr L.sa) (W := V0) (g := ev P ce) R5 S5 p5) fun z H6 ⟨ρ6, h6, z', pr6, R6, S6, rz, p6⟩ => ?_
  exact addD_read R6 (pr6.get (pr5.get (p4.get (snoc_get R1)))) (ry.mono pr6) rz p6
theorem e_dc (G : Gd P L T k X q sc V xa) (hq : q = true) (ok : blkC T.N sc scope own = true) (hi : PI X tg iter (tI P L X.K X.w V xa X.H_0 ci)) (hl : ifs.length < 2) (hv : ∀ i ∈ tgSlots ct, i ∈ own.map (·.2)) (hfs : ∀ x, foldedSetIterable iter X.env x = pure x)
    (hg : ∀ (s : Shared) (H : Hp) (C : Addr) (cl : List (Str × Addr)) (fp : List Addr), PG (X.blk s H scope (compEnvC scope cl C X.env) fp) tg (tgT P L X.K X.w xa ct))
    (ht : ∀ (s : Shared) (H : Hp) (C : Addr) (cl : List (Str × Addr)) (fp : List Addr), Paired (fun e c => PT (X.blk s H scope (compEnvC scope cl C X.env) fp) e (tT P L X.K X.w V0 xa c)) ifs cs)
    (hk : ∀ (s : Shared) (H : Hp) (C : Addr) (cl : List (Str × Addr)) (fp : List Addr), PE (X.blk s H scope (compEnvC scope cl C X.env) fp) kx (tD P L X.K X.w V0 xa ck))
    (he : ∀ (s : Shared) (H : Hp) (C : Addr) (cl : List (Str × Addr)) (fp : List Addr), PE (X.blk s H scope (compEnvC scope cl C X.env) fp) elt (tD P L X.K X.w V0 xa ce)) :
    PE X (.DictComp kx elt [⟨tg, iter, ifs, 0⟩] scope pos) (tD P L X.K X.w V xa (.cp true ck ce ct ci cs (own.map (·.2)))) := by
  have hN : X.N.Nodup := by rw [G.N]; exact G.nd
  have bo : BlkOk X.N X.env.scope scope own := by rw [G.N, G.se]; exact blkOk_by ok
  refine peW (pe_unl (pe_dc (tt := tC P L X.K X.w V0 xa cs) (G.calm hq) hN hi bo hg (fun s H C cl fp => pts_of (X := X.blk s H scope (compEnvC scope cl C X.env) fp) hl (ht s H C cl fp)) hk he hfs)) fun σ H Q hp => dc_read hv hp
end
end
end MP

set_option Elab.async false
set_option linter.all false
set_option maxRecDepth 100000
/-! MP: comprehensions of two clauses. -/
namespace MP
open PySem L2
section
variable {P : Pg} {L : Ln} {T : Ct} {k : Nat} {X : Cx} {q : Bool} {sc : Scope} {V : WX} {xa : Xa}
/-- what is walked without a lock -/
def tIF (P : Pg) (L : Ln) (K : PySem.W.Frag) (w : World) (xa : Xa) (c : E) : TI := fun σ H R =>
  ∃ fz ρ ws h, HR (L.at fz) K w ρ h H ∧ SR L xa ρ ws σ ∧ pst (L.at fz) K w (fun ρ κ J => κ.isD = none ∧ iR P (L.at fz) K w (fun _ => none) ρ κ J) ρ ((evI P c ws h).bind flatR) (fun _ _ _ => False) R
theorem tIF_I {K : PySem.W.Frag} {w : World} {c : E} {H0 : Hp} {σ : L2.St} {H : Hp} {R : It → Hp → Prop} (h : tIF P L K w xa c σ H R) : tI P L K w V0 xa H0 c σ H R := by
  obtain ⟨fz, ρ, ws, h, R0, S, p⟩ := h
  refine ⟨fz, ρ, ws, h, R0, S, ?_⟩
  cases e : evI P c ws h with
  | no => rw [e] at p; exact p
  | ex c n h' => rw [e] at p; exact p
  | ok κ h1 =>
    rw [e] at p
    change pst _ _ _ _ _ (flatR κ h1) _ _ at p
    show pI P L K w H0 fz ρ (lockR κ h1) _ _
    unfold flatR at p
    cases ed : κ.isD with
    | some n => simp only [ed] at p; exact p.elim
    | none =>
      simp only [ed] at p
      have el : lockR κ h1 = .ok κ h1 := by unfold lockR lockK; simp only [ed]
      rw [el]
      intro fz' ρ' H2 J pr hf R2 i
      have : fz' = fz := funext fun b => hf b fun n z => by rw [ed] at z; cases z
      rw [this] at R2 i
      exact p ρ' H2 J pr R2 ⟨ed, i.1, fun n z => by rw [ed] at z; cases z⟩
/-- the second clause's turn -/
abbrev tail2 (P : Pg) (it1 : E) (tg1 : Tg) (ifs1 : List E) (vs1 : List Nat) (tail : Sl → Hh → Rs Unit) : Sl → Hh → Rs Unit := fun σ' h4 =>
  ((evI P it1 σ' h4).bind flatR).bind fun k1 h6 => match itL (k1.next P) (turnW P tg1 ifs1 vs1 σ' tail) P.fu 0 h6 with
    | .ok _ h10 => .ok () h10
    | _ => .no
theorem tail2_read {it1 : E} {tg1 : Tg} {ifs1 : List E} {vs1 : List Nat} {tail : Sl → Hh → Rs Unit} {fz : Addr → Option (Obj × HO)} {ρ4 : List Addr} {ws4 : Sl} {σ4 : L2.St} {h4 : Hh} {H4 : Hp} {N : Hp → Prop} {tt : L2.St → Hp → (Hp → Prop) → Prop}
    (R4 : HR (L.at fz) X.K X.w ρ4 h4 H4) (S4 : SR L xa ρ4 ws4 σ4) (hv1 : ∀ i ∈ tgSlots tg1, i ∈ vs1) (pt : pst (L.at fz) X.K X.w rU ρ4 (tail2 P it1 tg1 ifs1 vs1 tail ws4 h4) (fun _ _ _ => False) (fun (_ : Unit) H => N H))
    (ht : ∀ (ρ5 : List Addr) (ws5 : Sl) (σ5 : L2.St) (h5 : Hh) (H5 : Hp) (N : Hp → Prop), pre ρ4 ρ5 → HR (L.at fz) X.K X.w ρ5 h5 H5 → SR L xa ρ5 ws5 σ5 → pst (L.at fz) X.K X.w rU ρ5 (tail ws5 h5) (fun _ _ _ => False) (fun (_ : Unit) H => N H) → tt σ5 H5 N) :
    tIF P L X.K X.w xa it1 σ4 H4 fun J1 H4 => ∃ W1 : Nat → Nat → Hp → Prop, (∃ m, W1 0 m H4) ∧ ∀ j k H, W1 j k H →
      (J1.stop j H ∧ N H) ∨ (J1.go j H ∧ ∃ Nx1 : Hp → Prop, (∀ H', Nx1 H' → ∃ k', k' < k ∧ W1 (j + 1) k' H') ∧ ∀ x H', J1.yld j H x H' → tgT P L X.K X.w xa tg1 x (wipe σ4 vs1) H' fun σ3 H5 => wipe σ3 vs1 = wipe σ4 vs1 ∧ tC P L X.K X.w V0 xa ifs1 σ3 H5 fun b H6 =>
        if b = true then tt σ3 H6 Nx1 else Nx1 H6) := by
  refine ⟨fz, ρ4, ws4, h4, R4, S4, ?_⟩
  change pst _ _ _ _ _ (((evI P it1 ws4 h4).bind flatR).bind _) _ _ at pt
  cases e : (evI P it1 ws4 h4).bind flatR with
  | no => rw [e] at pt; exact pt
  | ex c n h' => rw [e] at pt; exact pt
  | ok κ h6 =>
    rw [e] at pt
    intro ρ6 H6 J1 pr6 R6 ⟨ed, i⟩
    change pst (L.at fz) X.K X.w rU ρ4 (match itL (κ.next P) (turnW P tg1 ifs1 vs1 ws4 tail) P.fu 0 h6 with
      | .ok _ h10 => .ok () h10
      | _ => .no) _ _ at pt
    split at pt
    · rename_i u hE el
      have i' : iR P (L.at fz) X.K X.w X.H_0 ρ6 κ J1 := ⟨i.1, fun n z => by rw [ed] at z; cases z⟩
      exact clause (X := X) (Qe := N) i' (S4.mono pr6) hv1 (fun ρ5 ws5 σ5 h5 H5 N' p5 R5 S5 hw pt5 => ht ρ5 ws5 σ5 h5 H5 N' (pr6.trans p5) R5 S5 pt5) (fun ρ' HE p' R' => pst.ok (b := ()) (pst.mono pt (pr6.trans p')) R' trivial) H6 h6 R6 P.fu el
    · exact pt.elim
section
variable {scope : Scope} {own : List (Str × Nat)} {vs1 : List Nat} {pos : Pos} {elt kx tg iter tg1 iter1 : Expr} {ifs ifs1 : List Expr} {ce ck ci ci1 : E} {ct ct1 : Tg} {cs cs1 : List E}
theorem lc2_read {σ : L2.St} {H : Hp} {Q : VK} (hv : ∀ i ∈ tgSlots ct, i ∈ own.map (·.2)) (hp : tD P L X.K X.w V xa (.cp2 false (.con .non) ce ct ci cs ct1 ci1 cs1 (own.map (·.2)) (tgSlots ct1)) σ H Q) :
    tLc2 (tI P L X.K X.w V xa X.H_0 ci) (tgT P L X.K X.w xa ct) (tC P L X.K X.w V0 xa cs) (tIF P L X.K X.w xa ci1) (tgT P L X.K X.w xa ct1) (tC P L X.K X.w V0 xa cs1) (tD P L X.K X.w V0 xa ce) (own.map (·.2)) (tgSlots ct1) σ H fun v H' => unl X (Q v) H' := by
  obtain ⟨fz, ρ, ws, h, R, S, p⟩ := hp
  refine comp_read (o := false) (tail := fun d => tail2 P ci1 ct1 cs1 (tgSlots ct1) fun σ' h4 => (ev P ce σ' h4).bind fun y h5 => addL d y h5) (tg := ct) (ifs := cs) (vs := own.map fun x : Str × Nat => x.2) (Q := Q) R S p fun κ J fz' ρ1 h2 H1 hE pr R1 i S1 el fin D nD => ?_
  have R2 := R1.push nD (o := .lst []) (u := .lst []) ⟨[], .nil, rfl⟩
  refine clause (Qe := fun H => unl X (Q (.ref D)) H) (tt := fun σ4 H4 N => tIF P L X.K X.w xa ci1 σ4 H4 fun J1 H4 => ∃ W1 : Nat → Nat → Hp → Prop, (∃ m, W1 0 m H4) ∧ ∀ j k H, W1 j k H →
      (J1.stop j H ∧ N H) ∨ (J1.go j H ∧ ∃ Nx1 : Hp → Prop, (∀ H', Nx1 H' → ∃ k', k' < k ∧ W1 (j + 1) k' H') ∧ ∀ x H', J1.yld j H x H' → tgT P L X.K X.w xa ct1 x (wipe σ4 (tgSlots ct1)) H' fun σ3 H5 => wipe σ3 (tgSlots ct1) = wipe σ4 (tgSlots ct1) ∧ tC P L X.K X.w V0 xa cs1 σ3 H5 fun b H6 =>
        if b = true then tD P L X.K X.w V0 xa ce σ3 H6 fun y H7 => ∃ acc, H7 D = some (.lst acc) ∧ acc.length < sizeLine ∧ Nx1 (upd H7 D (.lst (acc ++ [y]))) else Nx1 H6))
    ⟨fun ρ2 h2 H2 j p2 => i.1 ρ2 h2 H2 j ((pre.snoc ρ1 D).trans p2), fun n e => let ⟨a, ea, z⟩ := i.2 n e; ⟨a, (pre.snoc ρ1 D).get ea, z⟩⟩ (S1.mono (pre.snoc ρ1 D)) hv
    (fun ρ4 ws4 σ4 h4 H4 N p4 R4 S4 hw pt => ?_) (fun ρ' HE p' R' => fin ρ' HE D ((pre.snoc ρ1 D).trans p') R' (p'.get (snoc_get R1))) _ _ R2 P.fu el
  refine tail2_read (tt := fun σ3 H6 N => tD P L X.K X.w V0 xa ce σ3 H6 fun y H7 => ∃ acc, H7 D = some (.lst acc) ∧ acc.length < sizeLine ∧ N (upd H7 D (.lst (acc ++ [y])))) R4 S4 (fun _ z => z) pt fun ρ5 ws5 σ5 h5 H5 N' p5 R5 S5 pt5 => ?_
  refine tG.imp (step (rel := vr L.sa) (W := V0) (g := ev P ce) R5 S5 pt5) fun y H6 ⟨ρ6, h6, y', pr6, R6, S6, ry, p6⟩ => ?_
  exact addL_read R6 (pr6.get (p5.get (p4.get (snoc_get R1)))) ry p6
theorem e_lc2 (G : Gd P L T k X q sc V xa) (hq : q = true) (ok : blkC T.N sc scope own = true) (hi : PI X tg iter (tI P L X.K X.w V xa X.H_0 ci)) (hl : ifs.length < 2) (hl1 : ifs1.length < 2) (hv : ∀ i ∈ tgSlots ct, i ∈ own.map (·.2)) (hv1 : ∀ i ∈ tgSlots ct1, i ∈ own.map (·.2)) (hfs : ∀ x, foldedSetIterable iter X.env x = pure x) (hfs1 : ∀ env x, foldedSetIterable iter1 env x = pure x)
    (hg : ∀ (s : Shared) (H : Hp) (C : Addr) (cl : List (Str × Addr)) (fp : List Addr), PG (X.blk s H scope (compEnvC scope cl C X.env) fp) tg (tgT P L X.K X.w xa ct))
    (ht : ∀ (s : Shared) (H : Hp) (C : Addr) (cl : List (Str × Addr)) (fp : List Addr), Paired (fun e c => PT (X.blk s H scope (compEnvC scope cl C X.env) fp) e (tT P L X.K X.w V0 xa c)) ifs cs)
    (hi1 : ∀ (s : Shared) (H : Hp) (C : Addr) (cl : List (Str × Addr)) (fp : List Addr), PI (X.blk s H scope (compEnvC scope cl C X.env) fp) tg1 iter1 (tI P L X.K X.w V0 xa H ci1))
    (hg1 : ∀ (s : Shared) (H : Hp) (C : Addr) (cl : List (Str × Addr)) (fp : List Addr), PG (X.blk s H scope (compEnvC scope cl C X.env) fp) tg1 (tgT P L X.K X.w xa ct1))
    (ht1 : ∀ (s : Shared) (H : Hp) (C : Addr) (cl : List (Str × Addr)) (fp : List Addr), Paired (fun e c => PT (X.blk s H scope (compEnvC scope cl C X.env) fp) e (tT P L X.K X.w V0 xa c)) ifs1 cs1)
    (he : ∀ (s : Shared) (H : Hp) (C : Addr) (cl : List (Str × Addr)) (fp : List Addr), PE (X.blk s H scope (compEnvC scope cl C X.env) fp) elt (tD P L X.K X.w V0 xa ce)) :
    PE X (.ListComp elt [⟨tg, iter, ifs, 0⟩, ⟨tg1, iter1, ifs1, 0⟩] scope pos) (tD P L X.K X.w V xa (.cp2 false (.con .non) ce ct ci cs ct1 ci1 cs1 (own.map (·.2)) (tgSlots ct1))) := by
  have hN : X.N.Nodup := by rw [G.N]; exact G.nd
  have bo : BlkOk X.N X.env.scope scope own := by rw [G.N, G.se]; exact blkOk_by ok
  refine peW (pe_unl (pe_lc2 (tt := tC P L X.K X.w V0 xa cs) (tt1 := tC P L X.K X.w V0 xa cs1) (wi1 := tIF P L X.K X.w xa ci1) (vs1 := tgSlots ct1) (G.calm hq) hN hi bo hv1 hg (fun s H C cl fp => pts_of (X := X.blk s H scope (compEnvC scope cl C X.env) fp) hl (ht s H C cl fp))
    (fun s H C cl fp => piW (hi1 s H C cl fp) fun σ H' Q z => tIF_I z) hg1 (fun s H C cl fp => pts_of (X := X.blk s H scope (compEnvC scope cl C X.env) fp) hl1 (ht1 s H C cl fp)) he hfs hfs1)) fun σ H Q hp => lc2_read hv hp
end
end
end MP

set_option Elab.async false
set_option linter.all false
set_option maxRecDepth 100000
/-! MP: comprehensions of two clauses, whatever they make: one lemma for a clause's loop, used for both. -/
namespace MP
open PySem L2 PySem.Spec PyProof.Rows
/-! ### a clause's turn, as the model has it -/
/-- the clause's tests, one by one -/
abbrev tests (ifs : List Expr) (env : Env) : Sem Bool :=
  forIn ifs true fun c r => if r = true then do let ok ← isTrue c env (eval c env); pure (ForInStep.yield ok) else pure (ForInStep.yield r)
/-- the next thing, named and tested; then one of two ways -/
def clauseTurn (tg : Expr) (p : Pos) (ifs : List Expr) (it : Value) (env : Env) (yes no : Sem Fin) : Sem Fin :=
  standAt p >>= fun _ => pyNext it >>= fun r => match r with
    | none => pure (.done .next)
    | some v => letOwnedTupleGo tg it v >>= fun _ => assign tg env v >>= fun _ => tests ifs env >>= fun b => if b = true then yes else no
abbrev No : Value → Shared → Prop := fun _ _ => False
/-- how the node n is read: its clauses, its turns; emit: what is done with a thing that passed all tests -/
structure TwoOk (P : Program) (w : World) (n : Expr) (tg i : Expr) (fs : List Expr) (tg1 i1 : Expr) (fs1 : List Expr) (emit : Addr → Env → Sem Unit) : Prop where
  cl : clausesOf n = [⟨tg, i, fs, 0⟩, ⟨tg1, i1, fs1, 0⟩]
  calm : ∀ d it acc env, (Code.compLoop n d it acc env).quiet = true
  runs : ∀ d it acc env (A : Around), A.under (.compLoop n d it acc env) = A ∧ A.under (.compStart n d it acc env) = A
  from_ : ∀ d it acc env, (model P w).den (.compStart n d it acc env) = (compStart n d it acc env).onRaise fun x => do noteFrame x env; standAt theWindowsPlace
  outer : ∀ it acc env, (model P w).den (.compLoop n 0 it acc env) = (clauseTurn tg i.pos fs it env
      (eval i1 env >>= fun x => standAt i1.pos >>= fun _ => foldedSetIterable i1 env x >>= fun y => holding [y] (pyIter y) >>= fun z => runOwn (.compStart n 1 z acc env) env >>= fun _ => again (.compLoop n 0 it acc env))
      (again (.compLoop n 0 it acc env))).onRaise fun x => do noteFrame x env; theTreesLotGoes x
  inner : ∀ it D env, (model P w).den (.compLoop n 1 it (.ref D) env) = (clauseTurn tg1 i1.pos fs1 it env (emit D env >>= fun _ => again (.compLoop n 1 it (.ref D) env)) (again (.compLoop n 1 it (.ref D) env))).onRaise
      fun x => do noteFrame x env; theTreesLotGoes x
theorem two_dict {P : Program} {w : World} {a b tg i tg1 i1 : Expr} {fs fs1 : List Expr} {sc : Scope} {p : Pos} :
    TwoOk P w (.DictComp a b [⟨tg, i, fs, 0⟩, ⟨tg1, i1, fs1, 0⟩] sc p) tg i fs tg1 i1 fs1
      (fun D env => eval a env >>= fun u => holding [u] (eval b env) >>= fun v => standAt { a.pos with endLine := b.pos.endLine, endCol := b.pos.endCol } >>= fun _ => holding [u, v] (dictSet D u v)) :=
  ⟨rfl, fun _ _ _ _ => rfl, fun _ _ _ _ _ => ⟨rfl, rfl⟩, fun _ _ _ _ => rfl, fun _ _ _ => rfl, fun _ _ _ => rfl⟩
section
variable {M : Model} {A : Around} {s : Shared}
theorem clauseTurn_ok {E : Value → Shared → Prop} {tg : Expr} {p : Pos} {ifs : List Expr} {it : Value} {env : Env} {yes no : Sem Fin} {Q : Fin → Shared → Prop}
    (h : wpAny M A (pyNext it) (fun r t => match r with
      | none => Q (.done .next) t
      | some v => wpAny M A (letOwnedTupleGo tg it v) (fun _ t1 => wpAny M A (assign tg env v) (fun _ t2 => wpAny M A (tests ifs env) (fun b t3 => wpAny M A (if b = true then yes else no) Q No t3) No t2) No t1) No t) No s) :
    wpAny M A (clauseTurn tg p ifs it env yes no) Q E s :=
  wpAny_bind (wpAny_standAt (wpAny_bind (thnF h fun r t ht => by
    cases r with
    | none => exact wpAny_pure ht
    | some v => exact wpAny_bind (thnF ht fun _ t1 h1 => wpAny_bind (thnF h1 fun _ t2 h2 => wpAny_bind (thnF h2 fun b t3 h3 => thnF h3 fun _ _ q => q))))))
/-- an iterator that is its own iterator goes from the start into the loop -/
theorem start_ok {n : Expr} {d : Nat} {it acc : Value} {env : Env} {g : Comprehension} {R : Result → Shared → Prop} (hg : (clausesOf n)[d]? = some g) (ha : g.is_async = 0) (hu : A.under (.compStart n d it acc env) = A)
    (hd : M.den (.compStart n d it acc env) = (compStart n d it acc env).onRaise fun x => do noteFrame x env; standAt theWindowsPlace) (hq : (Code.compLoop n d it acc env).quiet = true)
    (self : ∀ (Q : Value → Shared → Prop) (E : Value → Shared → Prop), Q it s → wpAny M A (pyIter it) Q E s) (loop : codeAny M A (.compLoop n d it acc env) R s) : codeAny M A (.compStart n d it acc env) R s := by
  have fin : ∀ {E : Value → Shared → Prop}, wpAny M A (again (.compLoop n d it acc env)) (fun f t => match f with | .done z => R (.ok z) t | .again c => c.quiet = true ∧ codeAny M A c R t) E s := wpAny_pure ⟨hq, loop⟩
  refine codeAny_of_tree (hu.symm ▸ hd.symm ▸ wpAny_notedAt ?_)
  simp only [compStart, hg, Option.elim, ha, bne_self_eq_false, Bool.false_eq_true, if_false, pure_bind]
  refine wpAny_bind (wpAny_askSetting (wpAny_ite_split (fun _ => ?_) fun _ => wpAny_bind (wpAny_rule (wpAny_bind (wpAny_standAt (wpAny_bind (self _ _ fin)))))))
  first | exact fin | exact wpAny_bind fin
end
/-! ### a clause's loop, over the layer -/
/-- b knows all that a knows -/
def Tells (a b : L2.St) : Prop := a.length = b.length ∧ ∀ (j : Nat) v, a[j]? = some (some v) → b[j]? = some (some v)
theorem Tells.refl (a : L2.St) : Tells a a := ⟨rfl, fun _ _ z => z⟩
theorem wipe_tells (σ : L2.St) (vs : List Nat) : Tells (wipe σ vs) σ := ⟨wipe_length σ vs, fun _ _ z => (wipe_some z).1⟩
theorem wipe_less {σ τ : L2.St} {vs us : List Nat} (e : wipe τ vs = wipe σ vs) (h : ∀ i ∈ us, i ∈ vs) : Tells (wipe σ vs) (wipe τ us) := by
  rw [← e]
  refine ⟨(wipe_length τ vs).trans (wipe_length τ us).symm, fun j v z => ?_⟩
  obtain ⟨known, out⟩ := wipe_some z
  exact (wipe_out fun m => out (h j m)).trans known
/-- the walk of a clause: W by the turn and a measure; Out: where it stops; Do Nx: what is to be shown of a thing that passed, to go on from Nx -/
def Walk (J : It) (g : TG) (tt : TT) (vs : List Nat) (σ : L2.St) (Out : Hp → Prop) (Do : (Hp → Prop) → L2.St → Hp → Prop) (H0 : Hp) : Prop :=
  ∃ W : Nat → Nat → Hp → Prop, (∃ m, W 0 m H0) ∧ ∀ i m H, W i m H → (J.stop i H ∧ Out H) ∨ (J.go i H ∧ ∃ Nx : Hp → Prop, (∀ H', Nx H' → ∃ m', m' < m ∧ W (i + 1) m' H') ∧
    ∀ x H', J.yld i H x H' → g x (wipe σ vs) H' fun σ2 H2 => wipe σ2 vs = wipe σ vs ∧ tt σ2 H2 fun b H3 => if b = true then Do Nx σ2 H3 else Nx H3)
theorem walk_ok {X : Cx} (hc : X.calm = true) (hx : X.xe = No) {tg : Expr} {J : It} {fp : List Addr} {it : Addr} {tn : Nat → Heap → Prop} (T : Turn X.prog X.w X.K tg J fp it tn) {g : TG} {tt : TT} {ifs : List Expr} (pg : PG X tg g) (pt : PTs X ifs tt)
    {p : Pos} {yes : Sem Fin} {c : Code} (hq : c.quiet = true) (hu : X.A.under c = X.A) (hd : (model X.prog X.w).den c = (clauseTurn tg p ifs (.ref it) X.env yes (again c)).onRaise fun x => do noteFrame x X.env; theTreesLotGoes x)
    {pins : List (Addr × Obj)} {vs : List Nat} {σ : L2.St} {H0 : Hp} {s : Shared} {R : Result → Shared → Prop} {Out : Hp → Prop} {Do : (Hp → Prop) → L2.St → Hp → Prop}
    (wk : Walk J g tt vs σ Out Do H0) (I0 : Inv X pins (wipe σ vs) H0 s) (mine : ∀ b ∈ fp, FpOk X pins H0 b) (t0 : tn 0 s.heap) (out : ∀ H t, Inv X pins (wipe σ vs) H t → Out H → R (.ok .next) t)
    (more : ∀ Nx l σ2 H t, Inv X (pins ++ l) σ2 H t → wipe σ2 vs = wipe σ vs → Do Nx σ2 H → wpAny (model X.prog X.w) X.A yes (fun f t' => f = .again c ∧ ∃ σ3 H', Inv X (pins ++ l) σ3 H' t' ∧ Tells (wipe σ vs) σ3 ∧ Nx H') No t) :
    codeAny (model X.prog X.w) X.A c R s := by
  obtain ⟨W, ⟨m0, w0⟩, turn⟩ := wk
  refine codeAny_loop hq (fun m t => ∃ i H, W i m H ∧ tn i t.heap ∧ Inv X pins (wipe σ vs) H t ∧ ∀ b ∈ fp, H b = none) (fun m t => ?_) m0 ⟨0, H0, w0, t0, I0, fun b hb => (mine b hb).1⟩
  rintro ⟨i, H, wi, ti, I, free⟩
  have own : ∀ {H' : Hp}, (∀ b ∈ fp, H' b = none) → ∀ b ∈ fp, FpOk X pins H' b := fun z b hb => ⟨z b hb, (mine b hb).2⟩
  rw [hu, hd]
  refine wpAny_noted (clauseTurn_ok ?_)
  rcases turn i m H wi with ⟨halt, o⟩ | ⟨go, Nx, fall, each⟩
  · exact thn (T.done X rfl rfl rfl hc i pins t _ H No I (own free) ti halt) fun r t1 ⟨e, I1⟩ => e ▸ out H t1 I1 o
  refine thn (T.item X rfl rfl rfl hc i pins t _ H No I (own free) ti go) fun r t1 ⟨u, e, next⟩ => ?_
  subst e
  refine thn next fun _ t2 ⟨x, H2, I2, rx, y, ti2, free2⟩ => ?_
  -- from here to the turn's end the iterator's objects are pinned
  have I2p := I2.pinned (own free2) (T.obj _ _ ti2)
  have back : ∀ {σ3 : L2.St} {H' : Hp} {t' : Shared}, Inv X (pins ++ pinsAt fp t2.heap) σ3 H' t' → Tells (wipe σ vs) σ3 → Nx H' → ∃ m', m' < m ∧ ∃ i H, W i m' H ∧ tn i t'.heap ∧ Inv X pins (wipe σ vs) H t' ∧ ∀ b ∈ fp, H b = none := fun I' k n' => by
    obtain ⟨m', lt, w'⟩ := fall _ n'
    have pin := fun b (hb : b ∈ fp) o (e : t2.heap.get? b = some o) => I'.pin (b, o) (List.mem_append_right _ (List.mem_append_right _ (mem_pinsAt hb e)))
    exact ⟨m', lt, i + 1, _, w', T.keep _ _ _ ti2 fun b hb o e => (pin b hb o e).1, I'.unpinned.weak k.1 k.2, fun b hb => let ⟨o, e, _⟩ := T.obj _ _ ti2 b hb; (pin b hb o e).2.1⟩
  refine thn (hx ▸ pg.run _ t2 _ H2 x u _ I2p rx (each x H2 y)) fun _ t3 ⟨σ3, H3, I3, w3, q3⟩ => thn (hx ▸ pt.run _ t3 σ3 H3 _ I3 q3) fun b t4 ⟨H4, I4, q4⟩ => ?_
  have k3 : Tells (wipe σ vs) σ3 := w3 ▸ wipe_tells σ3 vs
  cases b with
  | true => exact thn (more Nx _ σ3 H4 t4 I4 w3 q4) fun f t5 ⟨e, σ5, H5, I5, k5, n5⟩ => e ▸ ⟨rfl, back I5 k5 n5⟩
  | false => exact wpAny_pure ⟨rfl, back I4 k3 q4⟩
/-! ### two clauses -/
theorem asNo {X : Cx} (hx : X.xe = No) {α : Type} {m : Sem α} {Q : α → Shared → Prop} {s : Shared} (h : wpAny (model X.prog X.w) X.A m Q X.xe s) : wpAny (model X.prog X.w) X.A m Q No s := by
  rw [← hx]
  exact h
/-- both loops, in the block's own context; U: the inner loop's end may unlock a dict -/
theorem two_block {Y : Cx} {n tg i tg1 i1 : Expr} {fs fs1 : List Expr} {emit : Addr → Env → Sem Unit} (ok2 : TwoOk Y.prog Y.w n tg i fs tg1 i1 fs1 emit) (hc : Y.calm = true) (hx : Y.xe = No)
    {J : It} {fp : List Addr} {it : Addr} {tn : Nat → Heap → Prop} (T : Turn Y.prog Y.w Y.K tg J fp it tn) {g g1 : TG} {tt tt1 : TT} {wi1 : TI} {D : Addr} {act : (Hp → Prop) → L2.St → Hp → Prop} {vs vs1 : List Nat}
    (hg : PG Y tg g) (ht : PTs Y fs tt) (hi1 : PI Y tg1 i1 wi1) (hg1 : PG Y tg1 g1) (ht1 : PTs Y fs1 tt1) (hv : ∀ j ∈ vs1, j ∈ vs) (hs1 : ∀ x, foldedSetIterable i1 Y.env x = pure x)
    (he : ∀ pins s σ H N, Inv Y pins σ H s → act N σ H → wpAny (model Y.prog Y.w) Y.A (emit D Y.env) (fun _ t => ∃ H', Inv Y pins σ H' t ∧ N H') No s)
    {σ : L2.St} {H0 : Hp} {s : Shared} {R : Result → Shared → Prop} {Out : Hp → Prop} (wk : Walk J g tt vs σ Out (fun Nx σ2 H3 => wi1 σ2 H3 fun J1 H4 => Walk J1 g1 tt1 vs1 σ2 Nx act H4) H0)
    (I0 : Inv Y [] (wipe σ vs) H0 s) (mine : ∀ b ∈ fp, FpOk Y [] H0 b) (t0 : tn 0 s.heap) (out : ∀ H t, Inv Y [] (wipe σ vs) H t → Out H → R (.ok .next) t) :
    codeAny (model Y.prog Y.w) Y.A (.compStart n 0 (.ref it) (.ref D) Y.env) R s := by
  refine start_ok (by rw [ok2.cl]; rfl) rfl (ok2.runs ..).2 (ok2.from_ ..) (ok2.calm ..) (fun Q E q => T.self Y.A 0 _ Q E t0 q) (walk_ok hc hx T hg ht (ok2.calm ..) (ok2.runs ..).1 (ok2.outer ..) wk I0 mine t0 out fun Nx l σ2 H t I w d => ?_)
  refine wpAny_bind (thn (asNo hx (hi1.run _ t σ2 H _ I d)) fun x t1 h1 => wpAny_bind (wpAny_standAt (wpAny_bind (wpAny_of_eq (hs1 x) (wpAny_bind (wpAny_holding (thn (asNo hx h1) fun z t2 ⟨it1, fp1, tn1, J1, H1, e, I1, T1, ti, f1, wk1⟩ => ?_)))))))
  subst e
  have k1 := wipe_less w hv
  have inner : codeAny (model Y.prog Y.w) Y.A (.compStart n 1 (.ref it1) (.ref D) Y.env) (fun r t' => (∃ f, r = .ok f) ∧ ∃ σ3 H', Inv Y ([] ++ l) σ3 H' t' ∧ Tells (wipe σ vs) σ3 ∧ Nx H') t2 := by
    refine start_ok (by rw [ok2.cl]; rfl) rfl (ok2.runs ..).2 (ok2.from_ ..) (ok2.calm ..) (fun Q E q => T1.self Y.A 0 _ Q E ti q) (walk_ok hc hx T1 hg1 ht1 (ok2.calm ..) (ok2.runs ..).1 (ok2.inner ..) wk1 (I1.weak (wipe_tells σ2 vs1).1 (wipe_tells σ2 vs1).2) f1 ti (fun H' t' I' o => ?_) fun Nx1 l1 σ4 H' t' I' w' d' => ?_)
    · exact ⟨⟨_, rfl⟩, _, _, I', k1, o⟩
    · exact wpAny_bind (thn (he _ _ _ _ _ I' d') fun _ t5 ⟨H5, I5, n5⟩ => wpAny_pure ⟨rfl, σ4, H5, I5, w' ▸ wipe_tells σ4 vs1, n5⟩)
  refine wpAny_bind (wpAny_runOwn ((Around.mark_none Y.A).symm ▸ codeAny_mono inner fun r t' ⟨⟨f, e⟩, r'⟩ => ?_))
  subst e
  exact wpAny_pure ⟨rfl, r'⟩
section
variable {X : Cx}
/-- what holds in each block that starts from here -/
abbrev Blks (X : Cx) (scope : Scope) (F : Hp → Cx → Prop) : Prop := ∀ (s : Shared) (H : Hp) (C : Addr) (cl : List (Str × Addr)) (fp : List Addr), F H (X.blk s H scope (compEnvC scope cl C X.env) fp)
/-- o: what the new object is at first; act D Nx: a thing that passed all tests goes into it, Nx behind it -/
def tTwo (o : HO) (act : Addr → (Hp → Prop) → L2.St → Hp → Prop) (wi : TI) (g : TG) (tt : TT) (wi1 : Hp → TI) (g1 : TG) (tt1 : TT) (vs vs1 : List Nat) : TE := fun σ H Q => wi σ H fun J H1 => ∀ D, H1 D = none →
  Walk J g tt vs σ (Q (.ref D)) (fun Nx σ2 H3 => wi1 (upd H1 D o) σ2 H3 fun J1 H4 => Walk J1 g1 tt1 vs1 σ2 Nx (act D) H4) (upd H1 D o)
theorem two_core {n tg i tg1 i1 : Expr} {fs fs1 : List Expr} {emit : Addr → Env → Sem Unit} (ok2 : TwoOk X.prog X.w n tg i fs tg1 i1 fs1 emit) {mk : Sem Value} {o : HO} {ob : Obj}
    (hm : ∀ (Q : Value → Shared → Prop) (s : Shared), Q (.ref s.heap.objs.size) { s with heap := s.heap.push ob } → wpAny (model X.prog X.w) X.A mk Q X.xe s)
    (ho : ∀ (H : Hp) (h : Heap), sysModules < h.objs.size → ObjOk X.prog X.w (upd H h.objs.size o) (h.push ob) h.objs.size o)
    {pins : List (Addr × Obj)} {s : Shared} {σ : L2.St} {H : Hp} {Q : VK} {scope : Scope} {own : List (Str × Nat)} {vs1 : List Nat} {at_ : Pos} {wi : TI} {wi1 : Hp → TI} {g g1 : TG} {tt tt1 : TT} {act : Addr → (Hp → Prop) → L2.St → Hp → Prop} {use : Option (Value → Sem Unit)} {Qf : Value → Shared → Prop}
    (hc : X.calm = true) (hN : X.N.Nodup) (I : Inv X pins σ H s) (hi : PI X tg i wi) (ok : BlkOk X.N X.env.scope scope own) (hv : ∀ j ∈ vs1, j ∈ own.map (·.2)) (hs : ∀ x, foldedSetIterable i X.env x = pure x) (hs1 : ∀ env x, foldedSetIterable i1 env x = pure x)
    (hg : Blks X scope fun _ Y => PG Y tg g) (ht : Blks X scope fun _ Y => PTs Y fs tt) (hi1 : Blks X scope fun H0 Y => PI Y tg1 i1 (wi1 H0)) (hg1 : Blks X scope fun _ Y => PG Y tg1 g1) (ht1 : Blks X scope fun _ Y => PTs Y fs1 tt1)
    (he : Blks X scope fun _ Y => ∀ pins s σ H D N, Inv Y pins σ H s → act D N σ H → wpAny (model Y.prog Y.w) Y.A (emit D Y.env) (fun _ t => ∃ H', Inv Y pins σ H' t ∧ N H') No s)
    (h : tTwo o act wi g tt wi1 g1 tt1 (own.map (·.2)) vs1 σ H Q)
    (last : ∀ D C t m H', Inv X pins σ H' t → Q (.ref D) H' → t.heap.Ns C m → FpOk X pins H' C → compPost (model X.prog X.w) X.A X.xe use Qf (.ref D) C (.ok .next) t) :
    wpAny (model X.prog X.w) X.A (comprehension n scope X.env at_ mk false (eval i X.env) use) Qf X.xe s := by
  have free : ∀ y ∈ scope.names, y.2 = .free → ∃ c, X.env.cells.lookup y.1 = some c := fun y hy e => I.ok.has _ (ok.free y hy e)
  refine wpAny_comprehension_free (use := use) ok2.cl hs (closure_ok free) ok.kind (fun y hy e => (ok.uniq y hy).trans (congrArg some e)) (thn (hi.run pins s σ H _ I h) fun v a hv' => thn hv' fun z b ⟨it, fp, tn, J, H1, e, I1, T, tb, fo, q⟩ => ?_)
  subst e
  refine hm _ _ (newEnv_comp ?_)
  have new : H1 b.heap.objs.size = none := I1.hok.fresh (Nat.le_refl _)
  have wk := q _ new
  have I2 : Inv X pins σ (upd H1 b.heap.objs.size o) { b with heap := b.heap.push ob } := I1.laid (t' := b.toks) (fun _ _ z => Heap.get?_push_of_some _ z) (Nat.le_refl _) (ho H1 b.heap I1.big)
  have low : ∀ x ∈ fp, x < b.heap.objs.size := fun x hx => let ⟨_, z, _⟩ := T.obj _ _ tb x hx; Heap.lt_size z
  have fo2 : ∀ x ∈ fp, FpOk X pins (upd H1 b.heap.objs.size o) x ∧ x < (b.heap.push ob).objs.size := fun x hx => ⟨⟨(upd_ne (Nat.ne_of_lt (low x hx))).trans (fo x hx).1, (fo x hx).2⟩, by rw [Heap.size_push]; exact Nat.lt_succ_of_lt (low x hx)⟩
  have I3 := block_start I2 ok hN fo2
  refine two_block (Y := X.blk { b with heap := b.heap.push ob } (upd H1 b.heap.objs.size o) scope _ fp) ok2 hc rfl T (hg _ _ _ _ fp) (ht _ _ _ _ fp) (hi1 _ _ _ _ fp) (hg1 _ _ _ _ fp) (ht1 _ _ _ _ fp) hv (hs1 _) (fun _ _ _ _ _ => he _ _ _ _ fp _ _ _ _ _ _) wk I3 (fun x hx => ?_) ?_ fun H' t I' q' => ?_
  · exact ⟨(fo2 x hx).1.1, (I3.ok.exf x hx).1, I3.ok.exfs x hx, .inl hx, fun y c e => (I3.ok.exf x hx).2 y c e, fun p hp => nomatch hp⟩
  · exact T.keep _ _ _ tb fun x _ z e => pushCells_keeps _ _ _ _ (Heap.get?_push_of_some _ (Heap.get?_push_of_some _ e))
  · -- the block is left: the def's own context again
    have I4 : Inv X pins σ H' t := I2.call' (ch := fp) I'.os I'.base I'.hok I'.bare fun x hx => let ⟨_, a2, _, a4, a5, a6⟩ := (fo2 x hx).1; ⟨a4, a2, a5, a6⟩
    have fr : H' (b.heap.push ob).objs.size = none := I'.free
    obtain ⟨m, ns, _⟩ := I'.loc
    exact last _ _ t m H' I4 q' ns (I2.fpOk (Nat.le_refl _) fr)
/-- as a value -/
theorem pe_two {n tg i tg1 i1 : Expr} {fs fs1 : List Expr} {emit : Addr → Env → Sem Unit} (ok2 : TwoOk X.prog X.w n tg i fs tg1 i1 fs1 emit) {mk : Sem Value} {o : HO} {ob : Obj}
    (hm : ∀ (Q : Value → Shared → Prop) (s : Shared), Q (.ref s.heap.objs.size) { s with heap := s.heap.push ob } → wpAny (model X.prog X.w) X.A mk Q X.xe s)
    (ho : ∀ (H : Hp) (h : Heap), sysModules < h.objs.size → ObjOk X.prog X.w (upd H h.objs.size o) (h.push ob) h.objs.size o)
    {scope : Scope} {own : List (Str × Nat)} {vs1 : List Nat} {at_ : Pos} {wi : TI} {wi1 : Hp → TI} {g g1 : TG} {tt tt1 : TT} {act : Addr → (Hp → Prop) → L2.St → Hp → Prop} (ev : eval n X.env = comprehension n scope X.env at_ mk false (eval i X.env) none)
    (hc : X.calm = true) (hN : X.N.Nodup) (hi : PI X tg i wi) (ok : BlkOk X.N X.env.scope scope own) (hv : ∀ j ∈ vs1, j ∈ own.map (·.2)) (hs : ∀ x, foldedSetIterable i X.env x = pure x) (hs1 : ∀ env x, foldedSetIterable i1 env x = pure x)
    (hg : Blks X scope fun _ Y => PG Y tg g) (ht : Blks X scope fun _ Y => PTs Y fs tt) (hi1 : Blks X scope fun H0 Y => PI Y tg1 i1 (wi1 H0)) (hg1 : Blks X scope fun _ Y => PG Y tg1 g1) (ht1 : Blks X scope fun _ Y => PTs Y fs1 tt1)
    (he : Blks X scope fun _ Y => ∀ pins s σ H D N, Inv Y pins σ H s → act D N σ H → wpAny (model Y.prog Y.w) Y.A (emit D Y.env) (fun _ t => ∃ H', Inv Y pins σ H' t ∧ N H') No s) :
    PE X n (tTwo o act wi g tt wi1 g1 tt1 (own.map (·.2)) vs1) := by
  refine ⟨fun pins s σ H Q I h => ev.symm ▸ two_core ok2 hm ho hc hN I hi ok hv hs hs1 hg ht hi1 hg1 ht1 he h fun D C t m H' I' q ns ⟨a0, a1, a2, a3, a4, a5⟩ => ⟨m, ns, fun h2 sb => ⟨.ref D, H', ?_, rfl, q⟩⟩⟩
  exact I'.turned (t' := t.toks) (fun b z ne e => (sb.2 b ne).trans e) a0 a1 a3 a4 a5
/-! ### a list; a dict -/
def actD (tk te : TE) : Addr → (Hp → Prop) → L2.St → Hp → Prop := fun D N σ H => tk σ H fun y H1 => te σ H1 fun z H2 => ∃ kvs k, y = kV k ∧ H2 D = some (.dK kvs) ∧ kvs.length < sizeLine ∧ N (upd H2 D (.dK (putK kvs k z)))
abbrev tDc2 (wi : TI) (g : TG) (tt : TT) (wi1 : TI) (g1 : TG) (tt1 : TT) (tk te : TE) (vs vs1 : List Nat) : TE := tTwo (.dK []) (actD tk te) wi g tt (fun _ => wi1) g1 tt1 vs vs1
theorem actD_ok {Y : Cx} (hx : Y.xe = No) {a b : Expr} {tk te : TE} (pk : PE Y a tk) (pe : PE Y b te) : ∀ pins s σ H D N, Inv Y pins σ H s → actD tk te D N σ H →
    wpAny (model Y.prog Y.w) Y.A (eval a Y.env >>= fun u => holding [u] (eval b Y.env) >>= fun v => standAt { a.pos with endLine := b.pos.endLine, endCol := b.pos.endCol } >>= fun _ => holding [u, v] (dictSet D u v)) (fun _ t => ∃ H', Inv Y pins σ H' t ∧ N H') No s := fun pins s σ H D N I h =>
  wpAny_bind (thn (asNo hx (pk.run _ s σ H _ I h)) fun u t ⟨y, H1, I1, r, h1⟩ => wpAny_bind (wpAny_holding (thn (asNo hx (pe.run _ t σ H1 _ I1 h1)) fun u2 t2 ⟨z, H2, I2, r2, kvs, k, ey, at_, room, n⟩ =>
    wpAny_bind (wpAny_standAt (wpAny_holding (d_dictSet I2 at_ room (ey ▸ r) r2 fun t3 I3 => ⟨_, I3, n⟩))))))
theorem obD {P : Program} {w : World} (H : Hp) (h : Heap) (big : sysModules < h.objs.size) : ObjOk P w (upd H h.objs.size (.dK [])) (h.push { cls := .type "dict", data := .dict #[] }) h.objs.size (.dK []) := dk_empty h big
section
variable {a b e tg i tg1 i1 : Expr} {fs fs1 : List Expr} {scope : Scope} {p : Pos} {own : List (Str × Nat)} {vs1 : List Nat} {wi wi1 : TI} {g g1 : TG} {tt tt1 : TT} {te tk : TE}
theorem pe_dc2 (hc : X.calm = true) (hN : X.N.Nodup) (hi : PI X tg i wi) (ok : BlkOk X.N X.env.scope scope own) (hv : ∀ j ∈ vs1, j ∈ own.map (·.2)) (hg : Blks X scope fun _ Y => PG Y tg g) (ht : Blks X scope fun _ Y => PTs Y fs tt)
    (hi1 : Blks X scope fun _ Y => PI Y tg1 i1 wi1) (hg1 : Blks X scope fun _ Y => PG Y tg1 g1) (ht1 : Blks X scope fun _ Y => PTs Y fs1 tt1) (hk : Blks X scope fun _ Y => PE Y a tk) (he : Blks X scope fun _ Y => PE Y b te)
    (hs : ∀ x, foldedSetIterable i X.env x = pure x) (hs1 : ∀ env x, foldedSetIterable i1 env x = pure x) : PE X (.DictComp a b [⟨tg, i, fs, 0⟩, ⟨tg1, i1, fs1, 0⟩] scope p) (tDc2 wi g tt wi1 g1 tt1 tk te (own.map (·.2)) vs1) :=
  pe_two two_dict (fun _ _ h => wpAny_newObj_type h) obD (arm_eval_DictComp ..) hc hN hi ok hv hs hs1 hg ht hi1 hg1 ht1 fun s H C cl fp => actD_ok rfl (hk s H C cl fp) (he s H C cl fp)
end
end
end MP

set_option Elab.async false
set_option linter.all false
set_option maxRecDepth 100000
set_option maxHeartbeats 4000000
/-! MP: sets of texts, over HandS.SetTxt0's exact payload (Froz.add_x). -/
namespace STx
open PySem L2 PySem.Spec PyProof.Rows
def txt (e : Int × Value) : Str := match e.2 with | .str x _ => x | _ => Str.empty
def txts (D : Froz.SD) : List Str := D.1.toList.map txt
/-- a payload of texts, each once; the table as a walk wants it -/
structure Pay (w : World) (D : Froz.SD) : Prop where
  str : ∀ e ∈ D.1.toList, ∃ u, e = (hashStr w (txt e), Value.str (txt e) u)
  once : (txts D).Nodup
  fit : D.2.2.fits D.1.size = true
  ris : Ris D.2.2.place.toList
  led : w.params.followText "set-order" = false → D.2.2.led = true
/-- the set at a holds just S, n texts -/
def SetS (w : World) (h : Heap) (a : Addr) (S : Str → Bool) (n : Nat) : Prop := ∃ D, h.get? a = some (Froz.sObj "set" D) ∧ Pay w D ∧ (∀ k, S k = true ↔ k ∈ txts D) ∧ D.1.size = n ∧ n < scanBound
section
variable {P : Program} {w : World} {D : Froz.SD}
theorem len_txts : (txts D).length = D.1.size := (List.length_map _).trans (Array.length_toList)
/-- what the library's rules ask of a payload -/
theorem Pay.ok (p : Pay w D) : Froz.TxOk P w D (txts D) where
  el := fun e he => by
    obtain ⟨u, q⟩ := p.str e he
    rw [q]
    exact ⟨⟨txt e, Froz.is_str _ _, rfl⟩, rfl⟩
  mem := fun k => by
    refine List.mem_map.trans (exists_congr fun e => and_congr_right fun he => ?_)
    obtain ⟨u, q⟩ := p.str e he
    constructor
    · rintro rfl
      exact q ▸ Froz.is_str _ _
    · intro z
      rw [q] at z
      exact (PySem.strKind P w).inj (.str (txt e) u) _ _ (Froz.is_str _ u) z
  sz := len_txts.symm
  fit := p.fit
theorem Pay.empty : Pay w (#[], 0, .fresh 0 0 (!w.params.followText "set-order")) := ⟨fun _ z => absurd z (by simp), List.nodup_nil, rfl, List.Pairwise.nil, fun z => by rw [z]; rfl⟩
/-- the table laid anew: the same entries in another order -/
theorem tail_keeps (ep : Nat) (es : Array (Int × Value)) (t : SetTable) (b : Bool) : (Froz.tailTx ep es t b).1.toList.Perm es.toList ∧ (Ris t.place.toList → Ris (Froz.tailTx ep es t b).2.2.place.toList) ∧ (Froz.tailTx ep es t b).2.2.led = t.led := by
  unfold Froz.tailTx
  split
  · exact ⟨relayAll_perm t es _, fun _ => relayAll_ris t es _, relayAll_led t es _⟩
  · exact ⟨.refl _, id, rfl⟩
theorem add_keeps (x : Int) (v : Value) (D : Froz.SD) : (Froz.addTx x v D).1.toList.Perm ((x, v) :: D.1.toList) ∧ (Ris D.2.2.place.toList → Ris (Froz.addTx x v D).2.2.place.toList) ∧ (Froz.addTx x v D).2.2.led = D.2.2.led := by
  have new : (layNew D.2.2 D.1 x v).1.toList.Perm ((x, v) :: D.1.toList) := (layNew_perm D.2.2 D.1 x v).trans (by rw [Array.toList_push]; exact List.perm_append_singleton _ _)
  obtain ⟨p, r, l⟩ := tail_keeps D.2.1 (layNew D.2.2 D.1 x v).1 (if (layNew D.2.2 D.1 x v).2.1.plain = true then { (layNew D.2.2 D.1 x v).2.1 with plain := false } else (layNew D.2.2 D.1 x v).2.1) (layNew D.2.2 D.1 x v).2.2.1
  refine ⟨p.trans new, fun z => r ?_, l.trans ?_⟩
  · have := layNew_ris D.2.2 D.1 x v z
    split <;> exact this
  · have := layNew_led D.2.2 D.1 x v
    split <;> exact this
theorem Pay.add (P : Program) {k : Str} (u : Tok) (p : Pay w D) (new : k ∉ txts D) : Pay w (Froz.addTx (hashStr w k) (.str k u) D) ∧ (txts (Froz.addTx (hashStr w k) (.str k u) D)).Perm (k :: txts D) := by
  obtain ⟨pm, r, l⟩ := add_keeps (hashStr w k) (.str k u) D
  have pt : (txts (Froz.addTx (hashStr w k) (.str k u) D)).Perm (k :: txts D) := pm.map txt
  refine ⟨⟨fun e he => ?_, pt.nodup_iff.mpr (List.nodup_cons.mpr ⟨new, p.once⟩), (Froz.add_ok (P := P) u p.ok).fit, r p.ris, fun z => l.trans (p.led z)⟩, pt⟩
  cases pm.mem_iff.mp he with
  | head => exact ⟨u, rfl⟩
  | tail _ z => exact p.str e z
end
section
variable {P : Program} {w : World} {A : Around} {E : Value → Shared → Prop} {s : Shared} {a : Addr} {D : Froz.SD} {k : Str} {u : Tok}
/-- a text that is there already -/
theorem stay_x {Q : Bool → Shared → Prop} (at_ : s.heap.get? a = some (Froz.sObj "set" D)) (p : Pay w D) (old : k ∈ txts D) (room : D.1.size < scanBound) (h : Q false s) : wpAny (model P w) A (setAddHashed a (.str k u) (hashStr w k)) Q E s := by
  have F : Froz.TxOk P w D (txts D) := p.ok
  obtain ⟨j, hj⟩ : ∃ j, D.1.toList.findIdx? (fun e => (PySem.strKind P w).is k e.2) = some j := by
    obtain ⟨e, he, z⟩ := (F.mem k).mp old
    exact Option.isSome_iff_exists.mp (List.findIdx?_isSome.trans (List.any_eq_true.mpr ⟨e, he, z⟩))
  have seen := wpAny_setScan_of (prog := P) (A := A) (E := E) (adding := true) (knd := PySem.strKind P w) (Q := fun m t => m = .found j ∧ t = s) (Froz.is_str k u) at_ rfl F.fit F.el
  rw [hj] at seen
  refine wpAny_holding (wpAny_bind (wpAny_setState_of at_ rfl F.fit ?_))
  simp only [byScan_of (x := Value.str k u) rfl room F.el, if_true]
  exact wpAny_bind (wpAny_bind (wpAny_rule (wpAny_bind (wpAny_mono (seen ⟨congrArg ScanMet.found (Nat.zero_add j), rfl⟩) (fun _ _ ⟨e, t⟩ => e ▸ t ▸ wpAny_pure (wpAny_pure h)) fun _ _ z => z))))
theorem add_any {S : Str → Bool} {n : Nat} {Q : Bool → Shared → Prop} (R : SetS w s.heap a S n) (room : n + 1 < scanBound)
    (hQ : ∀ b h' m, Heap.SameBut a s.heap h' → m ≤ n + 1 → SetS w h' a (fun j => S j || decide (j = k)) m → Q b { s with heap := h' }) : wpAny (model P w) A (setAddHashed a (.str k u) (hashStr w k)) Q E s := by
  obtain ⟨D, at_, p, mem, sz, _⟩ := R
  by_cases old : k ∈ txts D
  · refine stay_x at_ p old (by omega) (hQ false s.heap n (.refl a _) (Nat.le_succ n) ⟨D, at_, p, fun j => ?_, sz, by omega⟩)
    rw [Bool.or_eq_true, mem, decide_eq_true_eq]
    exact ⟨fun z => z.elim id fun e => e ▸ old, .inl⟩
  · obtain ⟨p2, pt⟩ := p.add P u old
    have l2 : (Froz.addTx (hashStr w k) (.str k u) D).1.size = n + 1 := by rw [← len_txts, pt.length_eq, List.length_cons, len_txts, sz]
    refine Froz.add_x at_ p.ok old (by rw [len_txts]; omega) (hQ true _ (n + 1) (.update _ a _) (Nat.le_refl _) ⟨_, Heap.get?_update_self _ at_ rfl, p2, fun j => ?_, l2, room⟩)
    rw [Bool.or_eq_true, mem, decide_eq_true_eq, pt.mem_iff, List.mem_cons]
    exact or_comm
end
section
variable {P : Program} {w : World} {A : Around} {s : Shared}
theorem SetS.moved {h h' : Heap} {a : Addr} {S : Str → Bool} {n : Nat} (R : SetS w h a S n) (k : ∀ o, h.get? a = some o → h'.get? a = some o) : SetS w h' a S n := let ⟨D, z, r⟩ := R; ⟨D, k _ z, r⟩
theorem den_of {id : String} {args : Args} {b : Builtin} (h : entryFor table id = some b) : (model P w).den (.builtin id args) = b args := by
  show (match entryFor table id with | some b => b args | none => unsupported ((withoutEnding? id "#data").getD id)) = b args
  rw [h]
/-- the loop that puts the walk's texts in; the measure: how many are left -/
theorem fill_ok {I a : Addr} {fp wr : List Addr} {G : Array GenState → Array GenState → Prop} {n : Nat} {Pv : Nat → Value → Prop} {St : Nat → Shared → Prop} {R : Result → Shared → Prop} (W : WalksS P w A.in1 I fp wr G n Pv St) (apart : a ∉ fp)
    (xs : List Str) (hn : xs.length = n) (room : n + 1 < scanBound) (each : ∀ i v, Pv i v → ∃ k u, xs[i]? = some k ∧ v = .str k u) (st0 : St 0 s) (none : SetS w s.heap a (fun _ => false) 0)
    (full : ∀ s' c, Moved (a :: wr) G s s' → SetS w s'.heap a (fun j => decide (j ∈ xs)) c → R (.ok (.ret .none)) s') : codeAny (model P w) A (.builtin "set.update.loop" ⟨[.ref a, .ref I], []⟩) R s := by
  have aw : a ∉ wr := fun z => apart (W.sub a z)
  refine codeAny_loop (plainId_quiet F.plain_set_update_loop _) (fun m t => ∃ i c, i + m = n ∧ c ≤ i ∧ St i t ∧ Moved (a :: wr) G s t ∧ SetS w t.heap a (fun j => decide (j ∈ xs.take i)) c) (fun m t inv => ?_) n
    ⟨0, 0, Nat.zero_add n, Nat.le_refl 0, st0, .refl W.grefl, by simpa using none⟩
  obtain ⟨i, c, im, ci, st, mv, got⟩ := inv
  rw [Around.under_plainId F.plain_set_update_loop _, den_of F.entry_set_update_loop]
  cases m with
  | zero =>
    have e : i = n := im
    subst e
    refine wpAny_bind (W.done t _ _ st fun t1 m1 => wpAny_pure (full t1 c (mv.trans W.gtrans (m1.mono fun _ => List.mem_cons_of_mem _)) ?_))
    rw [List.take_of_length_le (Nat.le_of_eq hn)] at got
    exact got.moved fun o z => m1.heap a o aw z
  | succ m =>
    have lt : i < n := by omega
    refine wpAny_bind (W.item i t _ _ lt st fun v t1 pv st1 m1 => ?_)
    obtain ⟨k, u, hk, rfl⟩ := each i v pv
    refine wpAny_bind (wpAny_holding (wpAny_holding (wpAny_bind ((PySem.strKind P w).pyHash (k := k) (Froz.is_str k u) (add_any (s := { t1 with toks := t1.toks + 1 }) (got.moved fun o z => m1.heap a o aw z) (by omega) fun b h2 c2 sb le got2 =>
      wpAny_pure ⟨rfl, m, Nat.lt_succ_self m, i + 1, c2, by omega, by omega, W.frame _ t1 h2 _ st1 (Nat.le_succ _) fun b hb o z => (sb.2 b fun e => apart (e ▸ hb)).trans z, ?_, ?_⟩)))))
    · exact (mv.trans W.gtrans (m1.mono fun _ => List.mem_cons_of_mem _)).trans W.gtrans ((Moved.refl W.grefl).then_heap (Nat.le_succ _) fun b o hb z => (sb.2 b fun e => hb (e ▸ List.mem_cons_self)).trans z)
    · have e : (fun j => decide (j ∈ xs.take (i + 1))) = fun j => decide (j ∈ xs.take i) || decide (j = k) := by
        funext j
        rw [List.take_add_one, hk]
        simp
      rw [e]
      exact got2
end
end STx

set_option Elab.async false
set_option linter.all false
set_option maxRecDepth 100000
set_option maxHeartbeats 4000000
/-! MP: set(a list of texts), sorted and len of it. -/
namespace STx
open PySem L2 PySem.Spec PyProof.Rows
section
variable {P : Program} {w : World} {A : Around} {E : Value → Shared → Prop} {s : Shared}
/-- T(arg), by what the type's two codes do -/
theorem type_call_by {T newId initId : String} {arg : Value} {Q Q1 : Value → Shared → Prop} (ft : TypeCalled T newId initId) (hct : checkTypeCall T ⟨[arg], []⟩ = pure ())
    (new : codeAny (model P w) A.in1 (.call (.builtin newId) ⟨[.type T, arg], []⟩) (wants Q1 E) s)
    (init : ∀ o t, Q1 o t → t.TypeIs o T ∧ codeAny (model P w) A.in1 (.call (.builtin initId) ⟨[o, arg], []⟩) (wants (fun r t' => r = .none ∧ Q o t') E) t) :
    wpAny (model P w) A (call (.type T) [arg]) Q E s := by
  obtain ⟨ft1, ft2, ⟨m1, m2, ft3⟩, ft4, ft5, ft6, ft7⟩ := ft
  have made : codeAny (model P w) A.in1 (.call (.builtin newId) ⟨[.type T, arg], []⟩) (wants (fun o t => t.TypeIs o T ∧ codeAny (model P w) A.in1 (.call (.builtin initId) ⟨[o, arg], []⟩) (wants (fun r t' => r = .none ∧ Q o t') E) t) E) s :=
    codeAny_mono new fun r t z => by
      cases r with
      | error _ => exact z
      | ok f => cases f <;> first | exact init _ _ z | exact z.elim
  refine wpAny_call (codeAny_of_tree (show wpAny _ _ (callAny (.type T) _) _ _ _ from wpAny_pure ⟨Code.quiet_builtin _ (by decide +kernel), codeAny_builtin F.entry_type_call ((Around.under_plain (weight_type_call_type T [arg] []) rfl).symm ▸ ?_)⟩))
  repeat (any_goals (first | assumption | wp_step))
  refine codeAny_mono made fun r t z => ?_
  cases r with
  | error _ => exact z
  | ok f =>
    cases f <;> try exact z.elim
    rename_i o
    obtain ⟨ty, z⟩ := z
    have look := ft7.lookup
    have bind := ft7.bind o
    repeat (any_goals (first | assumption | wp_step))
    refine codeAny_mono z fun r t2 y => ?_
    cases r with
    | error _ => exact y
    | ok f =>
      cases f <;> try exact y.elim
      obtain ⟨rfl, q⟩ := y
      repeat (any_goals (first | assumption | wp_step))
/-- the new set's object -/
abbrev fresh (w : World) : Obj := Froz.sObj "set" (#[], 0, .fresh 0 0 (!w.params.followText "set-order"))
/-- set.__init__ of a new set with a list: the loop that fills it -/
theorem init_of_list {a l : Addr} {items : Array Value} {R : Result → Shared → Prop} (ha : s.heap.get? a = some (fresh w)) (hl : s.heap.IsList l items)
    (loop : codeAny (model P w) A.in1 (.builtin "set.update.loop" ⟨[.ref a, .ref s.heap.objs.size], []⟩) (fun r t => ∃ v, r = .ok (.ret v) ∧ R (.ok (.ret .none)) t) { s with heap := s.heap.push { cls := .type "list_iterator", data := .fields #[.ref l, .int 0 0] } }) :
    codeAny (model P w) A (.call (.builtin "set.__init__") ⟨[.ref a, .ref l], []⟩) R s := by
  have ty : s.TypeIs (.ref a) "set" := ⟨_, ha, rfl⟩
  refine codeAny_call_builtin F.called_set.init.plain F.entry_set_init (check_set_init_1 ty ?_)
  have no1 := F.sub_list_set
  have no2 := F.sub_list_frozenset
  have no3 : (Value.type "list" == Value.type "dict") = false := by decide
  have hl' := hl
  obtain ⟨⟨c, d, dt, sl⟩, ho, hc, m, hd⟩ := hl
  simp only at hc hd
  subst hc hd
  unfold Builtin.«set.__init__» noKeywords Builtin.Frozenset.updateFrom
  wp_walk using wpAny_pyIter_list hl'
  exact codeAny_mono loop fun r t ⟨v, e, z⟩ => by
    subst e
    exact wpAny_pure (wpAny_pure z)
theorem strs_at_some {us : List Value} {xs : List Str} (r : StrsAre us xs) : us.length = xs.length ∧ ∀ (i : Nat) (v : Value), us[i]? = some v → ∃ k u, xs[i]? = some k ∧ v = .str k u := by
  induction r with
  | nil => exact ⟨rfl, fun i v z => absurd z (by simp)⟩
  | cons k u _ ih =>
    refine ⟨congrArg (· + 1) ih.1, fun i v z => ?_⟩
    cases i with
    | zero => exact ⟨k, u, rfl, (Option.some.inj z).symm⟩
    | succ i => exact ih.2 i v z
theorem texts_of (l : List Value) (h : ∀ v ∈ l, ∃ k u, v = Value.str k u) : StrsAre l (l.map fun v => txt (0, v)) := by
  induction l with
  | nil => exact .nil
  | cons v l ih =>
    obtain ⟨k, u, rfl⟩ := h v (.head l)
    exact .cons k u (ih fun x hx => h x (.tail _ hx))
theorem below {n l : Nat} (h : l < n) : l ≠ n + 1 ∧ n ∉ [n + 1, l] ∧ l ∉ [n, n + 1] := by
  simp only [List.mem_cons, List.not_mem_nil, or_false, not_or]
  omega
/-- set(xs), xs a list of texts -/
theorem set_of_list {l : Addr} {items : Array Value} (xs : List Str) {Q : Value → Shared → Prop} (hh : A.handled = none) (hl : s.heap.IsList l items) (r : StrsAre items.toList xs) (room : xs.length + 1 < scanBound)
    (h : ∀ h' tk c, SetS w h' s.heap.objs.size (fun j => decide (j ∈ xs)) c → (∀ b o, s.heap.get? b = some o → h'.get? b = some o) → Q (.ref s.heap.objs.size) { s with heap := h', toks := tk }) :
    wpAny (model P w) A (call (.type "set") [.ref l]) Q E s := by
  have il : l < s.heap.objs.size := let ⟨_, z, _⟩ := hl; Heap.lt_size z
  refine type_call_by F.called_set (F.typeCall_set_1 _) (code_set_led1 (.ref l) (Q₁ := fun o t => o = .ref s.heap.objs.size ∧ t = { s with heap := s.heap.push (fresh w) }) ⟨rfl, rfl⟩) fun o t z => ?_
  obtain ⟨rfl, rfl⟩ := z
  have at_ : (s.heap.push (fresh w)).get? s.heap.objs.size = some (fresh w) := Heap.get?_push_size _ rfl
  have sz : (s.heap.push (fresh w)).objs.size = s.heap.objs.size + 1 := Heap.size_push ..
  obtain ⟨len, each⟩ := strs_at_some r
  rw [Array.length_toList] at len
  refine ⟨⟨_, at_, rfl⟩, init_of_list at_ (hl.push _) ?_⟩
  have W := (Walks.list (prog := P) (w := w) (A := A.in1.in1.in1) (by simpa using hh) (s.heap.push (fresh w)).objs.size l (by rw [sz]; exact (below il).1) items).toS
  refine fill_ok W (by rw [sz]; exact (below il).2.1) xs len.symm (len ▸ room) (fun i v z => each i v (by rw [Array.getElem?_toList]; exact z)) ⟨⟨_, Heap.get?_push_size _ rfl, rfl, rfl⟩, (hl.push _).push _⟩
    ⟨_, Heap.get?_push_of_some _ at_, Pay.empty, fun k => by simp [txts], rfl, Nat.lt_of_le_of_lt (Nat.zero_le _) room⟩ fun s' c mv got => ⟨_, rfl, rfl, ?_⟩
  have e : s' = { s with heap := s'.heap, toks := s'.toks } := by
    obtain ⟨_, g, d, o, _⟩ := mv
    cases s'
    cases g
    cases d
    cases o
    rfl
  rw [e]
  exact h _ _ c got fun b o z => mv.heap b o (by rw [sz]; exact (below (Heap.lt_size z)).2.2) (Heap.get?_push_of_some _ (Heap.get?_push_of_some _ z))
/-- sorted(set) -/
theorem sorted_of_set {a : Addr} {S : Str → Bool} {n : Nat} {Q : Value → Shared → Prop} (R : SetS w s.heap a S n) (hh : A.handled = none) (few : n < 64)
    (h : ∀ t p (out : Array Value) (c : Nat) (ys : List Str), (∀ b o, s.heap.get? b = some o → t.heap.get? b = some o) → t.gens = s.gens → t.os = s.os → s.heap.objs.size ≤ p → t.heap.get? p = some (seqObj "list" out c) → StrsAre out.toList ys →
      sortedS ys = true → ys.Nodup → (∀ k, k ∈ ys ↔ S k = true) → ys.length = n → Q (.ref p) t) : wpAny (model P w) A (call (.builtin "sorted") [.ref a]) Q E s := by
  obtain ⟨D, at_, p, mem, sz, room⟩ := R
  have led : w.params.followText "set-order" = true ∨ D.2.2.led = true := (Bool.eq_false_or_eq_true _).imp id p.led
  refine Calls.call_function_entry kind_sorted plain_sorted entry_sorted (args_sorted1 _) (wpAny_bind (m := checkCount "sorted" 1 1 _) (wpAny_pure (wpAny_bind (collect_set (A := A.in1) hh ⟨_, at_, rfl, rfl⟩ p.fit (sz ▸ room) p.ris led fun t vs keep le g os pm => ?_))))
  have isT : ∀ v ∈ vs, ∃ k u, v = Value.str k u := fun v hv => by
    obtain ⟨e, he, q⟩ := List.mem_map.mp (pm.mem_iff.mp hv)
    obtain ⟨u, z⟩ := p.str e he
    exact ⟨txt e, u, q.symm.trans (congrArg Prod.snd z)⟩
  have len : vs.length = n := by rw [pm.length_eq, List.length_map, Array.length_toList, sz]
  have same : (vs.map fun v => txt (0, v)).Perm (txts D) := (pm.map fun v => txt (0, v)).trans (by rw [List.map_map]; exact .refl _)
  have K := texts_of vs isT
  have lim : vs.length ≤ sizeLine := by rw [len, sizeLine_eq]; omega
  have new : (t.heap.push (seqObj "list" vs.toArray 0)).get? t.heap.objs.size = some (seqObj "list" vs.toArray 0) := Heap.get?_push_size _ rfl
  refine wpAny_bind (wpAny_newList (wpAny_bind (wpAny_holding (wpAny_call_entry slot_list_sort ⟨_, new, rfl⟩ entry_list_sort (list_sort_treeK strKind_oneLt new K.keysOf (fun _ _ _ e => keyKind_strs (by rw [← e]; exact K)) (len ▸ few) fun st pm2 srt => ⟨_, rfl, ?_⟩) (args_list_sort _)))) lim)
  obtain ⟨ys, ry, py, sy⟩ := sorted_out_str K pm2 srt
  obtain ⟨c, hc⟩ := sortedHeap_at (vs := vs) (out := (arrOf st).map (·.2)) new
  have all := py.trans same
  refine wpAny_pure ⟨_, rfl, h _ t.heap.objs.size _ c ys (fun b o z => ?_) g os le hc ry sy (all.nodup_iff.mpr p.once) (fun k => all.mem_iff.trans (mem k).symm) (by rw [all.length_eq, len_txts, sz])⟩
  have lt := Heap.lt_size (keep b o z)
  exact (sortedHeap_old (Nat.ne_of_lt lt) (by rw [size_push']; exact Nat.lt_succ_of_lt lt)).trans (Heap.get?_push_of_some _ (keep b o z))
end
/-! ### over the layer -/
def SetSO (w : World) (a : Addr) (S : Str → Bool) (n : Nat) : HO := .ext fun h => SetS w h a S n
section
variable {X : Cx} {pins : List (Addr × Obj)} {σ : L2.St} {H : Hp} {s : Shared} {a : Addr} {S : Str → Bool} {n : Nat}
theorem setSO_get (I : Inv X pins σ H s) (ha : H a = some (SetSO X.w a S n)) : SetS X.w s.heap a S n := (I.hok a _ ha).1
theorem SetS.size {w : World} {h : Heap} {xs : List Str} (R : SetS w h a (fun j => decide (j ∈ xs)) n) : n = (MP.ddS xs).length := by
  obtain ⟨D, _, p, mem, sz, _⟩ := R
  have pm : (txts D).Perm (MP.ddS xs) := (List.perm_ext_iff_of_nodup p.once (MP.nodup_ddS xs)).mpr fun k => by rw [← mem k, MP.mem_ddS, decide_eq_true_eq]
  rw [← sz, ← len_txts, pm.length_eq]
def rSetTx (K : PySem.W.Frag) (w : World) : List V → Hp → VK → Prop := fun xs H Q => ∃ (l : Addr) (ys : List Str), xs = [V.ref l] ∧ SqL K H l (ys.map V.str) ∧ ys.length < 1000 ∧
  ∀ p, H p = none → Q (.ref p) (upd H p (SetSO w p (fun j => decide (j ∈ ys)) (MP.ddS ys).length))
theorem cr_setTx (hc : X.calm = true) : CallR X (.type "set") (rSetTx X.K X.w) := by
  rintro pins s σ H xs us Q I r ⟨l, ys, rfl, sq, few, q⟩
  obtain ⟨its, vals, isL, _⟩ := I.list sq
  rw [Vals.ref1 r]
  refine set_of_list ys (I.ok.hd hc) isL.isList vals.strs (by unfold scanBound; omega) fun h' tk c R keep => ?_
  obtain rfl := R.size
  have new : ObjOk X.prog X.w (upd H s.heap.objs.size (SetSO X.w s.heap.objs.size (fun j => decide (j ∈ ys)) (MP.ddS ys).length)) h' s.heap.objs.size (SetSO X.w s.heap.objs.size (fun j => decide (j ∈ ys)) (MP.ddS ys).length) :=
    ⟨R, let ⟨_, z, _⟩ := R; ⟨_, z⟩, fun _ _ z k => z.moved k⟩
  exact ⟨.ref _, _, I.laid (t' := tk) keep (Nat.le_refl _) new, rfl, q _ (I.hok.fresh (Nat.le_refl _))⟩
def rSortedTx (w : World) : List V → Hp → VK → Prop := fun xs H Q => ∃ (a : Addr) (S : Str → Bool) (n : Nat), xs = [V.ref a] ∧ H a = some (SetSO w a S n) ∧ n < 64 ∧
  ∀ (ys : List Str) (p : Addr), sortedS ys = true → ys.Nodup → (∀ k, k ∈ ys ↔ S k = true) → ys.length = n → H p = none → Q (.ref p) (upd H p (.lst (ys.map V.str)))
theorem cr_sortedTx (hc : X.calm = true) : CallR X (.builtin "sorted") (rSortedTx X.w) := by
  rintro pins s σ H vs us Q I r ⟨a, S, n, rfl, ha, few, q⟩
  rw [Vals.ref1 r]
  refine sorted_of_set (setSO_get I ha) (I.ok.hd hc) few fun t p out c ys keep g o le at_ vals srt nd mem len => ?_
  have free : H p = none := I.hok.fresh le
  have lim : (ys.map V.str).length ≤ sizeLine := by rw [List.length_map, len, sizeLine_eq]; omega
  exact ⟨.ref p, upd H p (.lst (ys.map V.str)), I.call' (ch := []) o (Un.laid keep le free) (I.hok.laid keep le ⟨lim, out.toList, c, vals_of_strs vals, at_⟩) (by rw [g]; exact I.bare) (fun _ z => nomatch z), rfl, q ys p srt nd mem len free⟩
end
end STx

set_option Elab.async false
set_option linter.all false
set_option maxRecDepth 100000
/-! MP: sorted(set(xs)) of texts. -/
namespace MP
open PySem L2
section
variable {P : Pg} {L : Ln} {T : Ct} {k : Nat} {X : Cx} {q : Bool} {sc : Scope} {V : WX} {xa : Xa}
theorem setArg_some {f : Str} {l : List Expr} {b : Expr} (h : setArg sc f l = some b) : ∃ g p pos, l = [.Call (.Name g p) [b] [] pos] ∧ f = "sorted" ∧ g = "set" ∧ isGl sc g = true ∧ notStar b = true := by
  unfold setArg at h
  split at h
  · split at h
    · rename_i z
      cases h
      exact ⟨_, _, _, rfl, z⟩
    · cases h
  · cases h
theorem e_setOf (G : Gd P L T k X q sc V xa) (hq : q = true) {f : Str} {p pos : Pos} {a : Expr} {as : List Expr} {b : Expr} {cb : E} (hg : isGl sc f = true) (h : setArg sc f (a :: as) = some b) (hb : PE X b (tD P L X.K X.w V xa cb)) :
    PE X (.Call (.Name f p) (a :: as) [] pos) (tD P L X.K X.w V xa (.setOf cb)) := by
  obtain ⟨g, p2, pos2, e, rfl, rfl, hg2, hn⟩ := setArg_some h
  cases e
  have hc := G.calm hq
  have m1 : X.mg "sorted" = none := G.lk.bl _ (by decide +kernel)
  have m2 : X.mg "set" = none := G.lk.bl _ (by decide +kernel)
  have inner := pe_callTy (p := p2) (pos := pos2) (STx.cr_setTx (X := X) hc) (gl_of G hg2) m2 PyProof.Rows.boot_set (pa_cons hb pa_nil (star_cons hn)) (by decide) (by decide) (star_cons hn) rfl
  refine peW (pe_callB (p := p) (pos := pos) (STx.cr_sortedTx (X := X) hc) (gl_of G hg) m1 boot_sorted (pa_cons inner pa_nil rfl) (by decide) (by decide) rfl rfl) fun σ H Q ⟨fz, ρ, ws, h, R, S, p⟩ => ?_
  refine tG.imp (step (rel := vr L.sa) R S p) fun x H1 ⟨ρ1, h1, a', pr, R1, S1, rx, p1⟩ => ?_
  have p1 : pv (L.at fz) X.K X.w ρ1 (setW P a' h1) _ Q := p1
  unfold setW at p1
  split at p1
  · rename_i xs qo
    split at p1
    · rename_i ys e
      split at p1
      · rename_i hl
        obtain ⟨l, us, rfl, ru, z⟩ := ob_lst (L := L.at fz) G.lk.so R1 rx qo
        rw [strs_r e ru] at z
        refine ⟨l, ys, rfl, z, hl.1, fun p np => ⟨p, _, _, rfl, upd_same, hl.2, fun zs p2 hs nd hm hlen np2 => ?_⟩⟩
        have pm : zs.Perm (ddS ys) := (List.perm_ext_iff_of_nodup nd (nodup_ddS ys)).mpr fun k => by
          rw [hm k, mem_ddS]
          simp
        have ez := sortS_eq pm hs
        have R2 := R1.extra np (STx.SetSO X.w p (fun j => decide (j ∈ ys)) (ddS ys).length)
        rw [ez]
        have R3 := R2.push np2 (o := .lst ((sortS (ddS ys)).map W.str)) (u := .lst ((sortS (ddS ys)).map L2.V.str)) ⟨_, prd_mapL (F := vr L.sa (ρ1 ++ [p2])) (f := W.str) (g := L2.V.str) (fun _ => rfl) _, rfl⟩
        exact p1 (ρ1 ++ [p2]) _ _ (pre.snoc ρ1 p2) R3 ⟨p2, by rw [← R1.len]; simp, rfl⟩
      · exact p1.elim
    · exact p1.elim
  · exact p1.elim
end
end MP

set_option Elab.async false
set_option linter.all false
set_option maxRecDepth 100000
/-! MP: all expressions. -/
namespace MP
open PySem L2
section
variable {P : Pg} {L : Ln} {T : Ct} {k : Nat} {X : Cx} {q : Bool} {sc : Scope} {V : WX} {xa : Xa}
section
variable {scope : Scope} {own : List (Str × Nat)} {vs1 : List Nat} {pos : Pos} {elt kx tg iter tg1 iter1 : Expr} {ifs ifs1 : List Expr} {ce ck ci ci1 : E} {ct ct1 : Tg} {cs cs1 : List E}
theorem dc2_read {σ : L2.St} {H : Hp} {Q : VK} (hv : ∀ i ∈ tgSlots ct, i ∈ own.map (·.2)) (hp : tD P L X.K X.w V xa (.cp2 true ck ce ct ci cs ct1 ci1 cs1 (own.map (·.2)) (tgSlots ct1)) σ H Q) :
    tDc2 (tI P L X.K X.w V xa X.H_0 ci) (tgT P L X.K X.w xa ct) (tC P L X.K X.w V0 xa cs) (tIF P L X.K X.w xa ci1) (tgT P L X.K X.w xa ct1) (tC P L X.K X.w V0 xa cs1) (tD P L X.K X.w V0 xa ck) (tD P L X.K X.w V0 xa ce) (own.map (·.2)) (tgSlots ct1) σ H fun v H' => unl X (Q v) H' := by
  obtain ⟨fz, ρ, ws, h, R, S, p⟩ := hp
  refine comp_read (o := true) (tail := fun d => tail2 P ci1 ct1 cs1 (tgSlots ct1) fun σ' h4 => (ev P ck σ' h4).bind fun y h5 => (ev P ce σ' h5).bind fun z h6 => addD d y z h6) (tg := ct) (ifs := cs) (vs := own.map fun x : Str × Nat => x.2) (Q := Q) R S p fun κ J fz' ρ1 h2 H1 hE pr R1 i S1 el fin D nD => ?_
  have R2 := R1.push nD (o := .dic []) (u := .dK []) ⟨[], .nil, rfl⟩
  refine clause (Qe := fun H => unl X (Q (.ref D)) H) (tt := fun σ4 H4 N => tIF P L X.K X.w xa ci1 σ4 H4 fun J1 H4 => ∃ W1 : Nat → Nat → Hp → Prop, (∃ m, W1 0 m H4) ∧ ∀ j k H, W1 j k H →
      (J1.stop j H ∧ N H) ∨ (J1.go j H ∧ ∃ Nx1 : Hp → Prop, (∀ H', Nx1 H' → ∃ k', k' < k ∧ W1 (j + 1) k' H') ∧ ∀ x H', J1.yld j H x H' → tgT P L X.K X.w xa ct1 x (wipe σ4 (tgSlots ct1)) H' fun σ3 H5 => wipe σ3 (tgSlots ct1) = wipe σ4 (tgSlots ct1) ∧ tC P L X.K X.w V0 xa cs1 σ3 H5 fun b H6 =>
        if b = true then tD P L X.K X.w V0 xa ck σ3 H6 fun y H7 => tD P L X.K X.w V0 xa ce σ3 H7 fun z H8 => ∃ kvs k, y = kV k ∧ H8 D = some (.dK kvs) ∧ kvs.length < sizeLine ∧ Nx1 (upd H8 D (.dK (putK kvs k z))) else Nx1 H6))
    ⟨fun ρ2 h2 H2 j p2 => i.1 ρ2 h2 H2 j ((pre.snoc ρ1 D).trans p2), fun n e => let ⟨a, ea, z⟩ := i.2 n e; ⟨a, (pre.snoc ρ1 D).get ea, z⟩⟩ (S1.mono (pre.snoc ρ1 D)) hv
    (fun ρ4 ws4 σ4 h4 H4 N p4 R4 S4 hw pt => ?_) (fun ρ' HE p' R' => fin ρ' HE D ((pre.snoc ρ1 D).trans p') R' (p'.get (snoc_get R1))) _ _ R2 P.fu el
  refine tail2_read (tt := fun σ3 H6 N => tD P L X.K X.w V0 xa ck σ3 H6 fun y H7 => tD P L X.K X.w V0 xa ce σ3 H7 fun z H8 => ∃ kvs k, y = kV k ∧ H8 D = some (.dK kvs) ∧ kvs.length < sizeLine ∧ N (upd H8 D (.dK (putK kvs k z)))) R4 S4 (fun _ z => z) pt fun ρ5 ws5 σ5 h5 H5 N' p5 R5 S5 pt5 => ?_
  refine tG.imp (step (rel := vr L.sa) (W := V0) (g := ev P ck) R5 S5 pt5) fun y H6 ⟨ρ6, h6, y', pr6, R6, S6, ry, p6⟩ => ?_
  refine tG.imp (step (rel := vr L.sa) (W := V0) (g := ev P ce) R6 S6 p6) fun z H7 ⟨ρ7, h7, z', pr7, R7, S7, rz, p7⟩ => ?_
  exact addD_read R7 (pr7.get (pr6.get (p5.get (p4.get (snoc_get R1))))) (ry.mono pr7) rz p7
theorem e_dc2 (G : Gd P L T k X q sc V xa) (hq : q = true) (ok : blkC T.N sc scope own = true) (hi : PI X tg iter (tI P L X.K X.w V xa X.H_0 ci)) (hl : ifs.length < 2) (hl1 : ifs1.length < 2) (hv : ∀ i ∈ tgSlots ct, i ∈ own.map (·.2)) (hv1 : ∀ i ∈ tgSlots ct1, i ∈ own.map (·.2)) (hfs : ∀ x, foldedSetIterable iter X.env x = pure x) (hfs1 : ∀ env x, foldedSetIterable iter1 env x = pure x)
    (hg : ∀ (s : Shared) (H : Hp) (C : Addr) (cl : List (Str × Addr)) (fp : List Addr), PG (X.blk s H scope (compEnvC scope cl C X.env) fp) tg (tgT P L X.K X.w xa ct))
    (ht : ∀ (s : Shared) (H : Hp) (C : Addr) (cl : List (Str × Addr)) (fp : List Addr), Paired (fun e c => PT (X.blk s H scope (compEnvC scope cl C X.env) fp) e (tT P L X.K X.w V0 xa c)) ifs cs)
    (hi1 : ∀ (s : Shared) (H : Hp) (C : Addr) (cl : List (Str × Addr)) (fp : List Addr), PI (X.blk s H scope (compEnvC scope cl C X.env) fp) tg1 iter1 (tI P L X.K X.w V0 xa H ci1))
    (hg1 : ∀ (s : Shared) (H : Hp) (C : Addr) (cl : List (Str × Addr)) (fp : List Addr), PG (X.blk s H scope (compEnvC scope cl C X.env) fp) tg1 (tgT P L X.K X.w xa ct1))
    (ht1 : ∀ (s : Shared) (H : Hp) (C : Addr) (cl : List (Str × Addr)) (fp : List Addr), Paired (fun e c => PT (X.blk s H scope (compEnvC scope cl C X.env) fp) e (tT P L X.K X.w V0 xa c)) ifs1 cs1)
    (hk : ∀ (s : Shared) (H : Hp) (C : Addr) (cl : List (Str × Addr)) (fp : List Addr), PE (X.blk s H scope (compEnvC scope cl C X.env) fp) kx (tD P L X.K X.w V0 xa ck))
    (he : ∀ (s : Shared) (H : Hp) (C : Addr) (cl : List (Str × Addr)) (fp : List Addr), PE (X.blk s H scope (compEnvC scope cl C X.env) fp) elt (tD P L X.K X.w V0 xa ce)) :
    PE X (.DictComp kx elt [⟨tg, iter, ifs, 0⟩, ⟨tg1, iter1, ifs1, 0⟩] scope pos) (tD P L X.K X.w V xa (.cp2 true ck ce ct ci cs ct1 ci1 cs1 (own.map (·.2)) (tgSlots ct1))) := by
  have hN : X.N.Nodup := by rw [G.N]; exact G.nd
  have bo : BlkOk X.N X.env.scope scope own := by rw [G.N, G.se]; exact blkOk_by ok
  refine peW (pe_unl (pe_dc2 (tt := tC P L X.K X.w V0 xa cs) (tt1 := tC P L X.K X.w V0 xa cs1) (wi1 := tIF P L X.K X.w xa ci1) (vs1 := tgSlots ct1) (G.calm hq) hN hi bo hv1 hg (fun s H C cl fp => pts_of (X := X.blk s H scope (compEnvC scope cl C X.env) fp) hl (ht s H C cl fp))
    (fun s H C cl fp => piW (hi1 s H C cl fp) fun σ H' Q z => tIF_I z) hg1 (fun s H C cl fp => pts_of (X := X.blk s H scope (compEnvC scope cl C X.env) fp) hl1 (ht1 s H C cl fp)) hk he hfs hfs1)) fun σ H Q hp => dc2_read hv hp
end
end
/-- everything at the compiler's fuel n -/
def Snd (P : Pg) (L : Ln) (T : Ct) (k n : Nat) : Prop := ∀ (X : Cx) (q : Bool) (sc : Scope) (V : WX) (xa : Xa), Gd P L T k X q sc V xa →
  (∀ e c, cE T q n sc e = some c → PE X e (tD P L X.K X.w V xa c) ∧ PT X e (tT P L X.K X.w V xa c)) ∧
  (∀ op es c pos, cBs T q n sc op es = some c → PE X (.BoolOp op es pos) (tD P L X.K X.w V xa c) ∧ PW X (.BoolOp op es pos) (tT P L X.K X.w V xa c)) ∧
  (∀ es cs, cEs T q n sc es = some cs → PA X es (tA P L X.K X.w V xa cs) ∧ (es = [] → cs = []) ∧ (es.all notStar = true → Paired (fun e c => PT X e (tT P L X.K X.w V xa c)) es cs)) ∧
  (∀ o c, cO T q n sc o = some c → PO X o (tO P L X.K X.w V xa c)) ∧
  (∀ tg e c, cI T q n sc tg e = some c → PI X tg e (tI P L X.K X.w V xa X.H_0 c) ∧ ∀ env x, foldedSetIterable e env x = pure x)
section
variable {P : Pg} {L : Ln} {T : Ct} {k : Nat} {X : Cx} {q : Bool} {sc : Scope} {V : WX} {xa : Xa} {n : Nat}
theorem own_mem {own : List (Str × Nat)} {t : Tg} (h : ((tgSlots t).all fun i => (own.map (·.2)).contains i) = true) : ∀ i ∈ tgSlots t, i ∈ own.map (·.2) := fun i hi => List.contains_iff_mem.mp (List.all_eq_true.mp h i hi)
theorem pt_plain (G : Gd P L T k X q sc V xa) {e : Expr} {c : E} (h : PE X e (tD P L X.K X.w V xa c)) (he : ∀ whole, isTrue e X.env whole = (do let v ← whole; standAt e.pos; holding [v] (truthy v))) : PE X e (tD P L X.K X.w V xa c) ∧ PT X e (tT P L X.K X.w V xa c) := ⟨h, pt_of G.lk.so h he⟩
theorem snd_bs (ih : Snd P L T k n) (G : Gd P L T k X q sc V xa) (op : BoolOp) (es : List Expr) (c : E) (pos : Pos) (h : cBs T q (n + 1) sc op es = some c) : PE X (.BoolOp op es pos) (tD P L X.K X.w V xa c) ∧ PW X (.BoolOp op es pos) (tT P L X.K X.w V xa c) := by
  obtain ⟨iE, iB, _, _, _⟩ := ih X q sc V xa G
  cases es with
  | nil => simp [cBs] at h
  | cons a r =>
    cases r with
    | nil =>
      simp only [cBs] at h
      obtain ⟨h1, h2⟩ := iE a c h
      cases op with
      | And => exact ⟨pe_one h1, pw_and1 h2⟩
      | Or => exact ⟨pe_one h1, pw_or1 h2⟩
    | cons b r =>
      simp only [cBs] at h
      obtain ⟨ca, ea, h⟩ := Option.bind_eq_some_iff.mp h
      obtain ⟨cb, eb, rfl⟩ := Option.map_eq_some_iff.mp h
      obtain ⟨h1, h2⟩ := iE a ca ea
      obtain ⟨h3, h4⟩ := iB op (b :: r) cb pos eb
      cases op with
      | And => exact ⟨e_and G h1 h3, t_and h2 h4⟩
      | Or => exact ⟨e_or G h1 h3, t_or h2 h4⟩
theorem snd_es (ih : Snd P L T k n) (G : Gd P L T k X q sc V xa) (es : List Expr) (cs : List E) (h : cEs T q (n + 1) sc es = some cs) :
    PA X es (tA P L X.K X.w V xa cs) ∧ (es = [] → cs = []) ∧ (es.all notStar = true → Paired (fun e c => PT X e (tT P L X.K X.w V xa c)) es cs) := by
  obtain ⟨iE, _, iA, _, _⟩ := ih X q sc V xa G
  cases es with
  | nil =>
    simp only [cEs] at h
    cases h
    exact ⟨a_nil, fun _ => rfl, fun _ => .nil⟩
  | cons e es =>
    by_cases hs : notStar e = true
    · have h' : ((cE T q n sc e).bind fun c => if isStar c = true then none else some c).bind (fun e' => (cEs T q n sc es).map (e' :: ·)) = some cs := by
        cases e <;> first | exact h | (cases hs)
      obtain ⟨c, ec, h2⟩ := Option.bind_eq_some_iff.mp h'
      obtain ⟨c2, ec2, h3⟩ := Option.bind_eq_some_iff.mp ec
      obtain ⟨cs', ecs, rfl⟩ := Option.map_eq_some_iff.mp h2
      split at h3
      · cases h3
      · rename_i hst
        cases h3
        obtain ⟨h1, h2⟩ := iE e c ec2
        obtain ⟨a1, _, a3⟩ := iA es cs' ecs
        exact ⟨a_cons (by simpa using hst) hs h1 a1, fun z => (nomatch z), fun z => .cons h2 (a3 (Bool.and_eq_true_iff.mp (show (notStar e && es.all notStar) = true from z)).2)⟩
    · cases e with
      | Starred a p =>
        have h' : (if q = false then none else (cE T q n sc a).map E.star).bind (fun e' => (cEs T q n sc es).map (e' :: ·)) = some cs := h
        obtain ⟨c, ec, h2⟩ := Option.bind_eq_some_iff.mp h'
        split at ec
        · cases ec
        rename_i hq
        obtain ⟨c2, ec2, rfl⟩ := Option.map_eq_some_iff.mp ec
        obtain ⟨cs', ecs, rfl⟩ := Option.map_eq_some_iff.mp h2
        obtain ⟨h1, _⟩ := iE a c2 ec2
        obtain ⟨a1, _, _⟩ := iA es cs' ecs
        exact ⟨a_star G (by simpa using hq) h1 a1, fun z => (nomatch z), fun z => nomatch (Bool.and_eq_true_iff.mp (show (notStar (.Starred a p) && es.all notStar) = true from z)).1⟩
      | _ => exact absurd rfl hs
theorem snd_o (ih : Snd P L T k n) (G : Gd P L T k X q sc V xa) (o : Option Expr) (c : Option E) (h : cO T q (n + 1) sc o = some c) : PO X o (tO P L X.K X.w V xa c) := by
  obtain ⟨iE, _, _, _, _⟩ := ih X q sc V xa G
  cases o with
  | none => simp only [cO] at h; cases h; exact o_none
  | some e =>
    simp only [cO] at h
    obtain ⟨c', ec, rfl⟩ := Option.map_eq_some_iff.mp h
    exact o_some (iE e c' ec).1
theorem fold_ok {T : Ct} {q : Bool} {n : Nat} {sc : Scope} {e : Expr} {c : E} (h : cE T q n sc e = some c) (env : Env) (x : Value) : foldedSetIterable e env x = pure x := by
  cases e with
  | Set _ _ _ => cases n <;> simp [cE] at h
  | _ => rfl
theorem snd_i (ih : Snd P L T k n) (G : Gd P L T k X q sc V xa) (tg e : Expr) (c : E) (h : cI T q (n + 1) sc tg e = some c) : PI X tg e (tI P L X.K X.w V xa X.H_0 c) ∧ ∀ env x, foldedSetIterable e env x = pure x := by
  obtain ⟨iE, _, _, _, _⟩ := ih X q sc V xa G
  have gen : (cE T q n sc e).map E.seq = some c → PI X tg e (tI P L X.K X.w V xa X.H_0 c) ∧ ∀ env x, foldedSetIterable e env x = pure x := fun h => by
    obtain ⟨c', ec, rfl⟩ := Option.map_eq_some_iff.mp h
    exact ⟨pi_seq G.lk.so (iE e c' ec).1, fold_ok ec⟩
  unfold cI at h
  split at h
  · rename_i f p a pos
    split at h
    · rename_i hf
      subst hf
      split at h
      · cases h
      · rename_i hg
        split at h
        · obtain ⟨c', ec, rfl⟩ := Option.map_eq_some_iff.mp h
          have h1 : isGl sc "enumerate" = true := by simpa using fun z => hg (.inl z)
          have h2 : notStar a = true := by simpa using fun z => hg (.inr z)
          exact ⟨pi_enumE G.lk.so (gl_of G h1) (G.lk.bl _ (by decide +kernel)) (iE a c' ec).1 (star_cons h2), fun _ _ => rfl⟩
        · cases h
    · split at h
      · rename_i hf
        subst hf
        split at h
        · cases h
        · rename_i hg
          obtain ⟨c', ec, rfl⟩ := Option.map_eq_some_iff.mp h
          have h1 : isGl sc "range" = true := by simpa using fun z => hg (.inl z)
          have h2 : notStar a = true := by simpa using fun z => hg (.inr z)
          exact ⟨pi_rng1 (gl_of G h1) (G.lk.bl _ (by decide +kernel)) (iE a c' ec).1 (star_cons h2), fun _ _ => rfl⟩
      · exact gen h
  · rename_i f p a b pos
    split at h
    · cases h
    · split at h
      · rename_i hf
        subst hf
        split at h
        · cases h
        · rename_i hg
          obtain ⟨c', ec, h⟩ := Option.bind_eq_some_iff.mp h
          obtain ⟨d', ed, rfl⟩ := Option.map_eq_some_iff.mp h
          have h1 : isGl sc "range" = true := by simpa using fun z => hg (.inl z)
          have h2 : notStar a = true := by simpa using fun z => hg (.inr (.inl z))
          have h3 : notStar b = true := by simpa using fun z => hg (.inr (.inr z))
          exact ⟨pi_rng2 (gl_of G h1) (G.lk.bl _ (by decide +kernel)) (iE a c' ec).1 (iE b d' ed).1 (by rw [star_cons h2, star_cons h3]; rfl) (star_cons h3), fun _ _ => rfl⟩
      · exact gen h
  · rename_i o m apos pos
    split at h
    · cases h
    · rename_i hl
      have hl : (apos.endLine == pos.line) = true := by simpa using hl
      split at h
      · rename_i hm
        subst hm
        split at h
        · obtain ⟨c', ec, rfl⟩ := Option.map_eq_some_iff.mp h
          exact ⟨pi_itemsE (iE o c' ec).1 (base_ok ec _ _ _) hl, fun _ _ => rfl⟩
        · cases h
      · split at h
        · rename_i hm
          subst hm
          obtain ⟨c', ec, rfl⟩ := Option.map_eq_some_iff.mp h
          exact ⟨pi_valsE (iE o c' ec).1 (base_ok ec _ _ _) hl, fun _ _ => rfl⟩
        · exact gen h
  · cases h
  · exact gen h
end
end MP

set_option Elab.async false
set_option linter.all false
set_option maxRecDepth 100000
/-! MP: the induction. -/
namespace MP
open PySem L2
section
variable {P : Pg} {L : Ln} {T : Ct} {k : Nat} {X : Cx} {q : Bool} {sc : Scope} {V : WX} {xa : Xa} {n : Nat}
theorem snd_call (ih : Snd P L T k n) (G : Gd P L T k X q sc V xa) {f : Str} {p pos : Pos} {a : Expr} {as : List Expr} {c : E} (h : cE T q (n + 1) sc (.Call (.Name f p) (a :: as) [] pos) = some c) : PE X (.Call (.Name f p) (a :: as) [] pos) (tD P L X.K X.w V xa c) := by
  obtain ⟨iE, _, iA, _, _⟩ := ih X q sc V xa G
  simp only [cE] at h
  split at h
  · cases h
  · rename_i h0
    have ho : okName f = true := by simpa using fun z => h0 (.inl z)
    have hg : isGl sc f = true := by simpa using fun z => h0 (.inr z)
    split at h
    · cases h
    · rename_i h1
      have hn : notStar a = true := by simpa using fun z => h1 (.inl z)
      have hn2 : as.all notStar = true := by
        cases e : as.all notStar with
        | true => rfl
        | false => exact absurd (.inr e) h1
      split at h
      · rename_i hf
        subst hf
        split at h
        · rename_i x pc
          split at h
          · cases h
          · rename_i hx
            have hx : okName x = true := by simpa using hx
            obtain ⟨ca, ea, h⟩ := Option.bind_eq_some_iff.mp h
            obtain ⟨t, et, rfl⟩ := Option.map_eq_some_iff.mp h
            exact e_isa G hg hx hn et (iE a ca ea).1
        · cases h
      · split at h
        · cases h
        · rename_i hq
          have hq : q = true := by simpa using hq
          split at h
          · rename_i b hb
            obtain ⟨cb, eb, rfl⟩ := Option.map_eq_some_iff.mp h
            exact e_setOf G hq hg hb (iE b cb eb).1
          split at h
          · rename_i m hf
            split at h
            · obtain ⟨cs, es, rfl⟩ := Option.map_eq_some_iff.mp h
              exact e_call G hq hf hg ho hn hn2 (iA _ _ es).1
            · cases h
          · split at h
            · rename_i m hf
              split at h
              · obtain ⟨cs, es, rfl⟩ := Option.map_eq_some_iff.mp h
                exact e_make G hq hf hg ho hn hn2 (iA _ _ es).1
              · cases h
            · obtain ⟨b, eb, h⟩ := Option.bind_eq_some_iff.mp h
              obtain ⟨cs, es, rfl⟩ := Option.map_eq_some_iff.mp h
              exact e_blt G hq eb hg ho hn hn2 (iA _ _ es).1
theorem snd_meth (ih : Snd P L T k n) (G : Gd P L T k X q sc V xa) {o : Expr} {m : Str} {apos pos : Pos} {as : List Expr} {c : E} (h : cE T q (n + 1) sc (.Call (.Attribute o m apos) as [] pos) = some c) : PE X (.Call (.Attribute o m apos) as [] pos) (tD P L X.K X.w V xa c) := by
  obtain ⟨iE, _, iA, _, _⟩ := ih X q sc V xa G
  have h' : (if as.all notStar = false ∨ q = false ∨ (as.length < 29) = false ∨ (apos.endLine == pos.line) = false then none else
      (match bmOf m with
        | some b => (cE T q n sc o).bind fun o' => (cEs T q n sc as).map fun as' => E.bm o' b as'
        | none => match T.mts.lookup m with
          | some k => if as.length + 1 = k then (cE T q n sc o).bind fun o' => (cEs T q n sc as).map fun as' => .meth o' m as' else none
          | none => none)) = some c := by
    rw [← h]; rfl
  split at h'
  · cases h'
  · rename_i h0
    have hn2 : as.all notStar = true := by
      cases e : as.all notStar with
      | true => rfl
      | false => exact absurd (.inl e) h0
    have hq : q = true := by
      cases e : q with
      | true => rfl
      | false => exact absurd (.inr (.inl e)) h0
    have hfew : as.length < 29 := by
      by_cases e : as.length < 29
      · exact e
      · exact absurd (.inr (.inr (.inl (by simpa using e)))) h0
    have hl : (apos.endLine == pos.line) = true := by
      cases e : (apos.endLine == pos.line) with
      | true => rfl
      | false => exact absurd (.inr (.inr (.inr e))) h0
    split at h'
    · rename_i b hb
      obtain ⟨co, eo, h2⟩ := Option.bind_eq_some_iff.mp h'
      obtain ⟨cs, es, rfl⟩ := Option.map_eq_some_iff.mp h2
      obtain ⟨a1, a2, _⟩ := iA _ _ es
      exact e_bm hb hl hn2 hfew a2 (fun f env wh => base_ok eo f env wh) (iE o co eo).1 a1
    · split at h'
      · split at h'
        · obtain ⟨co, eo, h2⟩ := Option.bind_eq_some_iff.mp h'
          obtain ⟨cs, es, rfl⟩ := Option.map_eq_some_iff.mp h2
          obtain ⟨a1, a2, _⟩ := iA _ _ es
          exact e_meth G hq hl hn2 hfew a2 (fun f env wh => base_ok eo f env wh) (iE o co eo).1 a1
        · cases h'
      · cases h'
/-- the facts of a comprehension's block -/
theorem blk_e (ih : Snd P L T k n) (G : Gd P L T k X true sc V xa) (s : Shared) (H : Hp) (scope : Scope) (C : Addr) (cl : List (Str × Addr)) (fp : List Addr) {e : Expr} {c : E} (h : cE T true n (relS scope sc) e = some c) :
    PE (X.blk s H scope (compEnvC scope cl C X.env) fp) e (tD P L X.K X.w V0 xa c) := ((ih _ true _ V0 xa (G.blk s H scope C cl fp)).1 e c h).1
theorem blk_es (ih : Snd P L T k n) (G : Gd P L T k X true sc V xa) (s : Shared) (H : Hp) (scope : Scope) (C : Addr) (cl : List (Str × Addr)) (fp : List Addr) {es : List Expr} {cs : List E} (h : cEs T true n (relS scope sc) es = some cs) (hn : es.all notStar = true) :
    Paired (fun e c => PT (X.blk s H scope (compEnvC scope cl C X.env) fp) e (tT P L X.K X.w V0 xa c)) es cs := ((ih _ true _ V0 xa (G.blk s H scope C cl fp)).2.2.1 es cs h).2.2 hn
theorem blk_i (ih : Snd P L T k n) (G : Gd P L T k X true sc V xa) (s : Shared) (H : Hp) (scope : Scope) (C : Addr) (cl : List (Str × Addr)) (fp : List Addr) {tg e : Expr} {c : E} (h : cI T true n (relS scope sc) tg e = some c) :
    PI (X.blk s H scope (compEnvC scope cl C X.env) fp) tg e (tI P L X.K X.w V0 xa H c) := ((ih _ true _ V0 xa (G.blk s H scope C cl fp)).2.2.2.2 tg e c h).1
theorem blk_g (G : Gd P L T k X true sc V xa) (s : Shared) (H : Hp) (scope : Scope) (C : Addr) (cl : List (Str × Addr)) (fp : List Addr) {tg : Expr} {t : Tg} (h : tgOf T scope n tg = some t) :
    PG (X.blk s H scope (compEnvC scope cl C X.env) fp) tg (tgT P L X.K X.w xa t) := ((tg_ok (X := X.blk s H scope (compEnvC scope cl C X.env) fp) G.lk.so (blk_names G.N G.nd) (G.calm rfl) n).1 tg t h).1
theorem snd_lc (ih : Snd P L T k n) (G : Gd P L T k X q sc V xa) {elt tg it : Expr} {ifs : List Expr} {scope : Scope} {pos : Pos} {c : E} (h : cE T q (n + 1) sc (.ListComp elt [⟨tg, it, ifs, 0⟩] scope pos) = some c) : PE X (.ListComp elt [⟨tg, it, ifs, 0⟩] scope pos) (tD P L X.K X.w V xa c) := by
  simp only [cE] at h
  split at h
  · cases h
  · rename_i hq
    have hq : q = true := by simpa using hq
    subst hq
    obtain ⟨own, eo, h⟩ := Option.bind_eq_some_iff.mp h
    split at h
    · cases h
    · rename_i hb
      have hb : blkC T.N sc scope own = true := by simpa using hb
      obtain ⟨ci, ei, h⟩ := Option.bind_eq_some_iff.mp h
      obtain ⟨ct, et, h⟩ := Option.bind_eq_some_iff.mp h
      obtain ⟨cs, es, h⟩ := Option.bind_eq_some_iff.mp h
      split at h
      · cases h
      · rename_i h0
        obtain ⟨ce, ee, rfl⟩ := Option.map_eq_some_iff.mp h
        have hn : ifs.all notStar = true := by
          cases e : ifs.all notStar with
          | true => rfl
          | false => exact absurd (.inl e) h0
        have hl : ifs.length < 2 := by
          by_cases e : ifs.length < 2
          · exact e
          · exact absurd (.inr (.inl (by simpa using e))) h0
        have hv : ((tgSlots ct).all fun i => (own.map (·.2)).contains i) = true := by
          cases e : ((tgSlots ct).all fun i => (own.map (·.2)).contains i) with
          | true => rfl
          | false => exact absurd (.inr (.inr e)) h0
        obtain ⟨i1, i2⟩ := (ih X true sc V xa G).2.2.2.2 tg it ci ei
        exact e_lc G rfl hb i1 hl (own_mem hv) (i2 _) (fun s H C cl fp => blk_g G s H scope C cl fp et) (fun s H C cl fp => blk_es ih G s H scope C cl fp es hn) (fun s H C cl fp => blk_e ih G s H scope C cl fp ee)
theorem snd_dc (ih : Snd P L T k n) (G : Gd P L T k X q sc V xa) {kx elt tg it : Expr} {ifs : List Expr} {scope : Scope} {pos : Pos} {c : E} (h : cE T q (n + 1) sc (.DictComp kx elt [⟨tg, it, ifs, 0⟩] scope pos) = some c) : PE X (.DictComp kx elt [⟨tg, it, ifs, 0⟩] scope pos) (tD P L X.K X.w V xa c) := by
  simp only [cE] at h
  split at h
  · cases h
  · rename_i hq
    have hq : q = true := by simpa using hq
    subst hq
    obtain ⟨own, eo, h⟩ := Option.bind_eq_some_iff.mp h
    split at h
    · cases h
    · rename_i hb
      have hb : blkC T.N sc scope own = true := by simpa using hb
      obtain ⟨ci, ei, h⟩ := Option.bind_eq_some_iff.mp h
      obtain ⟨ct, et, h⟩ := Option.bind_eq_some_iff.mp h
      obtain ⟨cs, es, h⟩ := Option.bind_eq_some_iff.mp h
      split at h
      · cases h
      · rename_i h0
        obtain ⟨ck, ek, h⟩ := Option.bind_eq_some_iff.mp h
        obtain ⟨ce, ee, rfl⟩ := Option.map_eq_some_iff.mp h
        have hn : ifs.all notStar = true := by
          cases e : ifs.all notStar with
          | true => rfl
          | false => exact absurd (.inl e) h0
        have hl : ifs.length < 2 := by
          by_cases e : ifs.length < 2
          · exact e
          · exact absurd (.inr (.inl (by simpa using e))) h0
        have hv : ((tgSlots ct).all fun i => (own.map (·.2)).contains i) = true := by
          cases e : ((tgSlots ct).all fun i => (own.map (·.2)).contains i) with
          | true => rfl
          | false => exact absurd (.inr (.inr e)) h0
        obtain ⟨i1, i2⟩ := (ih X true sc V xa G).2.2.2.2 tg it ci ei
        exact e_dc G rfl hb i1 hl (own_mem hv) (i2 _) (fun s H C cl fp => blk_g G s H scope C cl fp et) (fun s H C cl fp => blk_es ih G s H scope C cl fp es hn) (fun s H C cl fp => blk_e ih G s H scope C cl fp ek) (fun s H C cl fp => blk_e ih G s H scope C cl fp ee)
theorem snd_lc2 (ih : Snd P L T k n) (G : Gd P L T k X q sc V xa) {elt tg it tg1 it1 : Expr} {ifs ifs1 : List Expr} {scope : Scope} {pos : Pos} {c : E} (h : cE T q (n + 1) sc (.ListComp elt [⟨tg, it, ifs, 0⟩, ⟨tg1, it1, ifs1, 0⟩] scope pos) = some c) : PE X (.ListComp elt [⟨tg, it, ifs, 0⟩, ⟨tg1, it1, ifs1, 0⟩] scope pos) (tD P L X.K X.w V xa c) := by
  simp only [cE] at h
  split at h
  · cases h
  · rename_i hq
    have hq : q = true := by simpa using hq
    subst hq
    obtain ⟨own, eo, h⟩ := Option.bind_eq_some_iff.mp h
    split at h
    · cases h
    · rename_i hb
      have hb : blkC T.N sc scope own = true := by simpa using hb
      obtain ⟨ci, ei, h⟩ := Option.bind_eq_some_iff.mp h
      obtain ⟨ct, et, h⟩ := Option.bind_eq_some_iff.mp h
      obtain ⟨cs, es, h⟩ := Option.bind_eq_some_iff.mp h
      split at h
      · cases h
      · rename_i h0
        obtain ⟨ci1, ei1, h⟩ := Option.bind_eq_some_iff.mp h
        obtain ⟨ct1, et1, h⟩ := Option.bind_eq_some_iff.mp h
        obtain ⟨cs1, es1, h⟩ := Option.bind_eq_some_iff.mp h
        split at h
        · cases h
        · rename_i hv1
          obtain ⟨ce, ee, rfl⟩ := Option.map_eq_some_iff.mp h
          have hn : ifs.all notStar = true := by
            cases e : ifs.all notStar with
            | true => rfl
            | false => exact absurd (.inl e) h0
          have hn1 : ifs1.all notStar = true := by
            cases e : ifs1.all notStar with
            | true => rfl
            | false => exact absurd (.inr (.inl e)) h0
          have hl : ifs.length < 2 := by
            by_cases e : ifs.length < 2
            · exact e
            · exact absurd (.inr (.inr (.inl (by simpa using e)))) h0
          have hl1 : ifs1.length < 2 := by
            by_cases e : ifs1.length < 2
            · exact e
            · exact absurd (.inr (.inr (.inr (.inl (by simpa using e))))) h0
          have hv : ((tgSlots ct).all fun i => (own.map (·.2)).contains i) = true := by
            cases e : ((tgSlots ct).all fun i => (own.map (·.2)).contains i) with
            | true => rfl
            | false => exact absurd (.inr (.inr (.inr (.inr e)))) h0
          have hv1 : ((tgSlots ct1).all fun i => (own.map (·.2)).contains i) = true := by
            cases e : ((tgSlots ct1).all fun i => (own.map (·.2)).contains i) with
            | true => rfl
            | false => exact absurd e hv1
          obtain ⟨i1, i2⟩ := (ih X true sc V xa G).2.2.2.2 tg it ci ei
          have f1 := ((ih X true sc V xa G).2.2.2.2 tg it ci ei).2
          exact e_lc2 G rfl hb i1 hl hl1 (own_mem hv) (own_mem hv1) (i2 _) (fun env x => by
              have := ((ih _ true _ V0 xa (G.blk (k := k) X.s_0 X.H_0 scope X.env.locals [] [])).2.2.2.2 tg1 it1 ci1 ei1).2
              exact this env x) (fun s H C cl fp => blk_g G s H scope C cl fp et) (fun s H C cl fp => blk_es ih G s H scope C cl fp es hn) (fun s H C cl fp => blk_i ih G s H scope C cl fp ei1)
            (fun s H C cl fp => blk_g G s H scope C cl fp et1) (fun s H C cl fp => blk_es ih G s H scope C cl fp es1 hn1) (fun s H C cl fp => blk_e ih G s H scope C cl fp ee)
theorem snd_dc2 (ih : Snd P L T k n) (G : Gd P L T k X q sc V xa) {kx elt tg it tg1 it1 : Expr} {ifs ifs1 : List Expr} {scope : Scope} {pos : Pos} {c : E} (h : cE T q (n + 1) sc (.DictComp kx elt [⟨tg, it, ifs, 0⟩, ⟨tg1, it1, ifs1, 0⟩] scope pos) = some c) : PE X (.DictComp kx elt [⟨tg, it, ifs, 0⟩, ⟨tg1, it1, ifs1, 0⟩] scope pos) (tD P L X.K X.w V xa c) := by
  simp only [cE] at h
  split at h
  · cases h
  · rename_i hq
    have hq : q = true := by simpa using hq
    subst hq
    obtain ⟨own, eo, h⟩ := Option.bind_eq_some_iff.mp h
    split at h
    · cases h
    · rename_i hb
      have hb : blkC T.N sc scope own = true := by simpa using hb
      obtain ⟨ci, ei, h⟩ := Option.bind_eq_some_iff.mp h
      obtain ⟨ct, et, h⟩ := Option.bind_eq_some_iff.mp h
      obtain ⟨cs, es, h⟩ := Option.bind_eq_some_iff.mp h
      split at h
      · cases h
      · rename_i h0
        obtain ⟨ci1, ei1, h⟩ := Option.bind_eq_some_iff.mp h
        obtain ⟨ct1, et1, h⟩ := Option.bind_eq_some_iff.mp h
        obtain ⟨cs1, es1, h⟩ := Option.bind_eq_some_iff.mp h
        split at h
        · cases h
        · rename_i hv1
          obtain ⟨ck, ek, h⟩ := Option.bind_eq_some_iff.mp h
          obtain ⟨ce, ee, rfl⟩ := Option.map_eq_some_iff.mp h
          have hn : ifs.all notStar = true := by
            cases e : ifs.all notStar with
            | true => rfl
            | false => exact absurd (.inl e) h0
          have hn1 : ifs1.all notStar = true := by
            cases e : ifs1.all notStar with
            | true => rfl
            | false => exact absurd (.inr (.inl e)) h0
          have hl : ifs.length < 2 := by
            by_cases e : ifs.length < 2
            · exact e
            · exact absurd (.inr (.inr (.inl (by simpa using e)))) h0
          have hl1 : ifs1.length < 2 := by
            by_cases e : ifs1.length < 2
            · exact e
            · exact absurd (.inr (.inr (.inr (.inl (by simpa using e))))) h0
          have hv : ((tgSlots ct).all fun i => (own.map (·.2)).contains i) = true := by
            cases e : ((tgSlots ct).all fun i => (own.map (·.2)).contains i) with
            | true => rfl
            | false => exact absurd (.inr (.inr (.inr (.inr e)))) h0
          have hv1 : ((tgSlots ct1).all fun i => (own.map (·.2)).contains i) = true := by
            cases e : ((tgSlots ct1).all fun i => (own.map (·.2)).contains i) with
            | true => rfl
            | false => exact absurd e hv1
          obtain ⟨i1, i2⟩ := (ih X true sc V xa G).2.2.2.2 tg it ci ei
          exact e_dc2 G rfl hb i1 hl hl1 (own_mem hv) (own_mem hv1) (i2 _) (fun env x => by
              have := ((ih _ true _ V0 xa (G.blk (k := k) X.s_0 X.H_0 scope X.env.locals [] [])).2.2.2.2 tg1 it1 ci1 ei1).2
              exact this env x) (fun s H C cl fp => blk_g G s H scope C cl fp et) (fun s H C cl fp => blk_es ih G s H scope C cl fp es hn) (fun s H C cl fp => blk_i ih G s H scope C cl fp ei1)
            (fun s H C cl fp => blk_g G s H scope C cl fp et1) (fun s H C cl fp => blk_es ih G s H scope C cl fp es1 hn1) (fun s H C cl fp => blk_e ih G s H scope C cl fp ek) (fun s H C cl fp => blk_e ih G s H scope C cl fp ee)
theorem snd_e (ih : Snd P L T k n) (G : Gd P L T k X q sc V xa) (e : Expr) (c : E) (h : cE T q (n + 1) sc e = some c) : PE X e (tD P L X.K X.w V xa c) ∧ PT X e (tT P L X.K X.w V xa c) := by
  obtain ⟨iE, iB, iA, iO, _⟩ := ih X q sc V xa G
  have h' := h
  unfold cE at h
  split at h
  · rename_i x pos
    split at h
    · cases h
    · rename_i ho
      have ho : okName x = true := by simpa using ho
      split at h
      · rename_i hv
        obtain ⟨i, ei, rfl⟩ := Option.map_eq_some_iff.mp h
        exact pt_plain G (e_var G hv ho ei) fun _ => rfl
      · split at h
        · rename_i hg
          cases h
          exact pt_plain G (e_glb G hg.1 ho) fun _ => rfl
        · cases h
  · obtain ⟨w, ew, rfl⟩ := Option.map_eq_some_iff.mp h
    exact pt_plain G (e_con ew) fun _ => rfl
  · obtain ⟨o, eo, h⟩ := Option.bind_eq_some_iff.mp h
    obtain ⟨ca, ea, h⟩ := Option.bind_eq_some_iff.mp h
    obtain ⟨cb, eb, rfl⟩ := Option.map_eq_some_iff.mp h
    exact pt_plain G (e_bin eo (iE _ _ ea).1 (iE _ _ eb).1) fun _ => rfl
  · obtain ⟨ca, ea, rfl⟩ := Option.map_eq_some_iff.mp h
    exact ⟨e_not G (iE _ _ ea).1, t_not (iE _ _ ea).2⟩
  · obtain ⟨ca, ea, rfl⟩ := Option.map_eq_some_iff.mp h
    exact pt_plain G (e_neg (iE _ _ ea).1) fun _ => rfl
  · obtain ⟨h1, h2⟩ := iB _ _ _ _ h
    exact ⟨h1, h2.pt⟩
  · split at h
    · cases h
    · rename_i hs
      obtain ⟨ca, ea, h⟩ := Option.bind_eq_some_iff.mp h
      obtain ⟨cb, eb, rfl⟩ := Option.map_eq_some_iff.mp h
      exact ⟨e_cmp G (by simpa using hs) (iE _ _ ea).1 (iE _ _ eb).1, t_cmp G (by simpa using hs) (iE _ _ ea).1 (iE _ _ eb).1⟩
  · split at h
    · cases h
    · rename_i hs
      obtain ⟨ca, ea, h⟩ := Option.bind_eq_some_iff.mp h
      obtain ⟨cb, eb, h⟩ := Option.bind_eq_some_iff.mp h
      obtain ⟨cc, ec, rfl⟩ := Option.map_eq_some_iff.mp h
      exact ⟨e_chain G (by simpa using hs) (iE _ _ ea).1 (iE _ _ eb).1 (iE _ _ ec).1, t_chain G (by simpa using hs) (iE _ _ ea).1 (iE _ _ eb).1 (iE _ _ ec).1⟩
  · obtain ⟨ca, ea, h⟩ := Option.bind_eq_some_iff.mp h
    obtain ⟨cb, eb, h⟩ := Option.bind_eq_some_iff.mp h
    obtain ⟨cc, ec, rfl⟩ := Option.map_eq_some_iff.mp h
    exact ⟨e_ite (iE _ _ ea).2 (iE _ _ eb).1 (iE _ _ ec).1, t_ite (iE _ _ ea).2 (iE _ _ eb).2 (iE _ _ ec).2⟩
  · exact pt_plain G (snd_call ih G h') fun _ => rfl
  · exact pt_plain G (snd_meth ih G h') fun _ => rfl
  · split at h
    · rename_i x ps
      split at h
      · split at h
        · rename_i hv
          obtain ⟨i, ei, rfl⟩ := Option.map_eq_some_iff.mp h
          exact pt_plain G (e_xf G hv.1 hv.2 ei) fun _ => rfl
        · cases h
      · obtain ⟨ca, ea, rfl⟩ := Option.map_eq_some_iff.mp h
        exact pt_plain G (e_fld G (base_ok ea _ _ _) (iE _ _ ea).1) fun _ => rfl
    · cases h
    · obtain ⟨ca, ea, rfl⟩ := Option.map_eq_some_iff.mp h
      exact pt_plain G (e_fld G (base_ok ea _ _ _) (iE _ _ ea).1) fun _ => rfl
  · obtain ⟨ca, ea, rfl⟩ := Option.map_eq_some_iff.mp h
    exact pt_plain G (e_rev G (iE _ _ ea).1) fun _ => rfl
  · obtain ⟨ca, ea, h⟩ := Option.bind_eq_some_iff.mp h
    obtain ⟨cl, el, h⟩ := Option.bind_eq_some_iff.mp h
    obtain ⟨ch, eh, rfl⟩ := Option.map_eq_some_iff.mp h
    exact pt_plain G (e_slc G (iE _ _ ea).1 (iO _ _ el) (iO _ _ eh)) fun _ => rfl
  · obtain ⟨ca, ea, h⟩ := Option.bind_eq_some_iff.mp h
    obtain ⟨cb, eb, rfl⟩ := Option.map_eq_some_iff.mp h
    exact pt_plain G (e_idx G (plain_ix eb) (iE _ _ ea).1 (iE _ _ eb).1) fun _ => rfl
  · obtain ⟨cs, es, rfl⟩ := Option.map_eq_some_iff.mp h
    exact pt_plain G (e_tup (iA _ _ es).1) fun _ => rfl
  · obtain ⟨cs, es, rfl⟩ := Option.map_eq_some_iff.mp h
    exact pt_plain G (e_lst (iA _ _ es).1) fun _ => rfl
  · cases h
    exact pt_plain G e_dsp fun _ => rfl
  · exact pt_plain G (snd_lc ih G h') fun _ => rfl
  · exact pt_plain G (snd_dc ih G h') fun _ => rfl
  · exact pt_plain G (snd_lc2 ih G h') fun _ => rfl
  · exact pt_plain G (snd_dc2 ih G h') fun _ => rfl
  · cases h
end
theorem snd_all (P : Pg) (L : Ln) (T : Ct) (k : Nat) : ∀ n, Snd P L T k n
  | 0 => fun X q sc V xa G => ⟨fun e c h => by simp [cE] at h, fun op es c pos h => by simp [cBs] at h, fun es cs h => by simp [cEs] at h, fun o c h => by simp [cO] at h, fun tg e c h => by simp [cI] at h⟩
  | n + 1 => fun X q sc V xa G => ⟨snd_e (snd_all P L T k n) G, snd_bs (snd_all P L T k n) G, snd_es (snd_all P L T k n) G, snd_o (snd_all P L T k n) G, snd_i (snd_all P L T k n) G⟩
end MP

set_option Elab.async false
set_option linter.all false
set_option maxRecDepth 100000
/-! MP: statements. -/
namespace MP
open PySem L2
section
variable (P : Pg) (L : Ln) (K : PySem.W.Frag) (w : World) (V : WX) (xa : Xa)
def pso (fz : Addr → Option (Obj × HO)) (ρ : List Addr) (r : Out) (D : Ends) : Prop := match r with
  | .nx ws h => ∀ ρ' H' σ', pre ρ ρ' → HR (L.at fz) K w ρ' h H' → SR L xa ρ' ws σ' → D.nx σ' H'
  | .rt a h => ∀ ρ' H' v, pre ρ ρ' → HR (L.at fz) K w ρ' h H' → vr L.sa ρ' a v → D.rt v H'
  | .bk ws h => ∀ ρ' H' σ', pre ρ ρ' → HR (L.at fz) K w ρ' h H' → SR L xa ρ' ws σ' → D.bk σ' H'
  | .ct ws h => ∀ ρ' H' σ', pre ρ ρ' → HR (L.at fz) K w ρ' h H' → SR L xa ρ' ws σ' → D.ct σ' H'
  | .ex c n ws h => ∀ ρ' H' σ' d, pre ρ ρ' → HR (L.at fz) K w ρ' h H' → SR L xa ρ' ws σ' → ρ'[n]? = some d → V (.ref (L.ca c)) (some d) σ' H'
  | .no => False
def sD (f : Sl → Hh → Out) : TS := fun D σ H => ∃ fz ρ ws h, HR (L.at fz) K w ρ h H ∧ SR L xa ρ ws σ ∧ pso L K w V xa fz ρ (f ws h) D
end
section
variable {P : Pg} {L : Ln} {K : PySem.W.Frag} {w : World} {V : WX} {xa : Xa} {α β : Type} {rel : List Addr → α → β → Prop} {σ : L2.St} {H : Hp} {fz : Addr → Option (Obj × HO)} {ρ ρ' : List Addr} {ws : Sl} {h : Hh} {D D' : Ends}
theorem pso.mono {r : Out} (p : pso L K w V xa fz ρ r D) (h : pre ρ ρ') : pso L K w V xa fz ρ' r D := by
  cases r with
  | nx ws h' => exact fun ρ2 H' σ' h1 => p ρ2 H' σ' (h.trans h1)
  | rt a h' => exact fun ρ2 H' v h1 => p ρ2 H' v (h.trans h1)
  | bk ws h' => exact fun ρ2 H' σ' h1 => p ρ2 H' σ' (h.trans h1)
  | ct ws h' => exact fun ρ2 H' σ' h1 => p ρ2 H' σ' (h.trans h1)
  | ex c n ws h' => exact fun ρ2 H' σ' d h1 => p ρ2 H' σ' d (h.trans h1)
  | no => exact p
theorem pso.imp {r : Out} (p : pso L K w V xa fz ρ r D) (h1 : ∀ σ H, D.nx σ H → D'.nx σ H) (h2 : ∀ v H, D.rt v H → D'.rt v H) (h3 : ∀ σ H, D.bk σ H → D'.bk σ H) (h4 : ∀ σ H, D.ct σ H → D'.ct σ H) : pso L K w V xa fz ρ r D' := by
  cases r with
  | nx ws h' => exact fun ρ2 H' σ' a b c => h1 _ _ (p ρ2 H' σ' a b c)
  | rt x h' => exact fun ρ2 H' v a b c => h2 _ _ (p ρ2 H' v a b c)
  | bk ws h' => exact fun ρ2 H' σ' a b c => h3 _ _ (p ρ2 H' σ' a b c)
  | ct ws h' => exact fun ρ2 H' σ' a b c => h4 _ _ (p ρ2 H' σ' a b c)
  | ex c n ws h' => exact p
  | no => exact p
theorem stepS {g : Sl → Hh → Rs α} {k : α → Hh → Out} (R : HR (L.at fz) K w ρ h H) (S : SR L xa ρ ws σ) (p : pso L K w V xa fz ρ ((g ws h).go ws k) D) :
    tG L K w V xa rel g σ H fun b H1 => ∃ ρ1 h1 a, pre ρ ρ1 ∧ HR (L.at fz) K w ρ1 h1 H1 ∧ SR L xa ρ1 ws σ ∧ rel ρ1 a b ∧ pso L K w V xa fz ρ1 (k a h1) D := by
  refine ⟨fz, ρ, ws, h, R, S, ?_⟩
  cases q : g ws h with
  | ok a h' => rw [q] at p; exact fun ρ' H' b pr R' r => ⟨ρ', h', a, pr, R', S.mono pr, r, pso.mono p pr⟩
  | ex c n h' => rw [q] at p; exact fun ρ' H' d pr R' e => p ρ' H' σ d pr R' (S.mono pr) e
  | no => rw [q] at p; exact p
theorem pso.nx {ws' : Sl} {σ' : L2.St} (p : pso L K w V xa fz ρ (.nx ws' h) D) (R : HR (L.at fz) K w ρ h H) (S : SR L xa ρ ws' σ') : D.nx σ' H := p ρ H σ' (pre.refl ρ) R S
end
/-- the context of statements -/
structure Gs (P : Pg) (L : Ln) (T : Ct) (k : Nat) (X : Cx) (q : Bool) (sc : Scope) (V : WX) (xa : Xa) : Prop where
  g : Gd P L T k X q sc V xa
  nm : Nm T X sc
  po : PassesOwn (model X.prog X.w) X.A X.env X.xe
  st : X.stack = X.env :: X.outer
  fr : X.env.frame = some X.env.locals
section
variable {P : Pg} {L : Ln} {T : Ct} {k : Nat} {X : Cx} {q : Bool} {sc : Scope} {V : WX} {xa : Xa}
/-! ### small statements -/
theorem s_pas {pos : Pos} : PS X (.Pass pos) (sD L X.K X.w V xa (ex P .pas)) := psW ps_pass fun D σ H ⟨fz, ρ, ws, h, R, S, p⟩ => p.nx R S
theorem s_doc {x j p1 p2} : PS X (.Expr (.Constant (.str x) j p1) p2) (sD L X.K X.w V xa (ex P .pas)) := psW ps_doc fun D σ H ⟨fz, ρ, ws, h, R, S, p⟩ => p.nx R S
theorem s_brk {pos : Pos} : PS X (.Break pos) (sD L X.K X.w V xa (ex P .brk)) := psW ps_break fun D σ H ⟨fz, ρ, ws, h, R, S, p⟩ => p ρ H σ (pre.refl ρ) R S
theorem s_cnt {pos : Pos} : PS X (.Continue pos) (sD L X.K X.w V xa (ex P .cnt)) := psW ps_continue fun D σ H ⟨fz, ρ, ws, h, R, S, p⟩ => p ρ H σ (pre.refl ρ) R S
theorem s_retN {pos : Pos} : PS X (.Return none pos) (sD L X.K X.w V xa (ex P .retN)) := psW ps_retN fun D σ H ⟨fz, ρ, ws, h, R, S, p⟩ => p ρ H .non (pre.refl ρ) R rfl
theorem s_ret {e : Expr} {c : E} {pos : Pos} (he : PE X e (tD P L X.K X.w V xa c)) : PS X (.Return (some e) pos) (sD L X.K X.w V xa (ex P (.ret c))) := by
  refine psW (ps_ret he) fun D σ H ⟨fz, ρ, ws, h, R, S, p⟩ => ?_
  refine tG.imp (stepS (rel := vr L.sa) R S p) fun v H1 ⟨ρ1, h1, a, pr, R1, S1, r, p1⟩ => ?_
  exact p1 ρ1 H1 v (pre.refl ρ1) R1 r
theorem s_exp {f : Expr} {as : List Expr} {kws : List Keyword} {p1 : Pos} {c : E} {pos : Pos} (he : PE X (.Call f as kws p1) (tD P L X.K X.w V xa c)) : PS X (.Expr (.Call f as kws p1) pos) (sD L X.K X.w V xa (ex P (.exp c))) := by
  refine psW (ps_expr he) fun D σ H ⟨fz, ρ, ws, h, R, S, p⟩ => ?_
  refine tG.imp (stepS (rel := vr L.sa) R S p) fun v H1 ⟨ρ1, h1, a, pr, R1, S1, r, p1⟩ => ?_
  exact p1.nx R1 S1
theorem s_tup {ts : List Expr} {kk : Nat} {tp : Pos} {e : Expr} {t : Tg} {c : E} {pos : Pos} (hne : ∀ es k p, e ≠ .Tuple es k p) (he : PE X e (tD P L X.K X.w V xa c)) (hg : PG X (.Tuple ts kk tp) (tgT P L X.K X.w xa t)) : PS X (.Assign [.Tuple ts kk tp] e pos) (sD L X.K X.w V xa (ex P (.asg t c))) := by
  refine psW (ps_asg he hg (by cases e <;> rfl) (by cases e <;> first | rfl | exact absurd rfl (hne _ _ _))) fun D σ H ⟨fz, ρ, ws, h, R, S, p⟩ => ?_
  refine tG.imp (stepS (rel := vr L.sa) R S p) fun v H1 ⟨ρ1, h1, a, pr, R1, S1, r, p1⟩ => ?_
  cases es : stT P t a ws h1 with
  | none => simp only [es] at p1; exact p1.elim
  | some ws' =>
    simp only [es] at p1
    exact ⟨fz, ρ1, ws, h1, a, ws', R1, S1, r, es, fun σ' S' _ => p1.nx R1 S'⟩
theorem asg_read {i : Nat} {c : E} {D : Ends} {σ : L2.St} {H : Hp} (h : sD L X.K X.w V xa (ex P (.asg (.nm i) c)) D σ H) : tD P L X.K X.w V xa c σ H fun x H1 => D.nx (σ.set i (some x)) H1 := by
  obtain ⟨fz, ρ, ws, h, R, S, p⟩ := h
  refine tG.imp (stepS (rel := vr L.sa) R S p) fun v H1 ⟨ρ1, h1, a, pr, R1, S1, r, p1⟩ => ?_
  exact p1.nx R1 (S1.set i (sw.of r))
theorem s_nm {x : Str} {i : Nat} {px : Pos} {e : Expr} {c : E} {pos : Pos} (G : Nm T X sc) (hst : stored sc x = true) (hi : slot T x = some i) (hs : swapsWith e (some (.Name x px)) pos.line X.env = pure false) (he : PE X e (tD P L X.K X.w V xa c)) :
    PS X (.Assign [.Name x px] e pos) (sD L X.K X.w V xa (ex P (.asg (.nm i) c))) :=
  psW (ps_set (i := i) (by rw [G.N]; exact G.nd) (by rw [G.N]; exact slot_get hi) (G.st x hst).1 he hs (G.st x hst).2) fun D σ H h => asg_read h
theorem s_ite {c : Expr} {a b : List Stmt} {cc : E} {ca cb : List S} {pos : Pos} (hc : PT X c (tT P L X.K X.w V xa cc)) (ha : PSs X a (sD L X.K X.w V xa (exs P ca))) (hb : PSs X b (sD L X.K X.w V xa (exs P cb))) : PS X (.If c a b pos) (sD L X.K X.w V xa (ex P (.ite cc ca cb))) := by
  refine psW (ps_if hc ha hb) fun D σ H ⟨fz, ρ, ws, h, R, S, p⟩ => ?_
  have e : ex P (.ite cc ca cb) ws h = ((ev P cc ws h).bind (truR P)).go ws fun b h1 => if b = true then exs P ca ws h1 else exs P cb ws h1 := by
    show ((ev P cc ws h).go ws fun x h1 => match tru P h1 x with
      | some true => exs P ca ws h1
      | some false => exs P cb ws h1
      | none => .no) = _
    cases ev P cc ws h with
    | ok x h1 =>
      show (match tru P h1 x with
        | some true => exs P ca ws h1
        | some false => exs P cb ws h1
        | none => .no) = (truR P x h1).go ws _
      unfold truR
      cases tru P h1 x with
      | none => rfl
      | some t => cases t <;> rfl
    | ex c n h1 => rfl
    | no => rfl
  rw [e] at p
  refine tG.imp (stepS (rel := eqR) (g := fun ws h => (ev P cc ws h).bind (truR P)) R S p) fun t H1 ⟨ρ1, h1, t', pr, R1, S1, e, p1⟩ => ?_
  cases e
  cases t with
  | true => exact ⟨fz, ρ1, ws, h1, R1, S1, p1⟩
  | false => exact ⟨fz, ρ1, ws, h1, R1, S1, p1⟩
theorem ss_nil : PSs X [] (sD L X.K X.w V xa (exs P [])) := pssW pss_nil fun D σ H ⟨fz, ρ, ws, h, R, S, p⟩ => p.nx R S
theorem ss_cons {st : Stmt} {rest : List Stmt} {c : S} {cs : List S} (h1 : PS X st (sD L X.K X.w V xa (ex P c))) (h2 : PSs X rest (sD L X.K X.w V xa (exs P cs))) : PSs X (st :: rest) (sD L X.K X.w V xa (exs P (c :: cs))) := by
  refine pssW (pss_cons h1 h2) fun D σ H ⟨fz, ρ, ws, h, R, S, p⟩ => ?_
  refine ⟨fz, ρ, ws, h, R, S, ?_⟩
  change pso L X.K X.w V xa fz ρ (match ex P c ws h with
    | .nx σ' h' => exs P cs σ' h'
    | o => o) D at p
  cases e : ex P c ws h with
  | nx ws' h' => rw [e] at p; exact fun ρ' H' σ' pr R' S' => ⟨fz, ρ', ws', h', R', S', pso.mono p pr⟩
  | rt a h' => rw [e] at p; exact p
  | bk ws' h' => rw [e] at p; exact p
  | ct ws' h' => rw [e] at p; exact p
  | ex c' n ws' h' => rw [e] at p; exact p
  | no => rw [e] at p; exact p
/-- behind a loop's body -/
theorem bodyK_read {fz : Addr → Option (Obj × HO)} {ρ : List Addr} {r : Out} {next : Sl → Hh → Out} {D : Ends} {N : L2.St → Hp → Prop} (p : pso L X.K X.w V xa fz ρ (bodyK r next) D)
    (hN : ∀ ws' h' ρ' H' σ', pre ρ ρ' → HR (L.at fz) X.K X.w ρ' h' H' → SR L xa ρ' ws' σ' → pso L X.K X.w V xa fz ρ' (next ws' h') D → N σ' H') : pso L X.K X.w V xa fz ρ r { D with nx := N, ct := N, bk := D.nx } := by
  cases r with
  | nx ws' h' => exact fun ρ' H' σ' pr R' S' => hN ws' h' ρ' H' σ' pr R' S' (pso.mono p pr)
  | ct ws' h' => exact fun ρ' H' σ' pr R' S' => hN ws' h' ρ' H' σ' pr R' S' (pso.mono p pr)
  | bk ws' h' => exact p
  | rt a h' => exact p
  | ex c' n ws' h' => exact p
  | no => exact p
/-! ### while -/
theorem s_whl (G : Gs P L T k X q sc V xa) {c : Expr} {b : List Stmt} {cc : E} {cb : List S} {pos : Pos} (hc : PT X c (tT P L X.K X.w V xa cc)) (hb : PSs X b (sD L X.K X.w V xa (exs P cb))) : PS X (.While c b [] pos) (sD L X.K X.w V xa (ex P (.whl cc cb))) := by
  refine psW (ps_while G.po hc hb) fun D σ H ⟨fz, ρ, ws, h, R, S, p⟩ => ?_
  refine ⟨fun m σ H => ∃ ρ ws h, HR (L.at fz) X.K X.w ρ h H ∧ SR L xa ρ ws σ ∧ pso L X.K X.w V xa fz ρ (whL (fun σ h => (ev P cc σ h).bind fun x h1 => truR P x h1) (fun σ h => exs P cb σ h) m ws h) D, ⟨P.fu, ρ, ws, h, R, S, p⟩, ?_⟩
  rintro m σ H ⟨ρ, ws, h, R, S, p⟩
  cases m with
  | zero => exact p.elim
  | succ m =>
    unfold whL at p
    refine tG.imp (stepS (rel := eqR) (g := fun ws h => (ev P cc ws h).bind (truR P)) R S p) fun t H1 ⟨ρ1, h1, t', pr, R1, S1, e, p1⟩ => ?_
    cases e
    cases t with
    | false => exact p1.nx R1 S1
    | true =>
      refine ⟨fun σ' H' => ∃ ρ ws h, HR (L.at fz) X.K X.w ρ h H' ∧ SR L xa ρ ws σ' ∧ pso L X.K X.w V xa fz ρ (whL (fun σ h => (ev P cc σ h).bind fun x h1 => truR P x h1) (fun σ h => exs P cb σ h) m ws h) D, fun σ' H' z => ⟨m, Nat.lt_succ_self m, z⟩, fz, ρ1, ws, h1, R1, S1, ?_⟩
      rw [if_pos rfl] at p1
      exact bodyK_read p1 fun ws' h' ρ' H' σ' pr R' S' p2 => ⟨ρ', ws', h', R', S', p2⟩
end
end MP

set_option Elab.async false
set_option linter.all false
set_option maxRecDepth 100000
/-! MP: for; stores. -/
namespace MP
open PySem L2
section
variable {P : Pg} {L : Ln} {T : Ct} {k : Nat} {X : Cx} {q : Bool} {sc : Scope} {V : WX} {xa : Xa}
/-- the ends, where a lock may still be to be taken away -/
abbrev unlD (X : Cx) (D : Ends) : Ends := ⟨fun σ' H' => unl X (D.nx σ') H', fun v H' => unl X (D.rt v) H', fun σ' H' => unl X (D.bk σ') H', fun σ' H' => unl X (D.ct σ') H'⟩
theorem unlock_hh {ρ' ρ3 : List Addr} {κ : Ik} {hE h4 : Hh} {HE : Hp} {J : It} {fz fz' : Addr → Option (Obj × HO)} {Q : Hp → Prop} (pr3 : pre ρ' ρ3)
    (hfz : ∀ b, (∀ n, κ.isD = some n → ρ'[n]? ≠ some b) → fz' b = fz b) (i : iR P (L.at fz') X.K X.w X.H_0 ρ' κ J) (R : HR (L.at fz') X.K X.w ρ3 hE HE) (e4 : unlockK κ hE = some h4) (p : ∀ H, HR (L.at fz) X.K X.w ρ3 h4 H → Q H) : unl X Q HE := by
  unfold unlockK at e4
  cases e : κ.isD with
  | none =>
    simp only [e] at e4
    cases e4
    have : fz' = fz := funext fun b => hfz b fun n z => by rw [e] at z; cases z
    rw [this] at R
    exact .inl (p HE R)
  | some n =>
    simp only [e] at e4
    obtain ⟨a, ea, h0⟩ := i.2 n e
    split at e4
    · rename_i kvs eg
      cases e4
      obtain ⟨od, vs, eH, R2⟩ := R.unlock (fz := fz) eg (pr3.get ea) fun b hb => hfz b fun n' e' z => by
        rw [e] at e'
        cases e'
        rw [ea] at z
        cases z
        exact hb rfl
      exact .inr ⟨a, od, .dK vs, eH, h0, p _ R2⟩
    · cases e4
theorem unlO_read {ρ ρ1 : List Addr} {κ : Ik} {r : Out} {J : It} {fz fz' : Addr → Option (Obj × HO)} {D : Ends} (pr : pre ρ ρ1) (hfz : ∀ b, (∀ n, κ.isD = some n → ρ1[n]? ≠ some b) → fz' b = fz b) (i : iR P (L.at fz') X.K X.w X.H_0 ρ1 κ J)
    (p : pso L X.K X.w V xa fz ρ (unlO κ r) D) : pso L X.K X.w V xa fz' ρ1 r (unlD X D) := by
  unfold unlO at p
  cases e : κ.isD with
  | none =>
    simp only [e] at p
    have : fz' = fz := funext fun b => hfz b fun n z => by rw [e] at z; cases z
    rw [this]
    exact pso.imp (pso.mono p pr) (fun _ _ z => .inl z) (fun _ _ z => .inl z) (fun _ _ z => .inl z) (fun _ _ z => .inl z)
  | some n =>
    simp only [e] at p
    cases r with
    | nx ws h =>
      simp only at p
      split at p
      · rename_i h4 e4
        exact fun ρ' H' σ' pr' R' S' => unlock_hh pr' hfz i R' e4 fun H2 R2 => p ρ' H2 σ' (pr.trans pr') R2 S'
      · exact p.elim
    | rt a h =>
      simp only at p
      split at p
      · rename_i h4 e4
        exact fun ρ' H' v pr' R' rv => unlock_hh pr' hfz i R' e4 fun H2 R2 => p ρ' H2 v (pr.trans pr') R2 rv
      · exact p.elim
    | bk ws h => exact p.elim
    | ct ws h => exact p.elim
    | ex c n ws h => exact p.elim
    | no => exact p.elim
theorem s_for (G : Gs P L T k X q sc V xa) (hq : q = true) {tg it : Expr} {b : List Stmt} {ct : Tg} {ci : E} {cb : List S} {pos : Pos} (hi : PI X tg it (tI P L X.K X.w V xa X.H_0 ci)) (hg : PG X tg (tgT P L X.K X.w xa ct)) (hb : PSs X b (sD L X.K X.w V xa (exs P cb))) (hfs : ∀ x, foldedSetIterable it X.env x = pure x) :
    PS X (.For tg it b [] pos) (sD L X.K X.w V xa (ex P (.frr ct ci cb))) := by
  refine psW (ps_unl (ps_for G.po (G.g.calm hq) hi hg hb hfs)) fun D σ H ⟨fz, ρ, ws, h, R, S, p⟩ => ?_
  refine ⟨fz, ρ, ws, h, R, S, ?_⟩
  change pso L X.K X.w V xa fz ρ (((evI P ci ws h).bind lockR).go ws fun κ h2 => unlO κ (frL (κ.next P) (fun x σ' h3 => match stT P ct x σ' h3 with
      | some σ'' => exs P cb σ'' h3
      | none => .no) P.fu 0 ws h2)) D at p
  cases e : (evI P ci ws h).bind lockR with
  | no => rw [e] at p; exact p
  | ex c n h' => rw [e] at p; exact fun ρ' H' d pr R' ed => p ρ' H' σ d pr R' (S.mono pr) ed
  | ok κ h2 =>
    rw [e] at p
    intro fz' ρ1 H1 J pr hfz R1 i
    have p1 := unlO_read pr hfz i p
    refine ⟨fun j m σ H => ∃ ρ2 ws h, pre ρ1 ρ2 ∧ HR (L.at fz') X.K X.w ρ2 h H ∧ SR L xa ρ2 ws σ ∧ pso L X.K X.w V xa fz' ρ2 (frL (κ.next P) (fun x σ' h3 => match stT P ct x σ' h3 with
      | some σ'' => exs P cb σ'' h3
      | none => .no) m j ws h) (unlD X D), ⟨P.fu, ρ1, ws, h2, pre.refl ρ1, R1, S.mono pr, p1⟩, ?_⟩
    rintro j m σ H ⟨ρ2, ws, h, pr2, R2, S2, p2⟩
    cases m with
    | zero => exact p2.elim
    | succ m =>
      have nx := i.1 ρ2 h H j pr2 R2
      unfold frL at p2
      cases en : κ.next P j h with
      | stop =>
        rw [en] at p2 nx
        exact .inl ⟨nx, p2.nx R2 S2⟩
      | stuck => rw [en] at p2; exact p2.elim
      | it x h1 =>
        rw [en] at p2 nx
        simp only at p2
        refine .inr ⟨nx.1, fun σ' H' => ∃ ρ2 ws h, pre ρ1 ρ2 ∧ HR (L.at fz') X.K X.w ρ2 h H' ∧ SR L xa ρ2 ws σ' ∧ pso L X.K X.w V xa fz' ρ2 (frL (κ.next P) (fun x σ' h3 => match stT P ct x σ' h3 with
            | some σ'' => exs P cb σ'' h3
            | none => .no) m (j + 1) ws h) (unlD X D), fun σ' H' z => ⟨m, Nat.lt_succ_self m, z⟩, fun v H' hy => ?_⟩
        obtain ⟨ρ3, pr3, R3, rv⟩ := nx.2 v H' hy
        have p3 := bodyK_read (N := fun σ' H' => ∃ ρ2 ws h, pre ρ1 ρ2 ∧ HR (L.at fz') X.K X.w ρ2 h H' ∧ SR L xa ρ2 ws σ' ∧ pso L X.K X.w V xa fz' ρ2 (frL (κ.next P) (fun x σ' h3 => match stT P ct x σ' h3 with
            | some σ'' => exs P cb σ'' h3
            | none => .no) m (j + 1) ws h) (unlD X D)) (pso.mono p2 pr3) fun ws' h' ρ' H' σ' p' R' S' pp => ⟨ρ', ws', h', (pr2.trans pr3).trans p', R', S', pp⟩
        split at p3
        · rename_i ws' es
          exact ⟨fz', ρ3, ws, h1, x, ws', R3, S2.mono pr3, rv, es, fun σ' S' _ => ⟨fz', ρ3, ws', h1, R3, S', p3⟩⟩
        · exact p3.elim
/-! ### o.f = e -/
theorem putF_r {sa : Nat → Addr} {ρ : List Addr} {f : Str} {y : W} {v : L2.V} (r : vr sa ρ y v) : ∀ {fs : List (Str × W)} {vs : List (Str × L2.V)}, fr sa ρ fs vs → fr sa ρ (putFW f y fs) (putF f v vs)
  | _, _, .nil => .cons ⟨rfl, r⟩ .nil
  | (g, x) :: fs, (g', u) :: vs, .cons ⟨h1, h2⟩ t => by
    cases h1
    unfold putFW putF
    by_cases e : g = f
    · rw [if_pos e, if_pos e]; exact .cons ⟨e.symm, r⟩ t
    · rw [if_neg e, if_neg e]; exact .cons ⟨rfl, h2⟩ (putF_r r t)
theorem s_fld (G : Gd P L T k X q sc V xa) {o e : Expr} {f : Str} {p1 pos : Pos} {co ce : E} (ho : PE X o (tD P L X.K X.w V xa co)) (he : PE X e (tD P L X.K X.w V xa ce)) : PS X (.Assign [.Attribute o f p1] e pos) (sD L X.K X.w V xa (ex P (.asgF co f ce))) := by
  refine psW (ps_fld ho he (by cases e <;> rfl)) fun D σ H ⟨fz, ρ, ws, h, R, S, p⟩ => ?_
  refine tG.imp (stepS (rel := vr L.sa) R S p) fun v H1 ⟨ρ1, h1, y, pr, R1, S1, rv, p1⟩ => ?_
  refine tG.imp (stepS (rel := vr L.sa) R1 S1 p1) fun u H2 ⟨ρ2, h2, x, pr2, R2, S2, ru, p2⟩ => ?_
  cases es : setF P x f y h2 with
  | none => simp only [es] at p2; exact p2.elim
  | some h3 =>
    simp only [es] at p2
    unfold setF at es
    split at es
    · rename_i n c fs ei
      split at es
      · rename_i hh
        cases es
        obtain ⟨rfl, en⟩ := insW_some ei
        obtain ⟨a, ea, rfl⟩ := ru
        obtain ⟨dx, vs, rf, eH⟩ := R2.insAt en ea
        obtain ⟨hc, hn⟩ := G.lk.fd c f hh.1
        refine ⟨a, _, dx, vs, rfl, eH, hc, hn, by rw [← rf.length]; omega, ?_⟩
        exact p2.nx (R2.set ea (fun ob z w => by rw [eH] at w; cases w) ⟨dx, _, putF_r (rv.mono pr2) rf, rfl⟩) S2
      · cases es
    · cases es
/-! ### o[i] = e -/
theorem s_sub (G : Gd P L T k X q sc V xa) {o i e : Expr} {p1 pos : Pos} {co ci ce : E} (ho : PE X o (tD P L X.K X.w V xa co)) (hi : PE X i (tD P L X.K X.w V xa ci)) (he : PE X e (tD P L X.K X.w V xa ce)) : PS X (.Assign [.Subscript o i p1] e pos) (sD L X.K X.w V xa (ex P (.asgS co ci ce))) := by
  refine ⟨fun pins s σ H D I ⟨fz, ρ, ws, h, R, S, p⟩ => ?_⟩
  refine wpAny_Assign_Subscript (thn (he.run pins s σ H _ I (stepS (rel := vr L.sa) R S p)) fun r s1 ⟨v, H1, I1, rv, ρ1, h1, y, pr, R1, S1, ry, p1⟩ => thn (ho.run pins s1 σ H1 _ I1 (stepS (rel := vr L.sa) R1 S1 p1)) fun u s2 ⟨x, H2, I2, rx, ρ2, h2, a, pr2, R2, S2, ra, p2⟩ =>
    thn (hi.run pins s2 σ H2 _ I2 (stepS (rel := vr L.sa) R2 S2 p2)) fun iv s3 ⟨z, H3, I3, rz, ρ3, h3, b, pr3, R3, S3, rb, p3⟩ => ?_) (by cases e <;> rfl)
  cases es : setS a b y h3 with
  | none => simp only [es] at p3; exact p3.elim
  | some h4 =>
    simp only [es] at p3
    have ry3 := (ry.mono pr2).mono pr3
    unfold setS at es
    split at es
    · rename_i n
      obtain ⟨d, ed, rfl⟩ := ra.mono pr3
      split at es
      · rename_i xs en
        obtain ⟨vs, rl, eH⟩ := R3.lstAt en ed
        split at es
        · rename_i j
          obtain ⟨jj, ej, rfl⟩ := Option.map_eq_some_iff.mp es
          cases rb
          refine thn (set_list pins s3 σ H3 _ _ v u iv r (fun H' => D.nx σ H') I3 rx rz rv ⟨d, vs, j, jj, rfl, rfl, eH, by rw [← rl.length]; exact ej, ?_⟩) fun _ s4 ⟨H4, I4, q4⟩ => ⟨σ, H4, I4, q4⟩
          exact p3.nx (R3.setL ed eH (prd_set ry3 jj rl)) S3
        · cases es
      · rename_i kvs en
        obtain ⟨vs, rl, eH⟩ := R3.dicAt en ed
        split at es
        · rename_i key ek
          split at es
          · rename_i hl
            cases es
            obtain rfl : u = Value.ref d := rx
            have := keyW_r rb ek
            subst this
            refine d_setItem (by have := G.un; omega) I3 (DPut.k eH (by rw [← rl.length]; exact sizeLt hl)) rz rv fun s4 I4 => ⟨σ, _, I4, ?_⟩
            exact p3.nx (R3.set ed (fun ob z w => by rw [eH] at w; cases w) ⟨_, putW_r key rl ry3, rfl⟩) S3
          · cases es
        · cases es
      · cases es
    · cases es
theorem s_del {o i : Expr} {p1 pos : Pos} {co ci : E} (ho : PE X o (tD P L X.K X.w V xa co)) (hi : PE X i (tD P L X.K X.w V xa ci)) : PS X (.Delete [.Subscript o i p1] pos) (sD L X.K X.w V xa (ex P (.del co ci))) := by
  refine psW (ps_ddel ho hi) fun D σ H ⟨fz, ρ, ws, h, R, S, p⟩ => ?_
  refine tG.imp (stepS (rel := vr L.sa) R S p) fun v H1 ⟨ρ1, h1, x, pr, R1, S1, rv, p1⟩ => ?_
  refine tG.imp (stepS (rel := vr L.sa) R1 S1 p1) fun u H2 ⟨ρ2, h2, y, pr2, R2, S2, ru, p2⟩ => ?_
  cases es : delS x y h2 with
  | none => simp only [es] at p2; exact p2.elim
  | some h3 =>
    simp only [es] at p2
    unfold delS at es
    split at es
    · obtain ⟨d, ed, rfl⟩ := rv.mono pr2
      split at es
      · rename_i kvs en
        obtain ⟨vs, rl, eH⟩ := R2.dicAt en ed
        split at es
        · rename_i key ek
          split at es
          · rename_i hl
            cases es
            exact ⟨d, vs, key, rfl, eH, keyW_r ru ek, by rw [getK_isSome key rl]; exact hl, p2.nx (R2.set ed (fun ob z w => by rw [eH] at w; cases w) ⟨_, dropW_r rl, rfl⟩) S2⟩
          · cases es
        · cases es
      · cases es
    · cases es
/-! ### x op= e -/
def rAug (L : Ln) (K : PySem.W.Frag) (w : World) (o : BO) : R2 := fun x y H Q => ∃ fz ρ h a b E, HR (L.at fz) K w ρ h H ∧ vr L.sa ρ a x ∧ vr L.sa ρ b y ∧ pv (L.at fz) K w ρ (augW o a b h) E Q
theorem or_aug (o : BO) : OpR X (inplaceOp (bop o)) (rAug L X.K X.w o) := by
  intro pins s σ H x y v u Q I rx ry hh
  obtain ⟨fz, ρ, h, a, b, E, R, ra, rb, p⟩ := hh
  cases o with
  | add =>
    cases a with
    | int i =>
      cases b with
      | int j =>
        cases ra; cases rb
        exact iop_add pins s σ H _ _ v u Q I rx ry ⟨i, j, rfl, rfl, p.ok R rfl⟩
      | _ => exact p.elim
    | str i =>
      cases b with
      | str j =>
        cases ra; cases rb
        change pv (L.at fz) X.K X.w ρ (if i.length + j.length ≤ lim then .ok (.str (i ++ j)) h else .no) E Q at p
        split at p
        · rename_i hl
          exact iop_add_str pins s σ H _ _ v u Q I rx ry ⟨i, j, rfl, rfl, sizeL hl, p.ok R rfl⟩
        · exact p.elim
      | _ => exact p.elim
    | ref n =>
      cases b with
      | ref m =>
        obtain ⟨pa, ea, rfl⟩ := ra
        obtain ⟨pb, eb, rfl⟩ := rb
        change pv (L.at fz) X.K X.w ρ (match h.get n, h.get m with
          | some (.lst xs), some (.lst ys) => if xs.length + ys.length ≤ lim then .ok (.ref n) (h.set n (.lst (xs ++ ys))) else .no
          | _, _ => .no) E Q at p
        split at p
        · rename_i xs ys e1 e2
          obtain ⟨us, r1, h1⟩ := R.lstAt e1 ea
          obtain ⟨zs, r2, h2⟩ := R.lstAt e2 eb
          split at p
          · rename_i hl
            refine iop_ext pins s σ H _ _ v u Q I rx ry ⟨pa, pb, us, zs, rfl, rfl, h1, h2, by rw [← r1.length, ← r2.length]; exact sizeL hl, ?_⟩
            exact p ρ _ _ (pre.refl ρ) (R.setL ea h1 (prd_app r1 r2)) ⟨pa, ea, rfl⟩
          · exact p.elim
        · exact p.elim
      | _ => exact p.elim
    | _ => exact p.elim
  | sub =>
    cases a with
    | int i =>
      cases b with
      | int j =>
        cases ra; cases rb
        exact iop_sub pins s σ H _ _ v u Q I rx ry ⟨i, j, rfl, rfl, p.ok R rfl⟩
      | _ => exact p.elim
    | _ => exact p.elim
  | _ => exact p.elim
theorem s_aug (G : Nm T X sc) {x : Str} {i : Nat} {e : Expr} {op : Operator} {o : BO} {c : E} {p1 pos : Pos} (hst : stored sc x = true) (hi : slot T x = some i) (ho : boOf op = some o) (he : PE X e (tD P L X.K X.w V xa c)) : PS X (.AugAssign (.Name x p1) op e pos) (sD L X.K X.w V xa (ex P (.aug i o c))) := by
  rw [← bop_boOf ho]
  have hip : PIp X (bop o) (rAug L X.K X.w o) := fun pins s σ H x y v u Q I r1 r2 h => or_aug o pins s σ H x y v u Q I r1 r2 h
  refine psW (ps_aug (i := i) (by rw [G.N]; exact G.nd) (by rw [G.N]; exact slot_get hi) (G.st x hst).1 he hip (G.st x hst).2) fun D σ H ⟨fz, ρ, ws, h, R, S, p⟩ => ?_
  unfold ex at p
  split at p
  · exact p.elim
  · rename_i a hne ea
    obtain ⟨v, ev, r⟩ := S.get ea
    have rv : vr L.sa ρ a v := by
      cases a with
      | exn c n => exact absurd rfl (hne c n)
      | _ => exact r
    refine ⟨v, ev, tG.imp (stepS (rel := vr L.sa) R S p) fun y H1 ⟨ρ1, h1, b, pr, R1, S1, ry, p1⟩ => ?_⟩
    refine ⟨fz, ρ1, h1, a, b, wx V L σ, R1, rv.mono pr, ry, ?_⟩
    cases q : augW o a b h1 with
    | ok z h2 => rw [q] at p1; exact fun ρ' H' z' pr' R' rz => p1 ρ' H' _ pr' R' ((S1.mono pr').set i (sw.of rz))
    | ex c n h2 => rw [q] at p1; exact fun ρ' H' d pr' R' ed => p1 ρ' H' σ d pr' R' (S1.mono pr') ed
    | no => rw [q] at p1; exact p1
  · exact p.elim
end
end MP

set_option Elab.async false
set_option linter.all false
set_option maxRecDepth 100000
/-! MP: name = comprehension; several stores; raise; try. -/
namespace MP
open PySem L2
section
variable {X : Cx} {x : Str} {j : Nat} {px at_ p spos : Pos} {n a b e tg i tg1 i1 : Expr} {fs fs1 : List Expr} {scope : Scope} {own : List (Str × Nat)} {vs1 : List Nat} {wi wi1 : TI} {g g1 : TG} {tt tt1 : TT} {te tk t : TE}
/-- name = comprehension on one line, the name a local: core is the comprehension's own rule, with the store as what follows -/
theorem ps_comp {mk first : Sem Value} (hN : X.N.Nodup) (hx : X.N[j]? = some x) (hl : X.env.scope.names.lookup x = some .local) (hsw : swapsWith n (some (.Name x px)) spos.line X.env = pure true)
    (hu : evalThenUse n X.env (assign (.Name x px) X.env) = (comprehension n scope X.env at_ mk false first (some (assign (.Name x px) X.env)) >>= fun _ => pure ()))
    (core : ∀ (pins : List (Addr × Obj)) (s : Shared) (σ : L2.St) (H : Hp) (Q : VK) (Qf : Value → Shared → Prop), Inv X pins σ H s → t σ H Q →
      (∀ D C s' m H', Inv X pins σ H' s' → Q (.ref D) H' → s'.heap.Ns C m → FpOk X pins H' C → compPost (model X.prog X.w) X.A X.xe (some (assign (.Name x px) X.env)) Qf (.ref D) C (.ok .next) s') →
      wpAny (model X.prog X.w) X.A (comprehension n scope X.env at_ mk false first (some (assign (.Name x px) X.env))) Qf X.xe s) :
    PS X (.Assign [.Name x px] n spos) (tAsg t (gName j)) := by
  refine ⟨fun pins s σ H K I h => ?_⟩
  rw [exec_Assign_Name_used _ _ _ _ hsw, hu]
  refine wpAny_bind (wpAny_standAt (wpAny_bind (wpAny_bind (thn (core pins s σ H _ (fun _ s' => SP X pins K .next s') I h fun D C s' m H' I' q ns f => ?_) fun _ _ z => wpAny_pure (wpAny_pure z)))))
  have far := f.2.2.2.2.1
  refine wpAny_assign_Name (store_ok2 (v := V.ref D) I' hN hx (.inl hl) rfl (fun s2 I2 ⟨c, sb, hc⟩ => ?_) (.inr hl))
  have ne : C ≠ c := hc.elim (fun z => z ▸ f.2.1) fun z w => far x c z w.symm
  exact ⟨m, ns.sameBut sb ne, fun h3 sb3 => ⟨_, H', I2.turned (t' := s2.toks) (fun d o z w => (sb3.2 d z).trans w) f.1 f.2.1 f.2.2.2.1 far f.2.2.2.2.2, q⟩⟩
theorem ps_setDc (hc : X.calm = true) (hN : X.N.Nodup) (hx : X.N[j]? = some x) (hl : X.env.scope.names.lookup x = some .local) (hsw : swapsWith (.DictComp a b [⟨tg, i, fs, 0⟩] scope p) (some (.Name x px)) spos.line X.env = pure true)
    (hi : PI X tg i wi) (ok : BlkOk X.N X.env.scope scope own) (hg : Blks X scope fun _ Y => PG Y tg g) (ht : Blks X scope fun _ Y => PTs Y fs tt) (hk : Blks X scope fun _ Y => PE Y a tk) (he : Blks X scope fun _ Y => PE Y b te) (hs : ∀ x, foldedSetIterable i X.env x = pure x) :
    PS X (.Assign [.Name x px] (.DictComp a b [⟨tg, i, fs, 0⟩] scope p) spos) (tAsg (tDc wi g tt tk te (own.map (·.2))) (gName j)) :=
  ps_comp hN hx hl hsw rfl fun _ _ _ _ _ _ I h l => dc_core hc hN I hi ok hg ht hk he hs h l
theorem ps_setDc2 (hc : X.calm = true) (hN : X.N.Nodup) (hx : X.N[j]? = some x) (hl : X.env.scope.names.lookup x = some .local) (hsw : swapsWith (.DictComp a b [⟨tg, i, fs, 0⟩, ⟨tg1, i1, fs1, 0⟩] scope p) (some (.Name x px)) spos.line X.env = pure true)
    (hi : PI X tg i wi) (ok : BlkOk X.N X.env.scope scope own) (hv : ∀ j ∈ vs1, j ∈ own.map (·.2)) (hg : Blks X scope fun _ Y => PG Y tg g) (ht : Blks X scope fun _ Y => PTs Y fs tt) (hi1 : Blks X scope fun _ Y => PI Y tg1 i1 wi1) (hg1 : Blks X scope fun _ Y => PG Y tg1 g1)
    (ht1 : Blks X scope fun _ Y => PTs Y fs1 tt1) (hk : Blks X scope fun _ Y => PE Y a tk) (he : Blks X scope fun _ Y => PE Y b te) (hs : ∀ x, foldedSetIterable i X.env x = pure x) (hs1 : ∀ env x, foldedSetIterable i1 env x = pure x) :
    PS X (.Assign [.Name x px] (.DictComp a b [⟨tg, i, fs, 0⟩, ⟨tg1, i1, fs1, 0⟩] scope p) spos) (tAsg (tDc2 wi g tt wi1 g1 tt1 tk te (own.map (·.2)) vs1) (gName j)) :=
  ps_comp hN hx hl hsw rfl fun _ _ _ _ _ _ I h l => two_core two_dict (fun _ _ z => wpAny_newObj_type z) obD hc hN I hi ok hv hs hs1 hg ht hi1 hg1 ht1 (fun s H C cl fp => actD_ok rfl (hk s H C cl fp) (he s H C cl fp)) h l
end
section
variable {P : Pg} {L : Ln} {T : Ct} {k : Nat} {X : Cx} {q : Bool} {sc : Scope} {V : WX} {xa : Xa} {n : Nat}
/-- a store of a comprehension that is one with its value -/
def isComp : Expr → Bool
  | .ListComp _ _ _ _ => true
  | .DictComp _ _ _ _ _ => true
  | .SetComp _ _ _ _ => true
  | _ => false
theorem swap_cases (e : Expr) (x : Str) (px : Pos) (l : Nat) (env : Env) : swapsWith e (some (.Name x px)) l env = pure false ∨ (swapsWith e (some (.Name x px)) l env = pure true ∧ isComp e = true ∧ env.scope.names.lookup x = some .local) := by
  have go : ∀ b : Bool, swapsWith e (some (.Name x px)) l env = pure (env.blockKind == .function && env.kindOf x == some .local && b) → isComp e = true → swapsWith e (some (.Name x px)) l env = pure false ∨ (swapsWith e (some (.Name x px)) l env = pure true ∧ isComp e = true ∧ env.scope.names.lookup x = some .local) := fun b h hc => by
    cases hb : (env.blockKind == .function && env.kindOf x == some .local && b) with
    | false => rw [hb] at h; exact .inl h
    | true =>
      rw [hb] at h
      refine .inr ⟨h, hc, ?_⟩
      have := (Bool.and_eq_true_iff.mp (Bool.and_eq_true_iff.mp hb).1).2
      exact beq_iff_eq.mp this
  cases e with
  | ListComp a b s p => exact go ((px.line == p.line) && !(s.names.any fun (n, k) => n == x && (k == .local || k == .cell))) (by unfold swapsWith; simp only [Bool.and_assoc]; rfl) rfl
  | DictComp a b c s p => exact go ((px.line == p.line) && !(s.names.any fun (n, k) => n == x && (k == .local || k == .cell))) (by unfold swapsWith; simp only [Bool.and_assoc]; rfl) rfl
  | SetComp a b s p => exact go ((px.line == p.line) && !(s.names.any fun (n, k) => n == x && (k == .local || k == .cell))) (by unfold swapsWith; simp only [Bool.and_assoc]; rfl) rfl
  | _ => exact .inl rfl
/-! ### raise -/
theorem exo_ne {e C : Addr} {d : Option Addr} {ob : Obj} {u : HO} : exo e C d ≠ .frz ob u := fun z => by
  have z' : HO.ext _ = HO.frz ob u := z
  cases z'
theorem s_rse (G : Gd P L T k X q sc V xa) (hq : q = true) {c : Str} {p1 p2 pos : Pos} {a : Expr} {as : List Expr} {cs : List E} (hc : c ∈ T.exs) (hg : isGl sc c = true) (ho : okName c = true) (hn : notStar a = true) (hn2 : as.all notStar = true) (ha : PA X (a :: as) (tA P L X.K X.w V xa cs)) :
    PS X (.Raise (some (.Call (.Name c p1) (a :: as) [] p2)) none pos) (sD L X.K X.w V xa (ex P (.rse c cs))) := by
  obtain ⟨hm, hx⟩ := G.lk.ex c hc
  cases ef : P.exf c with
  | none =>
    refine ⟨fun pins s σ H D I ⟨fz, ρ, ws, h, R, S, p⟩ => ?_⟩
    unfold ex at p
    rw [ef] at p
    exact p.elim
  | some fs =>
    obtain ⟨hl, fI, fd, ps, T1, iC, tI, hb, F⟩ := hx fs ef
    have mk := pmk_oex (X := X) (es := as) (e := a) (p := p1) (pos := p2) (dvs := []) (ds := []) T1 iC tI F (G.room hq) hb .nil (fun pins σ H s e s' I z => by obtain ⟨_, _, _, _, _, _, _, _, _, _, _, _, z⟩ := z; exact z.elim) (gl_of G hg) hm ha (ok_db ho).1 (star_cons hn) (star_plain hn2)
    refine psW (ps_raise (G.calm hq) G.tk mk) fun D σ H ⟨fz, ρ, ws, h, R, S, p⟩ => ?_
    unfold ex at p
    rw [ef] at p
    refine tG.imp (stepS (rel := vrs L.sa) R S p) fun vs H1 ⟨ρ1, h1, xs, pr, R1, S1, rx, p1⟩ => ?_
    split at p1
    · rename_i hlen
      have hvl : vs.length = fs.length := by rw [← rx.length]; exact hlen.symm
      refine ⟨by omega, fun b nb => ⟨b, vs, by rw [List.append_nil], hvl, upd_same, fun dx ndx hne => ⟨rfl, dx, (fs.zip vs).reverse, upd_same, by rw [upd_ne hne, upd_same], ?_, ?_⟩⟩⟩
      · rw [upd_ne hne] at ndx; exact ndx
      · have ndx' : H1 dx = none := by rw [upd_ne hne] at ndx; exact ndx
        have eH : upd (del (upd (upd (upd H1 b (exo b (L.ca c) none)) dx (exd dx (fs.zip vs).reverse)) b (exo b (L.ca c) (some dx))) b) dx (.xd (fs.zip vs).reverse) = upd H1 dx (.xd (fs.zip vs).reverse) := by
          funext z
          by_cases h1 : z = dx
          · subst h1; rw [upd_same, upd_same]
          · rw [upd_ne h1, upd_ne h1]
            by_cases h2 : z = b
            · subst h2; rw [del_same, nb]
            · rw [del_ne h2, upd_ne h2, upd_ne h1, upd_ne h2]
        rw [eH]
        have zr : ∀ (fs : List Str) {xs : List W} {vs : List L2.V}, vrs L.sa ρ1 xs vs → fr L.sa ρ1 (fs.zip xs) (fs.zip vs) := by
          intro fs
          induction fs with
          | nil => intro xs vs _; exact .nil
          | cons f fs ih =>
            intro xs vs r
            cases r with
            | nil => exact .nil
            | cons r t => exact .cons ⟨rfl, r⟩ (ih t)
        refine p1 (ρ1 ++ [dx]) _ σ dx (pre.snoc _ _) (R1.push ndx' ⟨_, Paired.mapP (prd_rev (zr fs rx)) fun _ _ z => ⟨z.1, z.2.mono (pre.snoc _ _)⟩, rfl⟩) (S1.mono (pre.snoc _ _)) (by rw [← R1.len]; simp)
    · exact p1.elim
/-! ### x, y = a, b -/
theorem parIs2 {x y : Str} {px py : Pos} {is : List Nat} (h : parIs T [.Name x px, .Name y py] = some is) : ∃ i j, is = [i, j] ∧ slot T x = some i ∧ slot T y = some j := by
  unfold parIs at h
  obtain ⟨i, ei, h⟩ := Option.bind_eq_some_iff.mp h
  obtain ⟨r, er, rfl⟩ := Option.map_eq_some_iff.mp h
  unfold parIs at er
  obtain ⟨j, ej, er⟩ := Option.bind_eq_some_iff.mp er
  obtain ⟨r2, er2, rfl⟩ := Option.map_eq_some_iff.mp er
  cases er2
  exact ⟨i, j, rfl, ei, ej⟩
theorem parIs3 {x y z : Str} {px py pz : Pos} {is : List Nat} (h : parIs T [.Name x px, .Name y py, .Name z pz] = some is) : ∃ i j l, is = [i, j, l] ∧ slot T x = some i ∧ slot T y = some j ∧ slot T z = some l := by
  unfold parIs at h
  obtain ⟨i, ei, h⟩ := Option.bind_eq_some_iff.mp h
  obtain ⟨r, er, rfl⟩ := Option.map_eq_some_iff.mp h
  obtain ⟨j, l, rfl, h1, h2⟩ := parIs2 er
  exact ⟨i, j, l, rfl, ei, h1, h2⟩
theorem slot_ne (nd : T.N.Nodup) {x y : Str} {i j : Nat} (hx : slot T x = some i) (hy : slot T y = some j) (h : x ≠ y) : i ≠ j := fun e => by
  subst e
  have h1 := slot_get hx
  rw [slot_get hy] at h1
  exact h (Option.some.inj h1).symm
theorem no_star {es : List Expr} (h : es.all notStar = true) : (es.any fun | .Starred .. => true | _ => false) = false := by
  rw [List.any_eq_false]
  intro e he
  have := List.all_eq_true.mp h e he
  cases e <;> first | exact Bool.false_ne_true | (cases this)
theorem sw_any {env : Env} {ts es : List Expr} {p1 p2 : Pos} {k1 k2 : Nat} {ns : List Str} {l : Nat} (kb : env.blockKind = .function) (hlen : (ts.length == 2 || ts.length == 3) = true) (hle : es.length = ts.length) (hhd : (ts.head?.map (·.pos.line)).getD 0 = l)
    (hns : (ts.filterMap fun
      | .Name id pos => if env.kindOf id == some .local && pos.line == l then some id else none
      | _ => none) = ns) (hn1 : ns.length = ts.length) (hn2 : ns.eraseDups.length = ns.length)
    (hst : (es.any fun | .Starred .. => true | _ => false) = false) (hf : es.all (foldedForSure 8) = false) (hca : es.all (constantsAlone 8) = false) :
    swappedStores [.Tuple ts k1 p1] (.Tuple es k2 p2) env = pure (some ns) := by
  subst hhd
  unfold swappedStores
  refine (if_neg ?_).trans ((if_neg ?_).trans ((if_neg ?_).trans ((if_neg ?_).trans ((if_neg ?_).trans ?_))))
  · rw [hlen, kb]
    simp [hle]
  · intro z
    rw [List.any_eq_true] at z
    rw [List.any_eq_false] at hst
    obtain ⟨e, he, z⟩ := z
    have := hst e he
    cases e <;> first | exact this rfl | cases z
  · intro z
    have z' : (ns.length != ts.length || ns.eraseDups.length != ns.length) = true := by rw [← hns]; exact z
    rw [hn1, hn2] at z'
    simp [hn1] at z'
  · rw [hf]; exact Bool.false_ne_true
  · rw [hca]; exact Bool.false_ne_true
  · rw [← hns]; rfl
theorem ed2 {x y : Str} (h : x ≠ y) : [x, y].eraseDups.length = 2 := by
  have : (y == x) = false := by simpa using fun z => h z.symm
  simp [List.eraseDups_cons, this]
theorem ed3 {x y z : Str} (h : x ≠ y) (h2 : x ≠ z) (h3 : y ≠ z) : [x, y, z].eraseDups.length = 3 := by
  have e1 : (y == x) = false := by simpa using fun z => h z.symm
  have e2 : (z == x) = false := by simpa using fun z => h2 z.symm
  have e3 : (z == y) = false := by simpa using fun z => h3 z.symm
  simp [List.eraseDups_cons, e1, e2, e3]
theorem s_par (G : Gd P L T k X q sc V xa) (hq : q = true) {ts es : List Expr} {k1 k2 : Nat} {p1 p2 pos : Pos} {is : List Nat} {cs : List E} (ok : parOk sc ts es = true) (hi : parIs T ts = some is) (ha : PA X es (tA P L X.K X.w V xa cs)) :
    PS X (.Assign [.Tuple ts k1 p1] (.Tuple es k2 p2) pos) (sD L X.K X.w V xa (ex P (.par is cs))) := by
  have hN : X.N.Nodup := by rw [G.N]; exact G.nd
  unfold parOk at ok
  obtain ⟨ok1, ok2⟩ := Bool.and_eq_true_iff.mp ok
  obtain ⟨hns, ok3⟩ := Bool.and_eq_true_iff.mp ok2
  obtain ⟨hf, hca⟩ := Bool.and_eq_true_iff.mp ok3
  have hf : es.all (foldedForSure 8) = false := by simpa using hf
  have hca : es.all (constantsAlone 8) = false := by simpa using hca
  have hst := no_star hns
  refine ⟨fun pins s σ H D I hw => ?_⟩
  have kb : X.env.blockKind = .function := by unfold Env.blockKind; rw [I.ok.kind]; rfl
  have lc : ∀ {x : Str}, (sc.names.lookup x == some .local) = true → X.env.scope.names.lookup x = some .local := fun {x} z => by rw [G.se]; exact beq_iff_eq.mp z
  split at ok1
  · rename_i x px y py
    obtain ⟨hx, ok1⟩ := Bool.and_eq_true_iff.mp ok1
    obtain ⟨hy, ok1⟩ := Bool.and_eq_true_iff.mp ok1
    obtain ⟨hl, ok1⟩ := Bool.and_eq_true_iff.mp ok1
    obtain ⟨hxy, hle⟩ := Bool.and_eq_true_iff.mp ok1
    have hxy : x ≠ y := by simpa using hxy
    have hle : es.length = 2 := by simpa using hle
    have hl : px.line = py.line := by simpa using hl
    obtain ⟨i, j, rfl, ei, ej⟩ := parIs2 hi
    match es, hle with
    | [a, b], _ =>
      have kx : X.env.kindOf x = some .local := lc hx
      have ky : X.env.kindOf y = some .local := lc hy
      have hyx : ¬ y = x := fun z => hxy z.symm
      refine (ps_par (i := i) (j := j) (G.calm hq) hN (by rw [G.N]; exact slot_get ei) (by rw [G.N]; exact slot_get ej) (slot_ne G.nd ei ej hxy) (lc hx) (lc hy) ha ?_ rfl).run pins s σ H D I ?_
      · exact sw_any (l := px.line) (ns := [x, y]) kb rfl rfl rfl (by simp [kx, ky, hl]) rfl (ed2 hxy) hst hf hca
      · obtain ⟨fz, ρ, ws, h, R, S, p⟩ := hw
        refine tG.imp (stepS (rel := vrs L.sa) R S p) fun vs H1 ⟨ρ1, h1, xs, pr, R1, S1, rx, p1⟩ => ?_
        split at p1
        · rename_i hlen
          match xs, vs, rx, hlen with
          | [w1, w2], [v1, v2], .cons r1 (.cons r2 .nil), _ => exact ⟨v1, v2, rfl, p1.nx R1 ((S1.set i (sw.of r1)).set j (sw.of r2))⟩
        · exact p1.elim
  · rename_i x px y py z pz
    obtain ⟨hx, ok1⟩ := Bool.and_eq_true_iff.mp ok1
    obtain ⟨hy, ok1⟩ := Bool.and_eq_true_iff.mp ok1
    obtain ⟨hz, ok1⟩ := Bool.and_eq_true_iff.mp ok1
    obtain ⟨hl, ok1⟩ := Bool.and_eq_true_iff.mp ok1
    obtain ⟨hl2, ok1⟩ := Bool.and_eq_true_iff.mp ok1
    obtain ⟨hxy, ok1⟩ := Bool.and_eq_true_iff.mp ok1
    obtain ⟨hxz, ok1⟩ := Bool.and_eq_true_iff.mp ok1
    obtain ⟨hyz, hle⟩ := Bool.and_eq_true_iff.mp ok1
    have hxy : x ≠ y := by simpa using hxy
    have hxz : x ≠ z := by simpa using hxz
    have hyz : y ≠ z := by simpa using hyz
    have hle : es.length = 3 := by simpa using hle
    have hl : px.line = py.line := by simpa using hl
    have hl2 : px.line = pz.line := by simpa using hl2
    obtain ⟨i, j, l, rfl, ei, ej, el⟩ := parIs3 hi
    match es, hle with
    | [a, b, c], _ =>
      have kx : X.env.kindOf x = some .local := lc hx
      have ky : X.env.kindOf y = some .local := lc hy
      have kz : X.env.kindOf z = some .local := lc hz
      refine (ps_par3 (i := i) (j := j) (l := l) (G.calm hq) hN (by rw [G.N]; exact slot_get ei) (by rw [G.N]; exact slot_get ej) (by rw [G.N]; exact slot_get el) (slot_ne G.nd ei ej hxy) (slot_ne G.nd ei el hxz) (slot_ne G.nd ej el hyz) (lc hx) (lc hy) (lc hz) ha ?_ rfl).run pins s σ H D I ?_
      · exact sw_any (l := px.line) (ns := [x, y, z]) kb rfl rfl rfl (by simp [kx, ky, kz, ← hl, ← hl2]) rfl (ed3 hxy hxz hyz) hst hf hca
      · obtain ⟨fz, ρ, ws, h, R, S, p⟩ := hw
        refine tG.imp (stepS (rel := vrs L.sa) R S p) fun vs H1 ⟨ρ1, h1, xs, pr, R1, S1, rx, p1⟩ => ?_
        split at p1
        · rename_i hlen
          match xs, vs, rx, hlen with
          | [w1, w2, w3], [v1, v2, v3], .cons r1 (.cons r2 (.cons r3 .nil)), _ => exact ⟨v1, v2, v3, rfl, p1.nx R1 (((S1.set i (sw.of r1)).set j (sw.of r2)).set l (sw.of r3))⟩
        · exact p1.elim
  · cases ok1
end
end MP

set_option Elab.async false
set_option linter.all false
set_option maxRecDepth 100000
/-! MP: try; all statements. -/
namespace MP
open PySem L2
section
variable {P : Pg} {L : Ln} {T : Ct} {k : Nat} {X : Cx} {q : Bool} {sc : Scope} {V : WX} {xa : Xa} {n : Nat}
theorem SR.some {ρ : List Addr} {ws : Sl} {σ : L2.St} (S : SR L none ρ ws σ) : SR L xa ρ ws σ := Paired.mapP S fun a b r => by
  cases a with
  | none => trivial
  | some w => cases b with
    | none => exact r
    | some v =>
      cases w with
      | exn c n => obtain ⟨_, _, z, _⟩ := r; cases z
      | _ => exact r
theorem SR.clr {ρ : List Addr} : ∀ {ws : Sl} {σ : L2.St}, SR L xa ρ ws σ → SR L none ρ (clrX ws) σ
  | [], _, .nil => .nil
  | a :: ws, _, .cons r t => by
    refine .cons ?_ (SR.clr t)
    cases a with
    | none => trivial
    | some w =>
      rename_i b σ
      cases w with
      | exn c n => trivial
      | _ => cases b with
        | none => exact r
        | some v => exact r
theorem s_tri (G : Gs P L T k X q sc V none) {c x : Str} {i : Nat} {body : List Stmt} {b₀ : Stmt} {suite : List Stmt} {np p1 pos : Pos} {cb cu : List S}
    (hc : c ∈ T.exs) (hg : isGl sc c = true) (ho : okName c = true) (hi : slot T x = some i) (hx : sc.names.lookup x = some .local)
    (hb : ∀ (X' : Cx) (V' : WX), Gs P L T k X' q sc V' none → PSs X' body (sD L X'.K X'.w V' none (exs P cb)))
    (hu : ∀ (X' : Cx) (xa' : Xa), Gs P L T k X' false sc V0 xa' → PSs X' (b₀ :: suite) (sD L X'.K X'.w V0 xa' (exs P cu))) :
    PS X (.Try body [.ExceptHandler (some (.Name c np)) (some x) (b₀ :: suite) p1] [] [] pos) (sD L X.K X.w V none (ex P (.tri cb c i cu))) := by
  have hm := (G.g.lk.ex c hc).1
  have hN : X.N.Nodup := by rw [G.g.N]; exact G.g.nd
  refine psW (ps_try_as (c := .ref (L.ca c)) (i := i) (tb := fun W => sD L X.K X.w W none (exs P cb)) (ts := fun a cls d => sD L X.K X.w V0 (some (a, cls, d)) (exs P cu)) (Wout := V) G.st G.fr hN (by rw [G.g.N]; exact slot_get hi) (by show X.env.scope.names.lookup x = _; rw [G.g.se]; exact hx)
    ⟨gl_of G.g hg, (ok_db ho).1, .inl hm⟩ G.g.tk (fun W pn xe tk po => hb (X.tr pn xe) W ⟨⟨G.g.N, G.g.nd, G.g.se, G.g.lk, G.g.calm, G.g.room, G.g.un, tk, fun a cls d z => (nomatch z)⟩, ⟨G.nm.N, G.nm.nd, G.nm.st⟩, po, G.st, G.fr⟩)
    (fun a oe cls d pn hz hvs => hu (X.suite a ((a, oe) :: pn)) (some (a, cls, d)) ⟨⟨G.g.N, G.g.nd, G.g.se, G.g.lk, fun z => (nomatch z), fun z => (nomatch z), G.g.un, takes_no, fun a' cls' d' z => by cases z; exact ⟨X, oe, pn, rfl, hz, hvs⟩⟩, ⟨G.nm.N, G.nm.nd, G.nm.st⟩, PassesOwn.never, G.st, G.fr⟩))
    fun D σ H ⟨fz, ρ, ws, h, R, S, p⟩ => ?_
  refine ⟨fz, ρ, ws, h, R, S, ?_⟩
  change pso L X.K X.w V none fz ρ (match exs P cb ws h with
    | .ex c' n σ' h' => (match P.isC c' c with
      | some true => (match exs P cu (σ'.set i (some (.exn c' n))) h' with
        | .nx σ'' h'' => .nx ((clrX σ'').set i none) h''
        | .rt w h'' => .rt w h''
        | _ => .no)
      | some false => .ex c' n σ' h'
      | none => .no)
    | r => r) D at p
  cases e : exs P cb ws h with
  | nx ws' h' => rw [e] at p; exact p
  | rt a h' => rw [e] at p; exact p
  | bk ws' h' => rw [e] at p; exact p
  | ct ws' h' => rw [e] at p; exact p
  | no => rw [e] at p; exact p
  | ex c' n ws' h' =>
    rw [e] at p
    intro ρ' H' σv d pr R' S' ed
    simp only at p
    cases ei : P.isC c' c with
    | none => simp only [ei] at p; exact p.elim
    | some b =>
      simp only [ei] at p
      refine ⟨b, G.g.lk.ic c' c b ei, fun hb a na => ?_, fun hb => ?_⟩
      · subst hb
        simp only at p
        refine ⟨fz, ρ', ws'.set i (some (.exn c' n)), h', R', SR.set (SR.some S') i (w := .exn c' n) (v := .ref a) ⟨a, d, rfl, rfl, ed⟩, ?_⟩
        cases eu : exs P cu (ws'.set i (some (.exn c' n))) h' with
        | nx ws2 h2 => rw [eu] at p; exact fun ρ2 H2 σ2 pr2 R2 S2 => p ρ2 H2 _ (pr.trans pr2) R2 ((SR.clr S2).unset i)
        | rt a h2 => rw [eu] at p; exact fun ρ2 H2 v pr2 R2 rv => p ρ2 H2 v (pr.trans pr2) R2 rv
        | bk ws2 h2 => rw [eu] at p; exact p.elim
        | ct ws2 h2 => rw [eu] at p; exact p.elim
        | ex c2 n2 ws2 h2 => rw [eu] at p; exact p.elim
        | no => rw [eu] at p; exact p
      · subst hb
        exact p ρ' H' σv d pr R' S' ed
end
end MP

set_option Elab.async false
set_option linter.all false
set_option maxRecDepth 100000
/-! MP: name = comprehension (printed from the expressions' texts by a small program); all statements. -/
namespace MP
open PySem L2

/-! ### name = comprehension -/
def tSet (P : Pg) (L : Ln) (K : PySem.W.Frag) (w : World) (V : WX) (xa : Xa) (i : Nat) (c : E) : TS := fun D σ H => tD P L K w V xa c σ H fun x H1 => D.nx (σ.set i (some x)) H1
section
variable {P : Pg} {L : Ln} {T : Ct} {k : Nat} {X : Cx} {q : Bool} {sc : Scope} {V : WX} {xa : Xa} {n : Nat}
section
variable {scope : Scope} {own : List (Str × Nat)} {vs1 : List Nat} {pos : Pos} {elt kx tg iter tg1 iter1 : Expr} {ifs ifs1 : List Expr} {ce ck ci ci1 : E} {ct ct1 : Tg} {cs cs1 : List E} {y : Str} {py spos : Pos} {i : Nat}
theorem e_lcS (G : Gd P L T k X q sc V xa) (hq : q = true) (hy : X.N[i]? = some y) (hyl : X.env.scope.names.lookup y = some .local) (hsw : swapsWith (.ListComp elt [⟨tg, iter, ifs, 0⟩] scope pos) (some (.Name y py)) spos.line X.env = pure true) (ok : blkC T.N sc scope own = true) (hi : PI X tg iter (tI P L X.K X.w V xa X.H_0 ci)) (hl : ifs.length < 2) (hv : ∀ i ∈ tgSlots ct, i ∈ own.map (·.2)) (hfs : ∀ x, foldedSetIterable iter X.env x = pure x)
    (hg : ∀ (s : Shared) (H : Hp) (C : Addr) (cl : List (Str × Addr)) (fp : List Addr), PG (X.blk s H scope (compEnvC scope cl C X.env) fp) tg (tgT P L X.K X.w xa ct))
    (ht : ∀ (s : Shared) (H : Hp) (C : Addr) (cl : List (Str × Addr)) (fp : List Addr), Paired (fun e c => PT (X.blk s H scope (compEnvC scope cl C X.env) fp) e (tT P L X.K X.w V0 xa c)) ifs cs)
    (he : ∀ (s : Shared) (H : Hp) (C : Addr) (cl : List (Str × Addr)) (fp : List Addr), PE (X.blk s H scope (compEnvC scope cl C X.env) fp) elt (tD P L X.K X.w V0 xa ce)) :
    PS X (.Assign [.Name y py] (.ListComp elt [⟨tg, iter, ifs, 0⟩] scope pos) spos) (tSet P L X.K X.w V xa i (.cp false (.con .non) ce ct ci cs (own.map (·.2)))) := by
  have hN : X.N.Nodup := by rw [G.N]; exact G.nd
  have bo : BlkOk X.N X.env.scope scope own := by rw [G.N, G.se]; exact blkOk_by ok
  refine psW (ps_unl (ps_setLc (tt := tC P L X.K X.w V0 xa cs) (G.calm hq) hN hy hyl hsw hi bo hg (fun s H C cl fp => pts_of (X := X.blk s H scope (compEnvC scope cl C X.env) fp) hl (ht s H C cl fp)) he hfs)) fun D σ H hp => lc_read hv hp
theorem e_dcS (G : Gd P L T k X q sc V xa) (hq : q = true) (hy : X.N[i]? = some y) (hyl : X.env.scope.names.lookup y = some .local) (hsw : swapsWith (.DictComp kx elt [⟨tg, iter, ifs, 0⟩] scope pos) (some (.Name y py)) spos.line X.env = pure true) (ok : blkC T.N sc scope own = true) (hi : PI X tg iter (tI P L X.K X.w V xa X.H_0 ci)) (hl : ifs.length < 2) (hv : ∀ i ∈ tgSlots ct, i ∈ own.map (·.2)) (hfs : ∀ x, foldedSetIterable iter X.env x = pure x)
    (hg : ∀ (s : Shared) (H : Hp) (C : Addr) (cl : List (Str × Addr)) (fp : List Addr), PG (X.blk s H scope (compEnvC scope cl C X.env) fp) tg (tgT P L X.K X.w xa ct))
    (ht : ∀ (s : Shared) (H : Hp) (C : Addr) (cl : List (Str × Addr)) (fp : List Addr), Paired (fun e c => PT (X.blk s H scope (compEnvC scope cl C X.env) fp) e (tT P L X.K X.w V0 xa c)) ifs cs)
    (hk : ∀ (s : Shared) (H : Hp) (C : Addr) (cl : List (Str × Addr)) (fp : List Addr), PE (X.blk s H scope (compEnvC scope cl C X.env) fp) kx (tD P L X.K X.w V0 xa ck))
    (he : ∀ (s : Shared) (H : Hp) (C : Addr) (cl : List (Str × Addr)) (fp : List Addr), PE (X.blk s H scope (compEnvC scope cl C X.env) fp) elt (tD P L X.K X.w V0 xa ce)) :
    PS X (.Assign [.Name y py] (.DictComp kx elt [⟨tg, iter, ifs, 0⟩] scope pos) spos) (tSet P L X.K X.w V xa i (.cp true ck ce ct ci cs (own.map (·.2)))) := by
  have hN : X.N.Nodup := by rw [G.N]; exact G.nd
  have bo : BlkOk X.N X.env.scope scope own := by rw [G.N, G.se]; exact blkOk_by ok
  refine psW (ps_unl (ps_setDc (tt := tC P L X.K X.w V0 xa cs) (G.calm hq) hN hy hyl hsw hi bo hg (fun s H C cl fp => pts_of (X := X.blk s H scope (compEnvC scope cl C X.env) fp) hl (ht s H C cl fp)) hk he hfs)) fun D σ H hp => dc_read hv hp
theorem e_lc2S (G : Gd P L T k X q sc V xa) (hq : q = true) (hy : X.N[i]? = some y) (hyl : X.env.scope.names.lookup y = some .local) (hsw : swapsWith (.ListComp elt [⟨tg, iter, ifs, 0⟩, ⟨tg1, iter1, ifs1, 0⟩] scope pos) (some (.Name y py)) spos.line X.env = pure true) (ok : blkC T.N sc scope own = true) (hi : PI X tg iter (tI P L X.K X.w V xa X.H_0 ci)) (hl : ifs.length < 2) (hl1 : ifs1.length < 2) (hv : ∀ i ∈ tgSlots ct, i ∈ own.map (·.2)) (hv1 : ∀ i ∈ tgSlots ct1, i ∈ own.map (·.2)) (hfs : ∀ x, foldedSetIterable iter X.env x = pure x) (hfs1 : ∀ env x, foldedSetIterable iter1 env x = pure x)
    (hg : ∀ (s : Shared) (H : Hp) (C : Addr) (cl : List (Str × Addr)) (fp : List Addr), PG (X.blk s H scope (compEnvC scope cl C X.env) fp) tg (tgT P L X.K X.w xa ct))
    (ht : ∀ (s : Shared) (H : Hp) (C : Addr) (cl : List (Str × Addr)) (fp : List Addr), Paired (fun e c => PT (X.blk s H scope (compEnvC scope cl C X.env) fp) e (tT P L X.K X.w V0 xa c)) ifs cs)
    (hi1 : ∀ (s : Shared) (H : Hp) (C : Addr) (cl : List (Str × Addr)) (fp : List Addr), PI (X.blk s H scope (compEnvC scope cl C X.env) fp) tg1 iter1 (tI P L X.K X.w V0 xa H ci1))
    (hg1 : ∀ (s : Shared) (H : Hp) (C : Addr) (cl : List (Str × Addr)) (fp : List Addr), PG (X.blk s H scope (compEnvC scope cl C X.env) fp) tg1 (tgT P L X.K X.w xa ct1))
    (ht1 : ∀ (s : Shared) (H : Hp) (C : Addr) (cl : List (Str × Addr)) (fp : List Addr), Paired (fun e c => PT (X.blk s H scope (compEnvC scope cl C X.env) fp) e (tT P L X.K X.w V0 xa c)) ifs1 cs1)
    (he : ∀ (s : Shared) (H : Hp) (C : Addr) (cl : List (Str × Addr)) (fp : List Addr), PE (X.blk s H scope (compEnvC scope cl C X.env) fp) elt (tD P L X.K X.w V0 xa ce)) :
    PS X (.Assign [.Name y py] (.ListComp elt [⟨tg, iter, ifs, 0⟩, ⟨tg1, iter1, ifs1, 0⟩] scope pos) spos) (tSet P L X.K X.w V xa i (.cp2 false (.con .non) ce ct ci cs ct1 ci1 cs1 (own.map (·.2)) (tgSlots ct1))) := by
  have hN : X.N.Nodup := by rw [G.N]; exact G.nd
  have bo : BlkOk X.N X.env.scope scope own := by rw [G.N, G.se]; exact blkOk_by ok
  refine psW (ps_unl (ps_setLc2 (tt := tC P L X.K X.w V0 xa cs) (tt1 := tC P L X.K X.w V0 xa cs1) (wi1 := tIF P L X.K X.w xa ci1) (vs1 := tgSlots ct1) (G.calm hq) hN hy hyl hsw hi bo hv1 hg (fun s H C cl fp => pts_of (X := X.blk s H scope (compEnvC scope cl C X.env) fp) hl (ht s H C cl fp))
    (fun s H C cl fp => piW (hi1 s H C cl fp) fun σ H' Q z => tIF_I z) hg1 (fun s H C cl fp => pts_of (X := X.blk s H scope (compEnvC scope cl C X.env) fp) hl1 (ht1 s H C cl fp)) he hfs hfs1)) fun D σ H hp => lc2_read hv hp
theorem e_dc2S (G : Gd P L T k X q sc V xa) (hq : q = true) (hy : X.N[i]? = some y) (hyl : X.env.scope.names.lookup y = some .local) (hsw : swapsWith (.DictComp kx elt [⟨tg, iter, ifs, 0⟩, ⟨tg1, iter1, ifs1, 0⟩] scope pos) (some (.Name y py)) spos.line X.env = pure true) (ok : blkC T.N sc scope own = true) (hi : PI X tg iter (tI P L X.K X.w V xa X.H_0 ci)) (hl : ifs.length < 2) (hl1 : ifs1.length < 2) (hv : ∀ i ∈ tgSlots ct, i ∈ own.map (·.2)) (hv1 : ∀ i ∈ tgSlots ct1, i ∈ own.map (·.2)) (hfs : ∀ x, foldedSetIterable iter X.env x = pure x) (hfs1 : ∀ env x, foldedSetIterable iter1 env x = pure x)
    (hg : ∀ (s : Shared) (H : Hp) (C : Addr) (cl : List (Str × Addr)) (fp : List Addr), PG (X.blk s H scope (compEnvC scope cl C X.env) fp) tg (tgT P L X.K X.w xa ct))
    (ht : ∀ (s : Shared) (H : Hp) (C : Addr) (cl : List (Str × Addr)) (fp : List Addr), Paired (fun e c => PT (X.blk s H scope (compEnvC scope cl C X.env) fp) e (tT P L X.K X.w V0 xa c)) ifs cs)
    (hi1 : ∀ (s : Shared) (H : Hp) (C : Addr) (cl : List (Str × Addr)) (fp : List Addr), PI (X.blk s H scope (compEnvC scope cl C X.env) fp) tg1 iter1 (tI P L X.K X.w V0 xa H ci1))
    (hg1 : ∀ (s : Shared) (H : Hp) (C : Addr) (cl : List (Str × Addr)) (fp : List Addr), PG (X.blk s H scope (compEnvC scope cl C X.env) fp) tg1 (tgT P L X.K X.w xa ct1))
    (ht1 : ∀ (s : Shared) (H : Hp) (C : Addr) (cl : List (Str × Addr)) (fp : List Addr), Paired (fun e c => PT (X.blk s H scope (compEnvC scope cl C X.env) fp) e (tT P L X.K X.w V0 xa c)) ifs1 cs1)
    (hk : ∀ (s : Shared) (H : Hp) (C : Addr) (cl : List (Str × Addr)) (fp : List Addr), PE (X.blk s H scope (compEnvC scope cl C X.env) fp) kx (tD P L X.K X.w V0 xa ck))
    (he : ∀ (s : Shared) (H : Hp) (C : Addr) (cl : List (Str × Addr)) (fp : List Addr), PE (X.blk s H scope (compEnvC scope cl C X.env) fp) elt (tD P L X.K X.w V0 xa ce)) :
    PS X (.Assign [.Name y py] (.DictComp kx elt [⟨tg, iter, ifs, 0⟩, ⟨tg1, iter1, ifs1, 0⟩] scope pos) spos) (tSet P L X.K X.w V xa i (.cp2 true ck ce ct ci cs ct1 ci1 cs1 (own.map (·.2)) (tgSlots ct1))) := by
  have hN : X.N.Nodup := by rw [G.N]; exact G.nd
  have bo : BlkOk X.N X.env.scope scope own := by rw [G.N, G.se]; exact blkOk_by ok
  refine psW (ps_unl (ps_setDc2 (tt := tC P L X.K X.w V0 xa cs) (tt1 := tC P L X.K X.w V0 xa cs1) (wi1 := tIF P L X.K X.w xa ci1) (vs1 := tgSlots ct1) (G.calm hq) hN hy hyl hsw hi bo hv1 hg (fun s H C cl fp => pts_of (X := X.blk s H scope (compEnvC scope cl C X.env) fp) hl (ht s H C cl fp))
    (fun s H C cl fp => piW (hi1 s H C cl fp) fun σ H' Q z => tIF_I z) hg1 (fun s H C cl fp => pts_of (X := X.blk s H scope (compEnvC scope cl C X.env) fp) hl1 (ht1 s H C cl fp)) hk he hfs hfs1)) fun D σ H hp => dc2_read hv hp
end
theorem snd_lcS (ih : Snd P L T k n) (G : Gd P L T k X q sc V xa) {elt tg it : Expr} {ifs : List Expr} {scope : Scope} {pos : Pos} {c : E} {y : Str} {py spos : Pos} {i : Nat} (hy : X.N[i]? = some y) (hyl : X.env.scope.names.lookup y = some .local) (hsw : swapsWith (.ListComp elt [⟨tg, it, ifs, 0⟩] scope pos) (some (.Name y py)) spos.line X.env = pure true) (h : cE T q (n + 1) sc (.ListComp elt [⟨tg, it, ifs, 0⟩] scope pos) = some c) : PS X (.Assign [.Name y py] (.ListComp elt [⟨tg, it, ifs, 0⟩] scope pos) spos) (tSet P L X.K X.w V xa i c) := by
  simp only [cE] at h
  split at h
  · cases h
  · rename_i hq
    have hq : q = true := by simpa using hq
    subst hq
    obtain ⟨own, eo, h⟩ := Option.bind_eq_some_iff.mp h
    split at h
    · cases h
    · rename_i hb
      have hb : blkC T.N sc scope own = true := by simpa using hb
      obtain ⟨ci, ei, h⟩ := Option.bind_eq_some_iff.mp h
      obtain ⟨ct, et, h⟩ := Option.bind_eq_some_iff.mp h
      obtain ⟨cs, es, h⟩ := Option.bind_eq_some_iff.mp h
      split at h
      · cases h
      · rename_i h0
        obtain ⟨ce, ee, rfl⟩ := Option.map_eq_some_iff.mp h
        have hn : ifs.all notStar = true := by
          cases e : ifs.all notStar with
          | true => rfl
          | false => exact absurd (.inl e) h0
        have hl : ifs.length < 2 := by
          by_cases e : ifs.length < 2
          · exact e
          · exact absurd (.inr (.inl (by simpa using e))) h0
        have hv : ((tgSlots ct).all fun i => (own.map (·.2)).contains i) = true := by
          cases e : ((tgSlots ct).all fun i => (own.map (·.2)).contains i) with
          | true => rfl
          | false => exact absurd (.inr (.inr e)) h0
        obtain ⟨i1, i2⟩ := (ih X true sc V xa G).2.2.2.2 tg it ci ei
        exact e_lcS G rfl hy hyl hsw hb i1 hl (own_mem hv) (i2 _) (fun s H C cl fp => blk_g G s H scope C cl fp et) (fun s H C cl fp => blk_es ih G s H scope C cl fp es hn) (fun s H C cl fp => blk_e ih G s H scope C cl fp ee)
theorem snd_dcS (ih : Snd P L T k n) (G : Gd P L T k X q sc V xa) {kx elt tg it : Expr} {ifs : List Expr} {scope : Scope} {pos : Pos} {c : E} {y : Str} {py spos : Pos} {i : Nat} (hy : X.N[i]? = some y) (hyl : X.env.scope.names.lookup y = some .local) (hsw : swapsWith (.DictComp kx elt [⟨tg, it, ifs, 0⟩] scope pos) (some (.Name y py)) spos.line X.env = pure true) (h : cE T q (n + 1) sc (.DictComp kx elt [⟨tg, it, ifs, 0⟩] scope pos) = some c) : PS X (.Assign [.Name y py] (.DictComp kx elt [⟨tg, it, ifs, 0⟩] scope pos) spos) (tSet P L X.K X.w V xa i c) := by
  simp only [cE] at h
  split at h
  · cases h
  · rename_i hq
    have hq : q = true := by simpa using hq
    subst hq
    obtain ⟨own, eo, h⟩ := Option.bind_eq_some_iff.mp h
    split at h
    · cases h
    · rename_i hb
      have hb : blkC T.N sc scope own = true := by simpa using hb
      obtain ⟨ci, ei, h⟩ := Option.bind_eq_some_iff.mp h
      obtain ⟨ct, et, h⟩ := Option.bind_eq_some_iff.mp h
      obtain ⟨cs, es, h⟩ := Option.bind_eq_some_iff.mp h
      split at h
      · cases h
      · rename_i h0
        obtain ⟨ck, ek, h⟩ := Option.bind_eq_some_iff.mp h
        obtain ⟨ce, ee, rfl⟩ := Option.map_eq_some_iff.mp h
        have hn : ifs.all notStar = true := by
          cases e : ifs.all notStar with
          | true => rfl
          | false => exact absurd (.inl e) h0
        have hl : ifs.length < 2 := by
          by_cases e : ifs.length < 2
          · exact e
          · exact absurd (.inr (.inl (by simpa using e))) h0
        have hv : ((tgSlots ct).all fun i => (own.map (·.2)).contains i) = true := by
          cases e : ((tgSlots ct).all fun i => (own.map (·.2)).contains i) with
          | true => rfl
          | false => exact absurd (.inr (.inr e)) h0
        obtain ⟨i1, i2⟩ := (ih X true sc V xa G).2.2.2.2 tg it ci ei
        exact e_dcS G rfl hy hyl hsw hb i1 hl (own_mem hv) (i2 _) (fun s H C cl fp => blk_g G s H scope C cl fp et) (fun s H C cl fp => blk_es ih G s H scope C cl fp es hn) (fun s H C cl fp => blk_e ih G s H scope C cl fp ek) (fun s H C cl fp => blk_e ih G s H scope C cl fp ee)
theorem snd_lc2S (ih : Snd P L T k n) (G : Gd P L T k X q sc V xa) {elt tg it tg1 it1 : Expr} {ifs ifs1 : List Expr} {scope : Scope} {pos : Pos} {c : E} {y : Str} {py spos : Pos} {i : Nat} (hy : X.N[i]? = some y) (hyl : X.env.scope.names.lookup y = some .local) (hsw : swapsWith (.ListComp elt [⟨tg, it, ifs, 0⟩, ⟨tg1, it1, ifs1, 0⟩] scope pos) (some (.Name y py)) spos.line X.env = pure true) (h : cE T q (n + 1) sc (.ListComp elt [⟨tg, it, ifs, 0⟩, ⟨tg1, it1, ifs1, 0⟩] scope pos) = some c) : PS X (.Assign [.Name y py] (.ListComp elt [⟨tg, it, ifs, 0⟩, ⟨tg1, it1, ifs1, 0⟩] scope pos) spos) (tSet P L X.K X.w V xa i c) := by
  simp only [cE] at h
  split at h
  · cases h
  · rename_i hq
    have hq : q = true := by simpa using hq
    subst hq
    obtain ⟨own, eo, h⟩ := Option.bind_eq_some_iff.mp h
    split at h
    · cases h
    · rename_i hb
      have hb : blkC T.N sc scope own = true := by simpa using hb
      obtain ⟨ci, ei, h⟩ := Option.bind_eq_some_iff.mp h
      obtain ⟨ct, et, h⟩ := Option.bind_eq_some_iff.mp h
      obtain ⟨cs, es, h⟩ := Option.bind_eq_some_iff.mp h
      split at h
      · cases h
      · rename_i h0
        obtain ⟨ci1, ei1, h⟩ := Option.bind_eq_some_iff.mp h
        obtain ⟨ct1, et1, h⟩ := Option.bind_eq_some_iff.mp h
        obtain ⟨cs1, es1, h⟩ := Option.bind_eq_some_iff.mp h
        split at h
        · cases h
        · rename_i hv1
          obtain ⟨ce, ee, rfl⟩ := Option.map_eq_some_iff.mp h
          have hn : ifs.all notStar = true := by
            cases e : ifs.all notStar with
            | true => rfl
            | false => exact absurd (.inl e) h0
          have hn1 : ifs1.all notStar = true := by
            cases e : ifs1.all notStar with
            | true => rfl
            | false => exact absurd (.inr (.inl e)) h0
          have hl : ifs.length < 2 := by
            by_cases e : ifs.length < 2
            · exact e
            · exact absurd (.inr (.inr (.inl (by simpa using e)))) h0
          have hl1 : ifs1.length < 2 := by
            by_cases e : ifs1.length < 2
            · exact e
            · exact absurd (.inr (.inr (.inr (.inl (by simpa using e))))) h0
          have hv : ((tgSlots ct).all fun i => (own.map (·.2)).contains i) = true := by
            cases e : ((tgSlots ct).all fun i => (own.map (·.2)).contains i) with
            | true => rfl
            | false => exact absurd (.inr (.inr (.inr (.inr e)))) h0
          have hv1 : ((tgSlots ct1).all fun i => (own.map (·.2)).contains i) = true := by
            cases e : ((tgSlots ct1).all fun i => (own.map (·.2)).contains i) with
            | true => rfl
            | false => exact absurd e hv1
          obtain ⟨i1, i2⟩ := (ih X true sc V xa G).2.2.2.2 tg it ci ei
          have f1 := ((ih X true sc V xa G).2.2.2.2 tg it ci ei).2
          exact e_lc2S G rfl hy hyl hsw hb i1 hl hl1 (own_mem hv) (own_mem hv1) (i2 _) (fun env x => by
              have := ((ih _ true _ V0 xa (G.blk (k := k) X.s_0 X.H_0 scope X.env.locals [] [])).2.2.2.2 tg1 it1 ci1 ei1).2
              exact this env x) (fun s H C cl fp => blk_g G s H scope C cl fp et) (fun s H C cl fp => blk_es ih G s H scope C cl fp es hn) (fun s H C cl fp => blk_i ih G s H scope C cl fp ei1)
            (fun s H C cl fp => blk_g G s H scope C cl fp et1) (fun s H C cl fp => blk_es ih G s H scope C cl fp es1 hn1) (fun s H C cl fp => blk_e ih G s H scope C cl fp ee)
theorem snd_dc2S (ih : Snd P L T k n) (G : Gd P L T k X q sc V xa) {kx elt tg it tg1 it1 : Expr} {ifs ifs1 : List Expr} {scope : Scope} {pos : Pos} {c : E} {y : Str} {py spos : Pos} {i : Nat} (hy : X.N[i]? = some y) (hyl : X.env.scope.names.lookup y = some .local) (hsw : swapsWith (.DictComp kx elt [⟨tg, it, ifs, 0⟩, ⟨tg1, it1, ifs1, 0⟩] scope pos) (some (.Name y py)) spos.line X.env = pure true) (h : cE T q (n + 1) sc (.DictComp kx elt [⟨tg, it, ifs, 0⟩, ⟨tg1, it1, ifs1, 0⟩] scope pos) = some c) : PS X (.Assign [.Name y py] (.DictComp kx elt [⟨tg, it, ifs, 0⟩, ⟨tg1, it1, ifs1, 0⟩] scope pos) spos) (tSet P L X.K X.w V xa i c) := by
  simp only [cE] at h
  split at h
  · cases h
  · rename_i hq
    have hq : q = true := by simpa using hq
    subst hq
    obtain ⟨own, eo, h⟩ := Option.bind_eq_some_iff.mp h
    split at h
    · cases h
    · rename_i hb
      have hb : blkC T.N sc scope own = true := by simpa using hb
      obtain ⟨ci, ei, h⟩ := Option.bind_eq_some_iff.mp h
      obtain ⟨ct, et, h⟩ := Option.bind_eq_some_iff.mp h
      obtain ⟨cs, es, h⟩ := Option.bind_eq_some_iff.mp h
      split at h
      · cases h
      · rename_i h0
        obtain ⟨ci1, ei1, h⟩ := Option.bind_eq_some_iff.mp h
        obtain ⟨ct1, et1, h⟩ := Option.bind_eq_some_iff.mp h
        obtain ⟨cs1, es1, h⟩ := Option.bind_eq_some_iff.mp h
        split at h
        · cases h
        · rename_i hv1
          obtain ⟨ck, ek, h⟩ := Option.bind_eq_some_iff.mp h
          obtain ⟨ce, ee, rfl⟩ := Option.map_eq_some_iff.mp h
          have hn : ifs.all notStar = true := by
            cases e : ifs.all notStar with
            | true => rfl
            | false => exact absurd (.inl e) h0
          have hn1 : ifs1.all notStar = true := by
            cases e : ifs1.all notStar with
            | true => rfl
            | false => exact absurd (.inr (.inl e)) h0
          have hl : ifs.length < 2 := by
            by_cases e : ifs.length < 2
            · exact e
            · exact absurd (.inr (.inr (.inl (by simpa using e)))) h0
          have hl1 : ifs1.length < 2 := by
            by_cases e : ifs1.length < 2
            · exact e
            · exact absurd (.inr (.inr (.inr (.inl (by simpa using e))))) h0
          have hv : ((tgSlots ct).all fun i => (own.map (·.2)).contains i) = true := by
            cases e : ((tgSlots ct).all fun i => (own.map (·.2)).contains i) with
            | true => rfl
            | false => exact absurd (.inr (.inr (.inr (.inr e)))) h0
          have hv1 : ((tgSlots ct1).all fun i => (own.map (·.2)).contains i) = true := by
            cases e : ((tgSlots ct1).all fun i => (own.map (·.2)).contains i) with
            | true => rfl
            | false => exact absurd e hv1
          obtain ⟨i1, i2⟩ := (ih X true sc V xa G).2.2.2.2 tg it ci ei
          exact e_dc2S G rfl hy hyl hsw hb i1 hl hl1 (own_mem hv) (own_mem hv1) (i2 _) (fun env x => by
              have := ((ih _ true _ V0 xa (G.blk (k := k) X.s_0 X.H_0 scope X.env.locals [] [])).2.2.2.2 tg1 it1 ci1 ei1).2
              exact this env x) (fun s H C cl fp => blk_g G s H scope C cl fp et) (fun s H C cl fp => blk_es ih G s H scope C cl fp es hn) (fun s H C cl fp => blk_i ih G s H scope C cl fp ei1)
            (fun s H C cl fp => blk_g G s H scope C cl fp et1) (fun s H C cl fp => blk_es ih G s H scope C cl fp es1 hn1) (fun s H C cl fp => blk_e ih G s H scope C cl fp ek) (fun s H C cl fp => blk_e ih G s H scope C cl fp ee)
theorem snd_set (ih : Snd P L T k n) (G : Gd P L T k X q sc V xa) {e : Expr} {c : E} {y : Str} {py spos : Pos} {i : Nat} (hy : X.N[i]? = some y) (hyl : X.env.scope.names.lookup y = some .local) (hsw : swapsWith e (some (.Name y py)) spos.line X.env = pure true) (hc : isComp e = true) (h : cE T q (n + 1) sc e = some c) :
    PS X (.Assign [.Name y py] e spos) (tSet P L X.K X.w V xa i c) := by
  have h' := h
  unfold cE at h
  split at h
  · cases hc
  · cases hc
  · cases hc
  · cases hc
  · cases hc
  · cases hc
  · cases hc
  · cases hc
  · cases hc
  · cases hc
  · cases hc
  · cases hc
  · cases hc
  · cases hc
  · cases hc
  · cases hc
  · cases hc
  · cases hc
  · exact snd_lcS ih G hy hyl hsw h'
  · exact snd_dcS ih G hy hyl hsw h'
  · exact snd_lc2S ih G hy hyl hsw h'
  · exact snd_dc2S ih G hy hyl hsw h'
  · cases h
end
/-! ### the induction -/
def Sts (P : Pg) (L : Ln) (T : Ct) (k n : Nat) : Prop := ∀ (X : Cx) (q : Bool) (sc : Scope) (V : WX) (xa : Xa), Gs P L T k X q sc V xa →
  (∀ st c, cS T n q sc st = some c → PS X st (sD L X.K X.w V xa (ex P c))) ∧ (∀ sts cs, cSs T n q sc sts = some cs → PSs X sts (sD L X.K X.w V xa (exs P cs)))
section
variable {P : Pg} {L : Ln} {T : Ct} {k : Nat} {X : Cx} {q : Bool} {sc : Scope} {V : WX} {xa : Xa} {n : Nat}
theorem sts_name (G : Gs P L T k X q sc V xa) {x : Str} {px : Pos} {t : Tg} {e : Expr} {c : E} {pos : Pos} (ht : tgOf T sc n (.Name x px) = some t) (he : cE T q n sc e = some c) : PS X (.Assign [.Name x px] e pos) (sD L X.K X.w V xa (ex P (.asg t c))) := by
  cases n with
  | zero => simp [cE] at he
  | succ n =>
    simp only [tgOf] at ht
    split at ht
    · rename_i hst
      obtain ⟨i, hi, rfl⟩ := Option.map_eq_some_iff.mp ht
      rcases swap_cases e x px pos.line X.env with hs | ⟨hs, hc, hl⟩
      · exact s_nm G.nm hst hi hs ((snd_all P L T k (n + 1) X q sc V xa G.g).1 e c he).1
      · exact psW (snd_set (snd_all P L T k n) G.g (by rw [G.g.N]; exact slot_get hi) hl hs hc he) fun D σ H h => asg_read h
    · cases ht
theorem sts_step (ih : Sts P L T k n) (G : Gs P L T k X q sc V xa) (st : Stmt) (c : S) (h : cS T (n + 1) q sc st = some c) : PS X st (sD L X.K X.w V xa (ex P c)) := by
  have I := snd_all P L T k n X q sc V xa G.g
  obtain ⟨iE, _, iA, _, iI⟩ := I
  obtain ⟨_, iS⟩ := ih X q sc V xa G
  unfold cS at h
  split at h
  · split at h
    · split at h
      · cases h
      · rename_i hq
        obtain ⟨ce, ee, h⟩ := Option.bind_eq_some_iff.mp h
        obtain ⟨co, eo, rfl⟩ := Option.map_eq_some_iff.mp h
        exact s_fld G.g (iE _ _ eo).1 (iE _ _ ee).1
    · split at h
      · cases h
      · split at h
        · cases h
        · obtain ⟨ce, ee, h⟩ := Option.bind_eq_some_iff.mp h
          obtain ⟨co, eo, h⟩ := Option.bind_eq_some_iff.mp h
          obtain ⟨ci, ei, rfl⟩ := Option.map_eq_some_iff.mp h
          exact s_sub G.g (iE _ _ eo).1 (iE _ _ ei).1 (iE _ _ ee).1
    · obtain ⟨t, et, h⟩ := Option.bind_eq_some_iff.mp h
      obtain ⟨ce, ee, rfl⟩ := Option.map_eq_some_iff.mp h
      exact sts_name G et ee
    · split at h
      · cases h
      · rename_i hq
        have hq : q = true := by simpa using hq
        split at h
        · split at h
          · rename_i hp
            obtain ⟨is, ei, h⟩ := Option.bind_eq_some_iff.mp h
            obtain ⟨cs, es, rfl⟩ := Option.map_eq_some_iff.mp h
            exact s_par G.g hq hp ei (iA _ _ es).1
          · cases h
        · rename_i hne
          obtain ⟨t, et, h⟩ := Option.bind_eq_some_iff.mp h
          obtain ⟨ce, ee, rfl⟩ := Option.map_eq_some_iff.mp h
          exact s_tup (fun es k p z => hne es k p z) (iE _ _ ee).1 ((tg_ok G.g.lk.so G.nm (G.g.calm hq) n).1 _ _ et).1
    · cases h
  · split at h
    · cases h
    · rename_i h0
      obtain ⟨i, ei, h⟩ := Option.bind_eq_some_iff.mp h
      obtain ⟨o, eo, h⟩ := Option.bind_eq_some_iff.mp h
      obtain ⟨ce, ee, rfl⟩ := Option.map_eq_some_iff.mp h
      exact s_aug G.nm (by simpa using fun z => h0 (.inr z)) ei eo (iE _ _ ee).1
  · split at h
    · cases h
    · split at h
      · cases h
      · obtain ⟨co, eo, h⟩ := Option.bind_eq_some_iff.mp h
        obtain ⟨ci, ei, rfl⟩ := Option.map_eq_some_iff.mp h
        exact s_del (iE _ _ eo).1 (iE _ _ ei).1
  · split at h
    · cases h
      exact s_doc
    · obtain ⟨ce, ee, rfl⟩ := Option.map_eq_some_iff.mp h
      exact s_exp (iE _ _ ee).1
    · cases h
  · obtain ⟨ce, ee, rfl⟩ := Option.map_eq_some_iff.mp h
    exact s_ret (iE _ _ ee).1
  · cases h; exact s_retN
  · cases h; exact s_pas
  · cases h; exact s_brk
  · cases h; exact s_cnt
  · obtain ⟨cc, ec, h⟩ := Option.bind_eq_some_iff.mp h
    obtain ⟨ca, ea, h⟩ := Option.bind_eq_some_iff.mp h
    obtain ⟨cb, eb, rfl⟩ := Option.map_eq_some_iff.mp h
    exact s_ite (iE _ _ ec).2 (iS _ _ ea) (iS _ _ eb)
  · split at h
    · cases h
    · obtain ⟨cc, ec, h⟩ := Option.bind_eq_some_iff.mp h
      obtain ⟨cb, eb, rfl⟩ := Option.map_eq_some_iff.mp h
      exact s_whl G (iE _ _ ec).2 (iS _ _ eb)
  · split at h
    · cases h
    · rename_i hq
      have hq : q = true := by simpa using hq
      obtain ⟨t, et, h⟩ := Option.bind_eq_some_iff.mp h
      obtain ⟨ci, ei, h⟩ := Option.bind_eq_some_iff.mp h
      obtain ⟨cb, eb, rfl⟩ := Option.map_eq_some_iff.mp h
      obtain ⟨i1, i2⟩ := iI _ _ _ ei
      exact s_for G hq i1 ((tg_ok G.g.lk.so G.nm (G.g.calm hq) n).1 _ _ et).1 (iS _ _ eb) (i2 _)
  · rename_i cn p1 a as p2 pos
    split at h
    · cases h
    · rename_i h0
      obtain ⟨cs, es, rfl⟩ := Option.map_eq_some_iff.mp h
      have hq : q = true := by
        cases e : q with
        | true => rfl
        | false => exact absurd (.inl e) h0
      have ho : okName cn = true := by
        cases e : okName cn with
        | true => rfl
        | false => exact absurd (.inr (.inl e)) h0
      have hg : isGl sc cn = true := by
        cases e : isGl sc cn with
        | true => rfl
        | false => exact absurd (.inr (.inr (.inl e))) h0
      have hc : T.exs.contains cn = true := by
        cases e : T.exs.contains cn with
        | true => rfl
        | false => exact absurd (.inr (.inr (.inr (.inl e)))) h0
      have hn : notStar a = true := by
        cases e : notStar a with
        | true => rfl
        | false => exact absurd (.inr (.inr (.inr (.inr (.inl e))))) h0
      have hn2 : as.all notStar = true := by
        cases e : as.all notStar with
        | true => rfl
        | false => exact absurd (.inr (.inr (.inr (.inr (.inr e))))) h0
      exact s_rse G.g hq (List.contains_iff_mem.mp hc) hg ho hn hn2 (iA _ _ es).1
  · rename_i b cn np x u₀ u p1 pos
    split at h
    · cases h
    · rename_i h0
      obtain ⟨i, ei, h⟩ := Option.bind_eq_some_iff.mp h
      obtain ⟨cb, eb, h⟩ := Option.bind_eq_some_iff.mp h
      obtain ⟨cu, eu, rfl⟩ := Option.map_eq_some_iff.mp h
      have hq : q = true := by
        cases e : q with
        | true => rfl
        | false => exact absurd (.inl e) h0
      have ho : okName cn = true := by
        cases e : okName cn with
        | true => rfl
        | false => exact absurd (.inr (.inl e)) h0
      have hg : isGl sc cn = true := by
        cases e : isGl sc cn with
        | true => rfl
        | false => exact absurd (.inr (.inr (.inl e))) h0
      have hc : T.exs.contains cn = true := by
        cases e : T.exs.contains cn with
        | true => rfl
        | false => exact absurd (.inr (.inr (.inr (.inl e)))) h0
      have hx : (sc.names.lookup x == some .local) = true := by
        cases e : (sc.names.lookup x == some .local) with
        | true => rfl
        | false => exact absurd (.inr (.inr (.inr (.inr (.inl e))))) h0
      subst hq
      have hxa := G.g.xa0 (G.g.calm rfl)
      subst hxa
      exact s_tri G (List.contains_iff_mem.mp hc) hg ho ei (beq_iff_eq.mp hx) (fun X' V' G' => (ih X' true sc V' none G').2 _ _ eb) (fun X' xa' G' => (ih X' false sc V0 xa' G').2 _ _ eu)
  · cases h
theorem sts_all (P : Pg) (L : Ln) (T : Ct) (k : Nat) : ∀ n, Sts P L T k n
  | 0 => fun X q sc V xa G => ⟨fun st c h => by simp [cS] at h, fun sts cs h => by simp [cSs] at h⟩
  | n + 1 => fun X q sc V xa G => ⟨sts_step (sts_all P L T k n) G, fun sts cs h => by
    cases sts with
    | nil => simp only [cSs] at h; cases h; exact ss_nil
    | cons s r =>
      simp only [cSs] at h
      obtain ⟨cs', ecs, rfl⟩ := Option.map_eq_some_iff.mp h
      refine ss_cons ?_ ((sts_all P L T k n X q sc V xa G).2 r cs' ecs)
      cases e : cS T n q sc s with
      | none => exact ⟨fun pins s σ H D I ⟨_, _, _, _, _, _, p⟩ => p.elim⟩
      | some c => exact (sts_all P L T k n X q sc V xa G).1 s c e⟩
end
end MP

set_option Elab.async false
set_option linter.all false
set_option maxRecDepth 100000
/-! MP: defs, by depth of calls. -/
namespace MP
open PySem L2
section
variable {prog : Program} {w : World} {K : PySem.W.Frag} {mg : Str → Option Value} {base : Heap} {L : Ln} {T : Ct} {p : Prog}
/-- the links do not ask for the names of one def -/
theorem Lk.with {P : Pg} {k : Nat} (l : Lk P L T k prog w K mg base) (N exv : List Str) : Lk P L { T with N := N, exv := exv } k prog w K mg base :=
  ⟨l.so, l.fn, l.cls, l.mt, l.fd, l.gl, l.bl, l.ty, l.tc, l.ex, l.ic, l.xf⟩
theorem cl_len {d : Nat} {f : Str × Str} {ws : List W} {h : Hh} {df : Df} (hf : p.fn f = some df) (e : p.cl (d + 1) f ws h ≠ .no) : ws.length = df.np := by
  unfold Prog.cl at e
  rw [hf] at e
  simp only at e
  unfold runD at e
  split at e
  · assumption
  · exact absurd rfl e
theorem pst_ne {α β : Type} {rel : List Addr → α → β → Prop} {ρ : List Addr} {r : Rs α} {E : Str → Addr → Hp → Prop} {Q : β → Hp → Prop} (q : pst L K w rel ρ r E Q) : r ≠ .no := fun z => by rw [z] at q; exact q
theorem sr_start {ρ : List Addr} {N : List Str} : ∀ {ws : List W} {vs : List L2.V} (n : Nat), vrs L.sa ρ ws vs → SR L none ρ (ws.map some ++ List.replicate n none) (vs.map some ++ List.replicate n none)
  | [], [], n, .nil => by
    show SR L none ρ (List.replicate n none) (List.replicate n none)
    induction n with
    | zero => exact .nil
    | succ n ih => exact .cons trivial ih
  | w :: ws, v :: vs, n, .cons r t => .cons (sw.of r) (sr_start (N := N) n t)
/-- a def of the text -/
theorem fn_ok {d k n : Nat} {f : Str × Str} {qual x : Str} {params : Arguments} {body : List Stmt} {scope : Scope} {kws : List (Str × L2.V)} {fa : Addr} {fd : FuncData} {N ps exv : List Str} {cb : List S} {dvs : List L2.V}
    (lk : Lk (p.pg (p.cl d)) L T k prog w K mg base) (F : FunD K x qual params body scope dvs kws fa fd) (Sc : FnScope N ps scope) (hc : cSs { T with N := N, exv := exv } n true scope body = some cb) (hf : p.fn f = some ⟨ps.length, N.length, cb⟩) :
    FnOk prog w K mg base (L2.CX prog w) (k + 2) fa fd ps (spF (p.pg (p.cl (d + 1))) L K w f) := by
  refine F.ok Sc (fun vs H Q E ⟨fz, ρ, ws, h, R, rv, q⟩ => ?_) fun cdv A outer s H vs Q E hr ⟨fz, ρ, ws, h, R, rv, q⟩ => ?_
  · have := cl_len (p := p) (d := d) hf (ws := ws) (h := h) (pst_ne q)
    rw [← rv.length]
    exact this
  · have lk' := lk.with N exv
    have hlen : ws.length = ps.length := cl_len (p := p) (d := d) hf (ws := ws) (h := h) (pst_ne q)
    refine ⟨sD L K w (fun cls d _ H => E cls d H) none (exs (p.pg (p.cl d)) cb), ?_, fz, ρ, ws.map some ++ List.replicate (N.length - ps.length) none, h, R, ?_, ?_⟩
    · refine (sts_all (p.pg (p.cl d)) L { T with N := N, exv := exv } k n (cxOf (L2.CX prog w) prog w K mg base N qual scope fa cdv A outer s H E) true scope (fun cls d _ H => E cls d H) none ⟨⟨rfl, Sc.nd, rfl, lk', fun _ => rfl, fun _ => hr, ?_, ?_, fun _ _ _ z => (nomatch z)⟩, ⟨rfl, Sc.nd, fun y hy => ⟨stored_loc hy, .inl rfl⟩⟩, PassesOwn.leaving, rfl, rfl⟩).2 body cb hc
      · have := hr.un
        show (A.deeper (PyProof.Rows.envOfC qual scope s.heap.objs.size fa cdv)).units + 65 < cLine
        omega
      · exact takes_of rfl rfl rfl rfl
    · have hv : vs.length = ps.length := by rw [← rv.length]; exact hlen
      unfold L2.start
      rw [hv]
      exact sr_start (N := N) _ rv
    · have e : p.cl (d + 1) f ws h = match exs (p.pg (p.cl d)) cb (ws.map some ++ List.replicate (N.length - ps.length) none) h with
          | .nx _ h' => .ok .non h'
          | .rt w h' => .ok w h'
          | .ex c n _ h' => .ex c n h'
          | _ => .no := by
        show (match p.fn f with
          | some d' => runD (p.pg (p.cl d)) d' ws h
          | none => .no) = _
        rw [hf]
        show runD (p.pg (p.cl d)) ⟨ps.length, N.length, cb⟩ ws h = _
        unfold runD
        rw [if_pos hlen]
        all_goals rfl
      change pv (L.at fz) K w ρ (p.cl (d + 1) f ws h) _ Q at q
      rw [e] at q
      cases eb : exs (p.pg (p.cl d)) cb (ws.map some ++ List.replicate (N.length - ps.length) none) h with
      | nx ws' h' => rw [eb] at q; exact fun ρ' H' σ' pr R' S' => q ρ' H' .non pr R' rfl
      | rt a h' => rw [eb] at q; exact q
      | ex c n ws' h' => rw [eb] at q; exact fun ρ' H' σ' d pr R' S' ed => q ρ' H' d pr R' ed
      | bk ws' h' => rw [eb] at q; exact q.elim
      | ct ws' h' => rw [eb] at q; exact q.elim
      | no => rw [eb] at q; exact q.elim
/-- nothing is promised of a def that is not come to -/
theorem fn_none {d k : Nat} {f : Str × Str} {fa : Addr} {fd : FuncData} {ps : List Str} (h : p.fn f = none) : FnOk prog w K mg base (L2.CX prog w) k fa fd ps (spF (p.pg (p.cl d)) L K w f) := by
  have e : ∀ ws h', p.cl d f ws h' = .no := fun ws h' => by
    cases d with
    | zero => rfl
    | succ d => unfold Prog.cl; rw [h]
  exact ⟨fun vs H Q E ⟨_, _, ws, h', _, _, q⟩ => by change pv _ _ _ _ (p.cl d f ws h') _ _ at q; rw [e] at q; exact q.elim, fun A outer s H args us vs Q E _ _ _ _ ⟨_, _, ws, h', _, _, q⟩ => by change pv _ _ _ _ (p.cl d f ws h') _ _ at q; rw [e] at q; exact q.elim⟩
theorem fn_no {k : Nat} {f : Str × Str} {fa : Addr} {fd : FuncData} {ps : List Str} : FnOk prog w K mg base (L2.CX prog w) k fa fd ps (spF (p.pg (p.cl 0)) L K w f) :=
  ⟨fun vs H Q E ⟨_, _, _, _, _, _, q⟩ => q.elim, fun A outer s H args us vs Q E _ _ _ _ ⟨_, _, _, _, _, _, q⟩ => q.elim⟩
/-- a def of the text, once -/
structure FnS (K : PySem.W.Frag) (T : Ct) (p : Prog) (f : Str × Str) (fa : Addr) (fd : FuncData) (ps : List Str) : Prop where
  bd : Binds K fd ps []
  at_ : p.fn f = none ∨ ∃ (x qual : Str) (params : Arguments) (body : List Stmt) (scope : Scope) (dvs : List L2.V) (kws : List (Str × L2.V)) (N exv : List Str) (n : Nat) (cb : List S), FunD K x qual params body scope dvs kws fa fd ∧ FnScope N ps scope ∧
    cSs { T with N := N, exv := exv } n true scope body = some cb ∧ p.fn f = some ⟨ps.length, N.length, cb⟩
variable (L T p prog w K mg base)
/-- the facts of a program -/
structure PF : Prop where
  so : p.so = L.so
  fn : ∀ f m, T.fns.lookup f = some m → ∃ a fd ps, mg f = some (.ref a) ∧ PySem.W.keepIn K (.ref a) = true ∧ FnS K T p ("", f) a fd ps
  cls : ∀ c m, T.cls.lookup c = some m → mg c = some (.ref (L.ca c)) ∧ ∃ a fd ps, Mk K (L.ca c) a ∧ FnS K T p (c, "__init__") a fd ps
  mt : ∀ c m, p.hm c m = true → ∃ a fd ps, Cls K (L.ca c) ∧ Meth K (L.ca c) m a ∧ FnS K T p (c, m) a fd ps
  fd : ∀ c f, p.fd c f = true → Cls K (L.ca c) ∧ NoAttr K (L.ca c) f
  gl : ∀ x y, p.gl x = some y → ∃ v u, mg x = some u ∧ RelV v u ∧ vr L.sa [] y v
  bl : ∀ x, x ∈ bltNs → mg x = none
  ty : ∀ t c b, p.isT t c = some b → PySem.W.kitOne K (tyVal L t) (tyVal L c) = some b ∧ ∀ x, t = .own x → InsK K (L.ca x)
  tc : ∀ c, (T.cls.lookup c).isSome = true → mg c = some (.ref (L.ca c))
  ex : ∀ c, c ∈ T.exs → mg c = some (.ref (L.ca c)) ∧ ∀ fs, p.exf c = some fs → fs.length ≤ 1000 ∧ ∃ fI fd ps, OexC K (L.ca c) ∧ PySem.W.findIn K (.ref (L.ca c)) "__init__" = some (some (.ref fI)) ∧ PySem.W.typeIn K (.ref fI) = some (.type "function") ∧
    Binds K fd ps [] ∧ FnOk prog w K mg base (L2.CX prog w) 2 fI fd ps (spX (L.ca c) fs)
  ic : ∀ c' c b, p.isC c' c = some b → PySem.W.exmOne K (.ref (L.ca c')) (.ref (L.ca c)) = some b
  xf : ∀ c fs, p.exf c = some fs → XfC K (L.ca c) ∧ ∀ f ∈ fs, PySem.W.findIn K (.ref (L.ca c)) f = some none
variable {L T p prog w K mg base}
theorem lk_all (F : PF prog w K mg base L T p) : ∀ d, Lk (p.pg (p.cl d)) L T (2 * d + 2) prog w K mg base
  | 0 => ⟨F.so, fun f m h => let ⟨a, fd, ps, h1, h2, h3⟩ := F.fn f m h; ⟨a, fd, ps, h1, h2, h3.bd, fn_no⟩, fun c m h => let ⟨h0, a, fd, ps, h1, h3⟩ := F.cls c m h; ⟨h0, a, fd, ps, h1, h3.bd, fn_no⟩,
      fun c m h => let ⟨a, fd, ps, h1, h2, h3⟩ := F.mt c m h; ⟨a, fd, ps, h1, h2, h3.bd, fn_no⟩, F.fd, F.gl, F.bl, F.ty, F.tc, F.ex, F.ic, F.xf⟩
  | d + 1 => by
    have lk := lk_all F d
    have go : ∀ {f : Str × Str} {a : Addr} {fd : FuncData} {ps : List Str}, FnS K T p f a fd ps → FnOk prog w K mg base (L2.CX prog w) (2 * (d + 1) + 2) a fd ps (spF (p.pg (p.cl (d + 1))) L K w f) := fun h => by
      rcases h.at_ with h0 | ⟨x, qual, params, body, scope, dvs, kws, N, exv, n, cb, h1, h2, h3, h4⟩
      · exact fn_none h0
      · exact fn_ok lk h1 h2 h3 h4
    exact ⟨F.so, fun f m h => let ⟨a, fd, ps, h1, h2, h3⟩ := F.fn f m h; ⟨a, fd, ps, h1, h2, h3.bd, go h3⟩, fun c m h => let ⟨h0, a, fd, ps, h1, h3⟩ := F.cls c m h; ⟨h0, a, fd, ps, h1, h3.bd, go h3⟩,
      fun c m h => let ⟨a, fd, ps, h1, h2, h3⟩ := F.mt c m h; ⟨a, fd, ps, h1, h2, h3.bd, go h3⟩, F.fd, F.gl, F.bl, F.ty, F.tc, fun c h => let ⟨h0, h1⟩ := F.ex c h; ⟨h0, fun fs e => let ⟨h2, fI, fd, ps, a1, a2, a3, a4, a5⟩ := h1 fs e; ⟨h2, fI, fd, ps, a1, a2, a3, a4, a5.mono (by omega)⟩⟩, F.ic, F.xf⟩
/-- a def at a depth -/
theorem PF.call (F : PF prog w K mg base L T p) {f : Str × Str} {a : Addr} {fd : FuncData} {ps : List Str} (h : FnS K T p f a fd ps) (d : Nat) : FnOk prog w K mg base (L2.CX prog w) (2 * d + 4) a fd ps (spF (p.pg (p.cl (d + 1))) L K w f) := by
  rcases h.at_ with h0 | ⟨x, qual, params, body, scope, dvs, kws, N, exv, n, cb, h1, h2, h3, h4⟩
  · exact fn_none h0
  · exact fn_ok (lk_all F d) h1 h2 h3 h4
end
end MP

set_option Elab.async false
set_option linter.all false
set_option maxRecDepth 100000
/-! MP: the __init__ of an own error whose arguments are its fields. -/
namespace MP
open PySem L2
/-- self.f = x, .. : the fields, in order -/
def exB : List Stmt → Option (List (Str × Str))
  | [] => some []
  | .Assign [.Attribute (.Name "self" _) f _] (.Name x _) _ :: r => if okName x = true then (exB r).map ((f, x) :: ·) else none
  | _ => none
section
variable {X : Cx}
def rdVals (N : List Str) (σ : L2.St) : List (Str × Str) → List L2.V → Prop := Paired fun q v => ∃ i : Nat, N[i]? = some q.2 ∧ σ[i]? = some (some v)
def tRest (K : PySem.W.Frag) (N : List Str) (l : List (Str × Str)) : TS := fun D σ H => ∃ a C dx fs vs, σ[0]? = some (some (.ref a)) ∧ OexC K C ∧ (∀ q ∈ l, PySem.W.findIn K (.ref C) q.1 = some none) ∧ H a = some (exo a C (some dx)) ∧ H dx = some (exd dx fs) ∧ dx ≠ a ∧ fs.length + l.length ≤ 900 ∧
  rdVals N σ l vs ∧ D.nx σ (upd H dx (exd dx (((l.map (·.1)).zip vs).reverse ++ fs)))
theorem upd_upd {H : Hp} {a : Addr} {u v : HO} : upd (upd H a u) a v = upd H a v := by
  funext b
  by_cases h : b = a
  · subst h; rw [upd_same, upd_same]
  · rw [upd_ne h, upd_ne h, upd_ne h]
theorem upd_eq {H : Hp} {a : Addr} {u : HO} (h : H a = some u) : upd H a u = H := by
  funext b
  by_cases e : b = a
  · subst e; rw [upd_same, h]
  · rw [upd_ne e]
variable {N : List Str} {ps : List Str}
theorem xs_var (hN : X.N = N) (hsub : ∀ y ∈ N, Vis X.env.scope y) {i : Nat} {y : Str} {pos : Pos} (hi : N[i]? = some y) (ho : okName y = true) : PE X (.Name y pos) (tVar i) := by
  unfold okName at ho
  simp only [Bool.and_eq_true, Bool.not_eq_true'] at ho
  exact pe_var (by rw [hN]; exact hi) (hsub y (List.mem_of_getElem? hi)) ho.1.1 ho.1.2
/-- a name whose slot is the reading's choice -/
theorem xs_any (hN : X.N = N) (hsub : ∀ y ∈ N, Vis X.env.scope y) {y : Str} {pos : Pos} (ho : okName y = true) : PE X (.Name y pos) (fun σ H Q => ∃ i : Nat, N[i]? = some y ∧ tVar i σ H Q) :=
  ⟨fun pins s σ H Q I ⟨i, hi, q⟩ => (xs_var hN hsub hi ho).run pins s σ H Q I q⟩
theorem ex_rest (hN : X.N = N) (hsub : ∀ y ∈ N, Vis X.env.scope y) (h0 : N[0]? = some ("self" : Str)) : ∀ (b : List Stmt) (l : List (Str × Str)), exB b = some l → PSs X b (tRest X.K N l)
  | [], l, h => by
    cases h
    refine pssW pss_nil fun D σ H ⟨a, C, dx, fs, vs, e1, e2, e3, e4, e5, e6, e7, e8, q⟩ => ?_
    cases e8
    have : upd H dx (exd dx ([] ++ fs)) = H := upd_eq e5
    rw [show ((([] : List (Str × Str)).map (·.1)).zip ([] : List L2.V)).reverse ++ fs = fs from rfl] at q
    rw [upd_eq e5] at q
    exact q
  | s :: r, l, h => by
    unfold exB at h
    split at h
    · rename_i heq
      cases heq
    · rename_i p1 f p2 x p3 pos r' heq
      cases heq
      split at h
      · rename_i hx
        obtain ⟨l', hl, rfl⟩ := Option.map_eq_some_iff.mp h
        have ih := ex_rest hN hsub h0 _ l' hl
        refine pssW (pss_cons (ps_ost (xs_var hN hsub h0 (by decide)) (xs_any hN hsub hx)) ih) fun D σ H ⟨a, C, dx, fs, vs, e1, e2, e3, e4, e5, e6, e7, e8, q⟩ => ?_
        cases e8 with
        | cons hv t =>
          rename_i v vs
          obtain ⟨i, hi, ev⟩ := hv
          refine ⟨i, hi, v, ev, .ref a, e1, a, C, rfl, e2, e3 _ List.mem_cons_self, .inr ⟨dx, fs, e4, e5, by simp at e7; omega, ?_⟩⟩
          refine ⟨a, C, dx, (f, v) :: fs, vs, e1, e2, fun q hq => e3 q (List.mem_cons_of_mem _ hq), by rw [upd_ne (Ne.symm e6)]; exact e4, upd_same, e6, by simp at e7 ⊢; omega, t, ?_⟩
          rw [upd_upd]
          have : ((l'.map (·.1)).zip vs).reverse ++ (f, v) :: fs = ((((f, x) :: l').map (·.1)).zip (v :: vs)).reverse ++ fs := by simp
          rw [this]
          exact q
      · cases h
    · cases h
theorem rd_from : ∀ (fs : List Str) (ws : List L2.V) (N1 : List Str) (σ1 : L2.St), N1.length = σ1.length → fs.length = ws.length → rdVals (N1 ++ fs) (σ1 ++ ws.map some) (fs.map fun f => (f, f)) ws
  | [], [], _, _, _, _ => .nil
  | f :: fs, v :: ws, N1, σ1, h, h2 => by
    refine .cons ⟨N1.length, by simp, by rw [h]; simp⟩ ?_
    have := rd_from fs ws (N1 ++ [f]) (σ1 ++ [some v]) (by simp [h]) (by simpa using h2)
    have this : rdVals (N1 ++ f :: fs) (σ1 ++ some v :: ws.map some) (fs.map fun f => (f, f)) ws := by simpa using this
    exact this
  | [], _ :: _, _, _, _, h => by simp at h
  | _ :: _, [], _, _, _, h => by simp at h
/-- the whole __init__ -/
theorem ex_init {prog : Program} {w : World} {K : PySem.W.Frag} {mg : Str → Option Value} {base : Heap} {x qual : Str} {params : Arguments} {body : List Stmt} {scope : Scope} {dvs : List L2.V} {kws : List (Str × L2.V)} {fa C : Addr} {fd : FuncData} {fs : List Str}
    (F : FunD K x qual params body scope dvs kws fa fd) (Sc : FnScope ("self" :: fs) ("self" :: fs) scope) (hb : exB body = some (fs.map fun f => (f, f))) (hne : fs ≠ []) (hl : fs.length ≤ 100) (T1 : OexC K C) (hno : ∀ f ∈ fs, PySem.W.findIn K (.ref C) f = some none) :
    FnOk prog w K mg base (L2.CX prog w) 2 fa fd ("self" :: fs) (spX C fs) := by
  refine (F.ok (CX := L2.CX prog w) (P := prog) (w := w) (mg := mg) (base := base) (k := 1) (sp := spX C fs) Sc (fun vs H Q E ⟨a, ws, e1, e2, _⟩ => by rw [e1]; simp [e2]) fun cdv A outer s H vs Q E hr ⟨a, ws, e1, e2, e3, q⟩ => ?_)
  subst e1
  cases fs with
  | nil => exact absurd rfl hne
  | cons f fs =>
    cases ws with
    | nil => simp at e2
    | cons v ws =>
      unfold exB at hb
      split at hb
      · cases hb
      · rename_i p1 g p2 y p3 pos r'
        split at hb
        · rename_i hy
          obtain ⟨l', hl', e⟩ := Option.map_eq_some_iff.mp hb
          have e' : (g, y) :: l' = (f, f) :: fs.map fun f => (f, f) := e
          injection e' with e1 e2'
          cases e1
          subst e2'
          have hsub : ∀ z ∈ ("self" : Str) :: f :: fs, Vis (cxOf (L2.CX prog w) prog w K mg base ("self" :: f :: fs) qual scope fa cdv A outer s H E).env.scope z := fun z hz => (Sc.par z hz).elim .inl fun q => .inr (.inl q)
          have hlen : ws.length = fs.length := by simpa using e2
          have es : L2.start (("self" : Str) :: f :: fs) (.ref a :: v :: ws) = [some (.ref a), some v] ++ ws.map some := by unfold L2.start; simp [hlen]
          refine ⟨_, pss_cons (ps_ost (xs_var (N := "self" :: f :: fs) rfl hsub (i := 0) rfl (by decide)) (xs_var (N := "self" :: f :: fs) rfl hsub (i := 1) rfl hy)) (ex_rest (N := "self" :: f :: fs) rfl hsub rfl _ _ hl'), ?_⟩
          rw [es]
          refine ⟨v, rfl, .ref a, rfl, a, C, rfl, T1, hno _ List.mem_cons_self, .inl ⟨e3, fun dx ndx hne => ?_⟩⟩
          refine ⟨a, C, dx, [(f, v)], ws, rfl, T1, fun q hq => ?_, upd_same, by rw [upd_ne hne, upd_same], hne, by simp at hl ⊢; omega, ?_, ?_⟩
          · obtain ⟨z, hz, rfl⟩ := List.mem_map.mp hq
            exact hno z (List.mem_cons_of_mem _ hz)
          · exact rd_from fs ws ["self", f] [some (.ref a), some v] rfl hlen.symm
          · have q2 := q dx ndx hne
            have eH : upd (upd (upd H dx (exd dx [(f, v)])) a (exo a C (some dx))) dx (exd dx ((((fs.map fun f => (f, f)).map (·.1)).zip ws).reverse ++ [(f, v)])) = upd (upd H dx (exd dx ((f :: fs).zip (v :: ws)).reverse)) a (exo a C (some dx)) := by
              have ez : (((fs.map fun f => (f, f)).map (·.1)).zip ws).reverse ++ [(f, v)] = ((f :: fs).zip (v :: ws)).reverse := by
                have em : ((fs.map fun f => (f, f)).map (·.1)) = fs := by simp [List.map_map, Function.comp_def]
                rw [em]
                simp
              rw [ez]
              funext b
              by_cases h1 : b = dx
              · subst h1; rw [upd_same, upd_ne hne, upd_same]
              · rw [upd_ne h1]
                by_cases h2 : b = a
                · subst h2; rw [upd_same, upd_same]
                · rw [upd_ne h2, upd_ne h1, upd_ne h2, upd_ne h1]
            show Q .non _
            rw [eH]
            exact q2
        · cases hb
      · cases hb
end
end MP

set_option Elab.async false
set_option linter.all false
set_option maxRecDepth 100000
/-! MP: what a row's top binds; its defs in the small language. -/
namespace MP
open PySem L2
/-- what a name of the top stands for at the end -/
inductive Bd where
  | fn (st : Stmt) | cls (st : Stmt) (ex : Bool) | con (w : W) | obj (e : Expr) | no
  deriving Inhabited
def putB (env : List (Str × Bd)) (x : Str) (b : Bd) : List (Str × Bd) := (env.filter fun q => !(q.1 == x)) ++ [(x, b)]
def isVE (env : List (Str × Bd)) : List Expr → Bool
  | [.Name x _] => x == ("ValueError" : Str) || (match env.lookup x with
    | some (.cls _ true) => true
    | _ => false)
  | _ => false
def bind1 (env : List (Str × Bd)) : Stmt → List (Str × Bd)
  | .FunctionDef x a b [] r t sc ts bd p => putB env x (.fn (.FunctionDef x a b [] r t sc ts bd p))
  | .ClassDef x bs ks b ds tp sc ts bd sa p => putB env x (if isVE env bs = true ∧ ks.isEmpty = true ∧ ds.isEmpty = true then .cls (.ClassDef x bs ks b ds tp sc ts bd sa p) true else if bs.isEmpty = true ∧ ks.isEmpty = true ∧ ds.isEmpty = true then .cls (.ClassDef x bs ks b ds tp sc ts bd sa p) false else .no)
  | .Assign [.Name x _] e _ => putB env x (match e with
    | .Constant c _ _ => (match wOf c with
      | some w => .con w
      | none => .no)
    | .Name y _ => (env.lookup y).getD .no
    | .Tuple _ _ _ => .obj e
    | .Dict _ _ _ => .obj e
    | _ => .no)
  | _ => env
def topEnv (b : List Stmt) : List (Str × Bd) := b.foldl bind1 []
/-- plain parameters -/
def plainPs (a : Arguments) : Option (List Str) := match a with
  | ⟨[], as, none, [], [], none, []⟩ => some (as.map (·.arg))
  | _ => none
/-- the methods of a class -/
def methsOf : List Stmt → List (Str × Stmt)
  | .FunctionDef x a b [] r t sc ts bd p :: r' => (x, .FunctionDef x a b [] r t sc ts bd p) :: methsOf r'
  | _ :: r => methsOf r
  | [] => []
def clsBody : Stmt → List Stmt
  | .ClassDef _ _ _ b _ _ _ _ _ _ _ => b
  | _ => []
/-- local names: the parameters first, then the scope's others; the names of comprehensions in it -/
def addN (N : List Str) (x : Str) : List Str := if N.contains x = true then N else N ++ [x]
mutual
def compNames : Nat → Expr → List Str
  | 0, _ => []
  | n + 1, e => match e with
    | .ListComp a gs sc _ => (sc.names.filterMap fun q => if q.2 = .local ∨ q.2 = .cell then some q.1 else none) ++ compNames n a ++ genNames n gs
    | .DictComp a b gs sc _ => (sc.names.filterMap fun q => if q.2 = .local ∨ q.2 = .cell then some q.1 else none) ++ compNames n a ++ compNames n b ++ genNames n gs
    | .BinOp a _ b _ => compNames n a ++ compNames n b
    | .BoolOp _ es _ => es.flatMap (compNames n)
    | .UnaryOp _ a _ => compNames n a
    | .IfExp a b c _ => compNames n a ++ compNames n b ++ compNames n c
    | .Compare a _ bs _ => compNames n a ++ bs.flatMap (compNames n)
    | .Call f as _ _ => compNames n f ++ as.flatMap (compNames n)
    | .Attribute a _ _ => compNames n a
    | .Subscript a b _ => compNames n a ++ compNames n b
    | .Slice a b c _ => (a.map (compNames n)).getD [] ++ (b.map (compNames n)).getD [] ++ (c.map (compNames n)).getD []
    | .Tuple es _ _ => es.flatMap (compNames n)
    | .List es _ => es.flatMap (compNames n)
    | .Starred a _ => compNames n a
    | .Dict ks vs _ => vs.flatMap (compNames n)
    | _ => []
def genNames : Nat → List Comprehension → List Str
  | 0, _ => []
  | n + 1, gs => gs.flatMap fun g => compNames n g.iter ++ g.ifs.flatMap (compNames n)
end
def stNames : Nat → Stmt → List Str
  | 0, _ => []
  | n + 1, s => match s with
    | .Assign ts e _ => ts.flatMap (compNames n) ++ compNames n e
    | .AugAssign t _ e _ => compNames n t ++ compNames n e
    | .Expr e _ => compNames n e
    | .Return (some e) _ => compNames n e
    | .If c a b _ => compNames n c ++ a.flatMap (stNames n) ++ b.flatMap (stNames n)
    | .While c a b _ => compNames n c ++ a.flatMap (stNames n) ++ b.flatMap (stNames n)
    | .For t i a b _ => compNames n i ++ a.flatMap (stNames n) ++ b.flatMap (stNames n)
    | .Raise (some e) _ _ => compNames n e
    | .Try b hs _ _ _ => b.flatMap (stNames n) ++ hs.flatMap fun
      | .ExceptHandler _ _ u _ => u.flatMap (stNames n)
    | .Delete es _ => es.flatMap (compNames n)
    | _ => []
def exNames : Nat → Stmt → List Str
  | 0, _ => []
  | n + 1, s => match s with
    | .If _ a b _ => a.flatMap (exNames n) ++ b.flatMap (exNames n)
    | .While _ a b _ => a.flatMap (exNames n) ++ b.flatMap (exNames n)
    | .For _ _ a b _ => a.flatMap (exNames n) ++ b.flatMap (exNames n)
    | .Try b hs _ _ _ => b.flatMap (exNames n) ++ hs.flatMap fun
      | .ExceptHandler _ x u _ => x.toList ++ u.flatMap (exNames n)
    | _ => []
def defN (ps : List Str) (st : Stmt) : List Str := (((defScope st).names.filterMap fun q => if q.2 = .local ∨ q.2 = .cell then some q.1 else none) ++ (defBody st).flatMap (stNames 60)).foldl addN ps
/-- the names a text knows -/
def ctOf (env : List (Str × Bd)) : Ct where
  N := []
  fns := env.filterMap fun q => match q.2 with
    | .fn st => (plainPs (defArgs st)).map fun ps => (q.1, ps.length)
    | _ => none
  cls := env.filterMap fun q => match q.2 with
    | .cls st false => ((methsOf (clsBody st)).lookup ("__init__" : Str)).bind fun m => (plainPs (defArgs m)).map fun ps => (q.1, ps.length)
    | _ => none
  mts := (env.flatMap fun q => match q.2 with
    | .cls st false => (methsOf (clsBody st)).filterMap fun m => (plainPs (defArgs m.2)).map fun ps => (m.1, ps.length)
    | _ => [])
  exs := env.filterMap fun q => match q.2 with
    | .cls _ true => some q.1
    | _ => none
  gls := env.filterMap fun q => match q.2 with
    | .con _ => some q.1
    | .obj _ => some q.1
    | _ => none
  exv := []
def dfOf (T : Ct) (st : Stmt) : Option Df := (plainPs (defArgs st)).bind fun ps =>
  (cSs { T with N := defN ps st, exv := (defBody st).flatMap (exNames 60) } 100 true (defScope st) (defBody st)).map fun cb => ⟨ps.length, (defN ps st).length, cb⟩
/-! ### the top's tuples and tables -/
/-- where it stands: a global; an entry of a global table -/
abbrev Path := Str × Option Str
abbrev Objs := List (Path × O)
def conW : Expr → Option W
  | .Constant c _ _ => wOf c
  | _ => none
def conWs : List Expr → Option (List W)
  | [] => some []
  | e :: r => (conW e).bind fun w => (conWs r).map (w :: ·)
/-- the entries of a table; the tuples among its values stand behind -/
def entries (x : Str) : List (Option Expr) → List Expr → Objs → Option (List (Key × W) × Objs)
  | [], [], os => some ([], os)
  | some (.Constant (.str k) _ _) :: ks, v :: vs, os => match v with
    | .Tuple es _ _ => (conWs es).bind fun ws => (entries x ks vs (os ++ [((x, some k), .tup ws)])).map fun r => ((.inr k, .st os.length) :: r.1, r.2)
    | v => (conW v).bind fun w => (entries x ks vs os).map fun r => ((.inr k, w) :: r.1, r.2)
  | _, _, _ => none
/-- (name, value) and objects; the first object is the script -/
def statics : List (Str × Bd) → List (Str × W) × Objs → List (Str × W) × Objs
  | [], a => a
  | (x, b) :: r, (gs, os) => statics r (match b with
    | .con w => (gs ++ [(x, w)], os)
    | .obj (.Tuple es _ _) => (match conWs es with
      | some ws => (gs ++ [(x, .st os.length)], os ++ [((x, none), .tup ws)])
      | none => (gs, os))
    | .obj (.Dict ks vs _) => (match entries x ks vs os with
      | some (kvs, os') => (gs ++ [(x, .st os'.length)], os' ++ [((x, none), .dic kvs)])
      | none => (gs, os))
    | _ => (gs, os))
def stat0 (env : List (Str × Bd)) (script : List W) : List (Str × W) × Objs := statics env ([], [(("", none), .rol script)])
/-- an error's fields -/
def exFs (st : Stmt) : Option (List Str) := ((methsOf (clsBody st)).lookup ("__init__" : Str)).bind fun m => (exB (defBody m)).map fun l => l.map (·.1)
def exfOf (env : List (Str × Bd)) (c : Str) : Option (List Str) := match env.lookup c with
  | some (.cls st true) => exFs st
  | _ => none
def baseOf : Stmt → Option Str
  | .ClassDef _ [.Name b _] _ _ _ _ _ _ _ _ _ => some b
  | _ => none
def isSub (env : List (Str × Bd)) : Nat → Str → Str → Bool
  | 0, _, _ => false
  | n + 1, c, d => c == d || (match env.lookup c with
    | some (.cls st true) => (match baseOf st with
      | some b => isSub env n b d
      | none => false)
    | _ => false)
def isCOf (env : List (Str × Bd)) (c d : Str) : Option Bool := match env.lookup c, env.lookup d with
  | some (.cls _ true), some (.cls _ true) => some (isSub env 20 c d)
  | _, _ => none
def isTOf : Ty → Ty → Option Bool
  | .bi a, .bi b => some (a == b || (a == "bool" && b == "int"))
  | .bi _, .own _ => some false
  | .own _, .bi _ => some false
  | .own a, .own b => some (a == b)
/-- the defs, in the small language -/
def fnTab (env : List (Str × Bd)) : List ((Str × Str) × Df) := env.flatMap fun q => match q.2 with
  | .fn st => ((dfOf (ctOf env) st).map fun d => ((("" : Str), q.1), d)).toList
  | .cls st false => (methsOf (clsBody st)).filterMap fun m => (dfOf (ctOf env) m.2).map fun d => ((q.1, m.1), d)
  | _ => []
def progOf (env : List (Str × Bd)) (fns : List ((Str × Str) × Df)) (flds : List (Str × Str)) (script : List W) (fu : Nat) : Prog where
  fn := fun f => fns.lookup f
  gl := fun x => (stat0 env script).1.lookup x
  so := fun i => ((stat0 env script).2[i]?).map (·.2)
  exf := exfOf env
  isC := isCOf env
  isT := isTOf
  fd := fun c f => flds.contains (c, f)
  hm := fun c m => (fns.lookup (c, m)).isSome
  fu := fu
end MP

set_option Elab.async false
set_option linter.all false
set_option maxRecDepth 100000
/-! MP: plain parameters bind. -/
namespace MP
open PySem L2
theorem zip_look : ∀ (ns : List Str) (us : List Value), us.length = ns.length → ∀ n ∈ ns, ((ns.zip us).lookup n).isSome = true
  | [], _, _, n, h => by cases h
  | m :: ns, u :: us, hl, n, h => by
    show (List.lookup n ((m, u) :: ns.zip us)).isSome = true
    rw [List.lookup_cons]
    cases hb : n == m with
    | true => rfl
    | false =>
      refine zip_look ns us (by simpa using hl) n ?_
      rcases List.mem_cons.mp h with z | z
      · subst z; simp at hb
      · exact z
  | _ :: _, [], hl, _, _ => by simp at hl
theorem fm_congr {α β : Type} {f g : α → Option β} : ∀ l : List α, (∀ x ∈ l, f x = g x) → l.filterMap f = l.filterMap g
  | [], _ => rfl
  | a :: l, h => by
    rw [List.filterMap_cons, List.filterMap_cons, h a List.mem_cons_self, fm_congr l fun x hx => h x (List.mem_cons_of_mem _ hx)]
theorem zip_all : ∀ (ns : List Str) (us : List Value), us.length = ns.length → ns.Nodup → ns.filterMap (fun n => ((ns.zip us).lookup n).map fun v => (n, v)) = ns.zip us
  | [], _, _, _ => rfl
  | m :: ns, u :: us, hl, nd => by
    obtain ⟨h1, h2⟩ := List.nodup_cons.mp nd
    have ih := zip_all ns us (by simpa using hl) h2
    have e : ns.filterMap (fun n => ((((m :: ns).zip (u :: us)).lookup n).map fun v => (n, v))) = ns.filterMap (fun n => ((ns.zip us).lookup n).map fun v => (n, v)) := by
      refine fm_congr _ fun n hn => ?_
      have : (n == m) = false := by
        cases hb : n == m with
        | false => rfl
        | true => exact absurd (beq_iff_eq.mp hb ▸ hn) h1
      show (List.lookup n ((m, u) :: ns.zip us)).map _ = _
      rw [List.lookup_cons, this]
    rw [List.filterMap_cons]
    have e0 : (((m :: ns).zip (u :: us)).lookup m).map (fun v => (m, v)) = some (m, u) := by
      show (List.lookup m ((m, u) :: ns.zip us)).map _ = _
      rw [List.lookup_cons]
      simp
    rw [e0, e, ih]
    rfl
  | _ :: _, [], hl, _ => by simp at hl
theorem bind_plain {x qual : Str} {as : List Arg} {body : List Stmt} {scope : Scope} {kV doc pm : Value} {an : Option Addr} {cdv ct : Value} {us : List Value} (nd : (as.map (·.arg)).Nodup) (hn : us.length = (as.map (·.arg)).length) :
    bindArgs (PySem.W.fnOf x qual ⟨[], as, none, [], [], none, []⟩ body scope .none kV doc pm an cdv ct) ⟨us, []⟩ = pure ((as.map (·.arg)).zip us) := by
  have hn' : us.length = as.length := by simpa using hn
  have ha := zip_all (as.map (·.arg)) us hn nd
  have hl := zip_look (as.map (·.arg)) us hn
  have hf : ∀ l : List Str, (∀ n ∈ l, n ∈ as.map (·.arg)) → (l.filter fun n => (((as.map (·.arg)).zip us).lookup n).isNone) = [] := fun l h => by
    rw [List.filter_eq_nil_iff]
    intro n hn
    have := hl n (h n hn)
    cases e : ((as.map (·.arg)).zip us).lookup n with
    | none => rw [e] at this; cases this
    | some _ => simp
  have e0 : notAStandIn Value.none = pure () := rfl
  unfold bindArgs
  simp only [PySem.W.fnOf, seqItems?, e0]
  simp only [List.map_nil, List.nil_append, pure_bind, List.forIn_nil]
  have e1 : ((none : Option (Array Value)).getD #[]).toList = [] := rfl
  generalize as.map (·.arg) = ns at hn nd ha hl hf
  have hf' := hf ns fun _ h => h
  simp only [e1, List.drop_nil, List.length_nil, Nat.sub_zero, List.take_length, hf', hn, List.zip_nil_right, List.forIn_nil, pure_bind, List.isEmpty_nil, Bool.not_true, Bool.false_eq_true, if_false, List.append_nil, gt_iff_lt, Nat.lt_irrefl, false_and, decide_false, Bool.false_and]
  rw [ha]
theorem plainPs_some {a : Arguments} {ps : List Str} (h : plainPs a = some ps) : ∃ as, a = ⟨[], as, none, [], [], none, []⟩ ∧ ps = as.map (·.arg) := by
  unfold plainPs at h
  split at h
  · cases h
    exact ⟨_, rfl, rfl⟩
  · cases h
theorem binds_of {K : PySem.W.Frag} {x qual : Str} {params : Arguments} {body : List Stmt} {scope : Scope} {kws : List (Str × L2.V)} {f : Addr} {fd : FuncData} {ps : List Str} (F : FunD K x qual params body scope [] kws f fd) (h : plainPs params = some ps) (nd : ps.Nodup) : Binds K fd ps [] := by
  obtain ⟨as, rfl, rfl⟩ := plainPs_some h
  exact F.bindsN fun kV doc pm an cdv ct us hl => bind_plain nd hl
end MP

set_option Elab.async false
set_option linter.all false
set_option maxRecDepth 100000
/-! MP: the head's observation: names, defs, tables, and one more check. -/
namespace MP
open PySem L2
def hookM (n : Nat) (fa : List He.Fa) (fn : List He.DefD) (ts : List He.Tab) (more : PySem.W.Frag → Bool) : PySem.W.Hook where
  α := Bool × He.AlT
  obs := fun s => (more (He.frG s.heap.get? (He.asD s.heap.get? n)), He.obsT fa fn ts (He.frG s.heap.get? (He.asD s.heap.get? n)))
  val := fun w => (true, He.valT fn ts w)
  says := fun w h => ∃ K : PySem.W.Frag, K.In h ∧ more K = true ∧ He.SaysT fa fn ts w K
  of := fun _ _ e => ⟨_, He.frG_in, congrArg Prod.fst e, congrArg Prod.snd e⟩
  keeps := fun _ _ _ ⟨K, hK, c⟩ k => ⟨K, PySem.W.Frag.In.keeps hK k, c⟩
def obsMG (n : Nat) (fa : List He.Fa) (fn : List He.DefD) (ts : List He.Tab) (more : PySem.W.Frag → Bool) (g : Addr → Option Obj) : Bool × He.AlT := (more (He.frG g (He.asD g n)), He.obsT fa fn ts (He.frG g (He.asD g n)))
theorem obsMG_eq {n : Nat} {fa : List He.Fa} {fn : List He.DefD} {ts : List He.Tab} {more : PySem.W.Frag → Bool} {g : Addr → Option Obj} {s : Shared} (h : ∀ a, g a = s.heap.get? a) : obsMG n fa fn ts more g = (hookM n fa fn ts more).obs s := by
  have e : g = s.heap.get? := funext h
  rw [e] <;> rfl
/-- what stands for a def of the top -/
def defD (x : Str) (st : Stmt) : He.DefD := ⟨(x, none), (match st with | .FunctionDef n _ _ _ _ _ _ _ _ _ => n | _ => x), (match st with | .FunctionDef n _ _ _ _ _ _ _ _ _ => n | _ => x), defArgs st, defBody st, defScope st, [], []⟩
def metD (c m : Str) (st : Stmt) : He.DefD := ⟨(c, some m), m, c ++ "." ++ m, defArgs st, defBody st, defScope st, [], []⟩
def plainD (st : Stmt) : Bool := (plainPs (defArgs st)).isSome
/-- the defs that are looked at -/
def defsOf (env : List (Str × Bd)) : List He.DefD := env.flatMap fun q => match q.2 with
  | .fn st => if plainD st = true then [defD q.1 st] else []
  | .cls st _ => (methsOf (clsBody st)).filterMap fun m => if plainD m.2 = true then some (metD q.1 m.1 m.2) else none
  | _ => []
/-! ### own errors -/
/-- six slots, the fifth a built-in's -/
def bltB (n : String) : Option Value → Bool
  | some (.builtin m) => m == n
  | _ => false
theorem bltB_ok {n : String} {v : Option Value} (h : bltB n v = true) : v = some (.builtin n) := by
  unfold bltB at h
  split at h
  · rw [beq_iff_eq.mp h]
  · cases h
def fifthB (n : String) (sl : Array (Option Value)) : Bool := sl.size == 6 && bltB n (sl.getD 4 none)
theorem fifthB_ok {n : String} {sl : Array (Option Value)} (h : fifthB n sl = true) : ∃ k0 k1 k2 k3 k5, sl = #[k0, k1, k2, k3, some (.builtin n), k5] := by
  obtain ⟨len, at4⟩ := Bool.and_eq_true_iff.mp h
  have at4 := bltB_ok at4
  obtain ⟨l⟩ := sl
  match l, (show l.length = 6 from beq_iff_eq.mp len), at4 with
  | [k0, k1, k2, k3, k4, k5], _, at4 => exact ⟨k0, k1, k2, k3, k5, by cases (show k4 = _ from at4); rfl⟩
def ownMroB (C : Addr) : List Value → Bool
  | .ref D :: bm => D == C && PySem.HandSPX.refsVE bm
  | _ => false
theorem ownMroB_ok {C : Addr} {l : List Value} (h : ownMroB C l = true) : ∃ bm, l = .ref C :: bm ∧ PySem.HandSPX.refsVE bm = true := by
  unfold ownMroB at h
  split at h
  · obtain ⟨e, r⟩ := Bool.and_eq_true_iff.mp h
    cases (beq_iff_eq.mp e)
    exact ⟨_, rfl, r⟩
  · cases h
def oexO (C : Addr) : Option Obj → Bool
  | some ⟨.type T, _, .cls cd, sl⟩ => T == "type" && ownMroB C cd.mro && fifthB "ValueError.__new__" sl && !cd.hasDel && cd.hasDict
  | _ => false
def oexB (K : PySem.W.Frag) (C : Addr) : Bool := oexO C (K.lookup C) && (He.eqO (PySem.W.findIn K (.ref C) "__setattr__") (some (some (.builtin "object.__setattr__"))) && (decide (PySem.W.subIn K (.ref C) (.type "BaseException") = some true) && (decide (PySem.W.typeIn K (.ref C) = some (.type "type")) && PySem.W.keepIn K (.ref C))))
theorem oexB_ok {K : PySem.W.Frag} {C : Addr} (h : oexB K C = true) : OexC K C := by
  simp only [oexB, Bool.and_eq_true, decide_eq_true_eq] at h
  obtain ⟨h1, h2, h3, h4, h5⟩ := h
  refine ⟨?_, He.eqO_ok h2, h3, h4, h5⟩
  unfold oexO at h1
  split at h1
  · rename_i T dd cd sl at_
    simp only [Bool.and_eq_true, beq_iff_eq, Bool.not_eq_true'] at h1
    obtain ⟨⟨⟨⟨rfl, mro⟩, slots⟩, del⟩, dict⟩ := h1
    obtain ⟨bm, mro, ve⟩ := ownMroB_ok mro
    obtain ⟨k0, k1, k2, k3, k5, rfl⟩ := fifthB_ok slots
    cases cd
    cases mro
    cases del
    cases dict
    exact ⟨_, _, _, _, bm, _, _, _, _, dd, k0, k1, k2, k3, k5, at_, ve⟩
  · cases h1
/-! ### own classes -/
def clsB (K : PySem.W.Frag) (C : Addr) : Bool := PySem.W.plainGet K C Str.empty && (PySem.W.hasDictIn K C && (PySem.W.plainOver K C && He.eqO (PySem.W.findIn K (.ref C) "__setattr__") (some (some (.builtin "object.__setattr__")))))
theorem clsB_ok {K : PySem.W.Frag} {C : Addr} (h : clsB K C = true) : Cls K C := by
  simp only [clsB, Bool.and_eq_true] at h
  exact ⟨h.1, h.2.1, h.2.2.1, He.eqO_ok h.2.2.2⟩
def insB (K : PySem.W.Frag) (C : Addr) : Bool := clsB K C && (He.eqO (PySem.W.findIn K (.ref C) "__class__") (some (some (.builtin "object.__class__"))) && (He.eqO (PySem.W.specialIn K (.builtin "object.__class__") "__get__") (some (some (.builtin "getset_descriptor.__get__"))) &&
  (decide (PySem.W.takesIn K (.builtin "object.__class__") = some true) && decide (PySem.W.mroIn K C (.type "object") = some true))))
theorem insB_ok {K : PySem.W.Frag} {C : Addr} (h : insB K C = true) : InsK K C := by
  simp only [insB, Bool.and_eq_true, decide_eq_true_eq] at h
  exact ⟨clsB_ok h.1, He.eqO_ok h.2.1, He.eqO_ok h.2.2.1, h.2.2.2.1, h.2.2.2.2⟩
/-- the answer of isinstance for two types -/
def kitB (K : PySem.W.Frag) (L : Ln) (p : Ty × Ty) : Bool := match isTOf p.1 p.2 with
  | some b => decide (PySem.W.kitOne K (tyVal L p.1) (tyVal L p.2) = some b)
  | none => true
end MP

set_option Elab.async false
set_option linter.all false
set_option maxRecDepth 100000
/-! MP: a law's end. -/
namespace MP
open PySem L2
theorem fn_ex {ι : Type} {P : Program} {w : World} {K : PySem.W.Frag} {mg : Str → Option Value} {base : Heap} {CX : CXT} {k : Nat} {f : Addr} {fd : FuncData} {ps : List Str} {sp : ι → Sp} (h : ∀ i, FnOk P w K mg base CX k f fd ps (sp i)) :
    FnOk P w K mg base CX k f fd ps (fun vs H Q E => ∃ i, sp i vs H Q E) :=
  ⟨fun vs H Q E ⟨i, q⟩ => (h i).len vs H Q E q, fun A outer s H args us vs Q E hr he hb hv ⟨i, q⟩ => (h i).run A outer s H args us vs Q E hr he hb hv q⟩
/-- the script as it stands at the law's entry -/
theorem srl_script {K : PySem.W.Frag} {w : World} {sa : Nat → Addr} {a : Addr} {H : Hp} {ns : List Int} (hO : Only H) (h : SqL K H a (ns.map L2.V.int)) : srl K w sa a H (.rol (ns.map W.int)) := by
  refine ⟨ns.map L2.V.int, prd_mapL (F := vr sa []) (f := W.int) (g := L2.V.int) (fun _ => rfl) ns, ?_⟩
  rcases h with h | h
  · rcases h with h | ⟨o, h⟩
    · rcases hO a with z | ⟨o, xs, z⟩
      · rw [z] at h; cases h
      · rw [z] at h; cases h
    · exact .inl ⟨o, h⟩
  · exact .inr fun _ => .inr h
end MP

set_option Elab.async false
set_option linter.all false
set_option maxRecDepth 100000
/-! MP: an evaluator over values (no heap): lists and dicts are owned by one name or shared and fixed. -/
namespace MP
open PySem L2
inductive T where
  | non | bl (b : Bool) | int (i : Int) | str (x : Str) | st (i : Nat)
  | tup (ts : List T) | lst (ts : List T) | dic (kvs : List (Key × T))
  | ob (k : Nat) | exn (c : Str) (fs : List (Str × T))
  deriving Inhabited
/-- what is shared and changes: instances, pools of numbers -/
inductive Ob where
  | ins (c : Str) (fs : List (Str × T)) | pool (cs ns : List Int) | src (ns : List Int)
  deriving Inhabited
abbrev Om := List Ob
inductive TR (α : Type) where
  | ok (a : α) (s : Om) | ex (c : Str) (fs : List (Str × T)) (s : Om) | no
@[reducible] def TR.bind {α β : Type} (r : TR α) (k : α → Om → TR β) : TR β := match r with
  | .ok a s => k a s
  | .ex c fs s => .ex c fs s
  | .no => .no
structure Sv where
  v : T
  own : Bool
  deriving Inhabited
abbrev Tl := List (Option Sv)
inductive TO where
  | nx (τ : Tl) (s : Om) | rt (t : T) (s : Om) | bk (τ : Tl) (s : Om) | ct (τ : Tl) (s : Om) | ex (c : Str) (fs : List (Str × T)) (τ : Tl) (s : Om) | no
/-- a program over values -/
structure Tg0 where
  cl : Str × Str → List T → Bool → Om → TR T
  gl : Str → Option W
  so : Nat → Option O
  exf : Str → Option (List Str)
  isC : Str → Str → Option Bool
  isT : Ty → Ty → Option Bool
  fd : Str → Str → Bool
  hm : Str → Str → Bool
  fu : Nat
/-! ### flat values -/
def wT : W → Option T
  | .non => some .non
  | .bl b => some (.bl b)
  | .int i => some (.int i)
  | .str x => some (.str x)
  | .st i => some (.st i)
  | _ => none
def flT : T → Option W
  | .non => some .non
  | .bl b => some (.bl b)
  | .int i => some (.int i)
  | .str x => some (.str x)
  | _ => none
def wTs : List W → Option (List T)
  | [] => some []
  | w :: ws => (wT w).bind fun t => (wTs ws).map (t :: ·)
def flTs : List T → Option (List W)
  | [] => some []
  | t :: ts => (flT t).bind fun w => (flTs ts).map (w :: ·)
def keyT : T → Option Key
  | .int i => some (.inl i)
  | .str x => some (.inr x)
  | _ => none
def tK : Key → T
  | .inl i => .int i
  | .inr x => .str x
def getT (kvs : List (Key × T)) (k : Key) : Option T := (kvs.find? fun kv => decide (kv.1 = k)).map (·.2)
def putT (kvs : List (Key × T)) (k : Key) (v : T) : List (Key × T) :=
  if (kvs.any fun kv => decide (kv.1 = k)) = true then kvs.map (fun kv => if kv.1 = k then (kv.1, v) else kv) else kvs ++ [(k, v)]
def strsT : List T → Option (List Str)
  | [] => some []
  | .str x :: r => (strsT r).map (x :: ·)
  | _ :: _ => none
def blsT : List T → Option (List Bool)
  | [] => some []
  | .bl x :: r => (blsT r).map (x :: ·)
  | _ :: _ => none
section
variable (P : Tg0)
/-! ### reading -/
def soT (i : Nat) : Option T := match P.so i with
  | some (.tup ws) => (wTs ws).map .tup
  | some (.rol ws) => (wTs ws).map .lst
  | _ => none
def sqT : T → Option (List T)
  | .tup ts => some ts
  | .lst ts => some ts
  | .st i => (match soT P i with
    | some (.tup ts) => some ts
    | some (.lst ts) => some ts
    | _ => none)
  | _ => none
/-- data of a fixed depth -/
def datT : Nat → T → Option PyData
  | _, .non => some .none
  | _, .bl b => some (.bool b)
  | _, .int i => some (.int i)
  | _, .str x => some (.str x)
  | 0, _ => none
  | d + 1, .tup ts => (ts.mapM (datT d)).map .tuple
  | d + 1, .lst ts => (ts.mapM (datT d)).map .list
  | _, _ => none
def truT (lk : Bool) : T → Option Bool
  | .non => some false
  | .bl b => some b
  | .int i => some (i != 0)
  | .str x => if x.length ≤ lim then some (x.length != 0) else none
  | .dic kvs => if lk = true then none else some (!kvs.isEmpty)
  | t => (sqT P t).map (!·.isEmpty)
/-! ### operators -/
def binT (o : BO) (x y : T) : Option T := match o with
  | .add => (match x, y with
    | .int i, .int j => some (.int (i + j))
    | .str a, .str b => if a.length + b.length ≤ lim then some (.str (a ++ b)) else none
    | .lst xs, .lst ys => if xs.length + ys.length ≤ lim then some (.lst (xs ++ ys)) else none
    | .tup xs, .tup ys => if xs.length + ys.length ≤ lim then some (.tup (xs ++ ys)) else none
    | _, _ => none)
  | .sub => (match x, y with
    | .int i, .int j => some (.int (i - j))
    | _, _ => none)
  | .mul => (match x, y with
    | .int i, .int j => if i.natAbs.log2 + j.natAbs.log2 < 1000000 then some (.int (i * j)) else none
    | .str a, .int k => if 0 ≤ k ∧ k ≤ 1000 ∧ a.length ≤ 1000 then some (.str (PySem.Txt.mul a k)) else none
    | .lst xs, .int k => if 0 ≤ k ∧ k ≤ 1000 ∧ xs.length ≤ 1000 then some (.lst (List.replicate k.toNat xs).flatten) else none
    | _, _ => none)
  | .fdv => (match x, y with
    | .int i, .int j => if 0 < j ∧ j.natAbs.log2 < 9000 then some (.int (i / j)) else none
    | _, _ => none)
  | .md => (match x, y with
    | .int i, .int j => if 0 < j then some (.int (i % j)) else none
    | _, _ => none)
  | .pow => (match x, y with
    | .int i, .int j => if 0 ≤ j ∧ j ≤ 1000000 ∧ i.natAbs < 2 ^ 64 then some (.int (i ^ j.toNat)) else none
    | _, _ => none)
def eqDT (x y : T) : Option Bool := match datT 60 x, datT 60 y with
  | some d, some e => if SeqAt.shaped d = true ∧ SeqAt.shaped e = true then some (PyData.eqv d e) else none
  | _, _ => none
def eqT (x y : T) : Option Bool := match flT x, flT y with
  | some a, some b => if scalW a b = true then some (decide (a = b)) else eqDT x y
  | _, _ => eqDT x y
def inSq (x : T) (ts : List T) : Option Bool := match flT x, flTs ts with
  | some a, some ws => some (ws.any fun z => eqF z a)
  | _, _ => none
def inT (x y : T) : Option Bool := match y with
  | .str z => (match x with
    | .str a => (match a.cps.toList with
      | [c] => some (decide (c ∈ z.cps.toList))
      | _ => none)
    | _ => none)
  | .dic kvs => (keyT x).map fun k => (getT kvs k).isSome
  | .st i => (match P.so i with
    | some (.dic kvs) => (match x with
      | .str z => some (getK kvs (.inr z)).isSome
      | _ => none)
    | _ => (sqT P (.st i)).bind (inSq x))
  | y => (sqT P y).bind (inSq x)
def isNonT : T → Bool
  | .non => true
  | _ => false
def cmpT (o : CO) (x y : T) : Option Bool := match o with
  | .eq => eqT x y
  | .ne => (eqT x y).map (!·)
  | .lt => (match x, y with
    | .int i, .int j => some (decide (i < j))
    | .str a, .str b => some (decide (a.cps.toList < b.cps.toList))
    | _, _ => none)
  | .gt => (match x, y with
    | .int i, .int j => some (decide (j < i))
    | .str a, .str b => some (decide (b.cps.toList < a.cps.toList))
    | _, _ => none)
  | .le => (match x, y with
    | .int i, .int j => some (decide (i ≤ j))
    | .str a, .str b => some (!decide (b.cps.toList < a.cps.toList))
    | _, _ => none)
  | .ge => (match x, y with
    | .int i, .int j => some (decide (j ≤ i))
    | .str a, .str b => some (!decide (a.cps.toList < b.cps.toList))
    | _, _ => none)
  | .inn => inT P x y
  | .nin => (inT P x y).map (!·)
  | .iss => (match y with
    | .non => some (isNonT x)
    | .bl b => (match x with
      | .bl a => some (decide (a = b))
      | _ => none)
    | _ => none)
  | .isn => (match y with
    | .non => some (!isNonT x)
    | .bl b => (match x with
      | .bl a => some (!decide (a = b))
      | _ => none)
    | _ => none)
/-! ### built-ins -/
def sortsT (xs : Option (List Str)) : Option T := match xs with
  | some xs => if xs.length < 64 then some (.lst ((sortS xs).map .str)) else none
  | none => none
def setT : T → Option T
  | .lst ts => (match strsT ts with
    | some ys => if ys.length < 1000 ∧ (ddS ys).length < 64 then some (.lst ((sortS (ddS ys)).map .str)) else none
    | none => none)
  | _ => none
def blt1T (lk : Bool) (f : BF) (t : T) : Option T := match f with
  | .len => (match t with
    | .str x => if x.length ≤ lim then some (.int x.length) else none
    | .dic kvs => if lk = true then none else some (.int kvs.length)
    | t => (sqT P t).map fun ts => .int ts.length)
  | .abs => (match t with
    | .int i => some (.int (if i < 0 then -i else i))
    | _ => none)
  | .int => (match t with
    | .int i => some (.int i)
    | .bl b => some (.int (if b then 1 else 0))
    | _ => none)
  | .all => (match t with
    | .lst ts => (blsT ts).map fun bs => .bl (bs.all id)
    | _ => none)
  | .any => (match t with
    | .lst ts => (blsT ts).map fun bs => .bl (bs.any id)
    | _ => none)
  | .sorted => (match t with
    | .lst ts => sortsT (strsT ts)
    | .dic kvs => sortsT (strsT (kvs.map fun kv => tK kv.1))
    | _ => none)
  | .list => (match t with
    | .dic kvs => some (.lst (kvs.map fun kv => tK kv.1))
    | t => (sqT P t).map .lst)
  | .tuple => (match t with
    | .lst ts => some (.tup ts)
    | .tup ts => some (.tup ts)
    | _ => none)
  | _ => none
def blt2T (f : BF) (t u : T) : Option T := match f, t, u with
  | .max, .int i, .int j => some (.int (if j > i then j else i))
  | .min, .int i, .int j => some (.int (if j < i then j else i))
  | _, _, _ => none
def bltT (lk : Bool) (f : BF) (ts : List T) : Option T := match ts with
  | [t] => blt1T P lk f t
  | [t, u] => blt2T f t u
  | _ => none
/-! ### subscripts -/
def sqIxT (xs : List T) : T → Option T
  | .int i => atI xs i
  | _ => none
def idxT (x y : T) : Option T := match x with
  | .str z => (match y with
    | .int i => if z.length ≤ lim then (atI z.cps.toList i).map fun c => .str ⟨#[c]⟩ else none
    | _ => none)
  | .dic kvs => (keyT y).bind (getT kvs)
  | .st i => (match P.so i with
    | some (.dic kvs) => (match y with
      | .str z => (getK kvs (.inr z)).bind wT
      | _ => none)
    | _ => (sqT P (.st i)).bind (sqIxT · y))
  | x => (sqT P x).bind (sqIxT · y)
def cutT (xs : List T) (lo hi : Option Int) : List T := (xs.drop (HT.sIx xs.length 0 lo)).take (HT.sIx xs.length xs.length hi - HT.sIx xs.length 0 lo)
def slcT (x : T) (lo hi : Option Int) : Option T := match x with
  | .str z => if z.length ≤ lim then some (.str (cutS z lo hi)) else none
  | .lst xs => some (.lst (cutT xs lo hi))
  | .tup xs => some (.tup (cutT xs lo hi))
  | _ => none
def starT (t : T) : Option (List T) := match t with
  | .dic kvs => some (kvs.map fun kv => tK kv.1)
  | t => sqT P t
def tyT (s : Om) : T → Option Ty
  | .non => some (.bi "NoneType")
  | .bl _ => some (.bi "bool")
  | .int _ => some (.bi "int")
  | .str _ => some (.bi "str")
  | .tup _ => some (.bi "tuple")
  | .lst _ => some (.bi "list")
  | .dic _ => some (.bi "dict")
  | .ob k => (match s[k]? with
    | some (.ins c _) => some (.own c)
    | _ => none)
  | _ => none
/-! ### targets -/
mutual
def stTT : Tg → T → Tl → Option Tl
  | .nm i, t, τ => some (τ.set i (some ⟨t, false⟩))
  | .tup gs, t, τ => match sqT P t with
    | some ts => if ts.length = gs.length then stTTs gs ts τ else none
    | none => none
def stTTs : List Tg → List T → Tl → Option Tl
  | [], [], τ => some τ
  | g :: gs, t :: ts, τ => (stTT g t τ).bind fun τ' => stTTs gs ts τ'
  | _, _, _ => none
end
def wipeT (τ : Tl) : List Nat → Tl
  | [] => τ
  | v :: vs => (wipeT τ vs).set v none
/-! ### what is walked: its items, and whether it is a dict -/
def zipN : Nat → List T → List T
  | _, [] => []
  | i, t :: ts => .tup [.int i, t] :: zipN (i + 1) ts
def rngT (lo : Int) : Nat → Nat → List T
  | _, 0 => []
  | i, n + 1 => .int (lo + i) :: rngT lo (i + 1) n
def seqT (lk : Bool) (t : T) : Option (List T × Bool) := match t with
  | .str z => some (z.cps.toList.map fun c => .str ⟨#[c]⟩, false)
  | .dic kvs => if lk = true then none else some (kvs.map fun kv => tK kv.1, true)
  | t => (sqT P t).map fun ts => (ts, false)
def enumT (t : T) : Option (List T × Bool) := match t with
  | .lst ts => some (zipN 0 ts, false)
  | .st i => (match soT P i with
    | some (.lst ts) => some (zipN 0 ts, false)
    | _ => none)
  | _ => none
def itemsT (lk : Bool) (t : T) : Option (List T × Bool) := match t with
  | .dic kvs => if lk = true then none else some (kvs.map fun kv => .tup [tK kv.1, kv.2], true)
  | _ => none
def valsT (lk : Bool) (t : T) : Option (List T × Bool) := match t with
  | .dic kvs => if lk = true then none else some (kvs.map (·.2), true)
  | _ => none
def rng1 : T → Option (List T × Bool)
  | .int n => if -1000000 ≤ n ∧ n ≤ 1000000 then some (rngT 0 0 n.toNat, false) else none
  | _ => none
def rng2 : T → T → Option (List T × Bool)
  | .int lo, .int n => if -1000000 ≤ lo ∧ lo ≤ 1000000 ∧ -1000000 ≤ n ∧ n ≤ 1000000 then some (rngT lo 0 (n - lo).toNat, false) else none
  | _, _ => none
def ofT {α : Type} (o : Option α) (s : Om) : TR α := match o with
  | some a => .ok a s
  | none => .no
/-! ### comprehensions: turn by turn -/
def cpL {α : Type} (turn : T → Om → TR (Option α)) : List T → Om → TR (List α)
  | [], s => .ok [] s
  | x :: xs, s => match turn x s with
    | .ok y s1 => (match cpL turn xs s1 with
      | .ok ys s2 => .ok (match y with
        | some y => y :: ys
        | none => ys) s2
      | _ => .no)
    | _ => .no
def cpF {α : Type} (turn : T → Om → TR (List α)) : List T → Om → TR (List α)
  | [], s => .ok [] s
  | x :: xs, s => match turn x s with
    | .ok y s1 => (match cpF turn xs s1 with
      | .ok ys s2 => .ok (y ++ ys) s2
      | _ => .no)
    | _ => .no
def mkD : List (Key × T) → List (Key × T) → List (Key × T)
  | acc, [] => acc
  | acc, kv :: r => mkD (putT acc kv.1 kv.2) r
def insT (s : Om) : T → Option (Nat × Str × List (Str × T))
  | .ob k => (match s[k]? with
    | some (.ins c fs) => some (k, c, fs)
    | _ => none)
  | _ => none
def isExnT : T → Bool
  | .exn _ _ => true
  | _ => false
def intT : T → Option (Option Int)
  | .int i => some (some i)
  | _ => none
def exfT (c f : Str) : Bool := match P.exf c with
  | some fs => fs.contains f
  | none => false
end
/-! ### expressions; bo: the value is only looked at; lk: some dict is being walked -/
mutual
def tev (P : Tg0) (lk : Bool) : Bool → E → Tl → Om → TR T
  | bo, .var i, τ, s => match τ[i]? with
    | some (some sv) => if isExnT sv.v = true ∨ (sv.own = true ∧ bo = false) then .no else .ok sv.v s
    | _ => .no
  | _, .xf i f, τ, s => match τ[i]? with
    | some (some ⟨.exn c fs, _⟩) => if exfT P c f = true then ofT (fs.lookup f) s else .no
    | _ => .no
  | _, .xi i c, τ, s => match τ[i]? with
    | some (some ⟨.exn k _, _⟩) => ofT ((P.isC k c).map T.bl) s
    | _ => .no
  | _, .con w, _, s => ofT (wT w) s
  | _, .glb x, _, s => ofT ((P.gl x).bind wT) s
  | _, .bin o a b, τ, s => (tev P lk true a τ s).bind fun x s1 => (tev P lk true b τ s1).bind fun y s2 => ofT (binT o x y) s2
  | _, .cmp o a b, τ, s => (tev P lk true a τ s).bind fun x s1 => (tev P lk true b τ s1).bind fun y s2 => ofT ((cmpT P o x y).map T.bl) s2
  | _, .cmp2 o o' a b c, τ, s => (tev P lk true a τ s).bind fun x s1 => (tev P lk true b τ s1).bind fun y s2 => match cmpT P o x y with
    | some true => (tev P lk true c τ s2).bind fun z s3 => ofT ((cmpT P o' y z).map T.bl) s3
    | some false => .ok (.bl false) s2
    | none => .no
  | bo, .and a b, τ, s => (tev P lk bo a τ s).bind fun x s1 => match truT P lk x with
    | some true => tev P lk bo b τ s1
    | some false => .ok x s1
    | none => .no
  | bo, .or a b, τ, s => (tev P lk bo a τ s).bind fun x s1 => match truT P lk x with
    | some true => .ok x s1
    | some false => tev P lk bo b τ s1
    | none => .no
  | _, .not a, τ, s => (tev P lk true a τ s).bind fun x s1 => (ofT (truT P lk x) s1).bind fun b s2 => .ok (.bl (!b)) s2
  | _, .neg a, τ, s => (tev P lk true a τ s).bind fun x s1 => match x with
    | .int i => .ok (.int (-i)) s1
    | _ => .no
  | bo, .ite c a b, τ, s => (tev P lk true c τ s).bind fun x s1 => match truT P lk x with
    | some true => tev P lk bo a τ s1
    | some false => tev P lk bo b τ s1
    | none => .no
  | _, .call f as, τ, s => (tevs P lk false as τ s).bind fun ts s1 => P.cl ("", f) ts lk s1
  | _, .make c as, τ, s => (tevs P lk false as τ s).bind fun ts s1 => (P.cl (c, "__init__") (.ob s1.length :: ts) lk (s1 ++ [.ins c []])).bind fun t s2 => match t with
    | .non => .ok (.ob s1.length) s2
    | _ => .no
  | _, .meth o m as, τ, s => (tev P lk true o τ s).bind fun x s1 => match insT s1 x with
    | some (k, c, fs) => (match fs.lookup m with
      | none => if P.hm c m = true then (tevs P lk false as τ s1).bind fun ts s2 => P.cl (c, m) (.ob k :: ts) lk s2 else .no
      | some _ => .no)
    | none => .no
  | _, .blt f as, τ, s => (tevs P lk true as τ s).bind fun ts s1 => ofT (bltT P lk f ts) s1
  | _, .bm _ _ _, _, _ => .no
  | _, .isa a c, τ, s => (tev P lk true a τ s).bind fun x s1 => ofT (((tyT s1 x).bind fun t => P.isT t c).map T.bl) s1
  | _, .fld o f, τ, s => (tev P lk true o τ s).bind fun x s1 => match insT s1 x with
    | some (_, c, fs) => if P.fd c f = true then ofT (fs.lookup f) s1 else .no
    | none => .no
  | _, .idx o i, τ, s => (tev P lk true o τ s).bind fun x s1 => (tev P lk true i τ s1).bind fun y s2 => ofT (idxT P x y) s2
  | _, .slc o lo hi, τ, s => (tev P lk true o τ s).bind fun x s1 => (tevo P lk lo τ s1).bind fun l s2 => (tevo P lk hi τ s2).bind fun u s3 => ofT (slcT x l u) s3
  | _, .rev o, τ, s => (tev P lk true o τ s).bind fun x s1 => match x with
    | .lst ts => .ok (.lst ts.reverse) s1
    | _ => .no
  | _, .tup as, τ, s => (tevs P lk false as τ s).bind fun ts s1 => if ts.length ≤ lim then .ok (.tup ts) s1 else .no
  | _, .lst as, τ, s => (tevs P lk false as τ s).bind fun ts s1 => if ts.length ≤ lim then .ok (.lst ts) s1 else .no
  | _, .star _, _, _ => .no
  | _, .dsp ks _, _, s => if ks.isEmpty = true then .ok (.dic []) s else .no
  | _, .cp o kx vx tg it ifs own, τ, s => (tevI P lk true it τ s).bind fun xs s1 => if xs.1.length < P.fu then (match o with
      | false => (cpL (fun x s => match stTT P tg x (wipeT τ own) with
          | none => .no
          | some τ' => (tevC P (lk || xs.2) ifs τ' s).bind fun b s1 => if b = true then (tev P (lk || xs.2) false vx τ' s1).bind fun y s2 => .ok (some y) s2 else .ok none s1) xs.1 s1).bind fun ys s2 => .ok (.lst ys) s2
      | true => (cpL (fun x s => match stTT P tg x (wipeT τ own) with
          | none => .no
          | some τ' => (tevC P (lk || xs.2) ifs τ' s).bind fun b s1 => if b = true then (tev P (lk || xs.2) false kx τ' s1).bind fun y s2 => (tev P (lk || xs.2) false vx τ' s2).bind fun z s3 => match keyT y with
              | some k => .ok (some (k, z)) s3
              | none => .no
            else .ok none s1) xs.1 s1).bind fun kvs s2 => .ok (.dic (mkD [] kvs)) s2) else .no
  | _, .cp2 o kx vx tg it ifs tg1 it1 ifs1 own own1, τ, s => (tevI P lk true it τ s).bind fun xs s1 => if xs.1.length < P.fu then (match o with
      | false => (cpF (fun x s => match stTT P tg x (wipeT τ own) with
          | none => .no
          | some τ' => (tevC P (lk || xs.2) ifs τ' s).bind fun b s1 => if b = true then (tevI P (lk || xs.2) false it1 τ' s1).bind fun xs1 s2 => if xs1.2 = false ∧ xs1.1.length < P.fu then
              cpL (fun x s => match stTT P tg1 x (wipeT τ' own1) with
                | none => .no
                | some τ'' => (tevC P (lk || xs.2) ifs1 τ'' s).bind fun b s1 => if b = true then (tev P (lk || xs.2) false vx τ'' s1).bind fun y s2 => .ok (some y) s2 else .ok none s1) xs1.1 s2
              else .no
            else .ok [] s1) xs.1 s1).bind fun ys s2 => if ys.length ≤ lim then .ok (.lst ys) s2 else .no
      | true => (cpF (fun x s => match stTT P tg x (wipeT τ own) with
          | none => .no
          | some τ' => (tevC P (lk || xs.2) ifs τ' s).bind fun b s1 => if b = true then (tevI P (lk || xs.2) false it1 τ' s1).bind fun xs1 s2 => if xs1.2 = false ∧ xs1.1.length < P.fu then
              cpL (fun x s => match stTT P tg1 x (wipeT τ' own1) with
                | none => .no
                | some τ'' => (tevC P (lk || xs.2) ifs1 τ'' s).bind fun b s1 => if b = true then (tev P (lk || xs.2) false kx τ'' s1).bind fun y s2 => (tev P (lk || xs.2) false vx τ'' s2).bind fun z s3 => (match keyT y with
                    | some k => .ok (some (k, z)) s3
                    | none => .no)
                  else .ok none s1) xs1.1 s2
              else .no
            else .ok [] s1) xs.1 s1).bind fun kvs s2 => if kvs.length ≤ lim then .ok (.dic (mkD [] kvs)) s2 else .no) else .no
  | _, .seq _, _, _ => .no
  | _, .enum _, _, _ => .no
  | _, .rng _, _, _ => .no
  | _, .rng2 _ _, _, _ => .no
  | _, .zip _ _, _, _ => .no
  | _, .items _, _, _ => .no
  | _, .vals _, _, _ => .no
  | _, .setOf a, τ, s => (tev P lk true a τ s).bind fun x s1 => ofT (setT x) s1
  | _, .srtK _ _, _, _ => .no
  | _, .minD _, _, _ => .no
def tevI (P : Tg0) (lk : Bool) : Bool → E → Tl → Om → TR (List T × Bool)
  | bo, .seq a, τ, s => (tev P lk bo a τ s).bind fun x s1 => ofT (seqT P lk x) s1
  | bo, .enum a, τ, s => (tev P lk bo a τ s).bind fun x s1 => ofT (enumT P x) s1
  | _, .rng a, τ, s => (tev P lk true a τ s).bind fun x s1 => ofT (rng1 x) s1
  | _, .rng2 a b, τ, s => (tev P lk true a τ s).bind fun x s1 => (tev P lk true b τ s1).bind fun y s2 => ofT (rng2 x y) s2
  | bo, .items a, τ, s => (tev P lk bo a τ s).bind fun x s1 => ofT (itemsT lk x) s1
  | bo, .vals a, τ, s => (tev P lk bo a τ s).bind fun x s1 => ofT (valsT lk x) s1
  | _, _, _, _ => .no
def tevs (P : Tg0) (lk : Bool) : Bool → List E → Tl → Om → TR (List T)
  | _, [], _, s => .ok [] s
  | bo, e :: es, τ, s => (match e with
    | .star a => (tev P lk true a τ s).bind fun x s1 => ofT (starT P x) s1
    | e => (tev P lk bo e τ s).bind fun x s1 => .ok [x] s1).bind fun xs s1 => (tevs P lk bo es τ s1).bind fun ys s2 => .ok (xs ++ ys) s2
def tevo (P : Tg0) (lk : Bool) : Option E → Tl → Om → TR (Option Int)
  | none, _, s => .ok none s
  | some e, τ, s => (tev P lk true e τ s).bind fun x s1 => ofT (intT x) s1
def tevC (P : Tg0) (lk : Bool) : List E → Tl → Om → TR Bool
  | [], _, s => .ok true s
  | e :: es, τ, s => (tev P lk true e τ s).bind fun x s1 => match truT P lk x with
    | some true => tevC P lk es τ s1
    | some false => .ok false s1
    | none => .no
end
/-! ### statements -/
mutual
/-- whose value may be kept by e's value: these names do not own any longer -/
def keeps : E → List Nat
  | .var i => [i]
  | .bin _ a b => looks a ++ looks b
  | .cmp _ a b => looks a ++ looks b
  | .cmp2 _ _ a b c => looks a ++ looks b ++ looks c
  | .and a b => keeps a ++ keeps b
  | .or a b => keeps a ++ keeps b
  | .not a => looks a
  | .neg a => looks a
  | .ite c a b => looks c ++ keeps a ++ keeps b
  | .call _ as => keepss as
  | .make _ as => keepss as
  | .meth o _ as => looks o ++ keepss as
  | .blt _ as => lookss as
  | .isa a _ => looks a
  | .fld o _ => looks o
  | .idx o i => looks o ++ looks i
  | .slc o _ _ => looks o
  | .rev o => looks o
  | .tup as => keepss as
  | .lst as => keepss as
  | .setOf a => looks a
  | .cp _ k v _ _ _ _ => keeps k ++ keeps v
  | .cp2 _ k v _ _ _ _ _ _ _ _ => keeps k ++ keeps v
  | _ => []
def looks : E → List Nat
  | .var _ => []
  | e => keeps e
def keepss : List E → List Nat
  | [] => []
  | e :: es => keeps e ++ keepss es
def lookss : List E → List Nat
  | [] => []
  | e :: es => looks e ++ lookss es
end
def keepI : E → List Nat
  | .seq a => keeps a
  | .enum a => keeps a
  | .items a => keeps a
  | .vals a => keeps a
  | .rng a => looks a
  | .rng2 a b => looks a ++ looks b
  | _ => []
def rel (τ : Tl) : List Nat → Tl
  | [] => τ
  | i :: is => match (rel τ is)[i]? with
    | some (some sv) => (rel τ is).set i (some ⟨sv.v, false⟩)
    | _ => rel τ is
def relAll (τ : Tl) : Tl := τ.map fun o => o.map fun sv => ⟨sv.v, false⟩
/-- a new list, a new dict -/
def freshE : E → Bool
  | .lst _ => true | .dsp _ _ => true | .cp _ _ _ _ _ _ _ => true | .rev _ => true | .slc _ _ _ => true | .setOf _ => true
  | .blt f _ => f == .list || f == .sorted
  | .bin o _ _ => o == .add || o == .mul
  | _ => false
def isMutT : T → Bool
  | .lst _ => true
  | .dic _ => true
  | _ => false
@[reducible] def TR.go {α : Type} (r : TR α) (τ : Tl) (k : α → Om → TO) : TO := match r with
  | .ok a s => k a s
  | .ex c fs s => .ex c fs τ s
  | .no => .no
def bodyT (r : TO) (next : Tl → Om → TO) : TO := match r with
  | .nx τ s => next τ s
  | .ct τ s => next τ s
  | .bk τ s => .nx τ s
  | r => r
def frT (turn : T → Tl → Om → TO) : List T → Tl → Om → TO
  | [], τ, s => .nx τ s
  | x :: xs, τ, s => bodyT (turn x τ s) (frT turn xs)
def whT (c : Tl → Om → TR Bool) (b : Tl → Om → TO) : Nat → Tl → Om → TO
  | 0, _, _ => .no
  | f + 1, τ, s => (c τ s).go τ fun t s1 => if t = true then bodyT (b τ s1) (whT c b f) else .nx τ s1
/-- nothing is raised out of the walk of a dict -/
def dicO (d : Bool) (r : TO) : TO := if d = true then (match r with
    | .nx τ s => .nx τ s
    | .rt t s => .rt t s
    | _ => .no) else r
def putFT (f : Str) (v : T) : List (Str × T) → List (Str × T)
  | [] => [(f, v)]
  | (g, u) :: r => if g = f then (f, v) :: r else (g, u) :: putFT f v r
def clr1T : Option Sv → Option Sv
  | some ⟨.exn _ _, _⟩ => none
  | o => o
def clrT (τ : Tl) : Tl := τ.map clr1T
def setAllT (τ : Tl) : List Nat → List T → Tl
  | i :: is, t :: ts => setAllT (τ.set i (some ⟨t, false⟩)) is ts
  | _, _ => τ
/-- a method of an owned list: its answer, the list -/
def bmT (m : BM) (xs : List T) (as : List T) : Option (T × List T) := match m, as with
  | .append, [y] => if xs.length < lim then some (.non, xs ++ [y]) else none
  | .extend, [.lst ys] => if xs.length + ys.length ≤ lim then some (.non, xs ++ ys) else none
  | .pop, [] => (xs[xs.length - 1]?).map fun y => (y, xs.dropLast)
  | .insert, [.int i, y] => if 0 ≤ i ∧ i ≤ 1000000 ∧ xs.length < lim then some (.non, xs.take i.toNat ++ [y] ++ xs.drop i.toNat) else none
  | .clear, [] => some (.non, [])
  | _, _ => none
/-- o.m(as), o an owned list -/
def tbm (P : Tg0) (lk : Bool) (j : Nat) (m : BM) (as : List E) (τ : Tl) (s : Om) (k : T → Tl → Om → TO) : TO :=
  match (rel τ (keepss as))[j]? with
    | some (some ⟨.lst xs, true⟩) => (tevs P lk false as (rel τ (keepss as)) s).go (rel τ (keepss as)) fun ts s1 => (match bmT m xs ts with
      | some (y, ys) => k y ((rel τ (keepss as)).set j (some ⟨.lst ys, true⟩)) s1
      | none => .no)
    | _ => .no
def augIT (o : BO) (a : Int) (y : T) : Option T := match o, y with
  | .add, .int b => some (.int (a + b))
  | .sub, .int b => some (.int (a - b))
  | _, _ => none
def augST (o : BO) (a : Str) (y : T) : Option T := match o, y with
  | .add, .str b => if a.length + b.length ≤ lim then some (.str (a ++ b)) else none
  | _, _ => none
/-- xs[y] = v, kvs[y] = v -/
def setLT (τ : Tl) (j : Nat) (xs : List T) (v y : T) (s : Om) : TO := match y with
  | .int i => (match ixN xs.length i with
    | some m => .nx (τ.set j (some ⟨.lst (xs.set m v), true⟩)) s
    | none => .no)
  | _ => .no
def setDT (τ : Tl) (j : Nat) (kvs : List (Key × T)) (v y : T) (s : Om) : TO := match keyT y with
  | some k => if kvs.length < lim then .nx (τ.set j (some ⟨.dic (putT kvs k v), true⟩)) s else .no
  | none => .no
mutual
def tex (P : Tg0) (lk : Bool) : S → Tl → Om → TO
  | .asg t e, τ, s => (match e with
    | .bm (.var j) m as => tbm P lk j m as τ s fun y τ' s' => (match t with
      | .nm i => if i = j then .no else .nx (τ'.set i (some ⟨y, false⟩)) s'
      | _ => .no)
    | e => (tev P lk false e (rel τ (keeps e)) s).go (rel τ (keeps e)) fun v s1 => match t with
      | .nm i => .nx ((rel τ (keeps e)).set i (some ⟨v, freshE e && isMutT v⟩)) s1
      | t => (match stTT P t v (rel τ (keeps e)) with
        | some τ' => .nx τ' s1
        | none => .no))
  | .par is es, τ, s => (tevs P lk false es (rel τ (keepss es)) s).go (rel τ (keepss es)) fun ts s1 => if ts.length = is.length then .nx (setAllT (rel τ (keepss es)) is ts) s1 else .no
  | .asgF o f e, τ, s => (tev P lk false e (rel τ (keeps e)) s).go (rel τ (keeps e)) fun v s1 => (tev P lk true o (rel τ (keeps e)) s1).go (rel τ (keeps e)) fun x s2 => match insT s2 x with
    | some (k, c, fs) => if P.fd c f = true ∧ fs.length < 900 then .nx (rel τ (keeps e)) (s2.set k (.ins c (putFT f v fs))) else .no
    | none => .no
  | .asgS o i e, τ, s => (match o with
    | .var j => (tev P lk false e (rel τ (keeps e)) s).go (rel τ (keeps e)) fun v s1 => (match (rel τ (keeps e))[j]? with
      | some (some ⟨.lst xs, true⟩) => (tev P lk true i (rel τ (keeps e)) s1).go (rel τ (keeps e)) fun y s2 => setLT (rel τ (keeps e)) j xs v y s2
      | some (some ⟨.dic kvs, true⟩) => (tev P lk true i (rel τ (keeps e)) s1).go (rel τ (keeps e)) fun y s2 => setDT (rel τ (keeps e)) j kvs v y s2
      | _ => .no)
    | _ => .no)
  | .aug i o e, τ, s => match τ[i]? with
    | some (some ⟨.int a, false⟩) => (tev P lk true e τ s).go τ fun y s1 => (match augIT o a y with
      | some t => .nx (τ.set i (some ⟨t, false⟩)) s1
      | none => .no)
    | some (some ⟨.str a, false⟩) => (tev P lk true e τ s).go τ fun y s1 => (match augST o a y with
      | some t => .nx (τ.set i (some ⟨t, false⟩)) s1
      | none => .no)
    | _ => .no
  | .del _ _, _, _ => .no
  | .exp e, τ, s => (match e with
    | .bm (.var j) m as => tbm P lk j m as τ s fun _ τ' s' => .nx τ' s'
    | e => (tev P lk false e (rel τ (keeps e)) s).go (rel τ (keeps e)) fun _ s1 => .nx (rel τ (keeps e)) s1)
  | .ret e, τ, s => (tev P lk false e (relAll τ) s).go (relAll τ) fun t s1 => .rt t s1
  | .retN, _, s => .rt .non s
  | .stk, _, _ => .no
  | .pas, τ, s => .nx τ s
  | .brk, τ, s => .bk τ s
  | .cnt, τ, s => .ct τ s
  | .ite c a b, τ, s => (tev P lk true c (rel τ (looks c)) s).go (rel τ (looks c)) fun x s1 => match truT P lk x with
    | some true => texs P lk a (rel τ (looks c)) s1
    | some false => texs P lk b (rel τ (looks c)) s1
    | none => .no
  | .whl c b, τ, s => whT (fun τ s => (tev P lk true c τ s).bind fun x s1 => ofT (truT P lk x) s1) (fun τ s => texs P lk b τ s) P.fu τ s
  | .frr t it b, τ, s => (tevI P lk false it (rel τ (keepI it)) s).go (rel τ (keepI it)) fun xs s1 => if xs.1.length < P.fu then
      dicO xs.2 (frT (fun x τ' s => match stTT P t x τ' with
        | some τ'' => texs P (lk || xs.2) b τ'' s
        | none => .no) xs.1 (rel τ (keepI it)) s1) else .no
  | .rse c as, τ, s => match P.exf c with
    | some fs => (tevs P lk false as (rel τ (keepss as)) s).go (rel τ (keepss as)) fun ts s1 => if fs.length = ts.length then .ex c (fs.zip ts).reverse (rel τ (keepss as)) s1 else .no
    | none => .no
  | .tri b c i u, τ, s => match texs P lk b τ s with
    | .ex c' fs τ' s' => (match P.isC c' c with
      | some true => (match texs P lk u (τ'.set i (some ⟨.exn c' fs, false⟩)) s' with
        | .nx τ'' s'' => .nx ((clrT τ'').set i none) s''
        | .rt t s'' => .rt t s''
        | _ => .no)
      | some false => .ex c' fs τ' s'
      | none => .no)
    | r => r
def texs (P : Tg0) (lk : Bool) : List S → Tl → Om → TO
  | [], τ, s => .nx τ s
  | c :: r, τ, s => match tex P lk c τ s with
    | .nx τ' s' => texs P lk r τ' s'
    | o => o
end
/-! ### calls to a depth -/
def Prog.tg (p : Prog) (cl : Str × Str → List T → Bool → Om → TR T) : Tg0 := ⟨cl, p.gl, p.so, p.exf, p.isC, p.isT, p.fd, p.hm, p.fu⟩
def runT (P : Tg0) (d : Df) (ts : List T) (lk : Bool) (s : Om) : TR T :=
  if ts.length = d.np then match texs P lk d.body (ts.map (fun t => some ⟨t, false⟩) ++ List.replicate (d.nn - d.np) none) s with
    | .nx _ s' => .ok .non s'
    | .rt t s' => .ok t s'
    | .ex c fs _ s' => .ex c fs s'
    | _ => .no
  else .no
/-- pr: defs that are known otherwise -/
def Prog.tcl (p : Prog) (pr : Str × Str → List T → Om → Option (TR T)) : Nat → Str × Str → List T → Bool → Om → TR T
  | 0, _, _, _, _ => .no
  | k + 1, f, ts, lk, s => match pr f ts s with
    | some r => r
    | none => match p.fn f with
      | some d => runT (p.tg (p.tcl pr k)) d ts lk s
      | none => .no
end MP

set_option Elab.async false
set_option linter.all false
set_option maxRecDepth 100000
/-! MP: a law's pool of numbers, as values. -/
namespace MP
open PySem L2
/-- a draw: its answer; place, rest, count behind it -/
def drawV (cs : List Int) (at_ left cnt many : Int) : Int × Int × Int × Int :=
  if left > 0 then (left % many, at_, left / many, cnt + 1) else
  let cell := cs.getD (at_ % cs.length).toNat 0
  if cell ≥ 10 ^ 18 ∧ at_ < cs.length then (cell % many, at_ + 1, cell / many, cnt + 1) else
  let m1 := (cell % 10 ^ 18 + 7919 * (cnt + 1) + 11) ^ 5 % 2147483647
  let m2 := (m1 + 104729 * (cnt + 1)) ^ 3 % 998244353
  (m2 / 16 % many, at_ + 1, left, cnt + 1)
def poolC (ns : List Int) : List Int := ns.map (fun i => if i < 0 then -i else i) ++ (if ns.isEmpty = true then [0] else [])
def intsT : List T → Option (List Int)
  | [] => some []
  | .int i :: r => (intsT r).map (i :: ·)
  | _ => none
/-- the script's items -/
def scriptT (p : Prog) : Option (List Int) := match p.so 0 with
  | some (.rol ws) => intsW ws
  | _ => none
def prP (p : Prog) : Str × Str → List T → Om → Option (TR T) := fun f ts s =>
  if f = (Str.ofString "", Str.ofString "_law_draw") then some (match ts with
    | [.ob k, .int m] => (match s[k]? with
      | some (.pool cs [at_, left, cnt]) => if 0 < m ∧ m.natAbs.log2 < 9000 ∧ cnt < 1000000 ∧ 0 ≤ cnt ∧ 0 ≤ at_ ∧ cs ≠ [] then (match drawV cs at_ left cnt m with
        | (v, a, l, c) => .ok (.int v) (s.set k (.pool cs [a, l, c]))) else .no
      | _ => .no)
    | _ => .no)
  else if f = (Str.ofString "", Str.ofString "_law_pool") then some (match ts, scriptT p with
    | [.st 0], some ns => if ns.length < p.fu ∧ ns.length < 1000 then .ok (.ob s.length) (s ++ [.pool (poolC ns) [0, 0, 0]]) else .no
    | _, _ => .no)
  else none
end MP

set_option Elab.async false
set_option linter.all false
set_option maxRecDepth 100000
/-! MP: what a value says of the heap. -/
namespace MP
open PySem L2
def DicAt (h : Hh) (n : Nat) (ws : List (Key × W)) : Prop := h.get n = some (.dic ws) ∨ h.get n = some (.frz (.dic ws))
mutual
/-- M: what is owned somewhere; θ: what is shared and changes -/
def R (M : Nat → Prop) (θ : List Nat) (h : Hh) : T → W → Prop
  | .non, w => w = .non
  | .bl b, w => w = .bl b
  | .int i, w => w = .int i
  | .str x, w => w = .str x
  | .st i, w => w = .st i
  | .tup ts, w => ∃ n ws, w = .ref n ∧ ¬ M n ∧ n ∉ θ ∧ h.get n = some (.tup ws) ∧ Rl M θ h ts ws
  | .lst ts, w => ∃ n ws, w = .ref n ∧ ¬ M n ∧ n ∉ θ ∧ h.get n = some (.lst ws) ∧ Rl M θ h ts ws
  | .dic kvs, w => ∃ n ws, w = .ref n ∧ ¬ M n ∧ n ∉ θ ∧ DicAt h n ws ∧ Rk M θ h kvs ws
  | .ob k, w => ∃ n, w = .ref n ∧ θ[k]? = some n
  | .exn c fs, w => ∃ n ws, w = .exn c n ∧ ¬ M n ∧ n ∉ θ ∧ h.get n = some (.xd ws) ∧ Rf M θ h fs ws
def Rl (M : Nat → Prop) (θ : List Nat) (h : Hh) : List T → List W → Prop
  | [], ws => ws = []
  | t :: ts, ws => ∃ w r, ws = w :: r ∧ R M θ h t w ∧ Rl M θ h ts r
def Rk (M : Nat → Prop) (θ : List Nat) (h : Hh) : List (Key × T) → List (Key × W) → Prop
  | [], ws => ws = []
  | q :: ts, ws => ∃ w r, ws = w :: r ∧ Rkp M θ h q w ∧ Rk M θ h ts r
def Rkp (M : Nat → Prop) (θ : List Nat) (h : Hh) : Key × T → Key × W → Prop
  | (k, t), w => k = w.1 ∧ R M θ h t w.2
def Rf (M : Nat → Prop) (θ : List Nat) (h : Hh) : List (Str × T) → List (Str × W) → Prop
  | [], ws => ws = []
  | q :: ts, ws => ∃ w r, ws = w :: r ∧ Rfp M θ h q w ∧ Rf M θ h ts r
def Rfp (M : Nat → Prop) (θ : List Nat) (h : Hh) : Str × T → Str × W → Prop
  | (k, t), w => k = w.1 ∧ R M θ h t w.2
end
/-- the same but for the lock -/
def Same (o : O) (x : Option O) : Prop := x = some o ∨ ∃ ws, (o = .dic ws ∨ o = .frz (.dic ws)) ∧ (x = some (.dic ws) ∨ x = some (.frz (.dic ws)))
structure Mono (M : Nat → Prop) (θ : List Nat) (h : Hh) (M' : Nat → Prop) (θ' : List Nat) (h' : Hh) : Prop where
  at_ : ∀ n o, h.get n = some o → ¬ M n → n ∉ θ → ¬ M' n ∧ n ∉ θ' ∧ Same o (h'.get n)
  th : ∀ (k n : Nat), θ[k]? = some n → θ'[k]? = some n
section
variable {M M' : Nat → Prop} {θ θ' : List Nat} {h h' : Hh}
theorem same_dic {h : Hh} {n : Nat} {ws : List (Key × W)} {o : O} {x : Option O} (s : Same o x) (e : o = .dic ws ∨ o = .frz (.dic ws)) : x = some (.dic ws) ∨ x = some (.frz (.dic ws)) := by
  rcases s with s | ⟨us, e2, s⟩
  · rw [s]; rcases e with e | e <;> rw [e] <;> simp
  · have : us = ws := by
      rcases e with e | e <;> rcases e2 with e2 | e2 <;> rw [e] at e2 <;> cases e2 <;> rfl
    rw [← this]; exact s
theorem same_eq {o : O} {x : Option O} (s : Same o x) (e : ∀ ws, o ≠ .dic ws ∧ o ≠ .frz (.dic ws)) : x = some o := by
  rcases s with s | ⟨us, e2, s⟩
  · exact s
  · rcases e2 with e2 | e2
    · exact absurd e2 (e us).1
    · exact absurd e2 (e us).2
mutual
theorem R.mono (m : Mono M θ h M' θ' h') : ∀ {t : T} {w : W}, R M θ h t w → R M' θ' h' t w
  | .non, _, r => r
  | .bl _, _, r => r
  | .int _, _, r => r
  | .str _, _, r => r
  | .st _, _, r => r
  | .tup ts, w, r => by
    unfold R at r ⊢
    obtain ⟨n, ws, e, h1, h2, g, q⟩ := r
    obtain ⟨a, b, s⟩ := m.at_ n _ g h1 h2
    exact ⟨n, ws, e, a, b, same_eq s fun ws => ⟨by simp, by simp⟩, Rl.mono m q⟩
  | .lst ts, w, r => by
    unfold R at r ⊢
    obtain ⟨n, ws, e, h1, h2, g, q⟩ := r
    obtain ⟨a, b, s⟩ := m.at_ n _ g h1 h2
    exact ⟨n, ws, e, a, b, same_eq s fun ws => ⟨by simp, by simp⟩, Rl.mono m q⟩
  | .dic ts, w, r => by
    unfold R at r ⊢
    obtain ⟨n, ws, e, h1, h2, g, q⟩ := r
    rcases g with g | g
    · obtain ⟨a, b, s⟩ := m.at_ n _ g h1 h2
      exact ⟨n, ws, e, a, b, same_dic (h := h) (n := n) s (.inl rfl), Rk.mono m q⟩
    · obtain ⟨a, b, s⟩ := m.at_ n _ g h1 h2
      exact ⟨n, ws, e, a, b, same_dic (h := h) (n := n) s (.inr rfl), Rk.mono m q⟩
  | .ob k, w, r => by
    unfold R at r ⊢
    obtain ⟨n, e, q⟩ := r
    exact ⟨n, e, m.th k n q⟩
  | .exn c ts, w, r => by
    unfold R at r ⊢
    obtain ⟨n, ws, e, h1, h2, g, q⟩ := r
    obtain ⟨a, b, s⟩ := m.at_ n _ g h1 h2
    exact ⟨n, ws, e, a, b, same_eq s fun ws => ⟨by simp, by simp⟩, Rf.mono m q⟩
theorem Rl.mono (m : Mono M θ h M' θ' h') : ∀ {ts : List T} {ws : List W}, Rl M θ h ts ws → Rl M' θ' h' ts ws
  | [], ws, r => by unfold Rl at r ⊢; exact r
  | t :: ts, ws, r => by
    unfold Rl at r ⊢
    obtain ⟨w, u, e, a, b⟩ := r
    exact ⟨w, u, e, R.mono m a, Rl.mono m b⟩
theorem Rk.mono (m : Mono M θ h M' θ' h') : ∀ {ts : List (Key × T)} {ws : List (Key × W)}, Rk M θ h ts ws → Rk M' θ' h' ts ws
  | [], ws, r => by unfold Rk at r ⊢; exact r
  | q :: ts, ws, r => by
    unfold Rk at r ⊢
    obtain ⟨w, u, e, a, b⟩ := r
    exact ⟨w, u, e, Rkp.mono m a, Rk.mono m b⟩
theorem Rkp.mono (m : Mono M θ h M' θ' h') : ∀ {q : Key × T} {w : Key × W}, Rkp M θ h q w → Rkp M' θ' h' q w
  | (k, t), w, r => by
    unfold Rkp at r ⊢
    exact ⟨r.1, R.mono m r.2⟩
theorem Rf.mono (m : Mono M θ h M' θ' h') : ∀ {ts : List (Str × T)} {ws : List (Str × W)}, Rf M θ h ts ws → Rf M' θ' h' ts ws
  | [], ws, r => by unfold Rf at r ⊢; exact r
  | q :: ts, ws, r => by
    unfold Rf at r ⊢
    obtain ⟨w, u, e, a, b⟩ := r
    exact ⟨w, u, e, Rfp.mono m a, Rf.mono m b⟩
theorem Rfp.mono (m : Mono M θ h M' θ' h') : ∀ {q : Str × T} {w : Str × W}, Rfp M θ h q w → Rfp M' θ' h' q w
  | (k, t), w, r => by
    unfold Rfp at r ⊢
    exact ⟨r.1, R.mono m r.2⟩
end
/-! ### lists in pairs -/
theorem rl_nil {ws : List W} (r : Rl M θ h [] ws) : ws = [] := by unfold Rl at r; exact r
theorem rl_cons {t : T} {ts : List T} {ws : List W} (r : Rl M θ h (t :: ts) ws) : ∃ w u, ws = w :: u ∧ R M θ h t w ∧ Rl M θ h ts u := by unfold Rl at r; exact r
theorem rl_mk {t : T} {ts : List T} {w : W} {ws : List W} (a : R M θ h t w) (b : Rl M θ h ts ws) : Rl M θ h (t :: ts) (w :: ws) := by unfold Rl; exact ⟨w, ws, rfl, a, b⟩
theorem rl_nil' : Rl M θ h [] [] := by unfold Rl; rfl
theorem rl_prd : ∀ {ts : List T} {ws : List W}, Rl M θ h ts ws ↔ Paired (R M θ h) ts ws
  | [], ws => ⟨fun r => by rw [rl_nil r]; exact .nil, fun p => by cases p; exact rl_nil'⟩
  | t :: ts, ws => ⟨fun r => by
      obtain ⟨w, u, rfl, a, b⟩ := rl_cons r
      exact .cons a (rl_prd.mp b), fun p => by
      cases p with
      | cons a b => exact rl_mk a (rl_prd.mpr b)⟩
theorem rk_prd : ∀ {ts : List (Key × T)} {ws : List (Key × W)}, Rk M θ h ts ws ↔ Paired (fun p q => p.1 = q.1 ∧ R M θ h p.2 q.2) ts ws
  | [], ws => ⟨fun r => by unfold Rk at r; rw [r]; exact .nil, fun p => by cases p; unfold Rk; rfl⟩
  | (k, t) :: ts, ws => ⟨fun r => by
      unfold Rk at r
      obtain ⟨w, u, rfl, a, b⟩ := r
      unfold Rkp at a
      exact .cons a (rk_prd.mp b), fun p => by
      cases p with
      | cons a b => unfold Rk; exact ⟨_, _, rfl, by unfold Rkp; exact a, rk_prd.mpr b⟩⟩
theorem rf_prd : ∀ {ts : List (Str × T)} {ws : List (Str × W)}, Rf M θ h ts ws ↔ Paired (fun p q => p.1 = q.1 ∧ R M θ h p.2 q.2) ts ws
  | [], ws => ⟨fun r => by unfold Rf at r; rw [r]; exact .nil, fun p => by cases p; unfold Rf; rfl⟩
  | (k, t) :: ts, ws => ⟨fun r => by
      unfold Rf at r
      obtain ⟨w, u, rfl, a, b⟩ := r
      unfold Rfp at a
      exact .cons a (rf_prd.mp b), fun p => by
      cases p with
      | cons a b => unfold Rf; exact ⟨_, _, rfl, by unfold Rfp; exact a, rf_prd.mpr b⟩⟩
theorem rl_len {ts : List T} {ws : List W} (r : Rl M θ h ts ws) : ts.length = ws.length := (rl_prd.mp r).length
/-- what is looked at: it may be owned here -/
def R0 (M : Nat → Prop) (θ : List Nat) (h : Hh) : T → W → Prop
  | .lst ts, w => ∃ n ws, w = .ref n ∧ n ∉ θ ∧ h.get n = some (.lst ws) ∧ Rl M θ h ts ws
  | .dic kvs, w => ∃ n ws, w = .ref n ∧ n ∉ θ ∧ DicAt h n ws ∧ Rk M θ h kvs ws
  | t, w => R M θ h t w
theorem R.r0 : ∀ {t : T} {w : W}, R M θ h t w → R0 M θ h t w
  | .lst ts, w, r => by
    unfold R at r
    obtain ⟨n, ws, e, _, h2, g, q⟩ := r
    exact ⟨n, ws, e, h2, g, q⟩
  | .dic ts, w, r => by
    unfold R at r
    obtain ⟨n, ws, e, _, h2, g, q⟩ := r
    exact ⟨n, ws, e, h2, g, q⟩
  | .non, _, r => r
  | .bl _, _, r => r
  | .int _, _, r => r
  | .str _, _, r => r
  | .st _, _, r => r
  | .tup _, _, r => r
  | .ob _, _, r => r
  | .exn _ _, _, r => r
def Rm (bo : Bool) (M : Nat → Prop) (θ : List Nat) (h : Hh) (t : T) (w : W) : Prop := if bo = true then R0 M θ h t w else R M θ h t w
theorem R.rm {bo : Bool} {t : T} {w : W} (r : R M θ h t w) : Rm bo M θ h t w := by
  unfold Rm
  split
  · exact r.r0
  · exact r
/-! ### the state -/
def ObR (M : Nat → Prop) (θ : List Nat) (h : Hh) : Ob → Nat → Prop
  | .ins c fs, n => ∃ ws, h.get n = some (.ins c ws) ∧ Rf M θ h fs ws
  | .pool cs ns, n => ∃ c, h.get n = some (.lst (.ref c :: ns.map W.int)) ∧ ¬ M c ∧ c ∉ θ ∧ h.get c = some (.lst (cs.map W.int))
  | .src ns, n => h.get n = some (.lst (ns.map W.int))
structure Ist (F : List Nat) (M : Nat → Prop) (θ : List Nat) (s : Om) (h : Hh) : Prop where
  len : θ.length = s.length
  nd : θ.Nodup
  mt : ∀ n ∈ θ, ¬ M n
  lt : ∀ n, M n → n < h.sz
  at_ : ∀ (k : Nat) (ob : Ob), s[k]? = some ob → ∃ n, θ[k]? = some n ∧ ObR M θ h ob n
  fz : ∀ n o, h.get n = some (.frz o) → n ∈ F
/-- what was outside D and θ is as it was -/
structure Stp (θ : List Nat) (h : Hh) (θ' : List Nat) (h' : Hh) (D : List Nat) : Prop where
  sz : h.sz ≤ h'.sz
  ext : ∀ n o, h.get n = some o → n ∉ θ → n ∉ D → h'.get n = some o
  pr : pre θ θ'
  new : ∀ n ∈ θ', n ∈ θ ∨ h.sz ≤ n
theorem Stp.refl (θ : List Nat) (h : Hh) (D : List Nat) : Stp θ h θ h D := ⟨Nat.le_refl _, fun _ _ e _ _ => e, pre.refl θ, fun n hn => .inl hn⟩
variable {θ2 D D' : List Nat} {h2 : Hh} {F : List Nat} {s : Om}
theorem Stp.trans (a : Stp θ h θ' h' D) (b : Stp θ' h' θ2 h2 D') (hd : ∀ n, n ∈ D' → n ∈ D ∨ h.sz ≤ n) : Stp θ h θ2 h2 D where
  sz := Nat.le_trans a.sz b.sz
  ext := fun n o e h1 h2' => by
    have hl := Hh.get_lt e
    refine b.ext n o (a.ext n o e h1 h2') (fun z => ?_) (fun z => ?_)
    · rcases a.new n z with q | q
      · exact h1 q
      · omega
    · rcases hd n z with q | q
      · exact h2' q
      · omega
  pr := a.pr.trans b.pr
  new := fun n hn => by
    rcases b.new n hn with q | q
    · exact a.new n q
    · exact .inr (Nat.le_trans a.sz q)
theorem Stp.tr (a : Stp θ h θ' h' []) (b : Stp θ' h' θ2 h2 []) : Stp θ h θ2 h2 [] := a.trans b fun n z => nomatch z
theorem Stp.weak (a : Stp θ h θ' h' D) (hd : ∀ n, n ∈ D → n ∈ D' ∨ h.sz ≤ n) : Stp θ h θ' h' D' :=
  ⟨a.sz, fun n o e h1 h2 => a.ext n o e h1 fun z => by
    rcases hd n z with q | q
    · exact h2 q
    · have := Hh.get_lt e; omega, a.pr, a.new⟩
theorem Stp.th (a : Stp θ h θ' h' D) {k n : Nat} (e : θ[k]? = some n) : θ'[k]? = some n := by
  obtain ⟨t, rfl⟩ := a.pr
  rw [List.getElem?_append_left (List.getElem?_eq_some_iff.mp e).1]
  exact e
/-- values stand while the state goes on -/
theorem Stp.mono (a : Stp θ h θ' h' D) (hd : ∀ n ∈ D, M n ∨ h.sz ≤ n) (hm : ∀ n, n < h.sz → M' n → M n) : Mono M θ h M' θ' h' where
  at_ := fun n o e h1 h2 => by
    have hl := Hh.get_lt e
    refine ⟨fun z => h1 (hm n hl z), fun z => ?_, .inl (a.ext n o e h2 fun z => ?_)⟩
    · rcases a.new n z with q | q
      · exact h2 q
      · omega
    · rcases hd n z with q | q
      · exact h1 q
      · omega
  th := fun k n e => a.th e
theorem Stp.mono0 (a : Stp θ h θ' h' []) : Mono M θ h M θ' h' := a.mono (fun n z => nomatch z) fun n _ z => z
theorem R0.go (a : Stp θ h θ' h' []) (hm : ∀ n, n < h.sz → M' n → M n) : ∀ {t : T} {w : W}, R0 M θ h t w → R0 M' θ' h' t w
  | .lst ts, w, r => by
    obtain ⟨n, ws, e, h1, g, q⟩ := r
    have hl := Hh.get_lt g
    exact ⟨n, ws, e, fun z => by rcases a.new n z with q | q; exact h1 q; omega, a.ext n _ g h1 (fun z => nomatch z), q.mono (a.mono (fun n z => nomatch z) hm)⟩
  | .dic ts, w, r => by
    obtain ⟨n, ws, e, h1, g, q⟩ := r
    have hl : n < h.sz := by rcases g with g | g <;> exact Hh.get_lt g
    exact ⟨n, ws, e, fun z => by rcases a.new n z with q | q; exact h1 q; omega, by
      rcases g with g | g
      · exact .inl (a.ext n _ g h1 (fun z => nomatch z))
      · exact .inr (a.ext n _ g h1 (fun z => nomatch z)), q.mono (a.mono (fun n z => nomatch z) hm)⟩
  | .non, _, r => r
  | .bl _, _, r => r
  | .int _, _, r => r
  | .str _, _, r => r
  | .st _, _, r => r
  | .tup _, _, r => R.mono (a.mono (fun n z => nomatch z) hm) r
  | .ob _, _, r => R.mono (a.mono (fun n z => nomatch z) hm) r
  | .exn _ _, _, r => R.mono (a.mono (fun n z => nomatch z) hm) r
theorem R0.step (a : Stp θ h θ' h' []) {t : T} {w : W} (r : R0 M θ h t w) : R0 M θ' h' t w := r.go a fun _ _ z => z
theorem R0.off {n : Nat} (a : Stp θ h θ' h' D) (m : Mono M θ h M' θ' h') (hn : n ∉ D) : ∀ {t : T}, R0 M θ h t (.ref n) → R0 M' θ' h' t (.ref n)
  | .lst ts, r => by
    obtain ⟨n', ws, e, h1, g, q⟩ := r
    cases e
    have hl := Hh.get_lt g
    exact ⟨n, ws, rfl, fun z => by rcases a.new n z with q | q; exact h1 q; omega, a.ext n _ g h1 hn, q.mono m⟩
  | .dic ts, r => by
    obtain ⟨n', ws, e, h1, g, q⟩ := r
    cases e
    have hl : n < h.sz := by rcases g with g | g <;> exact Hh.get_lt g
    exact ⟨n, ws, rfl, fun z => by rcases a.new n z with q | q; exact h1 q; omega, by
      rcases g with g | g
      · exact .inl (a.ext n _ g h1 hn)
      · exact .inr (a.ext n _ g h1 hn), q.mono m⟩
  | .non, r => R.mono m r
  | .bl _, r => R.mono m r
  | .int _, r => R.mono m r
  | .str _, r => R.mono m r
  | .st _, r => R.mono m r
  | .tup _, r => R.mono m r
  | .ob _, r => R.mono m r
  | .exn _ _, r => R.mono m r
theorem Rm.step {bo : Bool} (a : Stp θ h θ' h' []) {t : T} {w : W} (r : Rm bo M θ h t w) : Rm bo M θ' h' t w := by
  unfold Rm at r ⊢
  split
  · rename_i z; rw [if_pos z] at r; exact r.step a
  · rename_i z; rw [if_neg z] at r; exact r.mono a.mono0
theorem Rm.r0 {bo : Bool} {t : T} {w : W} (r : Rm bo M θ h t w) : R0 M θ h t w := by
  unfold Rm at r
  split at r
  · exact r
  · exact r.r0
theorem ObR.mono (m : Mono M θ h M' θ' h') (hk : ∀ n, n ∈ θ → h'.get n = h.get n) : ∀ {ob : Ob} {n : Nat}, n ∈ θ → ObR M θ h ob n → ObR M' θ' h' ob n
  | .ins c fs, n, hn, ⟨ws, g, q⟩ => ⟨ws, by rw [hk n hn]; exact g, q.mono m⟩
  | .pool cs ns, n, hn, ⟨c, g, h1, h2, g2⟩ => by
    obtain ⟨a, b, e⟩ := m.at_ c _ g2 h1 h2
    exact ⟨c, by rw [hk n hn]; exact g, a, b, same_eq e fun ws => ⟨by simp, by simp⟩⟩
  | .src ns, n, hn, g => by
    show h'.get n = _
    rw [hk n hn]; exact g
/-- where nothing shared changed -/
theorem Ist.go (I : Ist F M θ s h) (m : Mono M θ h M' θ h') (hk : ∀ n, n ∈ θ → h'.get n = h.get n) (hm : ∀ n ∈ θ, ¬ M' n) (hl : ∀ n, M' n → n < h'.sz) (hf : ∀ n o, h'.get n = some (.frz o) → n ∈ D) : Ist D M' θ s h' where
  len := I.len
  nd := I.nd
  mt := hm
  lt := hl
  at_ := fun k ob e => by
    obtain ⟨n, e1, q⟩ := I.at_ k ob e
    exact ⟨n, e1, q.mono m hk (List.mem_of_getElem? e1)⟩
  fz := hf
theorem Ist.obLt (I : Ist F M θ s h) {n : Nat} (hn : n ∈ θ) : n < h.sz := by
  obtain ⟨k, hk, e⟩ := List.mem_iff_getElem.mp hn
  have hk' : k < s.length := by rw [← I.len]; exact hk
  obtain ⟨m, e1, q⟩ := I.at_ k _ (List.getElem?_eq_getElem hk')
  rw [List.getElem?_eq_getElem hk, e] at e1
  cases e1
  cases hob : s[k] with
  | ins c fs => rw [hob] at q; obtain ⟨ws, g, _⟩ := q; exact Hh.get_lt g
  | pool cs ns => rw [hob] at q; obtain ⟨ws, g, _⟩ := q; exact Hh.get_lt g
  | src ns => rw [hob] at q; exact Hh.get_lt q
/-- something new -/
theorem Stp.push (I : Ist F M θ s h) (o : O) : Stp θ h θ (h.push o) [] where
  sz := Nat.le_succ _
  ext := fun n o' e _ _ => by
    rw [Hh.get_push, if_neg (Nat.ne_of_lt (Hh.get_lt e))]
    exact e
  pr := pre.refl θ
  new := fun n hn => .inl hn
theorem Ist.push (I : Ist F M θ s h) {o : O} (ho : ∀ x, o ≠ .frz x) : Ist F M θ s (h.push o) := by
  refine I.go (Stp.push I o).mono0 (fun n hn => ?_) I.mt (fun n z => Nat.lt_succ_of_lt (I.lt n z)) fun n x e => ?_
  · rw [Hh.get_push, if_neg (Nat.ne_of_lt (I.obLt hn))]
  · rw [Hh.get_push] at e
    split at e
    · cases e; exact absurd rfl (ho x)
    · exact I.fz n x e
/-- something new, owned -/
theorem Ist.pushM (I : Ist F M θ s h) {o : O} (ho : ∀ x, o ≠ .frz x) : Ist F (fun n => M n ∨ n = h.sz) θ s (h.push o) := by
  refine I.go ((Stp.push I o).mono (fun n z => nomatch z) fun n hl z => z.resolve_right (Nat.ne_of_lt hl)) (fun n hn => ?_) (fun n hn z => ?_) (fun n z => ?_) fun n x e => ?_
  · rw [Hh.get_push, if_neg (Nat.ne_of_lt (I.obLt hn))]
  · rcases z with z | z
    · exact I.mt n hn z
    · have := I.obLt hn; omega
  · rcases z with z | z
    · exact Nat.lt_succ_of_lt (I.lt n z)
    · rw [z]; exact Nat.lt_succ_self _
  · rw [Hh.get_push] at e
    split at e
    · cases e; exact absurd rfl (ho x)
    · exact I.fz n x e
/-- fewer owned -/
theorem Ist.less (I : Ist F M θ s h) (hm : ∀ n, M' n → M n) : Ist F M' θ s h :=
  I.go ((Stp.refl θ h []).mono (fun n z => nomatch z) fun n _ z => hm n z) (fun n _ => rfl) (fun n hn z => I.mt n hn (hm n z)) (fun n z => I.lt n (hm n z)) I.fz
theorem R.less {t : T} {w : W} (r : R M θ h t w) (hm : ∀ n, M' n → M n) : R M' θ h t w := r.mono ((Stp.refl θ h []).mono (fun n z => nomatch z) fun n _ z => hm n z)
/-- something owned changes -/
theorem monoSet (I : Ist F M θ s h) {d : Nat} (hd : M d) (o : O) : Mono M θ h M θ (h.set d o) where
  at_ := fun n o' e h1 h2 => ⟨h1, h2, .inl (by
    rw [Hh.get_set (I.lt d hd), if_neg (fun z => h1 (by rw [z]; exact hd))]
    exact e)⟩
  th := fun _ _ e => e
theorem Ist.setM (I : Ist F M θ s h) {d : Nat} (hd : M d) {o : O} (ho : ∀ x, o ≠ .frz x) : Ist F M θ s (h.set d o) := by
  refine I.go (monoSet I hd o) (fun n hn => ?_) I.mt (fun n z => I.lt n z) fun n x e => ?_
  · rw [Hh.get_set (I.lt d hd), if_neg (fun z => I.mt n hn (by rw [z]; exact hd))]
  · rw [Hh.get_set (I.lt d hd)] at e
    split at e
    · cases e; exact absurd rfl (ho x)
    · exact I.fz n x e
end
end MP

set_option Elab.async false
set_option linter.all false
set_option maxRecDepth 100000
/-! MP: the operators of values are those of the heap. -/
namespace MP
open PySem L2
structure PP (TP : Tg0) (P : Pg) : Prop where
  gl : TP.gl = P.gl
  so : TP.so = P.so
  exf : TP.exf = P.exf
  isC : TP.isC = P.isC
  isT : TP.isT = P.isT
  fd : TP.fd = P.fd
  hm : TP.hm = P.hm
  fu : TP.fu = P.fu
/-- a new list or dict is nowhere else -/
def Fr (F : List Nat) (M : Nat → Prop) (θ : List Nat) (s : Om) (h h' : Hh) (t : T) (w : W) : Prop :=
  isMutT t = true → ∃ d, w = .ref d ∧ h.sz ≤ d ∧ Ist F (fun n => M n ∨ n = d) θ s h' ∧ R0 (fun n => M n ∨ n = d) θ h' t w
structure Got (F : List Nat) (M : Nat → Prop) (θ : List Nat) (h : Hh) (fr : Bool) (θ' : List Nat) (s' : Om) (h' : Hh) (t : T) (w : W) : Prop where
  stp : Stp θ h θ' h' []
  ist : Ist F M θ' s' h'
  r : R M θ' h' t w
  fr : fr = true → Fr F M θ' s' h h' t w
section
variable {TP : Tg0} {P : Pg} {F : List Nat} {M M' : Nat → Prop} {θ θ' : List Nat} {h h' : Hh} {s : Om} {t x y : T} {w wx wy : W} {ts : List T} {ws : List W}
theorem Got.same (I : Ist F M θ s h) (r : R M θ h t w) {fr : Bool} (hf : fr = true → isMutT t = false) : Got F M θ h fr θ s h t w := ⟨Stp.refl _ _ _, I, r, fun z q => by rw [hf z] at q; cases q⟩
theorem Got.pushL (I : Ist F M θ s h) (r : Rl M θ h ts ws) {fr : Bool} : Got F M θ h fr θ s (h.push (.lst ws)) (.lst ts) (.ref h.sz) where
  stp := Stp.push I _
  ist := I.push fun x => by simp
  r := by
    unfold R
    exact ⟨h.sz, ws, rfl, fun z => absurd (I.lt _ z) (Nat.lt_irrefl _), fun z => absurd (I.obLt z) (Nat.lt_irrefl _), by rw [Hh.get_push, if_pos rfl], r.mono (Stp.push I _).mono0⟩
  fr := fun _ _ => ⟨h.sz, rfl, Nat.le_refl _, I.pushM fun x => by simp, h.sz, ws, rfl, fun z => absurd (I.obLt z) (Nat.lt_irrefl _), by rw [Hh.get_push, if_pos rfl],
    r.mono ((Stp.push I _).mono (fun n z => nomatch z) fun n hl z => z.resolve_right (Nat.ne_of_lt hl))⟩
theorem Got.pushT (I : Ist F M θ s h) (r : Rl M θ h ts ws) {fr : Bool} : Got F M θ h fr θ s (h.push (.tup ws)) (.tup ts) (.ref h.sz) where
  stp := Stp.push I _
  ist := I.push fun x => by simp
  r := by
    unfold R
    exact ⟨h.sz, ws, rfl, fun z => absurd (I.lt _ z) (Nat.lt_irrefl _), fun z => absurd (I.obLt z) (Nat.lt_irrefl _), by rw [Hh.get_push, if_pos rfl], r.mono (Stp.push I _).mono0⟩
  fr := fun _ z => by cases z
/-! ### flat values -/
theorem wT_ok : ∀ {w : W} {t : T}, wT w = some t → R M θ h t w
  | .non, _, e => by cases e; unfold R; rfl
  | .bl _, _, e => by cases e; unfold R; rfl
  | .int _, _, e => by cases e; unfold R; rfl
  | .str _, _, e => by cases e; unfold R; rfl
  | .st _, _, e => by cases e; unfold R; rfl
  | .ref _, _, e => by cases e
  | .exn _ _, _, e => by cases e
theorem wTs_ok : ∀ {ws : List W} {ts : List T}, wTs ws = some ts → Rl M θ h ts ws
  | [], _, e => by cases e; exact rl_nil'
  | w :: ws, ts, e => by
    unfold wTs at e
    obtain ⟨t, e1, e⟩ := Option.bind_eq_some_iff.mp e
    obtain ⟨us, e2, rfl⟩ := Option.map_eq_some_iff.mp e
    exact rl_mk (wT_ok e1) (wTs_ok e2)
theorem flT_ok {a : W} (r : R0 M θ h t w) (e : flT t = some a) : w = a := by
  cases t <;> simp only [flT] at e <;> first | (cases e; change R M θ h _ w at r; unfold R at r; exact r) | cases e
theorem flT_flat {a : W} (e : flT t = some a) : flatW a = true := by
  cases t <;> simp only [flT] at e <;> first | (cases e; rfl) | cases e
theorem flTs_ok : ∀ {ts : List T} {ws us : List W}, Rl M θ h ts ws → flTs ts = some us → ws = us ∧ us.all flatW = true
  | [], ws, us, r, e => by cases e; exact ⟨rl_nil r, rfl⟩
  | t :: ts, ws, us, r, e => by
    obtain ⟨w, u, rfl, a, b⟩ := rl_cons r
    unfold flTs at e
    obtain ⟨x, e1, e⟩ := Option.bind_eq_some_iff.mp e
    obtain ⟨xs, e2, rfl⟩ := Option.map_eq_some_iff.mp e
    obtain ⟨h1, h2⟩ := flTs_ok b e2
    refine ⟨by rw [flT_ok a.r0 e1, h1], ?_⟩
    rw [List.all_cons, flT_flat e1, h2]
    rfl
theorem keyT_ok {k : Key} (r : R0 M θ h t w) (e : keyT t = some k) : keyW w = some k := by
  cases t <;> simp only [keyT] at e <;> first | (cases e; change R M θ h _ w at r; unfold R at r; rw [r]; rfl) | cases e
theorem tK_ok (k : Key) : R M θ h (tK k) (wK k) := by cases k <;> (show R M θ h _ _; unfold tK wK R; rfl)
theorem strsT_ok : ∀ {ts : List T} {ws : List W} {xs : List Str}, Rl M θ h ts ws → strsT ts = some xs → strsW ws = some xs
  | [], ws, _, r, e => by cases e; rw [rl_nil r]; rfl
  | t :: ts, ws, xs, r, e => by
    obtain ⟨w, u, rfl, a, b⟩ := rl_cons r
    cases t <;> simp only [strsT] at e <;> try (cases e)
    obtain ⟨ys, e2, rfl⟩ := Option.map_eq_some_iff.mp e
    unfold R at a
    subst a
    unfold strsW
    rw [strsT_ok b e2]
    rfl
theorem blsT_ok : ∀ {ts : List T} {ws : List W} {xs : List Bool}, Rl M θ h ts ws → blsT ts = some xs → blsW ws = some xs
  | [], ws, _, r, e => by cases e; rw [rl_nil r]; rfl
  | t :: ts, ws, xs, r, e => by
    obtain ⟨w, u, rfl, a, b⟩ := rl_cons r
    cases t <;> simp only [blsT] at e <;> try (cases e)
    obtain ⟨ys, e2, rfl⟩ := Option.map_eq_some_iff.mp e
    unfold R at a
    subst a
    unfold blsW
    rw [blsT_ok b e2]
    rfl
theorem strsR_map (xs : List Str) : Rl M θ h (xs.map T.str) (xs.map W.str) := rl_prd.mpr (prd_mapL (fun x => by unfold R; rfl) xs)
/-! ### reading -/
theorem ob_tup' {n : Nat} {ws : List W} (e : h.get n = some (.tup ws)) : ob P h (.ref n) = some (.tup ws) := by unfold ob; simp only [e]
theorem ob_lst' {n : Nat} {ws : List W} (e : h.get n = some (.lst ws)) : ob P h (.ref n) = some (.lst ws) := by unfold ob; simp only [e]
theorem ob_dic' {n : Nat} {ws : List (Key × W)} (e : DicAt h n ws) : ob P h (.ref n) = some (.dic ws) := by
  unfold ob
  rcases e with e | e <;> simp only [e]
theorem sq_ok (hp : PP TP P) (r : R0 M θ h t w) (e : sqT TP t = some ts) : ∃ ws, sq P h w = some ws ∧ Rl M θ h ts ws := by
  cases t with
  | tup us =>
    cases e
    change R M θ h _ w at r; unfold R at r
    obtain ⟨n, ws, rfl, _, _, g, q⟩ := r
    exact ⟨ws, by unfold sq; rw [ob_tup' g], q⟩
  | lst us =>
    cases e
    obtain ⟨n, ws, rfl, _, g, q⟩ := r
    exact ⟨ws, by unfold sq; rw [ob_lst' g], q⟩
  | st i =>
    change R M θ h _ w at r; unfold R at r
    subst r
    have e : (match (match P.so i with
      | some (.tup ws) => (wTs ws).map T.tup
      | some (.rol ws) => (wTs ws).map .lst
      | _ => none) with
      | some (.tup ts) => some ts
      | some (.lst ts) => some ts
      | _ => none) = some ts := by rw [← hp.so]; exact e
    have eo : ob P h (.st i) = P.so i := rfl
    unfold sq
    rw [eo]
    cases q : P.so i with
    | none => simp only [q] at e; cases e
    | some o =>
      simp only [q] at e
      cases o with
      | tup ws =>
        simp only at e
        cases q2 : wTs ws with
        | none => simp [q2] at e
        | some us => simp [q2] at e; subst e; exact ⟨ws, rfl, wTs_ok q2⟩
      | rol ws =>
        simp only at e
        cases q2 : wTs ws with
        | none => simp [q2] at e
        | some us => simp [q2] at e; subst e; exact ⟨ws, rfl, wTs_ok q2⟩
      | _ => cases e
  | _ => cases e
theorem rl_empty {ts : List T} {ws : List W} (r : Rl M θ h ts ws) : ts.isEmpty = ws.isEmpty := prd_empty (rl_prd.mp r)
theorem dic_plain (I : Ist F M θ s h) (hF : F = []) {n : Nat} {ws : List (Key × W)} (g : DicAt h n ws) : h.get n = some (.dic ws) := by
  rcases g with g | g
  · exact g
  · have := I.fz n _ g
    rw [hF] at this
    cases this
theorem tru_ok (hp : PP TP P) {lk b : Bool} (I : Ist F M θ s h) (hF : lk = false → F = []) (r : R0 M θ h t w) (e : truT TP lk t = some b) : tru P h w = some b := by
  cases t with
  | non => change R M θ h _ w at r; unfold R at r; subst r; exact e
  | bl c => change R M θ h _ w at r; unfold R at r; subst r; exact e
  | int c => change R M θ h _ w at r; unfold R at r; subst r; exact e
  | str c => change R M θ h _ w at r; unfold R at r; subst r; exact e
  | dic kvs =>
    have e : (if lk = true then none else some (!kvs.isEmpty)) = some b := e
    split at e
    · cases e
    · rename_i hl
      cases e
      obtain ⟨n, ws, rfl, _, g, q⟩ := r
      have g2 := dic_plain I (hF (by simpa using hl)) g
      unfold tru
      simp only [g2, truO]
      rw [prd_empty (rk_prd.mp q)]
  | tup us =>
    unfold truT at e
    obtain ⟨vs, e1, rfl⟩ := Option.map_eq_some_iff.mp e
    obtain ⟨ws, e2, q⟩ := sq_ok hp r e1
    change R M θ h _ w at r; unfold R at r
    obtain ⟨n, ws', rfl, _, _, g, _⟩ := r
    unfold tru
    simp only [g, truO, e2, Option.map_some, rl_empty q]
  | lst us =>
    unfold truT at e
    obtain ⟨vs, e1, rfl⟩ := Option.map_eq_some_iff.mp e
    obtain ⟨ws, e2, q⟩ := sq_ok hp r e1
    obtain ⟨n, ws', rfl, _, g, _⟩ := r
    unfold tru
    simp only [g, truO, e2, Option.map_some, rl_empty q]
  | st i =>
    unfold truT at e
    obtain ⟨vs, e1, rfl⟩ := Option.map_eq_some_iff.mp e
    obtain ⟨ws, e2, q⟩ := sq_ok hp r e1
    change R M θ h _ w at r; unfold R at r; subst r
    unfold tru
    simp only [e2, Option.map_some, rl_empty q]
  | ob k => unfold truT sqT at e; cases e
  | exn c fs => unfold truT sqT at e; cases e
/-! ### data -/
theorem mapM_cons' {α β : Type} {f : α → Option β} {x : α} {xs : List α} {zs : List β} (e : (x :: xs).mapM f = some zs) : ∃ y ys, f x = some y ∧ xs.mapM f = some ys ∧ zs = y :: ys := by
  rw [List.mapM_cons] at e
  cases q : f x with
  | none => rw [q] at e; simp at e
  | some y =>
    rw [q] at e
    cases q2 : xs.mapM f with
    | none => rw [q2] at e; simp at e
    | some ys => rw [q2] at e; simp at e; exact ⟨y, ys, rfl, rfl, e.symm⟩
theorem dat_ok : ∀ (d : Nat) {t : T} {w : W} {D : PyData}, R0 M θ h t w → datT d t = some D → dat P h d w = some D
  | 0, t, w, D, r, e => by
    cases t <;> simp only [datT] at e <;> first | (cases e; change R M θ h _ w at r; unfold R at r; subst r; rfl) | cases e
  | d + 1, t, w, D, r, e => by
    have go : ∀ {ts : List T} {ws : List W} {Ds : List PyData}, Rl M θ h ts ws → ts.mapM (datT d) = some Ds → ws.mapM (dat P h d) = some Ds := by
      intro ts
      induction ts with
      | nil => intro ws Ds r e; rw [rl_nil r]; simpa using e
      | cons t ts ih =>
        intro ws Ds r e
        obtain ⟨w, u, rfl, a, b⟩ := rl_cons r
        obtain ⟨y, ys, e1, e2, rfl⟩ := mapM_cons' e
        rw [List.mapM_cons, dat_ok d a.r0 e1, ih b e2]
        rfl
    cases t with
    | non => change R M θ h _ w at r; unfold R at r; subst r; cases e; rfl
    | bl c => change R M θ h _ w at r; unfold R at r; subst r; cases e; rfl
    | int c => change R M θ h _ w at r; unfold R at r; subst r; cases e; rfl
    | str c => change R M θ h _ w at r; unfold R at r; subst r; cases e; rfl
    | tup ts =>
      change R M θ h _ w at r; unfold R at r
      obtain ⟨n, ws, rfl, _, _, g, q⟩ := r
      change (ts.mapM (datT d)).map PyData.tuple = some D at e
      obtain ⟨Ds, e1, rfl⟩ := Option.map_eq_some_iff.mp e
      show (match ob P h (.ref n) with
        | some (.lst xs) => (xs.mapM (dat P h d)).map PyData.list
        | some (.rol xs) => (xs.mapM (dat P h d)).map .list
        | some (.tup xs) => (xs.mapM (dat P h d)).map .tuple
        | _ => none) = _
      rw [ob_tup' g]
      simp only [go q e1]
      rfl
    | lst ts =>
      obtain ⟨n, ws, rfl, _, g, q⟩ := r
      change (ts.mapM (datT d)).map PyData.list = some D at e
      obtain ⟨Ds, e1, rfl⟩ := Option.map_eq_some_iff.mp e
      show (match ob P h (.ref n) with
        | some (.lst xs) => (xs.mapM (dat P h d)).map PyData.list
        | some (.rol xs) => (xs.mapM (dat P h d)).map .list
        | some (.tup xs) => (xs.mapM (dat P h d)).map .tuple
        | _ => none) = _
      rw [ob_lst' g]
      simp only [go q e1]
      rfl
    | _ => cases e
/-! ### comparisons -/
theorem scal_flat (r : R0 M θ h t w) (e : flT t = none) (a : W) : scalW w a = false ∧ scalW a w = false := by
  cases t with
  | tup ts => change R M θ h _ w at r; unfold R at r; obtain ⟨n, ws, rfl, _⟩ := r; cases a <;> exact ⟨rfl, rfl⟩
  | lst ts => obtain ⟨n, ws, rfl, _⟩ := r; cases a <;> exact ⟨rfl, rfl⟩
  | dic ts => obtain ⟨n, ws, rfl, _⟩ := r; cases a <;> exact ⟨rfl, rfl⟩
  | st i => change R M θ h _ w at r; unfold R at r; subst r; cases a <;> exact ⟨rfl, rfl⟩
  | ob k => change R M θ h _ w at r; unfold R at r; obtain ⟨n, rfl, _⟩ := r; cases a <;> exact ⟨rfl, rfl⟩
  | exn c fs => change R M θ h _ w at r; unfold R at r; obtain ⟨n, ws, rfl, _⟩ := r; cases a <;> exact ⟨rfl, rfl⟩
  | _ => cases e
theorem eqD_ok {b : Bool} (rx : R0 M θ h x wx) (ry : R0 M θ h y wy) (hs : scalW wx wy = false) (e : eqDT x y = some b) : eqW P wx wy h = some b := by
  unfold eqDT at e
  split at e
  · rename_i d c e1 e2
    unfold eqW
    rw [if_neg (by rw [hs]; simp), dat_ok 60 rx e1, dat_ok 60 ry e2]
    exact e
  · cases e
theorem eq_ok {b : Bool} (rx : R0 M θ h x wx) (ry : R0 M θ h y wy) (e : eqT x y = some b) : eqW P wx wy h = some b := by
  unfold eqT at e
  split at e
  · rename_i a c e1 e2
    split at e
    · rename_i hs
      cases e
      rw [flT_ok rx e1, flT_ok ry e2]
      unfold eqW
      rw [if_pos hs]
    · rename_i hs
      refine eqD_ok rx ry ?_ e
      rw [flT_ok rx e1, flT_ok ry e2]
      simpa using hs
  · rename_i hn
    refine eqD_ok rx ry ?_ e
    cases e1 : flT x with
    | none => exact (scal_flat rx e1 wy).1
    | some a =>
      cases e2 : flT y with
      | none => exact (scal_flat ry e2 wx).2
      | some c => exact absurd e2 (hn a c e1)
theorem get_ok : ∀ {kvs : List (Key × T)} {kws : List (Key × W)} (k : Key), Rk M θ h kvs kws → (match getT kvs k, getK kws k with
    | some t, some w => R M θ h t w
    | none, none => True
    | _, _ => False)
  | [], kws, k, r => by unfold Rk at r; subst r; exact trivial
  | (k', t) :: kvs, kws, k, r => by
    unfold Rk at r
    obtain ⟨⟨k2, w⟩, u, rfl, a, b⟩ := r
    unfold Rkp at a
    obtain ⟨e, a⟩ := a
    simp only at e a
    subst e
    have ih := get_ok k b
    unfold getT getK at ih ⊢
    by_cases hk : k' = k
    · simp [List.find?_cons, hk]; exact a
    · simp only [List.find?_cons, hk, decide_false]
      exact ih
theorem get_isSome {kvs : List (Key × T)} {kws : List (Key × W)} {k : Key} (r : Rk M θ h kvs kws) : (getT kvs k).isSome = (getK kws k).isSome := by
  have := get_ok k r
  cases e1 : getT kvs k <;> cases e2 : getK kws k <;> rw [e1, e2] at this <;> first | rfl | exact this.elim
theorem inSq_ok {b : Bool} (rx : R0 M θ h x wx) (r : Rl M θ h ts ws) (e : inSq x ts = some b) : (if flatW wx = true ∧ ws.all flatW = true then some (ws.any fun z => eqF z wx) else none) = some b := by
  unfold inSq at e
  split at e
  · rename_i a us e1 e2
    cases e
    obtain ⟨h1, h2⟩ := flTs_ok r e2
    rw [flT_ok rx e1, h1, if_pos ⟨flT_flat e1, h2⟩]
  · cases e
theorem in_ok (hp : PP TP P) {b : Bool} (rx : R0 M θ h x wx) (ry : R0 M θ h y wy) (e : inT TP x y = some b) : inW P wx wy h = some b := by
  cases y with
  | str z =>
    change R M θ h _ wy at ry; unfold R at ry; subst ry
    unfold inT at e
    cases x with
    | str a => change R M θ h _ wx at rx; unfold R at rx; subst rx; exact e
    | _ => cases e
  | dic kvs =>
    unfold inT at e
    obtain ⟨k, e1, rfl⟩ := Option.map_eq_some_iff.mp e
    obtain ⟨n, ws, rfl, _, g, q⟩ := ry
    unfold inW
    simp only [ob_dic' g, keyT_ok rx e1, get_isSome q]
  | st i =>
    have ry0 := ry
    change R M θ h _ wy at ry; unfold R at ry; subst ry
    have e : (match (generalizing := false) P.so i with
      | some (.dic kvs) => (match (generalizing := false) x with
        | .str z => some (getK kvs (.inr z)).isSome
        | _ => none)
      | _ => (sqT TP (.st i)).bind (inSq x)) = some b := by rw [← hp.so]; exact e
    show (match (generalizing := false) P.so i with
      | some (.dic kvs) => (match (generalizing := false) wx with
        | .str z => some (getK kvs (.inr z)).isSome
        | _ => none)
      | _ => match (generalizing := false) sq P h (.st i) with
        | some xs => if flatW wx = true ∧ xs.all flatW = true then some (xs.any fun z => eqF z wx) else none
        | none => none) = some b
    cases q0 : P.so i with
    | none =>
      simp only [q0] at e
      obtain ⟨us, e1, e⟩ := Option.bind_eq_some_iff.mp e
      obtain ⟨ws, e2, q⟩ := sq_ok hp ry0 e1
      simp only [e2]
      exact inSq_ok rx q e
    | some o =>
      simp only [q0] at e
      cases o with
      | dic kvs =>
        simp only at e
        cases x with
        | str a => change R M θ h _ wx at rx; unfold R at rx; subst rx; exact e
        | _ => cases e
      | _ =>
        obtain ⟨us, e1, e⟩ := Option.bind_eq_some_iff.mp e
        obtain ⟨ws, e2, q⟩ := sq_ok hp ry0 e1
        simp only [e2]
        exact inSq_ok rx q e
  | tup us =>
    have ry0 := ry
    change R M θ h _ wy at ry; unfold R at ry
    obtain ⟨n, ws, rfl, _, _, g, q⟩ := ry
    unfold inT at e
    obtain ⟨us, e1, e⟩ := Option.bind_eq_some_iff.mp e
    cases e1
    unfold inW sq
    simp only [ob_tup' g]
    exact inSq_ok rx q e
  | lst us =>
    obtain ⟨n, ws, rfl, _, g, q⟩ := ry
    unfold inT at e
    obtain ⟨us, e1, e⟩ := Option.bind_eq_some_iff.mp e
    cases e1
    unfold inW sq
    simp only [ob_lst' g]
    exact inSq_ok rx q e
  | non => unfold inT sqT at e; cases e
  | bl _ => unfold inT sqT at e; cases e
  | int _ => unfold inT sqT at e; cases e
  | ob _ => unfold inT sqT at e; cases e
  | exn _ _ => unfold inT sqT at e; cases e
theorem nonT_ok (r : R0 M θ h t w) : decide (w = .non) = isNonT t := by
  cases t with
  | lst ts => obtain ⟨n, ws, rfl, _⟩ := r; rfl
  | dic ts => obtain ⟨n, ws, rfl, _⟩ := r; rfl
  | tup ts => change R M θ h _ w at r; unfold R at r; obtain ⟨n, ws, rfl, _⟩ := r; rfl
  | ob ts => change R M θ h _ w at r; unfold R at r; obtain ⟨n, rfl, _⟩ := r; rfl
  | exn ts _ => change R M θ h _ w at r; unfold R at r; obtain ⟨n, ws, rfl, _⟩ := r; rfl
  | _ => change R M θ h _ w at r; unfold R at r; subst r; rfl
theorem cmp_ok (hp : PP TP P) {o : CO} {b : Bool} (rx : R0 M θ h x wx) (ry : R0 M θ h y wy) (e : cmpT TP o x y = some b) : cmpW P o wx wy h = some b := by
  have ii : ∀ {f : Int → Int → Bool} {g : Str → Str → Bool}, (match (generalizing := false) x, y with
      | .int i, .int j => some (f i j)
      | .str a, .str b => some (g a b)
      | _, _ => none) = some b → (match (generalizing := false) wx, wy with
      | .int i, .int j => some (f i j)
      | .str a, .str b => some (g a b)
      | _, _ => none) = some b := by
    intro f g e
    split at e
    · change R M θ h _ wx at rx; change R M θ h _ wy at ry; unfold R at rx ry; subst rx ry; exact e
    · change R M θ h _ wx at rx; change R M θ h _ wy at ry; unfold R at rx ry; subst rx ry; exact e
    · cases e
  cases o with
  | eq => exact eq_ok rx ry e
  | ne =>
    obtain ⟨c, e1, rfl⟩ := Option.map_eq_some_iff.mp e
    show (eqW P wx wy h).map _ = _
    rw [eq_ok rx ry e1]; rfl
  | lt => exact ii (f := fun i j => decide (i < j)) (g := fun a b => decide (a.cps.toList < b.cps.toList)) e
  | gt => exact ii (f := fun i j => decide (j < i)) (g := fun a b => decide (b.cps.toList < a.cps.toList)) e
  | le => exact ii (f := fun i j => decide (i ≤ j)) (g := fun a b => !decide (b.cps.toList < a.cps.toList)) e
  | ge => exact ii (f := fun i j => decide (j ≤ i)) (g := fun a b => !decide (a.cps.toList < b.cps.toList)) e
  | inn => exact in_ok hp rx ry e
  | nin =>
    obtain ⟨c, e1, rfl⟩ := Option.map_eq_some_iff.mp e
    show (inW P wx wy h).map _ = _
    rw [in_ok hp rx ry e1]; rfl
  | iss =>
    change (match (generalizing := false) y with
      | .non => some (isNonT x)
      | .bl b => (match (generalizing := false) x with
        | .bl a => some (decide (a = b))
        | _ => none)
      | _ => none) = some b at e
    split at e
    · change R M θ h _ wy at ry; unfold R at ry; subst ry
      show some (decide (wx = .non)) = _
      rw [nonT_ok rx]; exact e
    · split at e
      · change R M θ h _ wx at rx; change R M θ h _ wy at ry; unfold R at rx ry; subst rx ry; exact e
      · cases e
    · cases e
  | isn =>
    change (match (generalizing := false) y with
      | .non => some (!isNonT x)
      | .bl b => (match (generalizing := false) x with
        | .bl a => some (!decide (a = b))
        | _ => none)
      | _ => none) = some b at e
    split at e
    · change R M θ h _ wy at ry; unfold R at ry; subst ry
      show some (!decide (wx = .non)) = _
      rw [nonT_ok rx]; exact e
    · split at e
      · change R M θ h _ wx at rx; change R M θ h _ wy at ry; unfold R at rx ry; subst rx ry; exact e
      · cases e
    · cases e
/-! ### + - * // % ** -/
theorem len_rep {α : Type} (xs : List α) : ∀ k : Nat, (List.replicate k xs).flatten.length = k * xs.length
  | 0 => by simp
  | k + 1 => by rw [List.replicate_succ, List.flatten_cons, List.length_append, len_rep xs k, Nat.succ_mul]; omega
theorem rflat {a : W} (rx : R0 M θ h x wx) (e : flT x = some a) : wx = a := flT_ok rx e
theorem bin_ok {o : BO} (I : Ist F M θ s h) (rx : R0 M θ h x wx) (ry : R0 M θ h y wy) (e : binT o x y = some t) : ∃ w h', binW o wx wy h = .ok w h' ∧ Got F M θ h true θ s h' t w := by
  have ri : ∀ (i : Int), Got F M θ h true θ s h (.int i) (.int i) := fun i => Got.same I (by unfold R; rfl) fun _ => rfl
  cases o with
  | add =>
    simp only [binT] at e
    split at e
    · cases e; cases rflat rx rfl; cases rflat ry rfl; exact ⟨_, _, rfl, ri _⟩
    · cases rflat rx rfl; cases rflat ry rfl
      split at e
      · rename_i hl
        cases e
        exact ⟨_, _, if_pos hl, Got.same I (by unfold R; rfl) fun _ => rfl⟩
      · cases e
    · split at e
      · rename_i xs ys hl
        cases e
        obtain ⟨n, ws, rfl, _, g1, q1⟩ := rx
        obtain ⟨m, us, rfl, _, g2, q2⟩ := ry
        refine ⟨_, h.push (.lst (ws ++ us)), ?_, Got.pushL I (rl_prd.mpr (prd_app (rl_prd.mp q1) (rl_prd.mp q2)))⟩
        show (match h.get n, h.get m with
          | some (.lst xs), some (.lst ys) => newL (xs ++ ys) h
          | some (.tup xs), some (.tup ys) => if xs.isEmpty = true then .ok (.ref m) h else if ys.isEmpty = true then .ok (.ref n) h else newT (xs ++ ys) h
          | _, _ => .no) = _
        simp only [g1, g2]
        unfold newL
        rw [if_pos (by rw [List.length_append, ← rl_len q1, ← rl_len q2]; exact hl)]
      · cases e
    · split at e
      · rename_i xs ys hl
        cases e
        have rx0 := rx
        have ry0 := ry
        change R M θ h _ wx at rx; change R M θ h _ wy at ry
        unfold R at rx ry
        obtain ⟨n, ws, rfl, _, _, g1, q1⟩ := rx
        obtain ⟨m, us, rfl, _, _, g2, q2⟩ := ry
        have eq : binW .add (.ref n) (.ref m) h = if ws.isEmpty = true then .ok (.ref m) h else if us.isEmpty = true then .ok (.ref n) h else newT (ws ++ us) h := by
          show (match h.get n, h.get m with
            | some (.lst xs), some (.lst ys) => newL (xs ++ ys) h
            | some (.tup xs), some (.tup ys) => if xs.isEmpty = true then .ok (.ref m) h else if ys.isEmpty = true then .ok (.ref n) h else newT (xs ++ ys) h
            | _, _ => .no) = _
          simp only [g1, g2]
        rw [eq]
        by_cases h1 : ws.isEmpty = true
        · rw [if_pos h1]
          have e1 : xs = [] := by rw [← rl_empty q1] at h1; exact List.isEmpty_iff.mp h1
          subst e1
          exact ⟨_, _, rfl, Got.same I ry0 fun _ => rfl⟩
        · rw [if_neg h1]
          by_cases h2 : us.isEmpty = true
          · rw [if_pos h2]
            have e1 : ys = [] := by rw [← rl_empty q2] at h2; exact List.isEmpty_iff.mp h2
            subst e1
            rw [List.append_nil]
            exact ⟨_, _, rfl, Got.same I rx0 fun _ => rfl⟩
          · rw [if_neg h2]
            unfold newT
            rw [if_pos (by rw [List.length_append, ← rl_len q1, ← rl_len q2]; exact hl)]
            exact ⟨_, _, rfl, Got.pushT I (rl_prd.mpr (prd_app (rl_prd.mp q1) (rl_prd.mp q2)))⟩
      · cases e
    · cases e
  | sub =>
    simp only [binT] at e
    split at e
    · cases e; cases rflat rx rfl; cases rflat ry rfl; exact ⟨_, _, rfl, ri _⟩
    · cases e
  | mul =>
    simp only [binT] at e
    split at e
    · cases rflat rx rfl; cases rflat ry rfl
      split at e
      · rename_i hl; cases e; exact ⟨_, _, if_pos hl, ri _⟩
      · cases e
    · cases rflat rx rfl; cases rflat ry rfl
      split at e
      · rename_i hl; cases e; exact ⟨_, _, if_pos hl, Got.same I (by unfold R; rfl) fun _ => rfl⟩
      · cases e
    · split at e
      · rename_i xs k hl
        cases e; cases rflat ry rfl
        obtain ⟨n, ws, rfl, _, g1, q1⟩ := rx
        refine ⟨_, h.push (.lst (List.replicate k.toNat ws).flatten), ?_, Got.pushL I (rl_prd.mpr (prd_rep (rl_prd.mp q1) k.toNat))⟩
        show (match h.get n with
          | some (.lst xs) => if 0 ≤ k ∧ k ≤ 1000 ∧ xs.length ≤ 1000 then newL (List.replicate k.toNat xs).flatten h else .no
          | _ => .no) = _
        simp only [g1]
        rw [if_pos (by rw [← rl_len q1]; exact hl)]
        unfold newL
        rw [if_pos]
        rw [len_rep, ← rl_len q1]
        exact Nat.mul_le_mul (by omega : k.toNat ≤ 1000) hl.2.2
      · cases e
    · cases e
  | fdv =>
    simp only [binT] at e
    split at e
    · cases rflat rx rfl; cases rflat ry rfl
      split at e
      · rename_i hl; cases e; exact ⟨_, _, if_pos hl, ri _⟩
      · cases e
    · cases e
  | md =>
    simp only [binT] at e
    split at e
    · cases rflat rx rfl; cases rflat ry rfl
      split at e
      · rename_i hl; cases e; exact ⟨_, _, if_pos hl, ri _⟩
      · cases e
    · cases e
  | pow =>
    simp only [binT] at e
    split at e
    · cases rflat rx rfl; cases rflat ry rfl
      split at e
      · rename_i hl; cases e; exact ⟨_, _, if_pos hl, ri _⟩
      · cases e
    · cases e
end
end MP

set_option Elab.async false
set_option linter.all false
set_option maxRecDepth 100000
/-! MP: built-ins, subscripts, targets of values. -/
namespace MP
open PySem L2
section
variable {TP : Tg0} {P : Pg} {F : List Nat} {M M' : Nat → Prop} {θ θ' : List Nat} {h h' : Hh} {s : Om} {t x y : T} {w wx wy : W} {ts : List T} {ws : List W}
theorem keys_ok : ∀ {kvs : List (Key × T)} {kws : List (Key × W)}, Rk M θ h kvs kws → Rl M θ h (kvs.map fun kv => tK kv.1) (kws.map fun kv => wK kv.1)
  | [], kws, r => by unfold Rk at r; subst r; exact rl_nil'
  | (k, t) :: kvs, kws, r => by
    unfold Rk at r
    obtain ⟨⟨k2, w⟩, u, rfl, a, b⟩ := r
    unfold Rkp at a
    obtain ⟨e, a⟩ := a
    simp only at e
    subst e
    exact rl_mk (tK_ok k) (keys_ok b)
theorem vals_ok : ∀ {kvs : List (Key × T)} {kws : List (Key × W)}, Rk M θ h kvs kws → Rl M θ h (kvs.map (·.2)) (kws.map (·.2))
  | [], kws, r => by unfold Rk at r; subst r; exact rl_nil'
  | (k, t) :: kvs, kws, r => by
    unfold Rk at r
    obtain ⟨⟨k2, w⟩, u, rfl, a, b⟩ := r
    unfold Rkp at a
    exact rl_mk a.2 (vals_ok b)
theorem sq_dic_none {n : Nat} {kws : List (Key × W)} (g : DicAt h n kws) : sq P h (.ref n) = none := by
  unfold sq
  rw [ob_dic' g]
theorem sortTo_ok (I : Ist F M θ s h) {o : Option (List Str)} (e : sortsT o = some t) {o' : Option (List Str)} (ho : ∀ xs, o = some xs → o' = some xs) {fr : Bool} : ∃ w h', sortTo o' h = .ok w h' ∧ Got F M θ h fr θ s h' t w := by
  unfold sortsT at e
  split at e
  · rename_i xs
    split at e
    · rename_i hl
      cases e
      refine ⟨_, _, ?_, Got.pushL I (strsR_map _)⟩
      rw [ho xs rfl]
      unfold sortTo
      simp only [if_pos hl]
    · cases e
  · cases e
theorem set_ok (I : Ist F M θ s h) (r : R0 M θ h x w) (e : setT x = some t) {fr : Bool} : ∃ w' h', setW P w h = .ok w' h' ∧ Got F M θ h fr θ s h' t w' := by
  unfold setT at e
  split at e
  · rename_i ts
    split at e
    · rename_i ys ey
      split at e
      · rename_i hl
        cases e
        obtain ⟨n, ws, rfl, _, g, q⟩ := r
        refine ⟨_, _, ?_, Got.pushL I (strsR_map _)⟩
        unfold setW
        simp only [ob_lst' g, strsT_ok q ey, if_pos hl]
      · cases e
    · cases e
  · cases e
theorem blt1_ok (hp : PP TP P) {lk : Bool} {f : BF} (I : Ist F M θ s h) (hF : lk = false → F = []) (r : R0 M θ h x w) (e : blt1T TP lk f x = some t) : ∃ w' h', blt1 P f w h = .ok w' h' ∧ Got F M θ h true θ s h' t w' := by
  have ri : ∀ (i : Int), Got F M θ h true θ s h (.int i) (.int i) := fun i => Got.same I (by unfold R; rfl) fun _ => rfl
  have rb : ∀ (i : Bool), Got F M θ h true θ s h (.bl i) (.bl i) := fun i => Got.same I (by unfold R; rfl) fun _ => rfl
  cases f with
  | len =>
    change ∃ w' h', lenW P w h = _ ∧ _
    cases x with
    | str z =>
      cases flT_ok r rfl
      have e : (if z.length ≤ lim then some (T.int z.length) else none) = some t := e
      split at e
      · rename_i hl
        cases e
        exact ⟨_, _, if_pos hl, ri _⟩
      · cases e
    | dic kvs =>
      have e : (if lk = true then none else some (T.int kvs.length)) = some t := e
      split at e
      · cases e
      · rename_i hl
        cases e
        obtain ⟨n, kws, rfl, _, g, q⟩ := r
        have g2 := dic_plain I (hF (by simpa using hl)) g
        refine ⟨_, _, ?_, ri _⟩
        unfold lenW
        simp only [g2]
        rw [(rk_prd.mp q).length]
    | st i =>
      obtain ⟨us, e1, rfl⟩ := Option.map_eq_some_iff.mp (show (sqT TP (.st i)).map (fun ts => T.int ts.length) = some t from e)
      obtain ⟨ws, e2, q⟩ := sq_ok hp r e1
      change R M θ h _ w at r; unfold R at r; subst r
      refine ⟨_, _, ?_, ri _⟩
      unfold lenW
      simp only [e2]
      rw [rl_len q]
    | tup us =>
      obtain ⟨us, e1, rfl⟩ := Option.map_eq_some_iff.mp (show (sqT TP (.tup us)).map (fun ts => T.int ts.length) = some t from e)
      obtain ⟨ws, e2, q⟩ := sq_ok hp r e1
      change R M θ h _ w at r; unfold R at r
      obtain ⟨n, ws', rfl, _, _, g, _⟩ := r
      refine ⟨_, _, ?_, ri _⟩
      unfold lenW
      simp only [g, e2]
      rw [rl_len q]
    | lst us =>
      obtain ⟨us, e1, rfl⟩ := Option.map_eq_some_iff.mp (show (sqT TP (.lst us)).map (fun ts => T.int ts.length) = some t from e)
      obtain ⟨ws, e2, q⟩ := sq_ok hp r e1
      obtain ⟨n, ws', rfl, _, g, _⟩ := r
      refine ⟨_, _, ?_, ri _⟩
      unfold lenW
      simp only [g, e2]
      rw [rl_len q]
    | _ => cases e
  | abs => cases x <;> first | (cases e; cases flT_ok r rfl; exact ⟨_, _, rfl, ri _⟩) | cases e
  | int => cases x <;> first | (cases e; cases flT_ok r rfl; exact ⟨_, _, rfl, ri _⟩) | cases e
  | all =>
    cases x with
    | lst us =>
      obtain ⟨bs, e1, rfl⟩ := Option.map_eq_some_iff.mp (show (blsT us).map (fun bs => T.bl (bs.all id)) = some t from e)
      obtain ⟨n, ws, rfl, _, g, q⟩ := r
      refine ⟨_, _, ?_, rb _⟩
      show (match boolsW P (.ref n) h with
        | some bs => Rs.ok (W.bl (bs.all id)) h
        | none => .no) = _
      unfold boolsW
      simp only [ob_lst' g, blsT_ok q e1]
    | _ => cases e
  | any =>
    cases x with
    | lst us =>
      obtain ⟨bs, e1, rfl⟩ := Option.map_eq_some_iff.mp (show (blsT us).map (fun bs => T.bl (bs.any id)) = some t from e)
      obtain ⟨n, ws, rfl, _, g, q⟩ := r
      refine ⟨_, _, ?_, rb _⟩
      show (match boolsW P (.ref n) h with
        | some bs => Rs.ok (W.bl (bs.any id)) h
        | none => .no) = _
      unfold boolsW
      simp only [ob_lst' g, blsT_ok q e1]
    | _ => cases e
  | sorted =>
    cases x with
    | lst us =>
      obtain ⟨n, ws, rfl, _, g, q⟩ := r
      obtain ⟨w', h', e2, g2⟩ := sortTo_ok (fr := true) I (show sortsT (strsT us) = some t from e) fun xs z => strsT_ok q z
      refine ⟨w', h', ?_, g2⟩
      rw [← e2]
      show sortedW P (.ref n) h = _
      unfold sortedW
      simp only [ob_lst' g]
    | dic kvs =>
      obtain ⟨n, ws, rfl, _, g, q⟩ := r
      obtain ⟨w', h', e2, g2⟩ := sortTo_ok (fr := true) I (show sortsT (strsT (kvs.map fun kv => tK kv.1)) = some t from e) fun xs z => strsT_ok (keys_ok q) z
      refine ⟨w', h', ?_, g2⟩
      rw [← e2]
      show sortedW P (.ref n) h = _
      unfold sortedW
      simp only [ob_dic' g]
    | _ => cases e
  | list =>
    have go : (sqT TP x).map T.lst = some t → ∃ w' h', listW P w h = .ok w' h' ∧ Got F M θ h true θ s h' t w' := by
      intro e
      obtain ⟨us, e1, rfl⟩ := Option.map_eq_some_iff.mp e
      obtain ⟨ws, e2, q⟩ := sq_ok hp r e1
      refine ⟨_, _, ?_, Got.pushL I q⟩
      unfold listW
      simp only [e2]
    cases x with
    | dic kvs =>
      cases e
      obtain ⟨n, ws, rfl, _, g, q⟩ := r
      refine ⟨_, _, ?_, Got.pushL I (keys_ok q)⟩
      show listW P (.ref n) h = _
      unfold listW
      simp only [sq_dic_none (P := P) g, ob_dic' g]
    | _ => exact go e
  | tuple =>
    cases x with
    | lst us =>
      cases e
      obtain ⟨n, ws, rfl, _, g, q⟩ := r
      refine ⟨_, _, ?_, Got.pushT I q⟩
      show tupleW P (.ref n) h = _
      unfold tupleW
      simp only [ob_lst' g]
    | tup us =>
      cases e
      have r0 := r
      change R M θ h _ w at r; unfold R at r
      obtain ⟨n, ws', rfl, _, _, g, _⟩ := r
      refine ⟨_, _, ?_, Got.same I r0 fun _ => rfl⟩
      show tupleW P (.ref n) h = _
      unfold tupleW
      simp only [ob_tup' g]
    | _ => cases e
  | max => cases e
  | min => cases e
theorem r0l_len {us : List T} {vs : List W} (r : Paired (R0 M θ h) us vs) : us.length = vs.length := r.length
theorem blt_ok (hp : PP TP P) {lk : Bool} {f : BF} {us : List T} {vs : List W} (I : Ist F M θ s h) (hF : lk = false → F = []) (r : Paired (R0 M θ h) us vs) (e : bltT TP lk f us = some t) : ∃ w' h', bltW P f vs h = .ok w' h' ∧ Got F M θ h true θ s h' t w' := by
  unfold bltT at e
  split at e
  · cases r with
    | cons a b => cases b; exact blt1_ok hp I hF a e
  · cases r with
    | cons a b =>
      cases b with
      | cons a2 b =>
        cases b
        unfold blt2T at e
        split at e
        · cases e; cases flT_ok a rfl; cases flT_ok a2 rfl; exact ⟨_, _, rfl, Got.same I (by unfold R; rfl) fun _ => rfl⟩
        · cases e; cases flT_ok a rfl; cases flT_ok a2 rfl; exact ⟨_, _, rfl, Got.same I (by unfold R; rfl) fun _ => rfl⟩
        · cases e
  · cases e
/-! ### subscripts -/
theorem rl_get {i : Nat} {z : T} : ∀ {ts : List T} {ws : List W}, Rl M θ h ts ws → ts[i]? = some z → ∃ u, ws[i]? = some u ∧ R M θ h z u := fun r e => prd_get (rl_prd.mp r) e
theorem rl_getN {i : Nat} {ts : List T} {ws : List W} (r : Rl M θ h ts ws) (e : ts[i]? = none) : ws[i]? = none := by
  rw [List.getElem?_eq_none_iff] at e ⊢
  rw [← rl_len r]; exact e
theorem at_ok {i : Int} (r : Rl M θ h ts ws) (e : atI ts i = some t) : ∃ u, atI ws i = some u ∧ R M θ h t u := by
  unfold atI at e ⊢
  rw [← rl_len r]
  obtain ⟨j, e1, e2⟩ := Option.bind_eq_some_iff.mp e
  obtain ⟨u, e3, q⟩ := rl_get r e2
  exact ⟨u, by rw [e1]; exact e3, q⟩
theorem sqIx_ok (rl : Rl M θ h ts ws) (ry : R0 M θ h y wy) (e : sqIxT ts y = some t) : ∃ u, sqIx ws wy = some u ∧ R M θ h t u := by
  cases y <;> first | (cases flT_ok ry rfl; exact at_ok rl e) | cases e
theorem idx_ok (hp : PP TP P) (rx : R0 M θ h x wx) (ry : R0 M θ h y wy) (e : idxT TP x y = some t) : ∃ u, idxW P wx wy h = some u ∧ R M θ h t u := by
  cases x with
  | str z =>
    cases flT_ok rx rfl
    cases y with
    | int i =>
      cases flT_ok ry rfl
      have e : (if z.length ≤ lim then (atI z.cps.toList i).map (fun c => T.str ⟨#[c]⟩) else none) = some t := e
      split at e
      · rename_i hl
        obtain ⟨c, e1, rfl⟩ := Option.map_eq_some_iff.mp e
        refine ⟨.str ⟨#[c]⟩, ?_, by unfold R; rfl⟩
        show stIx z (.int i) = _
        unfold stIx
        simp only [if_pos hl, e1, Option.map_some]
      · cases e
    | _ => cases e
  | dic kvs =>
    obtain ⟨k, e1, e2⟩ := Option.bind_eq_some_iff.mp (show (keyT y).bind (getT kvs) = some t from e)
    obtain ⟨n, kws, rfl, _, g, q⟩ := rx
    have := get_ok k q
    rw [e2] at this
    cases e3 : getK kws k with
    | none => rw [e3] at this; exact this.elim
    | some u =>
      rw [e3] at this
      refine ⟨u, ?_, this⟩
      unfold idxW
      simp only [ob_dic' g]
      show (keyW wy).bind (getK kws) = _
      rw [keyT_ok ry e1]
      exact e3
  | st i =>
    have rx0 := rx
    change R M θ h _ wx at rx; unfold R at rx; subst rx
    have e : (match (generalizing := false) P.so i with
      | some (.dic kvs) => (match (generalizing := false) y with
        | .str z => (getK kvs (.inr z)).bind wT
        | _ => none)
      | _ => (sqT TP (.st i)).bind (sqIxT · y)) = some t := by rw [← hp.so]; exact e
    show ∃ u, (match (generalizing := false) P.so i with
      | some (.dic kvs) => sdIx kvs wy
      | _ => (sq P h (.st i)).bind (sqIx · wy)) = some u ∧ _
    have go : (sqT TP (.st i)).bind (sqIxT · y) = some t → ∃ u, (sq P h (.st i)).bind (sqIx · wy) = some u ∧ R M θ h t u := by
      intro e
      obtain ⟨us, e1, e2⟩ := Option.bind_eq_some_iff.mp e
      obtain ⟨vs, e3, q⟩ := sq_ok hp rx0 e1
      obtain ⟨u, e4, r⟩ := sqIx_ok q ry e2
      exact ⟨u, by rw [e3]; exact e4, r⟩
    cases q0 : P.so i with
    | none => simp only [q0] at e ⊢; exact go e
    | some o =>
      simp only [q0] at e ⊢
      cases o with
      | dic kvs =>
        cases y with
        | str z =>
          cases flT_ok ry rfl
          obtain ⟨u, e1, e2⟩ := Option.bind_eq_some_iff.mp (show (getK kvs (.inr z)).bind wT = some t from e)
          exact ⟨u, e1, wT_ok e2⟩
        | _ => cases e
      | _ => exact go e
  | tup us =>
    obtain ⟨us', e1, e2⟩ := Option.bind_eq_some_iff.mp (show (sqT TP (.tup us)).bind (sqIxT · y) = some t from e)
    obtain ⟨vs, e3, q⟩ := sq_ok hp rx e1
    obtain ⟨u, e4, r⟩ := sqIx_ok q ry e2
    change R M θ h _ wx at rx; unfold R at rx
    obtain ⟨n, ws', rfl, _, _, g, _⟩ := rx
    refine ⟨u, ?_, r⟩
    unfold idxW
    simp only [ob_tup' g, e3]
    exact e4
  | lst us =>
    obtain ⟨us', e1, e2⟩ := Option.bind_eq_some_iff.mp (show (sqT TP (.lst us)).bind (sqIxT · y) = some t from e)
    obtain ⟨vs, e3, q⟩ := sq_ok hp rx e1
    obtain ⟨u, e4, r⟩ := sqIx_ok q ry e2
    obtain ⟨n, ws', rfl, _, g, _⟩ := rx
    refine ⟨u, ?_, r⟩
    unfold idxW
    simp only [ob_lst' g, e3]
    exact e4
  | _ => cases e
theorem cut_rl {lo hi : Option Int} (r : Rl M θ h ts ws) : Rl M θ h (cutT ts lo hi) (cutW ws lo hi) := by
  unfold cutT cutW
  rw [rl_len r]
  exact rl_prd.mpr (prd_take _ (prd_drop _ (rl_prd.mp r)))
theorem cut_all {lo hi : Option Int} (h1 : HT.sIx ts.length 0 lo = 0) (h2 : HT.sIx ts.length ts.length hi = ts.length) : cutT ts lo hi = ts := by
  unfold cutT
  rw [h1, h2]
  simp
theorem slc_ok {lo hi : Option Int} (I : Ist F M θ s h) (rx : R0 M θ h x wx) (e : slcT x lo hi = some t) : ∃ u h', slcW P wx lo hi h = .ok u h' ∧ Got F M θ h true θ s h' t u := by
  cases x with
  | str z =>
    cases flT_ok rx rfl
    have e : (if z.length ≤ lim then some (T.str (cutS z lo hi)) else none) = some t := e
    split at e
    · rename_i hl
      cases e
      exact ⟨_, _, if_pos hl, Got.same I (by unfold R; rfl) fun _ => rfl⟩
    · cases e
  | lst us =>
    cases e
    obtain ⟨n, ws, rfl, _, g, q⟩ := rx
    refine ⟨_, _, ?_, Got.pushL I (cut_rl q)⟩
    unfold slcW
    simp only [ob_lst' g]
  | tup us =>
    cases e
    have rx0 := rx
    change R M θ h _ wx at rx; unfold R at rx
    obtain ⟨n, ws, rfl, _, _, g, q⟩ := rx
    have eq : slcW P (.ref n) lo hi h = if HT.sIx ws.length 0 lo = 0 ∧ HT.sIx ws.length ws.length hi = ws.length then .ok (.ref n) h else .ok (.ref h.sz) (h.push (.tup (cutW ws lo hi))) := by
      unfold slcW
      simp only [ob_tup' g]
    rw [eq]
    by_cases hc : HT.sIx ws.length 0 lo = 0 ∧ HT.sIx ws.length ws.length hi = ws.length
    · rw [if_pos hc]
      rw [cut_all (by rw [rl_len q]; exact hc.1) (by rw [rl_len q]; exact hc.2)]
      exact ⟨_, _, rfl, Got.same I rx0 fun _ => rfl⟩
    · rw [if_neg hc]
      exact ⟨_, _, rfl, Got.pushT I (cut_rl q)⟩
  | _ => cases e
theorem star_ok (hp : PP TP P) (rx : R0 M θ h x wx) (e : starT TP x = some ts) : ∃ us, starW P wx h = some us ∧ Rl M θ h ts us := by
  cases x with
  | dic kvs =>
    cases e
    obtain ⟨n, ws, rfl, _, g, q⟩ := rx
    refine ⟨_, ?_, keys_ok q⟩
    unfold starW
    simp only [sq_dic_none (P := P) g, ob_dic' g]
  | _ =>
    obtain ⟨us, e1, q⟩ := sq_ok hp rx e
    exact ⟨us, by unfold starW; simp only [e1], q⟩
theorem ty_ok {τ : Ty} (I : Ist F M θ s h) (rx : R0 M θ h x wx) (e : tyT s x = some τ) : tyW h wx = some τ := by
  cases x with
  | lst us => cases e; obtain ⟨n, ws, rfl, _, g, q⟩ := rx; unfold tyW; simp only [g, tyO]
  | dic us =>
    cases e
    obtain ⟨n, ws, rfl, _, g, q⟩ := rx
    unfold tyW
    rcases g with g | g <;> simp only [g, tyO]
  | tup us => cases e; change R M θ h _ wx at rx; unfold R at rx; obtain ⟨n, ws, rfl, _, _, g, q⟩ := rx; unfold tyW; simp only [g, tyO]
  | ob k =>
    change R M θ h _ wx at rx; unfold R at rx
    obtain ⟨n, rfl, e1⟩ := rx
    have e : (match (generalizing := false) s[k]? with
      | some (.ins c _) => some (Ty.own c)
      | _ => none) = some τ := e
    cases q : s[k]? with
    | none => rw [q] at e; cases e
    | some ob =>
      rw [q] at e
      cases ob with
      | ins c fs =>
        cases e
        obtain ⟨m, e2, ws, g, _⟩ := I.at_ k _ q
        rw [e1] at e2
        cases e2
        unfold tyW
        simp only [g, tyO]
      | _ => cases e
  | st i => cases e
  | exn _ _ => cases e
  | _ => cases e; cases flT_ok rx rfl; rfl
/-! ### names -/
/-- O: what the names own -/
structure SE (O : List Nat) (M : Nat → Prop) (θ : List Nat) (h : Hh) (τ : Tl) (σ : Sl) : Prop where
  len : τ.length = σ.length
  at_ : ∀ (i : Nat) (v : Sv), τ[i]? = some (some v) → ∃ w, σ[i]? = some (some w) ∧ R0 M θ h v.v w ∧ (v.own = false → R M θ h v.v w) ∧ (v.own = true → ∃ n ∈ O, w = .ref n)
  sub : ∀ n ∈ O, M n
variable {Ow : List Nat}
theorem SE.go {τ : Tl} {σ : Sl} (S : SE Ow M θ h τ σ) (a : Stp θ h θ' h' []) (hm : ∀ n, n < h.sz → M' n → M n) (hs : ∀ n ∈ Ow, M' n) : SE Ow M' θ' h' τ σ :=
  ⟨S.len, fun i v e => let ⟨w, e1, r, q, o⟩ := S.at_ i v e; ⟨w, e1, r.go a hm, fun z => (q z).mono (a.mono (fun n z => nomatch z) hm), o⟩, hs⟩
theorem SE.step {τ : Tl} {σ : Sl} (S : SE Ow M θ h τ σ) (a : Stp θ h θ' h' []) : SE Ow M θ' h' τ σ := S.go a (fun _ _ z => z) S.sub
theorem SE.set {τ : Tl} {σ : Sl} (S : SE Ow M θ h τ σ) (i : Nat) {t : T} {w : W} (r : R M θ h t w) : SE Ow M θ h (τ.set i (some ⟨t, false⟩)) (σ.set i (some w)) := by
  refine ⟨by rw [List.length_set, List.length_set]; exact S.len, fun j v e => ?_, S.sub⟩
  rw [List.getElem?_set] at e
  split at e
  · rename_i hj
    subst hj
    split at e
    · rename_i hl
      cases e
      exact ⟨w, by rw [List.getElem?_set, if_pos rfl, if_pos (by rw [← S.len]; exact hl)], r.r0, fun _ => r, fun z => nomatch z⟩
    · cases e
  · rename_i hj
    obtain ⟨w', e1, q⟩ := S.at_ j v e
    exact ⟨w', by rw [List.getElem?_set, if_neg hj]; exact e1, q⟩
theorem SE.clr {τ : Tl} {σ : Sl} (S : SE Ow M θ h τ σ) (i : Nat) : SE Ow M θ h (τ.set i none) (σ.set i none) := by
  refine ⟨by rw [List.length_set, List.length_set]; exact S.len, fun j v e => ?_, S.sub⟩
  rw [List.getElem?_set] at e
  split at e
  · split at e <;> cases e
  · rename_i hj
    obtain ⟨w', e1, q⟩ := S.at_ j v e
    exact ⟨w', by rw [List.getElem?_set, if_neg hj]; exact e1, q⟩
theorem SE.wipe {τ : Tl} {σ : Sl} (S : SE Ow M θ h τ σ) : ∀ l : List Nat, SE Ow M θ h (wipeT τ l) (wipeW σ l)
  | [] => S
  | v :: vs => (SE.wipe S vs).clr v
mutual
theorem stT_ok (hp : PP TP P) : ∀ (g : Tg) {t : T} {w : W} {τ τ' : Tl} {σ : Sl}, SE Ow M θ h τ σ → R M θ h t w → stTT TP g t τ = some τ' → ∃ σ', stT P g w σ h = some σ' ∧ SE Ow M θ h τ' σ'
  | .nm i, t, w, τ, τ', σ, S, r, e => by
    unfold stTT at e
    cases e
    exact ⟨σ.set i (some w), by unfold stT; rfl, S.set i r⟩
  | .tup gs, t, w, τ, τ', σ, S, r, e => by
    unfold stTT at e
    cases q : sqT TP t with
    | none => rw [q] at e; cases e
    | some ts =>
      rw [q] at e
      simp only at e
      split at e
      · rename_i hl
        obtain ⟨ws, e1, rl⟩ := sq_ok hp r.r0 q
        obtain ⟨σ', e2, S'⟩ := stTs_ok hp gs S rl e
        refine ⟨σ', ?_, S'⟩
        unfold stT
        simp only [e1]
        rw [if_pos (by rw [← rl_len rl]; exact hl)]
        exact e2
      · cases e
theorem stTs_ok (hp : PP TP P) : ∀ (gs : List Tg) {ts : List T} {ws : List W} {τ τ' : Tl} {σ : Sl}, SE Ow M θ h τ σ → Rl M θ h ts ws → stTTs TP gs ts τ = some τ' → ∃ σ', stTs P gs ws σ h = some σ' ∧ SE Ow M θ h τ' σ'
  | [], [], ws, τ, τ', σ, S, r, e => by
    unfold stTTs at e
    cases e
    rw [rl_nil r]
    exact ⟨σ, by unfold stTs; rfl, S⟩
  | g :: gs, t :: ts, ws, τ, τ', σ, S, r, e => by
    obtain ⟨w, u, rfl, a, b⟩ := rl_cons r
    unfold stTTs at e
    obtain ⟨τ1, e1, e2⟩ := Option.bind_eq_some_iff.mp e
    obtain ⟨σ1, e3, S1⟩ := stT_ok hp g S a e1
    obtain ⟨σ2, e4, S2⟩ := stTs_ok hp gs S1 b e2
    exact ⟨σ2, by unfold stTs; rw [e3]; exact e4, S2⟩
  | [], _ :: _, _, _, _, _, _, _, e => by unfold stTTs at e; cases e
  | _ :: _, [], _, _, _, _, _, _, e => by unfold stTTs at e; cases e
end
end
end MP

set_option Elab.async false
set_option linter.all false
set_option maxRecDepth 100000
/-! MP: what is walked, as values. -/
namespace MP
open PySem L2
def sqO (tb : Bool) (ws : List W) : O := if tb = true then .tup ws else .lst ws
/-- a container, unlocked -/
def IkR (P : Pg) (bo : Bool) (M : Nat → Prop) (θ : List Nat) (h : Hh) : Ik → List T × Bool → Prop
  | .sq tb w, xs => xs.2 = false ∧ ((∃ n ws, w = .ref n ∧ n ∉ θ ∧ (bo = false → ¬ M n) ∧ h.get n = some (sqO tb ws) ∧ Rl M θ h xs.1 ws) ∨ ∃ i ws, w = .st i ∧ sqB P h tb (.st i) = some ws ∧ Rl M θ h xs.1 ws)
  | .st x, xs => xs = (x.cps.toList.map fun c => .str ⟨#[c]⟩, false)
  | .rng lo n, xs => xs = (rngT lo 0 n, false)
  | .enum w, xs => xs.2 = false ∧ ∃ ts, xs.1 = zipN 0 ts ∧ ((∃ n ws, w = .ref n ∧ n ∉ θ ∧ (bo = false → ¬ M n) ∧ h.get n = some (sqO false ws) ∧ Rl M θ h ts ws) ∨ ∃ i ws, w = .st i ∧ sqB P h false (.st i) = some ws ∧ Rl M θ h ts ws)
  | .keys n, xs => xs.2 = true ∧ ∃ kvs ws, n ∉ θ ∧ (bo = false → ¬ M n) ∧ h.get n = some (.dic ws) ∧ Rk M θ h kvs ws ∧ xs.1 = kvs.map fun kv => tK kv.1
  | .vals n, xs => xs.2 = true ∧ ∃ kvs ws, n ∉ θ ∧ (bo = false → ¬ M n) ∧ h.get n = some (.dic ws) ∧ Rk M θ h kvs ws ∧ xs.1 = kvs.map (·.2)
  | .items n, xs => xs.2 = true ∧ ∃ kvs ws, n ∉ θ ∧ (bo = false → ¬ M n) ∧ h.get n = some (.dic ws) ∧ Rk M θ h kvs ws ∧ xs.1 = kvs.map fun kv => .tup [tK kv.1, kv.2]
  | .zip _ _, _ => False
/-- a container, locked, not among D -/
def IkL (P : Pg) (D : List Nat) (M : Nat → Prop) (θ : List Nat) (h : Hh) : Ik → List T → Prop
  | .sq tb w, xs => (∃ n ws, w = .ref n ∧ n ∉ θ ∧ n ∉ D ∧ h.get n = some (sqO tb ws) ∧ Rl M θ h xs ws) ∨ ∃ i ws, w = .st i ∧ sqB P h tb (.st i) = some ws ∧ Rl M θ h xs ws
  | .st x, xs => xs = x.cps.toList.map fun c => .str ⟨#[c]⟩
  | .rng lo n, xs => xs = rngT lo 0 n
  | .enum w, xs => ∃ ts, xs = zipN 0 ts ∧ ((∃ n ws, w = .ref n ∧ n ∉ θ ∧ n ∉ D ∧ h.get n = some (sqO false ws) ∧ Rl M θ h ts ws) ∨ ∃ i ws, w = .st i ∧ sqB P h false (.st i) = some ws ∧ Rl M θ h ts ws)
  | .keys n, xs => ∃ kvs ws, n ∉ θ ∧ n ∉ D ∧ h.get n = some (.frz (.dic ws)) ∧ Rk M θ h kvs ws ∧ xs = kvs.map fun kv => tK kv.1
  | .vals n, xs => ∃ kvs ws, n ∉ θ ∧ n ∉ D ∧ h.get n = some (.frz (.dic ws)) ∧ Rk M θ h kvs ws ∧ xs = kvs.map (·.2)
  | .items n, xs => ∃ kvs ws, n ∉ θ ∧ n ∉ D ∧ h.get n = some (.frz (.dic ws)) ∧ Rk M θ h kvs ws ∧ xs = kvs.map fun kv => .tup [tK kv.1, kv.2]
  | .zip _ _, _ => False
section
variable {TP : Tg0} {P : Pg} {F : List Nat} {M M' M2 : Nat → Prop} {θ θ' θ2 D : List Nat} {h h' h2 : Hh} {s s2 : Om} {t x y : T} {w wx wy : W} {ts : List T} {ws : List W} {bo lk : Bool} {xs : List T × Bool}
theorem sqB_ref {tb : Bool} {n : Nat} (g : h.get n = some (sqO tb ws)) : sqB P h tb (.ref n) = some ws := by
  unfold sqB
  cases tb with
  | false => have g' : h.get n = some (.lst ws) := g; rw [ob_lst' g']
  | true => have g' : h.get n = some (.tup ws) := g; rw [ob_tup' g']
theorem seqB_tup {n : Nat} (g : h.get n = some (.tup ws)) : seqB P (.ref n) h = some (.sq true (.ref n)) := by
  unfold seqB
  have e1 : sqB P h false (.ref n) = none := by unfold sqB; rw [ob_tup' g]
  have e2 : sqB P h true (.ref n) = some ws := sqB_ref (tb := true) g
  rw [e1, e2]
  rfl
theorem seqB_lst {n : Nat} (g : h.get n = some (.lst ws)) : seqB P (.ref n) h = some (.sq false (.ref n)) := by
  unfold seqB
  have e2 : sqB P h false (.ref n) = some ws := sqB_ref (tb := false) g
  rw [e2]
  rfl
theorem rm_top {n : Nat} (hn : Rm bo M θ h (.lst ts) (.ref n)) : bo = false → ¬ M n := by
  intro hb
  unfold Rm at hn
  rw [if_neg (by rw [hb]; simp)] at hn
  unfold R at hn
  obtain ⟨m, ws, e, h1, _⟩ := hn
  cases e
  exact h1
theorem rm_topD {n : Nat} {kvs : List (Key × T)} (hn : Rm bo M θ h (.dic kvs) (.ref n)) : bo = false → ¬ M n := by
  intro hb
  unfold Rm at hn
  rw [if_neg (by rw [hb]; simp)] at hn
  unfold R at hn
  obtain ⟨m, ws, e, h1, _⟩ := hn
  cases e
  exact h1
theorem st_sq (hp : PP TP P) {i : Nat} {us : List T} (e : soT TP i = some (.tup us) ∨ soT TP i = some (.lst us)) : (∃ ws, soT TP i = some (.tup us) ∧ sqB P h true (.st i) = some ws ∧ sqB P h false (.st i) = none ∧ Rl M θ h us ws) ∨ ∃ ws, soT TP i = some (.lst us) ∧ sqB P h false (.st i) = some ws ∧ Rl M θ h us ws := by
  have eo : ob P h (.st i) = P.so i := rfl
  have hs : soT TP i = match (generalizing := false) P.so i with
      | some (.tup ws) => (wTs ws).map T.tup
      | some (.rol ws) => (wTs ws).map .lst
      | _ => none := by rw [← hp.so]; rfl
  rw [hs] at e ⊢
  cases q : P.so i with
  | none => simp only [q] at e; rcases e with e | e <;> cases e
  | some o =>
    simp only [q] at e ⊢
    cases o with
    | tup ws =>
      cases q2 : wTs ws with
      | none => simp [q2] at e
      | some vs =>
        simp [q2] at e
        subst e
        exact .inl ⟨ws, by simp [q2], by unfold sqB; rw [eo, q], by unfold sqB; rw [eo, q], wTs_ok q2⟩
    | rol ws =>
      cases q2 : wTs ws with
      | none => simp [q2] at e
      | some vs =>
        simp [q2] at e
        subst e
        exact .inr ⟨ws, by simp [q2], by unfold sqB; rw [eo, q], wTs_ok q2⟩
    | _ => rcases e with e | e <;> cases e
theorem seq_ok (hp : PP TP P) (I : Ist F M θ s h) (hF : lk = false → F = []) (r : Rm bo M θ h t w) (e : seqT TP lk t = some xs) : ∃ κ, seqK P w h = some κ ∧ IkR P bo M θ h κ xs := by
  cases t with
  | str z =>
    cases flT_ok r.r0 rfl
    cases e
    exact ⟨_, rfl, rfl⟩
  | dic kvs =>
    have e : (if lk = true then none else some (kvs.map (fun kv => tK kv.1), true)) = some xs := e
    split at e
    · cases e
    · rename_i hl
      cases e
      obtain ⟨n, ws, rfl, h1, g, q⟩ := r.r0
      have g2 := dic_plain I (hF (by simpa using hl)) g
      refine ⟨.keys n, ?_, rfl, kvs, ws, h1, rm_topD r, g2, q, rfl⟩
      show (if isDic (h.get n) = true then some (Ik.keys n) else seqB P (.ref n) h) = _
      rw [g2]
      rfl
  | tup us =>
    cases e
    have r1 := r.r0
    change R M θ h _ w at r1; unfold R at r1
    obtain ⟨n, ws, rfl, h0, h1, g, q⟩ := r1
    refine ⟨.sq true (.ref n), ?_, rfl, .inl ⟨n, ws, rfl, h1, fun _ => h0, g, q⟩⟩
    show (if isDic (h.get n) = true then some (Ik.keys n) else seqB P (.ref n) h) = _
    rw [g, seqB_tup g]
    rfl
  | lst us =>
    cases e
    obtain ⟨n, ws, rfl, h1, g, q⟩ := r.r0
    refine ⟨.sq false (.ref n), ?_, rfl, .inl ⟨n, ws, rfl, h1, rm_top r, g, q⟩⟩
    show (if isDic (h.get n) = true then some (Ik.keys n) else seqB P (.ref n) h) = _
    rw [g, seqB_lst g]
    rfl
  | st i =>
    have e : (sqT TP (.st i)).map (fun ts => (ts, false)) = some xs := e
    obtain ⟨us, e1, rfl⟩ := Option.map_eq_some_iff.mp e
    have r1 := r.r0
    change R M θ h _ w at r1; unfold R at r1; subst r1
    have e2 : soT TP i = some (.tup us) ∨ soT TP i = some (.lst us) := by
      unfold sqT at e1
      simp only at e1
      split at e1
      · cases e1; left; assumption
      · cases e1; right; assumption
      · cases e1
    rcases st_sq (M := M) (θ := θ) (h := h) hp e2 with ⟨ws, _, e3, e4, q⟩ | ⟨ws, _, e3, q⟩
    · refine ⟨.sq true (.st i), ?_, rfl, .inr ⟨i, ws, rfl, e3, q⟩⟩
      show seqB P (.st i) h = _
      unfold seqB
      rw [e4, e3]
      rfl
    · refine ⟨.sq false (.st i), ?_, rfl, .inr ⟨i, ws, rfl, e3, q⟩⟩
      show seqB P (.st i) h = _
      unfold seqB
      rw [e3]
      rfl
  | _ => cases e
theorem enum_ok (hp : PP TP P) (r : Rm bo M θ h t w) (e : enumT TP t = some xs) : ∃ κ, enumK P w h = some κ ∧ IkR P bo M θ h κ xs := by
  cases t with
  | lst us =>
    cases e
    obtain ⟨n, ws, rfl, h1, g, q⟩ := r.r0
    refine ⟨.enum (.ref n), ?_, rfl, us, rfl, .inl ⟨n, ws, rfl, h1, rm_top r, g, q⟩⟩
    unfold enumK
    rw [sqB_ref (tb := false) g]
    rfl
  | st i =>
    have r1 := r.r0
    change R M θ h _ w at r1; unfold R at r1; subst r1
    unfold enumT at e
    simp only at e
    split at e
    · rename_i us e1
      cases e
      rcases st_sq (M := M) (θ := θ) (h := h) hp (.inr e1) with ⟨ws, z, _⟩ | ⟨ws, _, e3, q⟩
      · rw [e1] at z; cases z
      · refine ⟨.enum (.st i), ?_, rfl, us, rfl, .inr ⟨i, ws, rfl, e3, q⟩⟩
        unfold enumK
        rw [e3]
        rfl
    · cases e
  | _ => cases e
theorem items_ok (I : Ist F M θ s h) (hF : lk = false → F = []) (r : Rm bo M θ h t w) (e : itemsT lk t = some xs) : ∃ κ, refK .items w h = some κ ∧ IkR P bo M θ h κ xs := by
  cases t with
  | dic kvs =>
    have e : (if lk = true then none else some (kvs.map (fun kv => T.tup [tK kv.1, kv.2]), true)) = some xs := e
    split at e
    · cases e
    · rename_i hl
      cases e
      obtain ⟨n, ws, rfl, h1, g, q⟩ := r.r0
      have g2 := dic_plain I (hF (by simpa using hl)) g
      refine ⟨.items n, ?_, rfl, kvs, ws, h1, rm_topD r, g2, q, rfl⟩
      show (if isDic (h.get n) = true then some (Ik.items n) else none) = _
      rw [g2]
      rfl
  | _ => cases e
theorem valsI_ok (I : Ist F M θ s h) (hF : lk = false → F = []) (r : Rm bo M θ h t w) (e : valsT lk t = some xs) : ∃ κ, refK .vals w h = some κ ∧ IkR P bo M θ h κ xs := by
  cases t with
  | dic kvs =>
    have e : (if lk = true then none else some (kvs.map (fun kv => kv.2), true)) = some xs := e
    split at e
    · cases e
    · rename_i hl
      cases e
      obtain ⟨n, ws, rfl, h1, g, q⟩ := r.r0
      have g2 := dic_plain I (hF (by simpa using hl)) g
      refine ⟨.vals n, ?_, rfl, kvs, ws, h1, rm_topD r, g2, q, rfl⟩
      show (if isDic (h.get n) = true then some (Ik.vals n) else none) = _
      rw [g2]
      rfl
  | _ => cases e
theorem rng1_ok (r : R0 M θ h t w) (e : rng1 t = some xs) : ∃ κ, rngK w = some κ ∧ IkR P bo M θ h κ xs := by
  cases t <;> try (cases e)
  rename_i n
  cases flT_ok r rfl
  have e : (if -1000000 ≤ n ∧ n ≤ 1000000 then some (rngT 0 0 n.toNat, false) else none) = some xs := e
  split at e
  · rename_i hl
    cases e
    exact ⟨.rng 0 n.toNat, if_pos hl, rfl⟩
  · cases e
theorem rng2_ok (rx : R0 M θ h x wx) (ry : R0 M θ h y wy) (e : rng2 x y = some xs) : ∃ κ, rngK2 wx wy = some κ ∧ IkR P bo M θ h κ xs := by
  unfold rng2 at e
  split at e
  · rename_i lo n
    cases flT_ok rx rfl
    cases flT_ok ry rfl
    split at e
    · rename_i hl
      cases e
      exact ⟨.rng lo (n - lo).toNat, if_pos hl, rfl⟩
    · cases e
  · cases e
/-! ### locks -/
structure Lkd (P : Pg) (D : List Nat) (F : List Nat) (M : Nat → Prop) (θ : List Nat) (s : Om) (h : Hh) (κ : Ik) (xs : List T) (F' : List Nat) (h2 : Hh) : Prop where
  lock : lockR κ h = .ok κ h2
  ist : Ist F' M θ s h2
  ikl : IkL P D M θ h2 κ xs
  sz : h2.sz = h.sz
  fx : ∀ n ∈ F', n ∈ F ∨ (n < h.sz ∧ n ∉ D)
  same : ∀ n o, h.get n = some o → n ∉ θ → Same o (h2.get n)
  stay : ∀ n ∈ D, h2.get n = h.get n
  un : ∀ {M4 : Nat → Prop} {θ4 : List Nat} {s4 : Om} {h4 : Hh}, Stp θ h2 θ4 h4 D → Ist F' M4 θ4 s4 h4 → ∃ h5, unlockK κ h4 = some h5 ∧ Stp θ h θ4 h5 D ∧ Ist F M4 θ4 s4 h5 ∧ h5.sz = h4.sz ∧
    (∀ n o, h4.get n = some o → Same o (h5.get n)) ∧ ∀ n o, h4.get n = some o → (∀ x, o ≠ .frz x) → h5.get n = some o
theorem mono_same (hs : ∀ n o, h.get n = some o → n ∉ θ → Same o (h2.get n)) : Mono M θ h M θ h2 := ⟨fun n o e h1 h2 => ⟨h1, h2, hs n o e h2⟩, fun _ _ e => e⟩
theorem R0.same (hs : ∀ n o, h.get n = some o → n ∉ θ → Same o (h2.get n)) : ∀ {t : T} {w : W}, R0 M θ h t w → R0 M θ h2 t w
  | .lst ts, w, r => by
    obtain ⟨n, ws, e, h1, g, q⟩ := r
    exact ⟨n, ws, e, h1, same_eq (hs n _ g h1) fun ws => ⟨by simp, by simp⟩, q.mono (mono_same hs)⟩
  | .dic ts, w, r => by
    obtain ⟨n, ws, e, h1, g, q⟩ := r
    exact ⟨n, ws, e, h1, by
      rcases g with g | g
      · exact same_dic (h := h) (n := n) (hs n _ g h1) (.inl rfl)
      · exact same_dic (h := h) (n := n) (hs n _ g h1) (.inr rfl), q.mono (mono_same hs)⟩
  | .non, _, r => r
  | .bl _, _, r => r
  | .int _, _, r => r
  | .str _, _, r => r
  | .st _, _, r => r
  | .tup _, _, r => R.mono (mono_same hs) r
  | .ob _, _, r => R.mono (mono_same hs) r
  | .exn _ _, _, r => R.mono (mono_same hs) r
theorem SE.same {Ow : List Nat} {τ : Tl} {σ : Sl} (S : SE Ow M θ h τ σ) (hs : ∀ n o, h.get n = some o → n ∉ θ → Same o (h2.get n)) : SE Ow M θ h2 τ σ :=
  ⟨S.len, fun i v e => let ⟨w, e1, r, q, o⟩ := S.at_ i v e; ⟨w, e1, r.same hs, fun z => (q z).mono (mono_same hs), o⟩, S.sub⟩
theorem lkd_flat {κ : Ik} {us : List T} (I : Ist F M θ s h) (hk : κ.isD = none) (hl : IkL P D M θ h κ us) : Lkd P D F M θ s h κ us F h where
  lock := by unfold lockR lockK; simp only [hk]
  ist := I
  ikl := hl
  sz := rfl
  fx := fun n z => .inl z
  same := fun n o e _ => .inl e
  stay := fun n _ => rfl
  un := fun {M4 θ4 s4 h4} a b => ⟨h4, by unfold unlockK; simp only [hk], a, b, rfl, fun n o e => .inl e, fun n o e _ => e⟩
theorem lkd_dic {κ : Ik} {us : List T} (I : Ist F M θ s h) {n : Nat} {ws : List (Key × W)} (hk : κ.isD = some n) (h1 : n ∉ θ) (hD : n ∉ D) (g : h.get n = some (.dic ws)) (hl : IkL P D M θ (h.set n (.frz (.dic ws))) κ us) :
    Lkd P D F M θ s h κ us (n :: F) (h.set n (.frz (.dic ws))) where
  lock := by unfold lockR lockK; simp only [hk, g]
  ist := by
    have hlt := Hh.get_lt g
    refine I.go (D := n :: F) (mono_same fun m o e _ => ?_) (fun m hm => ?_) I.mt (fun m z => I.lt m z) fun m o e => ?_
    · rw [Hh.get_set hlt]
      split
      · rename_i z
        rw [z, g] at e
        cases e
        exact .inr ⟨ws, .inl rfl, .inr rfl⟩
      · exact .inl e
    · rw [Hh.get_set hlt, if_neg (fun z => h1 (by rw [← z]; exact hm))]
    · rw [Hh.get_set hlt] at e
      split at e
      · rename_i z
        rw [z]
        exact List.mem_cons_self
      · exact List.mem_cons_of_mem _ (I.fz m o e)
  ikl := hl
  sz := rfl
  fx := fun m z => by
    rcases List.mem_cons.mp z with z | z
    · rw [z]; exact .inr ⟨Hh.get_lt g, hD⟩
    · exact .inl z
  same := fun m o e _ => by
    rw [Hh.get_set (Hh.get_lt g)]
    split
    · rename_i z
      rw [z, g] at e
      cases e
      exact .inr ⟨ws, .inl rfl, .inr rfl⟩
    · exact .inl e
  stay := fun m hm => by
    rw [Hh.get_set (Hh.get_lt g), if_neg (fun z => hD (by rw [← z]; exact hm))]
  un := fun {M4 θ4 s4 h4} a b => by
    have hlt := Hh.get_lt g
    have g2 : (h.set n (.frz (.dic ws))).get n = some (.frz (.dic ws)) := by rw [Hh.get_set hlt, if_pos rfl]
    have g4 := a.ext n _ g2 h1 hD
    have hlt4 := Hh.get_lt g4
    have n4 : n ∉ θ4 := fun z => by
      rcases a.new n z with q | q
      · exact h1 q
      · have : h.sz ≤ n := q; omega
    have hs : ∀ m o, h4.get m = some o → Same o ((h4.set n (.dic ws)).get m) := fun m o e => by
      rw [Hh.get_set hlt4]
      split
      · rename_i z
        rw [z, g4] at e
        cases e
        exact .inr ⟨ws, .inr rfl, .inl rfl⟩
      · exact .inl e
    refine ⟨h4.set n (.dic ws), ?_, ⟨a.sz, fun m o e h2 h3 => ?_, a.pr, a.new⟩, ?_, rfl, hs, fun m o e hx => ?_⟩
    · unfold unlockK
      simp only [hk, g4]
    · rw [Hh.get_set hlt4]
      split
      · rename_i z
        rw [z, g] at e
        exact e
      · rename_i z
        refine a.ext m o ?_ h2 h3
        rw [Hh.get_set hlt, if_neg z]
        exact e
    · refine b.go (mono_same fun m o e _ => hs m o e) (fun m hm => ?_) b.mt (fun m z => b.lt m z) fun m o e => ?_
      · rw [Hh.get_set hlt4, if_neg (fun z => n4 (by rw [← z]; exact hm))]
      · rw [Hh.get_set hlt4] at e
        split at e
        · cases e
        · rename_i z
          rcases List.mem_cons.mp (b.fz m o e) with q | q
          · exact absurd q z
          · exact q
    · rw [Hh.get_set hlt4]
      split
      · rename_i z
        rw [z, g4] at e
        cases e
        exact absurd rfl (hx _)
      · exact e
/-- what is walked is locked -/
theorem lock_ok {κ : Ik} (I : Ist F M θ s h) (r : IkR P bo M θ h κ xs) (hD : ∀ n ∈ D, bo = false ∧ M n) : ∃ F' h2, Lkd P D F M θ s h κ xs.1 F' h2 ∧ (xs.2 = false → F' = F) ∧ (xs.2 = false ↔ κ.isD = none) := by
  have out : ∀ {n : Nat}, (bo = false → ¬ M n) → n ∉ D := fun h1 z => h1 (hD _ z).1 (hD _ z).2
  cases κ with
  | sq tb w =>
    obtain ⟨e, r⟩ := r
    refine ⟨F, h, lkd_flat I rfl ?_, fun _ => rfl, by simp [e, Ik.isD]⟩
    rcases r with ⟨n, ws, h0, h1, h2, g, q⟩ | r
    · exact .inl ⟨n, ws, h0, h1, out h2, g, q⟩
    · exact .inr r
  | st x =>
    have e : xs = _ := r
    exact ⟨F, h, lkd_flat I rfl (by rw [e]; rfl), fun _ => rfl, by simp [e, Ik.isD]⟩
  | rng lo n =>
    have e : xs = _ := r
    exact ⟨F, h, lkd_flat I rfl (by rw [e]; rfl), fun _ => rfl, by simp [e, Ik.isD]⟩
  | enum w =>
    obtain ⟨e, ts, e2, r⟩ := r
    refine ⟨F, h, lkd_flat I rfl ⟨ts, e2, ?_⟩, fun _ => rfl, by simp [e, Ik.isD]⟩
    rcases r with ⟨n, ws, h0, h1, h2, g, q⟩ | r
    · exact .inl ⟨n, ws, h0, h1, out h2, g, q⟩
    · exact .inr r
  | zip a b => exact r.elim
  | keys n =>
    obtain ⟨e, kvs, ws, h1, h2, g, q, e2⟩ := r
    have L := fun hl => lkd_dic (P := P) (D := D) (κ := .keys n) (us := xs.1) I rfl h1 (out h2) g hl
    have gs : (h.set n (.frz (.dic ws))).get n = some (.frz (.dic ws)) := by rw [Hh.get_set (Hh.get_lt g), if_pos rfl]
    have ms : Mono M θ h M θ (h.set n (.frz (.dic ws))) := mono_same fun m o em _ => by
      rw [Hh.get_set (Hh.get_lt g)]
      split
      · rename_i z; rw [z, g] at em; cases em; exact .inr ⟨ws, .inl rfl, .inr rfl⟩
      · exact .inl em
    exact ⟨n :: F, _, L ⟨kvs, ws, h1, out h2, gs, q.mono ms, e2⟩, fun z => (nomatch (e.symm.trans z)), by simp [e, Ik.isD]⟩
  | vals n =>
    obtain ⟨e, kvs, ws, h1, h2, g, q, e2⟩ := r
    have L := fun hl => lkd_dic (P := P) (D := D) (κ := .vals n) (us := xs.1) I rfl h1 (out h2) g hl
    have gs : (h.set n (.frz (.dic ws))).get n = some (.frz (.dic ws)) := by rw [Hh.get_set (Hh.get_lt g), if_pos rfl]
    have ms : Mono M θ h M θ (h.set n (.frz (.dic ws))) := mono_same fun m o em _ => by
      rw [Hh.get_set (Hh.get_lt g)]
      split
      · rename_i z; rw [z, g] at em; cases em; exact .inr ⟨ws, .inl rfl, .inr rfl⟩
      · exact .inl em
    exact ⟨n :: F, _, L ⟨kvs, ws, h1, out h2, gs, q.mono ms, e2⟩, fun z => (nomatch (e.symm.trans z)), by simp [e, Ik.isD]⟩
  | items n =>
    obtain ⟨e, kvs, ws, h1, h2, g, q, e2⟩ := r
    have L := fun hl => lkd_dic (P := P) (D := D) (κ := .items n) (us := xs.1) I rfl h1 (out h2) g hl
    have gs : (h.set n (.frz (.dic ws))).get n = some (.frz (.dic ws)) := by rw [Hh.get_set (Hh.get_lt g), if_pos rfl]
    have ms : Mono M θ h M θ (h.set n (.frz (.dic ws))) := mono_same fun m o em _ => by
      rw [Hh.get_set (Hh.get_lt g)]
      split
      · rename_i z; rw [z, g] at em; cases em; exact .inr ⟨ws, .inl rfl, .inr rfl⟩
      · exact .inl em
    exact ⟨n :: F, _, L ⟨kvs, ws, h1, out h2, gs, q.mono ms, e2⟩, fun z => (nomatch (e.symm.trans z)), by simp [e, Ik.isD]⟩
/-! ### the next item -/
theorem zip_get : ∀ (ts : List T) (k i : Nat), (zipN k ts)[i]? = (ts[i]?).map fun t => .tup [.int ((k + i : Nat) : Int), t]
  | [], k, i => by simp [zipN]
  | t :: ts, k, 0 => by simp [zipN]
  | t :: ts, k, i + 1 => by
    show (zipN (k + 1) ts)[i]? = _
    rw [zip_get ts (k + 1) i]
    have : k + 1 + i = k + (i + 1) := by omega
    rw [this]
    rfl
theorem rng_get (lo : Int) : ∀ (n k i : Nat), (rngT lo k n)[i]? = if i < n then some (.int (lo + ((k + i : Nat) : Int))) else none
  | 0, k, i => by simp [rngT]
  | n + 1, k, 0 => by simp [rngT]
  | n + 1, k, i + 1 => by
    show (rngT lo (k + 1) n)[i]? = _
    rw [rng_get lo n (k + 1) i]
    have e : k + 1 + i = k + (i + 1) := by omega
    rw [e]
    by_cases z : i < n
    · rw [if_pos z, if_pos (by omega)]
    · rw [if_neg z, if_neg (by omega)]
structure Nxt (P : Pg) (F : List Nat) (M2 : Nat → Prop) (θ2 : List Nat) (s2 : Om) (h2 : Hh) (κ : Ik) (i : Nat) (o : Option T) : Prop where
  it : ∀ t, o = some t → ∃ w h3, κ.next P i h2 = .it w h3 ∧ Stp θ2 h2 θ2 h3 [] ∧ Ist F M2 θ2 s2 h3 ∧ R M2 θ2 h3 t w
  stop : o = none → κ.next P i h2 = .stop
theorem nxt_sq {tb : Bool} {i : Nat} (I : Ist F M2 θ2 s2 h2) (e : sqB P h2 tb w = some ws) (r : Rl M2 θ2 h2 ts ws) : Nxt P F M2 θ2 s2 h2 (.sq tb w) i ts[i]? where
  it := fun t et => by
    obtain ⟨u, e2, q⟩ := rl_get r et
    refine ⟨u, h2, ?_, Stp.refl _ _ _, I, q⟩
    show (match sqB P h2 tb w with
      | some xs => (match xs[i]? with
        | some x => Nx.it x h2
        | none => .stop)
      | none => .stuck) = _
    simp only [e, e2]
  stop := fun et => by
    show (match sqB P h2 tb w with
      | some xs => (match xs[i]? with
        | some x => Nx.it x h2
        | none => .stop)
      | none => .stuck) = _
    simp only [e, rl_getN r et]
theorem tup2_ok {a b : T} {wa wb : W} (I : Ist F M2 θ2 s2 h2) (ra : R M2 θ2 h2 a wa) (rb : R M2 θ2 h2 b wb) : Stp θ2 h2 θ2 (h2.push (.tup [wa, wb])) [] ∧ Ist F M2 θ2 s2 (h2.push (.tup [wa, wb])) ∧ R M2 θ2 (h2.push (.tup [wa, wb])) (.tup [a, b]) (.ref h2.sz) :=
  let g := Got.pushT (fr := false) I (rl_mk ra (rl_mk rb rl_nil'))
  ⟨g.stp, g.ist, g.r⟩
theorem nxt_enum {i : Nat} (I : Ist F M2 θ2 s2 h2) (e : sqB P h2 false w = some ws) (r : Rl M2 θ2 h2 ts ws) : Nxt P F M2 θ2 s2 h2 (.enum w) i (zipN 0 ts)[i]? where
  it := fun t et => by
    rw [zip_get] at et
    obtain ⟨x, ex, rfl⟩ := Option.map_eq_some_iff.mp et
    obtain ⟨u, e2, q⟩ := rl_get r ex
    obtain ⟨a, b, c⟩ := tup2_ok (a := .int i) (wa := .int i) I (by unfold R; rfl) q
    refine ⟨.ref h2.sz, _, ?_, a, b, by rw [show (0 + i : Nat) = i by omega]; exact c⟩
    show (match sqB P h2 false w with
      | some xs => (match xs[i]? with
        | some x => Nx.it (.ref h2.sz) (h2.push (.tup [.int i, x]))
        | none => .stop)
      | none => .stuck) = _
    simp only [e, e2]
  stop := fun et => by
    rw [zip_get] at et
    have e2 := rl_getN r (Option.map_eq_none_iff.mp et)
    show (match sqB P h2 false w with
      | some xs => (match xs[i]? with
        | some x => Nx.it (.ref h2.sz) (h2.push (.tup [.int i, x]))
        | none => .stop)
      | none => .stuck) = _
    simp only [e, e2]
theorem rk_get {i : Nat} {kvs : List (Key × T)} {kws : List (Key × W)} (r : Rk M θ h kvs kws) : (∀ p, kvs[i]? = some p → ∃ q, kws[i]? = some q ∧ p.1 = q.1 ∧ R M θ h p.2 q.2) ∧ (kvs[i]? = none → kws[i]? = none) := by
  refine ⟨fun p e => prd_get (rk_prd.mp r) e, fun e => ?_⟩
  rw [List.getElem?_eq_none_iff] at e ⊢
  rw [← (rk_prd.mp r).length]; exact e
theorem next_ok {κ : Ik} {us : List T} (hl : IkL P D M θ h κ us) (a : Stp θ h θ2 h2 D) (m : Mono M θ h M2 θ2 h2) (I : Ist F M2 θ2 s2 h2) (i : Nat) : Nxt P F M2 θ2 s2 h2 κ i us[i]? := by
  cases κ with
  | sq tb w =>
    rcases hl with ⟨n, ws, rfl, h1, hd, g, q⟩ | ⟨j, ws, rfl, e, q⟩
    · exact nxt_sq I (sqB_ref (a.ext n _ g h1 hd)) (q.mono m)
    · exact nxt_sq I (show sqB P h2 tb (.st j) = some ws from e) (q.mono m)
  | st x =>
    have e : us = _ := hl
    subst e
    refine ⟨fun t et => ?_, fun et => ?_⟩
    · rw [List.getElem?_map] at et
      obtain ⟨c, ec, rfl⟩ := Option.map_eq_some_iff.mp et
      refine ⟨.str ⟨#[c]⟩, h2, ?_, Stp.refl _ _ _, I, by unfold R; rfl⟩
      show (match x.cps.toList[i]? with
        | some c => Nx.it (.str ⟨#[c]⟩) h2
        | none => .stop) = _
      simp only [ec]
    · rw [List.getElem?_map] at et
      show (match x.cps.toList[i]? with
        | some c => Nx.it (.str ⟨#[c]⟩) h2
        | none => .stop) = _
      simp only [Option.map_eq_none_iff.mp et]
  | rng lo n =>
    have e : us = _ := hl
    subst e
    rw [rng_get]
    refine ⟨fun t et => ?_, fun et => ?_⟩
    · split at et
      · rename_i z
        cases et
        refine ⟨.int (lo + i), h2, ?_, Stp.refl _ _ _, I, by unfold R; rw [show (0 + i : Nat) = i by omega]⟩
        show (if i < n then Nx.it (.int (lo + i)) h2 else .stop) = _
        rw [if_pos z]
      · cases et
    · split at et
      · cases et
      · rename_i z
        show (if i < n then Nx.it (.int (lo + i)) h2 else .stop) = _
        rw [if_neg z]
  | enum w =>
    obtain ⟨ts, rfl, hl⟩ := hl
    rcases hl with ⟨n, ws, rfl, h1, hd, g, q⟩ | ⟨j, ws, rfl, e, q⟩
    · exact nxt_enum I (sqB_ref (a.ext n _ g h1 hd)) (q.mono m)
    · exact nxt_enum I (show sqB P h2 false (.st j) = some ws from e) (q.mono m)
  | zip a b => exact hl.elim
  | keys n =>
    obtain ⟨kvs, ws, h1, hd, g, q, rfl⟩ := hl
    have g2 := a.ext n _ g h1 hd
    obtain ⟨q1, q2⟩ := rk_get (i := i) (q.mono m)
    have en : Ik.next P (.keys n) i h2 = (match (generalizing := false) ws[i]? with
        | some kv => Nx.it (wK kv.1) h2
        | none => .stop) := by
      show (match h2.get n with
        | some (.frz (.dic kvs)) => (match kvs[i]? with
          | some kv => Nx.it (wK kv.1) h2
          | none => .stop)
        | _ => .stuck) = _
      simp only [g2]
    refine ⟨fun t et => ?_, fun et => ?_⟩
    · rw [List.getElem?_map] at et
      obtain ⟨p, ep, rfl⟩ := Option.map_eq_some_iff.mp et
      obtain ⟨p2, e2, e3, r⟩ := q1 p ep
      exact ⟨wK p2.1, h2, by rw [en, e2], Stp.refl _ _ _, I, by rw [e3]; exact tK_ok _⟩
    · rw [List.getElem?_map] at et
      rw [en, q2 (Option.map_eq_none_iff.mp et)]
  | vals n =>
    obtain ⟨kvs, ws, h1, hd, g, q, rfl⟩ := hl
    have g2 := a.ext n _ g h1 hd
    obtain ⟨q1, q2⟩ := rk_get (i := i) (q.mono m)
    have en : Ik.next P (.vals n) i h2 = (match (generalizing := false) ws[i]? with
        | some kv => Nx.it kv.2 h2
        | none => .stop) := by
      show (match h2.get n with
        | some (.frz (.dic kvs)) => (match kvs[i]? with
          | some kv => Nx.it kv.2 h2
          | none => .stop)
        | _ => .stuck) = _
      simp only [g2]
    refine ⟨fun t et => ?_, fun et => ?_⟩
    · rw [List.getElem?_map] at et
      obtain ⟨p, ep, rfl⟩ := Option.map_eq_some_iff.mp et
      obtain ⟨p2, e2, e3, r⟩ := q1 p ep
      exact ⟨p2.2, h2, by rw [en, e2], Stp.refl _ _ _, I, r⟩
    · rw [List.getElem?_map] at et
      rw [en, q2 (Option.map_eq_none_iff.mp et)]
  | items n =>
    obtain ⟨kvs, ws, h1, hd, g, q, rfl⟩ := hl
    have g2 := a.ext n _ g h1 hd
    obtain ⟨q1, q2⟩ := rk_get (i := i) (q.mono m)
    have en : Ik.next P (.items n) i h2 = (match (generalizing := false) ws[i]? with
        | some kv => Nx.it (.ref h2.sz) (h2.push (.tup [wK kv.1, kv.2]))
        | none => .stop) := by
      show (match h2.get n with
        | some (.frz (.dic kvs)) => (match kvs[i]? with
          | some kv => Nx.it (.ref h2.sz) (h2.push (.tup [wK kv.1, kv.2]))
          | none => .stop)
        | _ => .stuck) = _
      simp only [g2]
    refine ⟨fun t et => ?_, fun et => ?_⟩
    · rw [List.getElem?_map] at et
      obtain ⟨p, ep, rfl⟩ := Option.map_eq_some_iff.mp et
      obtain ⟨p2, e2, e3, r⟩ := q1 p ep
      obtain ⟨b, c, d⟩ := tup2_ok I (show R M2 θ2 h2 (tK p.1) (wK p2.1) by rw [e3]; exact tK_ok _) r
      exact ⟨.ref h2.sz, _, by rw [en, e2], b, c, d⟩
    · rw [List.getElem?_map] at et
      rw [en, q2 (Option.map_eq_none_iff.mp et)]
end
end MP

set_option Elab.async false
set_option linter.all false
set_option maxRecDepth 100000
/-! MP: the evaluator over values is sound: expressions. -/
namespace MP
open PySem L2
def sim {α β : Type} (F : List Nat) (M : Nat → Prop) (θ : List Nat) (h : Hh) (rel : List Nat → Om → Hh → α → β → Prop) (r : Rs β) (tr : TR α) : Prop := match tr with
  | .ok t s' => ∃ w h' θ', r = .ok w h' ∧ Stp θ h θ' h' [] ∧ Ist F M θ' s' h' ∧ rel θ' s' h' t w
  | .ex c fs s' => ∃ n h' θ' ws, r = .ex c n h' ∧ Stp θ h θ' h' [] ∧ Ist F M θ' s' h' ∧ ¬ M n ∧ n ∉ θ' ∧ h'.get n = some (.xd ws) ∧ Rf M θ' h' fs ws
  | .no => True
section
variable {α β γ δ : Type} {TP : Tg0} {P : Pg} {F : List Nat} {M M' M2 : Nat → Prop} {θ θ' θ2 D : List Nat} {h h' h2 : Hh} {s s2 : Om} {lk bo : Bool} {τ : Tl} {σ : Sl} {rel : List Nat → Om → Hh → α → β → Prop} {rel2 : List Nat → Om → Hh → γ → δ → Prop} {r : Rs β} {tr : TR α}
theorem sim.weak (a : Stp θ h θ' h' []) (q : sim F M θ' h' rel r tr) : sim F M θ h rel r tr := by
  cases tr with
  | ok t s' => obtain ⟨w, h1, θ1, e, b, c, d⟩ := q; exact ⟨w, h1, θ1, e, a.tr b, c, d⟩
  | ex c fs s' => obtain ⟨n, h1, θ1, ws, e, b, c⟩ := q; exact ⟨n, h1, θ1, ws, e, a.tr b, c⟩
  | no => trivial
theorem sim.bind {k : β → Hh → Rs δ} {kt : α → Om → TR γ} (q : sim F M θ h rel r tr) (hk : ∀ t w θ' s' h', Stp θ h θ' h' [] → Ist F M θ' s' h' → rel θ' s' h' t w → sim F M θ' h' rel2 (k w h') (kt t s')) : sim F M θ h rel2 (r.bind k) (tr.bind kt) := by
  cases tr with
  | ok t s' => obtain ⟨w, h1, θ1, rfl, b, c, d⟩ := q; exact (hk t w θ1 s' h1 b c d).weak b
  | ex c fs s' => obtain ⟨n, h1, θ1, ws, rfl, b, c⟩ := q; exact ⟨n, h1, θ1, ws, rfl, b, c⟩
  | no => trivial
theorem sim.imp {rel' : List Nat → Om → Hh → α → β → Prop} (q : sim F M θ h rel r tr) (hi : ∀ t w θ' s' h', Stp θ h θ' h' [] → Ist F M θ' s' h' → rel θ' s' h' t w → rel' θ' s' h' t w) : sim F M θ h rel' r tr := by
  cases tr with
  | ok t s' => obtain ⟨w, h1, θ1, e, b, c, d⟩ := q; exact ⟨w, h1, θ1, e, b, c, hi _ _ _ _ _ b c d⟩
  | ex c fs s' => exact q
  | no => trivial
theorem sim.ret {t : α} {w : β} (I : Ist F M θ s h) (q : rel θ s h t w) : sim F M θ h rel (.ok w h) (.ok t s) := ⟨w, h, θ, rfl, Stp.refl _ _ _, I, q⟩
theorem sim.ofT {o : Option α} {r : Rs β} (hi : ∀ t, o = some t → sim F M θ h rel r (.ok t s)) : sim F M θ h rel r (MP.ofT o s) := by
  cases o with
  | none => trivial
  | some t => exact hi t rfl
theorem TR.bind_ok {k : α → Om → TR γ} {b : γ} {s' : Om} (e : tr.bind k = .ok b s') : ∃ a s1, tr = .ok a s1 ∧ k a s1 = .ok b s' := by
  cases tr with
  | ok a s1 => exact ⟨a, s1, rfl, e⟩
  | ex c fs s1 => cases e
  | no => cases e
theorem sim.got (g : sim F M θ h rel r tr) {t : α} {s' : Om} (e : tr = .ok t s') : ∃ w h' θ', r = .ok w h' ∧ Stp θ h θ' h' [] ∧ Ist F M θ' s' h' ∧ rel θ' s' h' t w := by rw [e] at g; exact g
/-- calls -/
def ClOK (TP : Tg0) (P : Pg) : Prop := ∀ (f : Str × Str) (ts : List T) (lk : Bool) (s : Om) (F : List Nat) (M : Nat → Prop) (θ : List Nat) (h : Hh) (ws : List W), (lk = false → F = []) → Ist F M θ s h → Rl M θ h ts ws →
  sim F M θ h (fun θ' _ h' t w => R M θ' h' t w) (P.cl f ws h) (TP.cl f ts lk s)
abbrev relE (F : List Nat) (M : Nat → Prop) (h : Hh) (bo : Bool) (e : E) : List Nat → Om → Hh → T → W → Prop := fun θ' s' h' t w => Rm bo M θ' h' t w ∧ (freshE e = true → Fr F M θ' s' h h' t w)
theorem exn_ne {t : T} {w : W} (r : R0 M θ h t w) (e : isExnT t = false) : ∀ c n, w ≠ .exn c n := by
  intro c n
  cases t with
  | exn _ _ => cases e
  | lst ts => obtain ⟨m, ws, rfl, _⟩ := r; simp
  | dic ts => obtain ⟨m, ws, rfl, _⟩ := r; simp
  | tup ts => change R M θ h _ w at r; unfold R at r; obtain ⟨m, ws, rfl, _⟩ := r; simp
  | ob k => change R M θ h _ w at r; unfold R at r; obtain ⟨m, rfl, _⟩ := r; simp
  | _ => change R M θ h _ w at r; unfold R at r; subst r; simp
theorem flat_rel {e : E} {t : T} {w : W} (hr : R M θ h t w) (hm : isMutT t = false) {h0 : Hh} : relE F M h0 bo e θ s h t w := ⟨hr.rm, fun _ z => by rw [hm] at z; cases z⟩
theorem bl_rel {e : E} (b : Bool) {h0 : Hh} : relE F M h0 bo e θ s h (.bl b) (.bl b) := flat_rel (by unfold R; rfl) rfl
/-- a field's value -/
theorem lookup_ok {f : Str} {v : T} : ∀ {fs : List (Str × T)} {ws : List (Str × W)}, Rf M θ h fs ws → fs.lookup f = some v → ∃ w, ws.lookup f = some w ∧ R M θ h v w
  | [], _, _, e => by cases e
  | (g, t) :: fs, ws, r, e => by
    unfold Rf at r
    obtain ⟨⟨g', w⟩, u, rfl, a, b⟩ := r
    unfold Rfp at a
    obtain ⟨e1, a⟩ := a
    simp only at e1 a
    subst e1
    rw [List.lookup_cons] at e ⊢
    cases q : f == g with
    | true => rw [q] at e; cases e; exact ⟨w, rfl, a⟩
    | false => rw [q] at e; exact lookup_ok b e
theorem lookup_none {f : Str} : ∀ {fs : List (Str × T)} {ws : List (Str × W)}, Rf M θ h fs ws → fs.lookup f = none → ws.lookup f = none
  | [], ws, r, _ => by unfold Rf at r; rw [r]; rfl
  | (g, t) :: fs, ws, r, e => by
    unfold Rf at r
    obtain ⟨⟨g', w⟩, u, rfl, a, b⟩ := r
    unfold Rfp at a
    obtain ⟨e1, a⟩ := a
    simp only at e1
    subst e1
    rw [List.lookup_cons] at e ⊢
    cases q : f == g with
    | true => rw [q] at e; cases e
    | false => rw [q] at e; exact lookup_none b e
theorem ins_ok {x : T} {w : W} {k : Nat} {c : Str} {fs : List (Str × T)} (I : Ist F M θ s h) (r : R0 M θ h x w) (e : insT s x = some (k, c, fs)) : ∃ n ws, x = .ob k ∧ w = .ref n ∧ θ[k]? = some n ∧ s[k]? = some (.ins c fs) ∧ h.get n = some (.ins c ws) ∧ Rf M θ h fs ws ∧ insW w h = some (n, c, ws) := by
  cases x with
  | ob j =>
    change R M θ h _ w at r; unfold R at r
    obtain ⟨n, rfl, e1⟩ := r
    unfold insT at e
    simp only at e
    split at e
    · rename_i c' fs' q
      cases e
      obtain ⟨m, e2, ws, g, q2⟩ := I.at_ _ _ q
      rw [e1] at e2
      cases e2
      refine ⟨n, ws, rfl, rfl, e1, q, g, q2, ?_⟩
      unfold insW
      simp only [g, insO, Option.map_some]
    · cases e
  | _ => cases e
/-! ### comprehensions -/
theorem cpL_F {α : Type} {turn : T → Om → TR (Option α)} : ∀ {xs : List T} {s : Om} {ys : List α} {s' : Om}, cpL turn xs s = .ok ys s' → cpF (fun x s => match turn x s with
    | .ok y s1 => .ok y.toList s1
    | _ => .no) xs s = .ok ys s'
  | [], s, ys, s', e => e
  | x :: xs, s, ys, s', e => by
    unfold cpL at e
    unfold cpF
    split at e
    · rename_i y s1 e1
      simp only [e1]
      split at e
      · rename_i zs s3 e2
        rw [cpL_F e2]
        cases e
        cases y <;> rfl
      · cases e
    · cases e
theorem cpL_len {α : Type} {turn : T → Om → TR (Option α)} : ∀ {xs : List T} {s : Om} {ys : List α} {s' : Om}, cpL turn xs s = .ok ys s' → ys.length ≤ xs.length
  | [], s, ys, s', e => by cases e; exact Nat.le_refl _
  | x :: xs, s, ys, s', e => by
    unfold cpL at e
    split at e
    · rename_i y s1 e1
      split at e
      · rename_i zs s3 e2
        have := cpL_len e2
        cases e
        cases y <;> simp only [List.length_cons] <;> omega
      · cases e
    · cases e
theorem cpL_ne {α : Type} {turn : T → Om → TR (Option α)} {c : Str} {fs : List (Str × T)} {s' : Om} : ∀ {xs : List T} {s : Om}, cpL turn xs s ≠ .ex c fs s'
  | [], s, e => by cases e
  | x :: xs, s, e => by
    unfold cpL at e
    split at e
    · split at e <;> cases e
    · cases e
theorem cpF_ne {α : Type} {turn : T → Om → TR (List α)} {c : Str} {fs : List (Str × T)} {s' : Om} : ∀ {xs : List T} {s : Om}, cpF turn xs s ≠ .ex c fs s'
  | [], s, e => by cases e
  | x :: xs, s, e => by
    unfold cpF at e
    split at e
    · split at e <;> cases e
    · cases e
theorem cpF_ok {α : Type} {turnW : W → Hh → Rs Unit} {turnT : T → Om → TR (List α)} {A : List α → List Nat → Hh → Prop} {κ : Ik} {all : List T} {Kn : Nat} (L : IkL P D M θ2 h2 κ all) (hb : ∀ n, n < h2.sz → M' n → M n) (hD : ∀ n ∈ D, M n ∨ h2.sz ≤ n)
    (hA : ∀ {acc : List α} {θc : List Nat} {sc : Om} {hc : Hh} {θ' : List Nat} {h' : Hh}, Ist F M' θc sc hc → Stp θc hc θ' h' [] → A acc θc hc → A acc θ' h')
    (step : ∀ (t : T) (w : W) (θc : List Nat) (sc : Om) (hc : Hh) (acc ys : List α) (s1 : Om), Stp θ2 h2 θc hc D → Ist F M' θc sc hc → A acc θc hc → R M' θc hc t w → turnT t sc = .ok ys s1 → Kn + (acc ++ ys).length ≤ lim → ∃ h1 θ1, turnW w hc = .ok () h1 ∧ Stp θ2 h2 θ1 h1 D ∧ Ist F M' θ1 s1 h1 ∧ A (acc ++ ys) θ1 h1) :
    ∀ (xs : List T) (i f : Nat) (θc : List Nat) (sc : Om) (hc : Hh) (acc ys : List α) (s' : Om), (∀ k, xs[k]? = all[i + k]?) → xs.length < f → Stp θ2 h2 θc hc D → Ist F M' θc sc hc → A acc θc hc → cpF turnT xs sc = .ok ys s' → Kn + (acc ++ ys).length ≤ lim →
      ∃ h' θ', itL (κ.next P) turnW f i hc = .ok () h' ∧ Stp θ2 h2 θ' h' D ∧ Ist F M' θ' s' h' ∧ A (acc ++ ys) θ' h'
  | [], i, f, θc, sc, hc, acc, ys, s', hx, hf, a, I, ha, e, hl => by
    cases e
    obtain ⟨f, rfl⟩ : ∃ g, f = g + 1 := ⟨f - 1, by simp at hf; omega⟩
    have hn := (next_ok L a (a.mono hD hb) I i).stop (by have := hx 0; rw [Nat.add_zero] at this; rw [← this]; rfl)
    refine ⟨hc, θc, ?_, a, I, by rw [List.append_nil]; exact ha⟩
    unfold itL
    simp only [hn]
  | x :: xs, i, f, θc, sc, hc, acc, ys, s', hx, hf, a, I, ha, e, hl => by
    obtain ⟨f, rfl⟩ : ∃ g, f = g + 1 := ⟨f - 1, by simp at hf; omega⟩
    unfold cpF at e
    split at e
    · rename_i y s1 e1
      split at e
      · rename_i zs s3 e2
        cases e
        obtain ⟨w, h3, en, b, I3, rw_⟩ := (next_ok L a (a.mono hD hb) I i).it x (by have := hx 0; rw [Nat.add_zero] at this; rw [← this]; rfl)
        obtain ⟨h1, θ1, et, c, I1, ha1⟩ := step x w θc sc h3 acc y s1 (a.trans b fun n z => nomatch z) I3 (hA I b ha) rw_ e1 (by rw [List.length_append] at hl ⊢; rw [List.length_append] at hl; omega)
        obtain ⟨h', θ', ei, d, I', ha'⟩ := cpF_ok (A := A) (turnW := turnW) (Kn := Kn) L hb hD hA step xs (i + 1) f θ1 s1 h1 (acc ++ y) zs s' (fun k => by
          have := hx (k + 1)
          rw [List.getElem?_cons_succ] at this
          rw [this]
          congr 1
          omega) (by simp at hf; omega) c I1 ha1 e2 (by rw [List.append_assoc]; exact hl)
        refine ⟨h', θ', ?_, d, I', by rw [List.append_assoc] at ha'; exact ha'⟩
        unfold itL
        simp only [en, et]
        exact ei
      · cases e
    · cases e
/-! ### what is gathered -/
theorem put_ok {k : Key} {v : T} {w : W} (rv : R M θ h v w) : ∀ {kvs : List (Key × T)} {kws : List (Key × W)}, Rk M θ h kvs kws → Rk M θ h (putT kvs k v) (putW kws k w) := by
  intro kvs kws r
  have key : ∀ {kvs : List (Key × T)} {kws : List (Key × W)}, Rk M θ h kvs kws → (kvs.any fun kv => decide (kv.1 = k)) = (kws.any fun kv => decide (kv.1 = k)) ∧ Rk M θ h (kvs.map fun kv => if kv.1 = k then (kv.1, v) else kv) (kws.map fun kv => if kv.1 = k then (kv.1, w) else kv) := by
    intro kvs
    induction kvs with
    | nil => intro kws r; unfold Rk at r; subst r; exact ⟨rfl, by unfold Rk; rfl⟩
    | cons q kvs ih =>
      intro kws r
      obtain ⟨k', t⟩ := q
      unfold Rk at r
      obtain ⟨⟨k2, u⟩, us, rfl, a, b⟩ := r
      unfold Rkp at a
      obtain ⟨e, a⟩ := a
      simp only at e a
      subst e
      obtain ⟨h1, h2⟩ := ih b
      refine ⟨by rw [List.any_cons, List.any_cons, h1], ?_⟩
      rw [List.map_cons, List.map_cons]
      unfold Rk
      refine ⟨_, _, rfl, ?_, h2⟩
      by_cases hk : k' = k
      · simp only [hk, if_true]; unfold Rkp; exact ⟨rfl, rv⟩
      · simp only [hk, if_false]; unfold Rkp; exact ⟨rfl, a⟩
  obtain ⟨h1, h2⟩ := key r
  unfold putT putW
  rw [h1]
  split
  · exact h2
  · exact rk_prd.mpr (prd_app (rk_prd.mp r) (.cons ⟨rfl, rv⟩ .nil))
theorem put_len (kws : List (Key × W)) (k : Key) (w : W) : (putW kws k w).length ≤ kws.length + 1 := by
  unfold putW
  split
  · rw [List.length_map]; exact Nat.le_succ _
  · rw [List.length_append]; simp
theorem mkD_app : ∀ (acc a : List (Key × T)) (b : Key × T), mkD acc (a ++ [b]) = putT (mkD acc a) b.1 b.2
  | acc, [], b => rfl
  | acc, x :: a, b => mkD_app (putT acc x.1 x.2) a b
def AL (M : Nat → Prop) (d : Nat) (acc : List T) (θ : List Nat) (h : Hh) : Prop := ∃ ws, h.get d = some (.lst ws) ∧ Rl M θ h acc ws
def AD (M : Nat → Prop) (d : Nat) (acc : List (Key × T)) (θ : List Nat) (h : Hh) : Prop := ∃ ws, h.get d = some (.dic ws) ∧ Rk M θ h (mkD [] acc) ws ∧ ws.length ≤ acc.length
theorem AL.stay {d : Nat} (hd : M d) {acc : List T} (I : Ist F M θ s h) (a : Stp θ h θ' h' []) (q : AL M d acc θ h) : AL M d acc θ' h' := by
  obtain ⟨ws, g, r⟩ := q
  exact ⟨ws, a.ext d _ g (fun z => I.mt d z hd) (fun z => nomatch z), r.mono a.mono0⟩
theorem AD.stay {d : Nat} (hd : M d) {acc : List (Key × T)} (I : Ist F M θ s h) (a : Stp θ h θ' h' []) (q : AD M d acc θ h) : AD M d acc θ' h' := by
  obtain ⟨ws, g, r, l⟩ := q
  exact ⟨ws, a.ext d _ g (fun z => I.mt d z hd) (fun z => nomatch z), r.mono a.mono0, l⟩
theorem stp_set {d : Nat} (I : Ist F M θ s h) (hd : M d) (o : O) : Stp θ h θ (h.set d o) [d] where
  sz := Nat.le_refl _
  ext := fun n o' e _ hn => by
    rw [Hh.get_set (I.lt d hd), if_neg (fun z => hn (by rw [z]; exact List.mem_singleton_self d))]
    exact e
  pr := pre.refl θ
  new := fun n hn => .inl hn
theorem addL_ok {d : Nat} {acc : List T} {y : T} {wy : W} (hd : M d) (I : Ist F M θ s h) (q : AL M d acc θ h) (r : R M θ h y wy) (hl : acc.length < lim) : ∃ h1, addL d wy h = .ok () h1 ∧ Stp θ h θ h1 [d] ∧ Ist F M θ s h1 ∧ AL M d (acc ++ [y]) θ h1 := by
  obtain ⟨ws, g, rl⟩ := q
  have m := monoSet I hd (.lst (ws ++ [wy]))
  refine ⟨h.set d (.lst (ws ++ [wy])), ?_, stp_set I hd _, I.setM hd (fun x => by simp), ws ++ [wy], by rw [Hh.get_set (I.lt d hd), if_pos rfl], rl_prd.mpr (prd_app (rl_prd.mp (rl.mono m)) (.cons (r.mono m) .nil))⟩
  unfold addL
  simp only [g]
  rw [if_pos (by rw [← rl_len rl]; exact hl)]
theorem addD_ok {d : Nat} {acc : List (Key × T)} {k : Key} {y : T} {wk wy : W} (hd : M d) (I : Ist F M θ s h) (q : AD M d acc θ h) (ek : keyW wk = some k) (r : R M θ h y wy) (hl : acc.length < lim) : ∃ h1, addD d wk wy h = .ok () h1 ∧ Stp θ h θ h1 [d] ∧ Ist F M θ s h1 ∧ AD M d (acc ++ [(k, y)]) θ h1 := by
  obtain ⟨ws, g, rk, l⟩ := q
  have m := monoSet I hd (.dic (putW ws k wy))
  refine ⟨h.set d (.dic (putW ws k wy)), ?_, stp_set I hd _, I.setM hd (fun x => by simp), putW ws k wy, by rw [Hh.get_set (I.lt d hd), if_pos rfl], ?_, ?_⟩
  · unfold addD
    simp only [g, ek]
    rw [if_pos (by omega)]
  · rw [mkD_app]
    exact put_ok (r.mono m) (rk.mono m)
  · rw [List.length_append]
    exact Nat.le_trans (put_len _ _ _) (by simp; exact l)
end
end MP

set_option Elab.async false
set_option linter.all false
set_option maxRecDepth 100000
/-! MP: the evaluator over values is sound: expressions, the induction. -/
namespace MP
open PySem L2
theorem Fr.base {F : List Nat} {M : Nat → Prop} {θ : List Nat} {s : Om} {h h1 h' : Hh} {t : T} {w : W} (q : Fr F M θ s h1 h' t w) (hl : h.sz ≤ h1.sz) : Fr F M θ s h h' t w := fun z =>
  let ⟨d, e, a, b⟩ := q z
  ⟨d, e, Nat.le_trans hl a, b⟩
section
variable {TP : Tg0} {P : Pg}
def EvS (TP : Tg0) (P : Pg) (e : E) : Prop := ∀ {bo lk : Bool} {τ : Tl} {σ : Sl} {s : Om} {F : List Nat} {M : Nat → Prop} {θ : List Nat} {h : Hh} {Ow : List Nat}, (lk = false → F = []) → Ist F M θ s h → SE Ow M θ h τ σ → sim F M θ h (relE F M h bo e) (ev P e σ h) (tev TP lk bo e τ s)
def EvI (TP : Tg0) (P : Pg) (e : E) : Prop := ∀ {bo lk : Bool} {τ : Tl} {σ : Sl} {s : Om} {F : List Nat} {M : Nat → Prop} {θ : List Nat} {h : Hh} {Ow : List Nat}, (lk = false → F = []) → Ist F M θ s h → SE Ow M θ h τ σ → sim F M θ h (fun θ' _ h' xs κ => IkR P bo M θ' h' κ xs) (evI P e σ h) (tevI TP lk bo e τ s)
def EvL (TP : Tg0) (P : Pg) (es : List E) : Prop := ∀ {bo lk : Bool} {τ : Tl} {σ : Sl} {s : Om} {F : List Nat} {M : Nat → Prop} {θ : List Nat} {h : Hh} {Ow : List Nat}, (lk = false → F = []) → Ist F M θ s h → SE Ow M θ h τ σ → sim F M θ h (fun θ' _ h' ts ws => Paired (Rm bo M θ' h') ts ws) (evs P es σ h) (tevs TP lk bo es τ s)
def EvO (TP : Tg0) (P : Pg) (e : Option E) : Prop := ∀ {lk : Bool} {τ : Tl} {σ : Sl} {s : Om} {F : List Nat} {M : Nat → Prop} {θ : List Nat} {h : Hh} {Ow : List Nat}, (lk = false → F = []) → Ist F M θ s h → SE Ow M θ h τ σ → sim F M θ h (fun _ _ _ a b => a = b) (evo P e σ h) (tevo TP lk e τ s)
def EvC (TP : Tg0) (P : Pg) (es : List E) : Prop := ∀ {lk : Bool} {τ : Tl} {σ : Sl} {s : Om} {F : List Nat} {M : Nat → Prop} {θ : List Nat} {h : Hh} {Ow : List Nat}, (lk = false → F = []) → Ist F M θ s h → SE Ow M θ h τ σ → sim F M θ h (fun _ _ _ a b => a = b) (evC P es σ h) (tevC TP lk es τ s)
theorem c_var (i : Nat) : EvS TP P (.var i) := fun {bo lk τ σ s F M θ h Ow} hF I S => by
  simp only [ev, tev]
  cases e : τ[i]? with
  | none => trivial
  | some o =>
    cases o with
    | none => trivial
    | some sv =>
      simp only
      by_cases hc : isExnT sv.v = true ∨ sv.own = true ∧ bo = false
      · rw [if_pos hc]; trivial
      · rw [if_neg hc]
        obtain ⟨w, e1, r, q, _⟩ := S.at_ i sv e
        have he : isExnT sv.v = false := by simpa using fun z => hc (.inl z)
        have hn := exn_ne r he
        refine ⟨w, h, θ, ?_, Stp.refl _ _ _, I, ?_, fun z => by cases z⟩
        · rw [e1]
          cases w with
          | exn c n => exact absurd rfl (hn c n)
          | _ => rfl
        · unfold Rm
          split
          · exact r
          · rename_i hb
            refine q ?_
            cases ho : sv.own with
            | false => rfl
            | true => exact absurd (.inr ⟨ho, by simpa using hb⟩) hc
theorem c_xf (hp : PP TP P) (i : Nat) (f : Str) : EvS TP P (.xf i f) := fun {bo lk τ σ s F M θ h Ow} hF I S => by
  simp only [ev, tev]
  cases e : τ[i]? with
  | none => trivial
  | some o =>
    cases o with
    | none => trivial
    | some sv =>
      obtain ⟨v, own⟩ := sv
      cases v with
      | exn c fs =>
        simp only
        by_cases hx : exfT TP c f = true
        · rw [if_pos hx]
          obtain ⟨w, e1, r, _, _⟩ := S.at_ i _ e
          change R M θ h (.exn c fs) w at r; unfold R at r
          obtain ⟨n, ws, rfl, _, _, g, q⟩ := r
          refine sim.ofT fun t et => ?_
          obtain ⟨w, e2, rw_⟩ := lookup_ok q et
          have hx2 : exfB P c f = true := by unfold exfB; unfold exfT at hx; rw [← hp.exf]; exact hx
          refine ⟨w, h, θ, ?_, Stp.refl _ _ _, I, rw_.rm, fun z => by cases z⟩
          rw [e1]
          simp only [g, hx2, if_true, e2, ofO]
        · rw [if_neg hx]; trivial
      | _ => trivial
theorem c_xi (hp : PP TP P) (i : Nat) (f : Str) : EvS TP P (.xi i f) := fun {bo lk τ σ s F M θ h Ow} hF I S => by
  simp only [ev, tev]
  cases e : τ[i]? with
  | none => trivial
  | some o =>
    cases o with
    | none => trivial
    | some sv =>
      obtain ⟨v, own⟩ := sv
      cases v with
      | exn c fs =>
        simp only
        obtain ⟨w, e1, r, _, _⟩ := S.at_ i _ e
        change R M θ h (.exn c fs) w at r; unfold R at r
        obtain ⟨n, ws, rfl, _, _, g, q⟩ := r
        refine sim.ofT fun t et => ?_
        obtain ⟨b, eb, rfl⟩ := Option.map_eq_some_iff.mp et
        refine ⟨.bl b, h, θ, ?_, Stp.refl _ _ _, I, bl_rel b⟩
        rw [e1]
        simp only [← hp.isC, eb, Option.map_some, ofO]
      | _ => trivial
theorem wT_mut {w : W} {t : T} (e : wT w = some t) : isMutT t = false := by cases w <;> simp only [wT] at e <;> first | (cases e; rfl) | cases e
theorem c_con (w : W) : EvS TP P (.con w) := fun {bo lk τ σ s F M θ h Ow} hF I S => by
  simp only [ev, tev]
  exact sim.ofT fun t et => sim.ret I (flat_rel (wT_ok et) (wT_mut et))
theorem c_glb (hp : PP TP P) (x : Str) : EvS TP P (.glb x) := fun {bo lk τ σ s F M θ h Ow} hF I S => by
  simp only [ev, tev]
  refine sim.ofT fun t et => ?_
  obtain ⟨w, e1, e2⟩ := Option.bind_eq_some_iff.mp et
  rw [← hp.gl, e1]
  exact sim.ret I (flat_rel (wT_ok e2) (wT_mut e2))
theorem c_bin {o : BO} {a b : E} (ia : EvS TP P a) (ib : EvS TP P b) : EvS TP P (.bin o a b) := fun {bo lk τ σ s F M θ h Ow} hF I S => by
  simp only [ev, tev]
  refine (ia hF I S).bind fun x wx θ1 s1 h1 a1 I1 ⟨rx, _⟩ => (ib hF I1 (S.step a1)).bind fun y wy θ2 s2 h2 a2 I2 ⟨ry, _⟩ => sim.ofT fun t et => ?_
  obtain ⟨w, h3, e3, g⟩ := bin_ok I2 (rx.r0.step a2) ry.r0 et
  exact ⟨w, h3, θ2, e3, g.stp, g.ist, g.r.rm, fun _ => (g.fr rfl).base (Nat.le_trans a1.sz a2.sz)⟩
theorem c_cmp (hp : PP TP P) {o : CO} {a b : E} (ia : EvS TP P a) (ib : EvS TP P b) : EvS TP P (.cmp o a b) := fun {bo lk τ σ s F M θ h Ow} hF I S => by
  simp only [ev, tev]
  refine (ia hF I S).bind fun x wx θ1 s1 h1 a1 I1 ⟨rx, _⟩ => (ib hF I1 (S.step a1)).bind fun y wy θ2 s2 h2 a2 I2 ⟨ry, _⟩ => sim.ofT fun t et => ?_
  obtain ⟨b, eb, rfl⟩ := Option.map_eq_some_iff.mp et
  rw [cmp_ok hp (rx.r0.step a2) ry.r0 eb]
  exact sim.ret I2 (bl_rel b)
theorem c_cmp2 (hp : PP TP P) {o o' : CO} {a b c : E} (ia : EvS TP P a) (ib : EvS TP P b) (ic : EvS TP P c) : EvS TP P (.cmp2 o o' a b c) := fun {bo lk τ σ s F M θ h Ow} hF I S => by
  simp only [ev, tev]
  refine (ia hF I S).bind fun x wx θ1 s1 h1 a1 I1 ⟨rx, _⟩ => (ib hF I1 (S.step a1)).bind fun y wy θ2 s2 h2 a2 I2 ⟨ry, _⟩ => ?_
  cases e1 : cmpT TP o x y with
  | none => trivial
  | some b1 =>
    rw [cmp_ok hp (rx.r0.step a2) ry.r0 e1]
    cases b1 with
    | false => exact sim.ret I2 (bl_rel false)
    | true =>
      refine (ic hF I2 (S.step (a1.tr a2))).bind fun z wz θ3 s3 h3 a3 I3 ⟨rz, _⟩ => sim.ofT fun t et => ?_
      obtain ⟨b, eb, rfl⟩ := Option.map_eq_some_iff.mp et
      rw [cmp_ok hp (ry.r0.step a3) rz.r0 eb]
      exact sim.ret I3 (bl_rel b)
theorem relE.nf {F : List Nat} {M : Nat → Prop} {h h1 : Hh} {bo : Bool} {e e' : E} {θ : List Nat} {s : Om} {h' : Hh} {t : T} {w : W} (hf : freshE e' = false) (r : relE F M h bo e θ s h' t w) : relE F M h1 bo e' θ s h' t w := ⟨r.1, fun z => by rw [hf] at z; cases z⟩
theorem c_and (hp : PP TP P) {a b : E} (ia : EvS TP P a) (ib : EvS TP P b) : EvS TP P (.and a b) := fun {bo lk τ σ s F M θ h Ow} hF I S => by
  simp only [ev, tev]
  refine (ia hF I S).bind fun x wx θ1 s1 h1 a1 I1 ⟨rx, fx⟩ => ?_
  cases e1 : truT TP lk x with
  | none => trivial
  | some b1 =>
    rw [tru_ok hp I1 hF rx.r0 e1]
    cases b1 with
    | true => exact (ib hF I1 (S.step a1)).imp fun _ _ _ _ _ _ _ q => q.nf rfl
    | false => exact sim.ret I1 (relE.nf (e := a) (h := h) rfl ⟨rx, fx⟩)
theorem c_or (hp : PP TP P) {a b : E} (ia : EvS TP P a) (ib : EvS TP P b) : EvS TP P (.or a b) := fun {bo lk τ σ s F M θ h Ow} hF I S => by
  simp only [ev, tev]
  refine (ia hF I S).bind fun x wx θ1 s1 h1 a1 I1 ⟨rx, fx⟩ => ?_
  cases e1 : truT TP lk x with
  | none => trivial
  | some b1 =>
    rw [tru_ok hp I1 hF rx.r0 e1]
    cases b1 with
    | false => exact (ib hF I1 (S.step a1)).imp fun _ _ _ _ _ _ _ q => q.nf rfl
    | true => exact sim.ret I1 (relE.nf (e := a) (h := h) rfl ⟨rx, fx⟩)
theorem c_not (hp : PP TP P) {a : E} (ia : EvS TP P a) : EvS TP P (.not a) := fun {bo lk τ σ s F M θ h Ow} hF I S => by
  simp only [ev, tev]
  refine (ia hF I S).bind fun x wx θ1 s1 h1 a1 I1 ⟨rx, fx⟩ => ?_
  cases e1 : truT TP lk x with
  | none => trivial
  | some b1 =>
    unfold truR
    rw [tru_ok hp I1 hF rx.r0 e1]
    exact sim.ret I1 (bl_rel _)
theorem c_neg {a : E} (ia : EvS TP P a) : EvS TP P (.neg a) := fun {bo lk τ σ s F M θ h Ow} hF I S => by
  simp only [ev, tev]
  refine (ia hF I S).bind fun x wx θ1 s1 h1 a1 I1 ⟨rx, fx⟩ => ?_
  cases x with
  | int i => cases flT_ok rx.r0 rfl; exact sim.ret I1 (flat_rel (by unfold R; rfl) rfl)
  | _ => trivial
theorem c_ite (hp : PP TP P) {c a b : E} (ic : EvS TP P c) (ia : EvS TP P a) (ib : EvS TP P b) : EvS TP P (.ite c a b) := fun {bo lk τ σ s F M θ h Ow} hF I S => by
  simp only [ev, tev]
  refine (ic hF I S).bind fun x wx θ1 s1 h1 a1 I1 ⟨rx, fx⟩ => ?_
  cases e1 : truT TP lk x with
  | none => trivial
  | some b1 =>
    rw [tru_ok hp I1 hF rx.r0 e1]
    cases b1 with
    | true => exact (ia hF I1 (S.step a1)).imp fun _ _ _ _ _ _ _ q => q.nf rfl
    | false => exact (ib hF I1 (S.step a1)).imp fun _ _ _ _ _ _ _ q => q.nf rfl
theorem pr_rl {M : Nat → Prop} {θ : List Nat} {h : Hh} : ∀ {ts : List T} {ws : List W}, Paired (Rm false M θ h) ts ws → Rl M θ h ts ws
  | _, _, .nil => rl_nil'
  | _, _, .cons a b => rl_mk (by unfold Rm at a; simpa using a) (pr_rl b)
theorem pr_r0 {M : Nat → Prop} {θ : List Nat} {h : Hh} {bo : Bool} : ∀ {ts : List T} {ws : List W}, Paired (Rm bo M θ h) ts ws → Paired (R0 M θ h) ts ws
  | _, _, .nil => .nil
  | _, _, .cons a b => .cons a.r0 (pr_r0 b)
theorem pr_step {M : Nat → Prop} {θ θ' : List Nat} {h h' : Hh} {bo : Bool} (a : Stp θ h θ' h' []) : ∀ {ts : List T} {ws : List W}, Paired (Rm bo M θ h) ts ws → Paired (Rm bo M θ' h') ts ws
  | _, _, .nil => .nil
  | _, _, .cons x y => .cons (x.step a) (pr_step a y)
theorem c_call (hcl : ClOK TP P) {f : Str} {as : List E} (ia : EvL TP P as) : EvS TP P (.call f as) := fun {bo lk τ σ s F M θ h Ow} hF I S => by
  simp only [ev, tev]
  refine (ia hF I S).bind fun ts ws θ1 s1 h1 a1 I1 rs => ?_
  exact (hcl ("", f) ts lk s1 F M θ1 h1 ws hF I1 (pr_rl rs)).imp fun t w _ _ _ _ _ q => ⟨q.rm, fun z => by cases z⟩
theorem new_ins {F : List Nat} {M : Nat → Prop} {θ : List Nat} {s : Om} {h : Hh} (I : Ist F M θ s h) (c : Str) : Stp θ h (θ ++ [h.sz]) (h.push (.ins c [])) [] ∧ Ist F M (θ ++ [h.sz]) (s ++ [.ins c []]) (h.push (.ins c [])) := by
  have st : Stp θ h (θ ++ [h.sz]) (h.push (.ins c [])) [] := ⟨Nat.le_succ _, (Stp.push I _).ext, pre.snoc _ _, fun n hn => by
    rcases List.mem_append.mp hn with z | z
    · exact .inl z
    · rw [List.mem_singleton] at z; exact .inr (Nat.le_of_eq z.symm)⟩
  refine ⟨st, by rw [List.length_append, List.length_append, I.len]; rfl, ?_, fun n hn => ?_, fun n z => Nat.lt_succ_of_lt (I.lt n z), fun k ob e => ?_, fun n o e => ?_⟩
  · rw [List.nodup_append]
    refine ⟨I.nd, by simp, fun x hx y hy z => ?_⟩
    rw [List.mem_singleton] at hy
    have := I.obLt hx
    omega
  · rcases List.mem_append.mp hn with z | z
    · exact I.mt n z
    · rw [List.mem_singleton] at z
      rw [z]
      exact fun q => absurd (I.lt _ q) (Nat.lt_irrefl _)
  · rw [List.getElem?_append] at e
    split at e
    · obtain ⟨n, e1, q⟩ := I.at_ k ob e
      refine ⟨n, st.th e1, q.mono st.mono0 (fun m hm => ?_) (List.mem_of_getElem? e1)⟩
      rw [Hh.get_push, if_neg (Nat.ne_of_lt (I.obLt hm))]
    · rename_i hk
      have e0 : k - s.length = 0 := by
        have := (List.getElem?_eq_some_iff.mp e).1
        simp at this
        omega
      rw [e0] at e
      cases e
      refine ⟨h.sz, ?_, [], by rw [Hh.get_push, if_pos rfl], by unfold Rf; rfl⟩
      have : k = θ.length := by rw [I.len]; omega
      rw [this]
      simp
  · rw [Hh.get_push] at e
    split at e
    · cases e
    · exact I.fz n o e
theorem c_make (hcl : ClOK TP P) {c : Str} {as : List E} (ia : EvL TP P as) : EvS TP P (.make c as) := fun {bo lk τ σ s F M θ h Ow} hF I S => by
  simp only [ev, tev]
  refine (ia hF I S).bind fun ts ws θ1 s1 h1 a1 I1 rs => ?_
  obtain ⟨st, I2⟩ := new_ins I1 c
  have ek : (θ1 ++ [h1.sz])[s1.length]? = some h1.sz := by rw [← I1.len]; simp
  have self : R M (θ1 ++ [h1.sz]) (h1.push (.ins c [])) (.ob s1.length) (.ref h1.sz) := by unfold R; exact ⟨_, rfl, ek⟩
  refine sim.weak st ?_
  refine (hcl (c, "__init__") _ lk _ F M _ _ (.ref h1.sz :: ws) hF I2 (rl_mk self ((pr_rl rs).mono st.mono0))).bind fun t w θ3 s3 h3 a3 I3 q => ?_
  cases t with
  | non =>
    unfold R at q
    subst q
    exact sim.ret I3 ⟨(self.mono a3.mono0).rm, fun z => by cases z⟩
  | _ => trivial
theorem c_meth (hp : PP TP P) (hcl : ClOK TP P) {o : E} {m : Str} {as : List E} (io : EvS TP P o) (ia : EvL TP P as) : EvS TP P (.meth o m as) := fun {bo lk τ σ s F M θ h Ow} hF I S => by
  simp only [ev, tev]
  refine (io hF I S).bind fun x wx θ1 s1 h1 a1 I1 ⟨rx, fx⟩ => ?_
  cases e1 : insT s1 x with
  | none => trivial
  | some q =>
    obtain ⟨k, c, fs⟩ := q
    obtain ⟨n, ws, rfl, rfl, ek, es, g, rf, ew⟩ := ins_ok I1 rx.r0 e1
    simp only [ew]
    cases e2 : fs.lookup m with
    | some _ => trivial
    | none =>
      simp only [lookup_none rf e2]
      by_cases hm : TP.hm c m = true
      · rw [if_pos hm, if_pos (by rw [← hp.hm]; exact hm)]
        refine (ia hF I1 (S.step a1)).bind fun ts us θ2 s2 h2 a2 I2 rs => ?_
        exact (hcl (c, m) _ lk s2 F M θ2 h2 (.ref n :: us) hF I2 (rl_mk (by unfold R; exact ⟨n, rfl, a2.th ek⟩) (pr_rl rs))).imp fun t w _ _ _ _ _ q => ⟨q.rm, fun z => by cases z⟩
      · rw [if_neg hm]; trivial
theorem c_blt (hp : PP TP P) {f : BF} {as : List E} (ia : EvL TP P as) : EvS TP P (.blt f as) := fun {bo lk τ σ s F M θ h Ow} hF I S => by
  simp only [ev, tev]
  refine (ia hF I S).bind fun ts ws θ1 s1 h1 a1 I1 rs => sim.ofT fun t et => ?_
  obtain ⟨w, h3, e3, g⟩ := blt_ok hp I1 hF (pr_r0 rs) et
  exact ⟨w, h3, θ1, e3, g.stp, g.ist, g.r.rm, fun _ => (g.fr rfl).base a1.sz⟩
theorem c_isa (hp : PP TP P) {a : E} {c : Ty} (ia : EvS TP P a) : EvS TP P (.isa a c) := fun {bo lk τ σ s F M θ h Ow} hF I S => by
  simp only [ev, tev]
  refine (ia hF I S).bind fun x wx θ1 s1 h1 a1 I1 ⟨rx, fx⟩ => sim.ofT fun t et => ?_
  obtain ⟨b, eb, rfl⟩ := Option.map_eq_some_iff.mp et
  obtain ⟨ty, e1, e2⟩ := Option.bind_eq_some_iff.mp eb
  rw [ty_ok I1 rx.r0 e1]
  simp only [Option.bind_some, ← hp.isT, e2, Option.map_some, ofO]
  exact sim.ret I1 (bl_rel b)
theorem c_fld (hp : PP TP P) {o : E} {f : Str} (io : EvS TP P o) : EvS TP P (.fld o f) := fun {bo lk τ σ s F M θ h Ow} hF I S => by
  simp only [ev, tev]
  refine (io hF I S).bind fun x wx θ1 s1 h1 a1 I1 ⟨rx, fx⟩ => ?_
  cases e1 : insT s1 x with
  | none => trivial
  | some q =>
    obtain ⟨k, c, fs⟩ := q
    obtain ⟨n, ws, rfl, rfl, ek, es, g, rf, ew⟩ := ins_ok I1 rx.r0 e1
    simp only
    by_cases hd : TP.fd c f = true
    · rw [if_pos hd]
      refine sim.ofT fun t et => ?_
      obtain ⟨w, e2, r⟩ := lookup_ok rf et
      refine ⟨w, h1, θ1, ?_, Stp.refl _ _ _, I1, r.rm, fun z => by cases z⟩
      unfold fldW
      simp only [ew]
      rw [if_pos (by rw [← hp.fd]; exact hd), e2]
      rfl
    · rw [if_neg hd]; trivial
theorem c_idx (hp : PP TP P) {a b : E} (ia : EvS TP P a) (ib : EvS TP P b) : EvS TP P (.idx a b) := fun {bo lk τ σ s F M θ h Ow} hF I S => by
  simp only [ev, tev]
  refine (ia hF I S).bind fun x wx θ1 s1 h1 a1 I1 ⟨rx, _⟩ => (ib hF I1 (S.step a1)).bind fun y wy θ2 s2 h2 a2 I2 ⟨ry, _⟩ => sim.ofT fun t et => ?_
  obtain ⟨u, e1, r⟩ := idx_ok hp (rx.r0.step a2) ry.r0 et
  rw [e1]
  exact sim.ret I2 ⟨r.rm, fun z => by cases z⟩
theorem c_slc {o : E} {lo hi : Option E} (io : EvS TP P o) (il : EvO TP P lo) (ih : EvO TP P hi) : EvS TP P (.slc o lo hi) := fun {bo lk τ σ s F M θ h Ow} hF I S => by
  simp only [ev, tev]
  refine (io hF I S).bind fun x wx θ1 s1 h1 a1 I1 ⟨rx, _⟩ => (il hF I1 (S.step a1)).bind fun l l' θ2 s2 h2 a2 I2 el => (ih hF I2 (S.step (a1.tr a2))).bind fun u u' θ3 s3 h3 a3 I3 eu => sim.ofT fun t et => ?_
  subst el eu
  obtain ⟨w, h4, e1, g⟩ := slc_ok (P := P) I3 (rx.r0.step (a2.tr a3)) et
  exact ⟨w, h4, θ3, e1, g.stp, g.ist, g.r.rm, fun _ => (g.fr rfl).base (Nat.le_trans a1.sz (Nat.le_trans a2.sz a3.sz))⟩
theorem c_rev {o : E} (io : EvS TP P o) : EvS TP P (.rev o) := fun {bo lk τ σ s F M θ h Ow} hF I S => by
  simp only [ev, tev]
  refine (io hF I S).bind fun x wx θ1 s1 h1 a1 I1 ⟨rx, _⟩ => ?_
  cases x with
  | lst us =>
    obtain ⟨n, ws, rfl, _, g, q⟩ := rx.r0
    have gt := Got.pushL (fr := true) I1 (rl_prd.mpr (prd_rev (rl_prd.mp q)))
    refine ⟨_, _, θ1, ?_, gt.stp, gt.ist, gt.r.rm, fun _ => (gt.fr rfl).base a1.sz⟩
    simp only [ob_lst' g]
  | _ => trivial
theorem c_tup {as : List E} (ia : EvL TP P as) : EvS TP P (.tup as) := fun {bo lk τ σ s F M θ h Ow} hF I S => by
  simp only [ev, tev]
  refine (ia hF I S).bind fun ts ws θ1 s1 h1 a1 I1 rs => ?_
  split
  · rename_i hl
    have g := Got.pushT (fr := true) I1 (pr_rl rs)
    exact ⟨_, _, θ1, by unfold newT; rw [if_pos (by rw [← rs.length]; exact hl)], g.stp, g.ist, g.r.rm, fun z => by cases z⟩
  · trivial
theorem c_lst {as : List E} (ia : EvL TP P as) : EvS TP P (.lst as) := fun {bo lk τ σ s F M θ h Ow} hF I S => by
  simp only [ev, tev]
  refine (ia hF I S).bind fun ts ws θ1 s1 h1 a1 I1 rs => ?_
  split
  · rename_i hl
    have g := Got.pushL (fr := true) I1 (pr_rl rs)
    exact ⟨_, _, θ1, by unfold newL; rw [if_pos (by rw [← rs.length]; exact hl)], g.stp, g.ist, g.r.rm, fun _ => (g.fr rfl).base a1.sz⟩
  · trivial
theorem got_dic {F : List Nat} {M : Nat → Prop} {θ : List Nat} {s : Om} {h : Hh} (I : Ist F M θ s h) : Got F M θ h true θ s (h.push (.dic [])) (.dic []) (.ref h.sz) where
  stp := Stp.push I _
  ist := I.push fun x => by simp
  r := by
    unfold R
    exact ⟨h.sz, [], rfl, fun z => absurd (I.lt _ z) (Nat.lt_irrefl _), fun z => absurd (I.obLt z) (Nat.lt_irrefl _), .inl (by rw [Hh.get_push, if_pos rfl]), by unfold Rk; rfl⟩
  fr := fun _ _ => ⟨h.sz, rfl, Nat.le_refl _, I.pushM fun x => by simp, h.sz, [], rfl, fun z => absurd (I.obLt z) (Nat.lt_irrefl _), .inl (by rw [Hh.get_push, if_pos rfl]), by unfold Rk; rfl⟩
theorem c_dsp (ks vs : List E) : EvS TP P (.dsp ks vs) := fun {bo lk τ σ s F M θ h Ow} hF I S => by
  simp only [ev, tev]
  split
  · have g := got_dic I
    exact ⟨_, _, θ, rfl, g.stp, g.ist, g.r.rm, fun _ => g.fr rfl⟩
  · trivial
theorem c_setOf {a : E} (ia : EvS TP P a) : EvS TP P (.setOf a) := fun {bo lk τ σ s F M θ h Ow} hF I S => by
  simp only [ev, tev]
  refine (ia hF I S).bind fun x wx θ1 s1 h1 a1 I1 ⟨rx, _⟩ => sim.ofT fun t et => ?_
  obtain ⟨w, h3, e3, g⟩ := set_ok (P := P) (fr := true) I1 rx.r0 et
  exact ⟨w, h3, θ1, e3, g.stp, g.ist, g.r.rm, fun _ => (g.fr rfl).base a1.sz⟩
/-! ### lists of expressions -/
theorem evs_nil {σ : Sl} {h : Hh} : evs P [] σ h = .ok [] h := rfl
theorem evs_star {a : E} {es : List E} {σ : Sl} {h : Hh} : evs P (.star a :: es) σ h = ((ev P a σ h).bind fun x h1 => ofO (starW P x h1) h1).bind fun xs h1 => (evs P es σ h1).bind fun ys h2 => .ok (xs ++ ys) h2 := rfl
theorem evs_cons {a : E} {es : List E} {σ : Sl} {h : Hh} (hn : ∀ x, a ≠ .star x) : evs P (a :: es) σ h = ((ev P a σ h).bind fun x h1 => .ok [x] h1).bind fun xs h1 => (evs P es σ h1).bind fun ys h2 => .ok (xs ++ ys) h2 := by
  cases a <;> first | rfl | exact absurd rfl (hn _)
theorem tevs_nil {lk bo : Bool} {τ : Tl} {s : Om} : tevs TP lk bo [] τ s = .ok [] s := rfl
theorem tevs_star {lk bo : Bool} {a : E} {es : List E} {τ : Tl} {s : Om} : tevs TP lk bo (.star a :: es) τ s = ((tev TP lk true a τ s).bind fun x s1 => ofT (starT TP x) s1).bind fun xs s1 => (tevs TP lk bo es τ s1).bind fun ys s2 => .ok (xs ++ ys) s2 := rfl
theorem tevs_cons {lk bo : Bool} {a : E} {es : List E} {τ : Tl} {s : Om} (hn : ∀ x, a ≠ .star x) : tevs TP lk bo (a :: es) τ s = ((tev TP lk bo a τ s).bind fun x s1 => .ok [x] s1).bind fun xs s1 => (tevs TP lk bo es τ s1).bind fun ys s2 => .ok (xs ++ ys) s2 := by
  cases a <;> first | rfl | exact absurd rfl (hn _)
theorem l_nil : EvL TP P [] := fun {bo lk τ σ s F M θ h Ow} hF I S => by
  rw [evs_nil, tevs_nil]
  exact sim.ret I .nil
theorem l_star (hp : PP TP P) {a : E} {es : List E} (ia : EvS TP P a) (ie : EvL TP P es) : EvL TP P (.star a :: es) := fun {bo lk τ σ s F M θ h Ow} hF I S => by
  rw [evs_star, tevs_star]
  refine sim.bind (rel := fun θ' _ h' ts ws => Paired (Rm bo M θ' h') ts ws) ?_ fun xs wx θ1 s1 h1 a1 I1 rx => (ie hF I1 (S.step a1)).bind fun ys wy θ2 s2 h2 a2 I2 ry => sim.ret I2 (prd_app (pr_step a2 rx) ry)
  refine (ia hF I S).bind fun x wx θ1 s1 h1 a1 I1 ⟨rx, _⟩ => sim.ofT fun t et => ?_
  obtain ⟨us, e1, q⟩ := star_ok hp rx.r0 et
  rw [e1]
  exact sim.ret I1 (Paired.mapP (rl_prd.mp q) fun _ _ z => z.rm)
theorem l_cons {a : E} {es : List E} (hn : ∀ x, a ≠ .star x) (ia : EvS TP P a) (ie : EvL TP P es) : EvL TP P (a :: es) := fun {bo lk τ σ s F M θ h Ow} hF I S => by
  rw [evs_cons hn, tevs_cons hn]
  refine sim.bind (rel := fun θ' _ h' ts ws => Paired (Rm bo M θ' h') ts ws) ?_ fun xs wx θ1 s1 h1 a1 I1 rx => (ie hF I1 (S.step a1)).bind fun ys wy θ2 s2 h2 a2 I2 ry => sim.ret I2 (prd_app (pr_step a2 rx) ry)
  exact (ia hF I S).bind fun x wx θ1 s1 h1 a1 I1 ⟨rx, _⟩ => sim.ret I1 (.cons rx .nil)
theorem to_none : EvO TP P none := fun {lk τ σ s F M θ h Ow} hF I S => by
  simp only [evo, tevo]
  exact sim.ret I rfl
theorem to_some {a : E} (ia : EvS TP P a) : EvO TP P (some a) := fun {lk τ σ s F M θ h Ow} hF I S => by
  simp only [evo, tevo]
  refine (ia hF I S).bind fun x wx θ1 s1 h1 a1 I1 ⟨rx, _⟩ => sim.ofT fun t et => ?_
  cases x with
  | int i => cases flT_ok rx.r0 rfl; cases et; exact sim.ret I1 rfl
  | _ => cases et
theorem k_nil : EvC TP P [] := fun {lk τ σ s F M θ h Ow} hF I S => by
  simp only [evC, tevC]
  exact sim.ret I rfl
theorem k_cons (hp : PP TP P) {a : E} {es : List E} (ia : EvS TP P a) (ie : EvC TP P es) : EvC TP P (a :: es) := fun {lk τ σ s F M θ h Ow} hF I S => by
  simp only [evC, tevC]
  refine (ia hF I S).bind fun x wx θ1 s1 h1 a1 I1 ⟨rx, fx⟩ => ?_
  cases e1 : truT TP lk x with
  | none => trivial
  | some b1 =>
    rw [tru_ok hp I1 hF rx.r0 e1]
    cases b1 with
    | true => exact ie hF I1 (S.step a1)
    | false => exact sim.ret I1 rfl
/-! ### what is walked -/
theorem i_seq (hp : PP TP P) {a : E} (ia : EvS TP P a) : EvI TP P (.seq a) := fun {bo lk τ σ s F M θ h Ow} hF I S => by
  simp only [evI, tevI]
  refine (ia hF I S).bind fun x wx θ1 s1 h1 a1 I1 ⟨rx, _⟩ => sim.ofT fun t et => ?_
  obtain ⟨κ, e1, q⟩ := seq_ok hp I1 hF rx et
  rw [e1]
  exact sim.ret I1 q
theorem i_enum (hp : PP TP P) {a : E} (ia : EvS TP P a) : EvI TP P (.enum a) := fun {bo lk τ σ s F M θ h Ow} hF I S => by
  simp only [evI, tevI]
  refine (ia hF I S).bind fun x wx θ1 s1 h1 a1 I1 ⟨rx, _⟩ => sim.ofT fun t et => ?_
  obtain ⟨κ, e1, q⟩ := enum_ok hp rx et
  rw [e1]
  exact sim.ret I1 q
theorem i_items {a : E} (ia : EvS TP P a) : EvI TP P (.items a) := fun {bo lk τ σ s F M θ h Ow} hF I S => by
  simp only [evI, tevI]
  refine (ia hF I S).bind fun x wx θ1 s1 h1 a1 I1 ⟨rx, _⟩ => sim.ofT fun t et => ?_
  obtain ⟨κ, e1, q⟩ := items_ok (P := P) I1 hF rx et
  rw [e1]
  exact sim.ret I1 q
theorem i_vals {a : E} (ia : EvS TP P a) : EvI TP P (.vals a) := fun {bo lk τ σ s F M θ h Ow} hF I S => by
  simp only [evI, tevI]
  refine (ia hF I S).bind fun x wx θ1 s1 h1 a1 I1 ⟨rx, _⟩ => sim.ofT fun t et => ?_
  obtain ⟨κ, e1, q⟩ := valsI_ok (P := P) I1 hF rx et
  rw [e1]
  exact sim.ret I1 q
theorem i_rng {a : E} (ia : EvS TP P a) : EvI TP P (.rng a) := fun {bo lk τ σ s F M θ h Ow} hF I S => by
  simp only [evI, tevI]
  refine (ia hF I S).bind fun x wx θ1 s1 h1 a1 I1 ⟨rx, _⟩ => sim.ofT fun t et => ?_
  obtain ⟨κ, e1, q⟩ := rng1_ok (P := P) (bo := bo) rx.r0 et
  rw [e1]
  exact sim.ret I1 q
theorem i_rng2 {a b : E} (ia : EvS TP P a) (ib : EvS TP P b) : EvI TP P (.rng2 a b) := fun {bo lk τ σ s F M θ h Ow} hF I S => by
  simp only [evI, tevI]
  refine (ia hF I S).bind fun x wx θ1 s1 h1 a1 I1 ⟨rx, _⟩ => (ib hF I1 (S.step a1)).bind fun y wy θ2 s2 h2 a2 I2 ⟨ry, _⟩ => sim.ofT fun t et => ?_
  obtain ⟨κ, e1, q⟩ := rng2_ok (P := P) (bo := bo) (rx.r0.step a2) ry.r0 et
  rw [e1]
  exact sim.ret I2 q
end
end MP

set_option Elab.async false
set_option linter.all false
set_option maxRecDepth 100000
/-! MP: the evaluator over values is sound: comprehensions. -/
namespace MP
open PySem L2
section
variable {TP : Tg0} {P : Pg}
theorem Stp.thn {θ θ' θ2 D : List Nat} {h h' h2 : Hh} (a : Stp θ h θ' h' []) (b : Stp θ' h' θ2 h2 D) : Stp θ h θ2 h2 D := (a.weak (D' := D) fun n z => (nomatch z)).trans b fun n z => .inl z
/-- what is gathered at d -/
structure Ga (α : Type) where
  A : (Nat → Prop) → Nat → List α → List Nat → Hh → Prop
  mkT : List α → T
  o : O
  stay : ∀ {F : List Nat} {M : Nat → Prop} {θ : List Nat} {s : Om} {h : Hh} {d : Nat} {acc : List α} {θ' : List Nat} {h' : Hh}, M d → Ist F M θ s h → Stp θ h θ' h' [] → A M d acc θ h → A M d acc θ' h'
  init : ∀ {M : Nat → Prop} {θ : List Nat} {h : Hh} {d : Nat}, h.get d = some o → A M d [] θ h
  fin : ∀ {F : List Nat} {M : Nat → Prop} {θ : List Nat} {s : Om} {h h' : Hh} {d : Nat} {acc : List α}, M d → Ist F M θ s h → (∀ n o, h.get n = some o → Same o (h'.get n)) → (∀ n o, h.get n = some o → (∀ x, o ≠ .frz x) → h'.get n = some o) → A M d acc θ h →
    R0 M θ h' (mkT acc) (.ref d) ∧ ∀ M' : Nat → Prop, (∀ n, M' n → M n) → ¬ M' d → R M' θ h' (mkT acc) (.ref d)
  nf : ∀ x, o ≠ .frz x
def gaL : Ga T where
  A := AL
  mkT := .lst
  o := .lst []
  stay := fun hd I a q => q.stay hd I a
  init := fun e => ⟨[], e, rl_nil'⟩
  fin := fun {F M θ s h h' d acc} hd I hs hk ⟨ws, g, r⟩ => by
    have m : Mono M θ h M θ h' := mono_same fun n o e _ => hs n o e
    have hn : d ∉ θ := fun z => I.mt d z hd
    have g' := hk d _ g (fun x => by simp)
    refine ⟨⟨d, ws, rfl, hn, g', r.mono m⟩, fun M' h1 h2 => ?_⟩
    unfold R
    refine ⟨d, ws, rfl, h2, hn, g', ?_⟩
    exact (r.mono m).mono ((Stp.refl θ h' []).mono (fun n z => nomatch z) fun n _ z => h1 n z)
  nf := fun x => by simp
def gaD : Ga (Key × T) where
  A := AD
  mkT := fun kvs => .dic (mkD [] kvs)
  o := .dic []
  stay := fun hd I a q => q.stay hd I a
  init := fun e => ⟨[], e, by unfold mkD Rk; rfl, Nat.le_refl _⟩
  fin := fun {F M θ s h h' d acc} hd I hs hk ⟨ws, g, r, _⟩ => by
    have m : Mono M θ h M θ h' := mono_same fun n o e _ => hs n o e
    have hn : d ∉ θ := fun z => I.mt d z hd
    have g' := hk d _ g (fun x => by simp)
    refine ⟨⟨d, ws, rfl, hn, .inl g', r.mono m⟩, fun M' h1 h2 => ?_⟩
    unfold R
    refine ⟨d, ws, rfl, h2, hn, .inl g', ?_⟩
    exact (r.mono m).mono ((Stp.refl θ h' []).mono (fun n z => nomatch z) fun n _ z => h1 n z)
  nf := fun x => by simp
def BodyOK {α : Type} (G : Ga α) (bodyT : Bool → Tl → Om → TR (List α)) (bodyW : Nat → Sl → Hh → Rs Unit) : Prop :=
  ∀ {lk : Bool} {F : List Nat} {M : Nat → Prop} {d : Nat} {τ : Tl} {σ : Sl} {θ : List Nat} {h : Hh} {s : Om} {acc ys : List α} {s1 : Om} {Ow : List Nat}, d ∉ Ow → (lk = false → F = []) → M d → Ist F M θ s h → SE Ow M θ h τ σ → G.A M d acc θ h → bodyT lk τ s = .ok ys s1 → (acc ++ ys).length ≤ lim →
    ∃ h1 θ1, bodyW d σ h = .ok () h1 ∧ Stp θ h θ1 h1 [d] ∧ Ist F M θ1 s1 h1 ∧ G.A M d (acc ++ ys) θ1 h1
/-- a clause's turn -/
def clT {α : Type} (TP : Tg0) (lk : Bool) (tg : Tg) (ifs : List E) (own : List Nat) (τ : Tl) (bodyT : Bool → Tl → Om → TR (List α)) (x : T) (s : Om) : TR (List α) := match stTT TP tg x (wipeT τ own) with
  | none => .no
  | some τ' => (tevC TP lk ifs τ' s).bind fun b s1 => if b = true then bodyT lk τ' s1 else .ok [] s1
def clW (P : Pg) (tg : Tg) (ifs : List E) (own : List Nat) (σ : Sl) (body : Sl → Hh → Rs Unit) (x : W) (h : Hh) : Rs Unit := match stT P tg x (wipeW σ own) h with
  | none => .no
  | some σ' => (evC P ifs σ' h).bind fun b h4 => if b = true then body σ' h4 else .ok () h4
theorem clause_ok {α : Type} {G : Ga α} {bodyT : Bool → Tl → Om → TR (List α)} {bodyW : Nat → Sl → Hh → Rs Unit} (hp : PP TP P) (B : BodyOK G bodyT bodyW) {tg : Tg} {ifs : List E} {own : List Nat} (ic : EvC TP P ifs) {lk : Bool} {F : List Nat} {M : Nat → Prop} {d : Nat} {τ : Tl} {σ : Sl} {θ : List Nat} {h : Hh} {s : Om} {acc ys : List α} {s1 : Om} {t : T} {w : W} {Ow : List Nat}
    (hO : d ∉ Ow) (hF : lk = false → F = []) (hd : M d) (I : Ist F M θ s h) (S : SE Ow M θ h τ σ) (ha : G.A M d acc θ h) (r : R M θ h t w) (e : clT TP lk tg ifs own τ bodyT t s = .ok ys s1) (hl : (acc ++ ys).length ≤ lim) :
    ∃ h1 θ1, clW P tg ifs own σ (bodyW d) w h = .ok () h1 ∧ Stp θ h θ1 h1 [d] ∧ Ist F M θ1 s1 h1 ∧ G.A M d (acc ++ ys) θ1 h1 := by
  unfold clT at e
  cases e0 : stTT TP tg t (wipeT τ own) with
  | none => rw [e0] at e; cases e
  | some τ' =>
    rw [e0] at e
    simp only at e
    obtain ⟨σ', eσ, S'⟩ := stT_ok hp tg (S.wipe own) r e0
    obtain ⟨b, s2, e1, e2⟩ := TR.bind_ok e
    obtain ⟨b', h2, θ2, w1, a2, I2, eb⟩ := (ic hF I S').got e1
    subst eb
    unfold clW
    rw [eσ]
    simp only [w1]
    have ha2 := G.stay hd I a2 ha
    cases b with
    | true =>
      simp only [if_true] at e2 ⊢
      obtain ⟨h3, θ3, w3, a3, I3, ha3⟩ := B hO hF hd I2 (S'.step a2) ha2 e2 hl
      exact ⟨h3, θ3, w3, a2.thn a3, I3, ha3⟩
    | false =>
      simp only [Bool.false_eq_true, if_false] at e2 ⊢
      cases e2
      exact ⟨h2, θ2, rfl, a2.weak (fun n z => (nomatch z)), I2, by rw [List.append_nil]; exact ha2⟩
theorem Rs.bind_asc {α β γ : Type} (r : Rs α) (f : α → Hh → Rs β) (g : β → Hh → Rs γ) : (r.bind f).bind g = r.bind fun x h => (f x h).bind g := by cases r <;> rfl
/-- a whole comprehension -/
theorem comp_all {α : Type} (G : Ga α) {bodyT : Bool → Tl → Om → TR (List α)} {bodyW : Nat → Sl → Hh → Rs Unit} (hp : PP TP P) (B : BodyOK G bodyT bodyW) {tg : Tg} {it : E} {ifs : List E} {own : List Nat} (ii : EvI TP P it) (ic : EvC TP P ifs)
    {bo lk : Bool} {τ : Tl} {σ : Sl} {s : Om} {F : List Nat} {M : Nat → Prop} {θ : List Nat} {h : Hh} {e : E} {Ow : List Nat} (hF : lk = false → F = []) (I : Ist F M θ s h) (S : SE Ow M θ h τ σ) {tk : List T × Bool → Om → TR T}
    (ht : ∀ xs s1 t s2, tk xs s1 = .ok t s2 → xs.1.length < P.fu ∧ ∃ ys, cpF (clT TP (lk || xs.2) tg ifs own τ bodyT) xs.1 s1 = .ok ys s2 ∧ t = G.mkT ys ∧ ys.length ≤ lim) (hne : ∀ xs s1 c fs s2, tk xs s1 ≠ .ex c fs s2) :
    sim F M θ h (relE F M h bo e) (((evI P it σ h).bind lockR).bind fun k h2 => match itL (k.next P) (clW P tg ifs own σ (bodyW h2.sz)) P.fu 0 (h2.push G.o) with
      | .ok _ h4 => ofH (.ref h2.sz) (unlockK k h4)
      | _ => .no) ((tevI TP lk true it τ s).bind tk) := by
  rw [Rs.bind_asc]
  refine (ii hF I S).bind fun xs κ θ1 s1 h1 a1 I1 hk => ?_
  cases et : tk xs s1 with
  | no => trivial
  | ex c fs s2 => exact absurd et (hne _ _ _ _ _)
  | ok t s2 =>
    obtain ⟨hfu, ys, ec, rfl, hl⟩ := ht xs s1 t s2 et
    obtain ⟨F', h2, L, hF', hd⟩ := lock_ok (D := []) I1 hk (fun n z => nomatch z)
    rw [L.lock]
    have hF2 : (lk || xs.2) = false → F' = [] := fun z => by
      obtain ⟨z1, z2⟩ := Bool.or_eq_false_iff.mp z
      rw [hF' z2]
      exact hF z1
    have I3 := L.ist.pushM G.nf
    have st : Stp θ1 h2 θ1 (h2.push G.o) [] := Stp.push L.ist _
    have S2 : SE Ow M θ1 h2 τ σ := (S.step a1).same L.same
    have hb : ∀ n, n < h2.sz → (M n ∨ n = h2.sz) → M n := fun n z q => q.resolve_right (Nat.ne_of_lt z)
    obtain ⟨h', θ', ei, b, I4, ha⟩ := cpF_ok (P := P) (turnW := clW P tg ifs own σ (bodyW h2.sz)) (turnT := clT TP (lk || xs.2) tg ifs own τ bodyT) (A := G.A (fun n => M n ∨ n = h2.sz) h2.sz) (Kn := 0) (D := []) L.ikl hb (fun n z => nomatch z) (fun I a q => G.stay (.inr rfl) I a q)
      (fun t w θc sc hc acc zs s3 a Ic ha r e3 hl3 => by
        obtain ⟨h5, θ5, w5, a5, I5, ha5⟩ := clause_ok (G := G) (bodyW := bodyW) hp B ic (d := h2.sz) (M := fun n => M n ∨ n = h2.sz) (fun z => Nat.lt_irrefl _ (L.ist.lt _ (S2.sub _ z))) hF2 (.inr rfl) Ic (S2.go a hb fun n z => .inl (S2.sub n z)) ha r e3 (by omega)
        exact ⟨h5, θ5, w5, a.trans a5 (fun n z => .inr (by rw [List.mem_singleton] at z; rw [z]; exact Nat.le_refl _)), I5, ha5⟩)
      xs.1 0 P.fu θ1 s1 (h2.push G.o) [] ys s2 (fun k => by rw [Nat.zero_add]) hfu st I3 (G.init (by rw [Hh.get_push, if_pos rfl])) ec (by rw [List.nil_append]; omega)
    rw [List.nil_append] at ha
    obtain ⟨h5, eu, c, I5, sz5, same5, keep5⟩ := L.un b I4
    obtain ⟨f1, f2⟩ := G.fin (.inr rfl) I4 same5 keep5 ha
    show sim F M θ1 h1 _ (match (generalizing := false) itL (κ.next P) (clW P tg ifs own σ (bodyW h2.sz)) P.fu 0 (h2.push G.o) with
      | .ok _ h4 => ofH (W.ref h2.sz) (unlockK κ h4)
      | _ => Rs.no) _
    rw [ei]
    simp only [eu, ofH]
    refine ⟨.ref h2.sz, h5, θ', rfl, c, I5.less (fun n z => .inl z), (f2 M (fun n z => .inl z) (fun z => ?_)).rm, fun _ _ => ⟨h2.sz, rfl, ?_, I5, f1⟩⟩
    · have := L.ist.lt _ z
      omega
    · rw [L.sz]; exact a1.sz
/-! ### the leaves -/
def leafL (TP : Tg0) (vx : E) : Bool → Tl → Om → TR (List T) := fun lk τ s => (tev TP lk false vx τ s).bind fun y s1 => .ok [y] s1
def leafLW (P : Pg) (vx : E) : Nat → Sl → Hh → Rs Unit := fun d σ h => (ev P vx σ h).bind fun y h5 => addL d y h5
theorem leafL_ok {vx : E} (iv : EvS TP P vx) : BodyOK gaL (leafL TP vx) (leafLW P vx) := fun {lk F M d τ σ θ h s acc ys s1 Ow} hO hF hd I S ha e hl => by
  obtain ⟨y, s2, e1, e2⟩ := TR.bind_ok e
  cases e2
  obtain ⟨w, h2, θ2, w1, a2, I2, r, _⟩ := (iv hF I S).got e1
  have r : R M θ2 h2 y w := r
  obtain ⟨h3, w3, a3, I3, ha3⟩ := addL_ok hd I2 (AL.stay hd I a2 ha) r (by simp at hl; omega)
  refine ⟨h3, θ2, ?_, a2.thn a3, I3, ha3⟩
  unfold leafLW
  rw [w1]
  exact w3
def leafD (TP : Tg0) (kx vx : E) : Bool → Tl → Om → TR (List (Key × T)) := fun lk τ s => (tev TP lk false kx τ s).bind fun y s1 => (tev TP lk false vx τ s1).bind fun z s2 => match keyT y with
  | some k => .ok [(k, z)] s2
  | none => .no
def leafDW (P : Pg) (kx vx : E) : Nat → Sl → Hh → Rs Unit := fun d σ h => (ev P kx σ h).bind fun y h5 => (ev P vx σ h5).bind fun z h6 => addD d y z h6
theorem leafD_ok {kx vx : E} (ik : EvS TP P kx) (iv : EvS TP P vx) : BodyOK gaD (leafD TP kx vx) (leafDW P kx vx) := fun {lk F M d τ σ θ h s acc ys s1 Ow} hO hF hd I S ha e hl => by
  obtain ⟨y, s2, e1, e⟩ := TR.bind_ok e
  obtain ⟨z, s3, e2, e⟩ := TR.bind_ok e
  obtain ⟨w, h2, θ2, w1, a2, I2, r, _⟩ := (ik hF I S).got e1
  obtain ⟨w', h3, θ3, w2, a3, I3, r', _⟩ := (iv hF I2 (S.step a2)).got e2
  cases ek : keyT y with
  | none => rw [ek] at e; cases e
  | some k =>
    rw [ek] at e
    cases e
    have r' : R M θ3 h3 z w' := r'
    obtain ⟨h4, w3, a4, I4, ha4⟩ := addD_ok hd I3 (AD.stay hd I (a2.tr a3) ha) (keyT_ok (r.r0.step a3) ek) r' (by simp at hl; omega)
    refine ⟨h4, θ3, ?_, (a2.tr a3).thn a4, I4, ha4⟩
    unfold leafDW
    rw [w1]
    show ((ev P vx σ h2).bind fun z h6 => addD d w z h6) = _
    rw [w2]
    exact w3
/-! ### the second clause -/
def body2 {α : Type} (TP : Tg0) (it : E) (tg : Tg) (ifs : List E) (own : List Nat) (bodyT : Bool → Tl → Om → TR (List α)) : Bool → Tl → Om → TR (List α) := fun lk τ s => (tevI TP lk false it τ s).bind fun xs s2 => if xs.2 = false ∧ xs.1.length < TP.fu then cpF (clT TP lk tg ifs own τ bodyT) xs.1 s2 else .no
def body2W (P : Pg) (it : E) (tg : Tg) (ifs : List E) (own : List Nat) (bodyW : Nat → Sl → Hh → Rs Unit) : Nat → Sl → Hh → Rs Unit := fun d σ h => ((evI P it σ h).bind flatR).bind fun k h6 => match itL (k.next P) (clW P tg ifs own σ (bodyW d)) P.fu 0 h6 with
  | .ok _ h10 => .ok () h10
  | _ => .no
theorem body2_ok {α : Type} {G : Ga α} {bodyT : Bool → Tl → Om → TR (List α)} {bodyW : Nat → Sl → Hh → Rs Unit} (hp : PP TP P) (B : BodyOK G bodyT bodyW) {it : E} {tg : Tg} {ifs : List E} {own : List Nat} (ii : EvI TP P it) (ic : EvC TP P ifs) : BodyOK G (body2 TP it tg ifs own bodyT) (body2W P it tg ifs own bodyW) := fun {lk F M d τ σ θ h s acc ys s1 Ow} hO hF hd I S ha e hl => by
  obtain ⟨xs, s2, e1, e⟩ := TR.bind_ok e
  obtain ⟨κ, h2, θ2, w1, a2, I2, hk⟩ := (ii hF I S).got e1
  split at e
  · rename_i hc
    obtain ⟨hx, hfu⟩ := hc
    obtain ⟨F', h3, L, hF', hd'⟩ := lock_ok (D := [d]) I2 hk (fun n z => ⟨rfl, by rw [List.mem_singleton] at z; rw [z]; exact hd⟩)
    have hn := hd'.mp hx
    have eF := hF' hx
    subst eF
    have e3 : h3 = h2 := by
      have := L.lock
      unfold lockR lockK at this
      simp only [hn] at this
      cases this
      rfl
    subst e3
    have ha2 := G.stay hd I a2 ha
    have S2 := S.step a2
    obtain ⟨h', θ', ei, b, I4, ha4⟩ := cpF_ok (P := P) (turnW := clW P tg ifs own σ (bodyW d)) (turnT := clT TP lk tg ifs own τ bodyT) (A := fun acc1 => G.A M d (acc ++ acc1)) (Kn := acc.length) (D := [d]) (M := M) (M' := M) L.ikl (fun n _ z => z) (fun n z => .inl (by rw [List.mem_singleton] at z; rw [z]; exact hd)) (fun I a q => G.stay hd I a q)
      (fun t w θc sc hc acc1 zs s3 a Ic hac r e3 hl3 => by
        have mo : Mono M θ2 h3 M θc hc := a.mono (fun n z => .inl (by rw [List.mem_singleton] at z; rw [z]; exact hd)) fun n _ z => z
        have Sc : SE Ow M θc hc τ σ := by
          refine ⟨S2.len, fun i v ev => ?_, S2.sub⟩
          obtain ⟨w1, e1, r1, q1, o1⟩ := S2.at_ i v ev
          refine ⟨w1, e1, ?_, fun z => (q1 z).mono mo, o1⟩
          cases ho : v.own with
          | false => exact ((q1 ho).mono mo).r0
          | true =>
            obtain ⟨n, hn, rfl⟩ := o1 ho
            exact r1.off a mo (fun z => hO (by rw [List.mem_singleton] at z; rw [← z]; exact hn))
        obtain ⟨h5, θ5, w5, a5, I5, ha5⟩ := clause_ok (G := G) (bodyW := bodyW) hp B ic (d := d) (M := M) hO hF hd Ic Sc hac r e3 (by rw [List.append_assoc, List.length_append]; exact hl3)
        exact ⟨h5, θ5, w5, a.trans a5 (fun n z => .inl z), I5, by rw [List.append_assoc] at ha5; exact ha5⟩)
      xs.1 0 P.fu θ2 s2 h3 [] ys s1 (fun k => by rw [Nat.zero_add]) (by rw [← hp.fu]; exact hfu) (Stp.refl _ _ _) I2 (by simp only [List.append_nil]; exact ha2) e (by rw [List.nil_append, ← List.length_append]; exact hl)
    refine ⟨h', θ', ?_, a2.thn b, I4, by simpa using ha4⟩
    have ef : flatR κ h3 = .ok κ h3 := by unfold flatR; simp only [hn]
    have eb : body2W P it tg ifs own bodyW d σ h = (match (generalizing := false) itL (κ.next P) (clW P tg ifs own σ (bodyW d)) P.fu 0 h3 with
      | .ok _ h10 => Rs.ok () h10
      | _ => Rs.no) := by
      unfold body2W
      rw [w1]
      show (flatR κ h3).bind _ = _
      rw [ef]
    rw [eb, ei]
  · cases e
/-! ### comprehensions -/
theorem cpL_go {α : Type} {turn : T → Om → TR (Option α)} {g : T → Om → TR (List α)} (hg : ∀ x s y s1, turn x s = .ok y s1 → g x s = .ok y.toList s1) : ∀ {xs : List T} {s : Om} {ys : List α} {s' : Om}, cpL turn xs s = .ok ys s' → cpF g xs s = .ok ys s'
  | [], s, ys, s', e => e
  | x :: xs, s, ys, s', e => by
    unfold cpL at e
    unfold cpF
    split at e
    · rename_i y s1 e1
      rw [hg _ _ _ _ e1]
      split at e
      · rename_i zs s3 e2
        simp only [cpL_go hg e2]
        cases e
        cases y <;> rfl
      · cases e
    · cases e
theorem cpF_go {α : Type} {turn g : T → Om → TR (List α)} (hg : ∀ x s y s1, turn x s = .ok y s1 → g x s = .ok y s1) : ∀ {xs : List T} {s : Om} {ys : List α} {s' : Om}, cpF turn xs s = .ok ys s' → cpF g xs s = .ok ys s'
  | [], s, ys, s', e => e
  | x :: xs, s, ys, s', e => by
    unfold cpF at e
    unfold cpF
    split at e
    · rename_i y s1 e1
      rw [hg _ _ _ _ e1]
      split at e
      · rename_i zs s3 e2
        simp only [cpF_go hg e2]
        exact e
      · cases e
    · cases e
theorem cl_opt {α : Type} {lk : Bool} {tg : Tg} {ifs : List E} {own : List Nat} {τ : Tl} {bodyT : Bool → Tl → Om → TR (List α)} {f : Tl → Om → TR (Option α)} (hf : ∀ τ s y s1, f τ s = .ok y s1 → bodyT lk τ s = .ok y.toList s1) (x : T) (s : Om) (y : Option α) (s1 : Om)
    (e : (match stTT TP tg x (wipeT τ own) with
      | none => TR.no
      | some τ' => (tevC TP lk ifs τ' s).bind fun b s1 => if b = true then f τ' s1 else .ok none s1) = .ok y s1) : clT TP lk tg ifs own τ bodyT x s = .ok y.toList s1 := by
  unfold clT
  split at e
  · cases e
  · rename_i τ' e0
    obtain ⟨b, s2, e1, e2⟩ := TR.bind_ok e
    simp only [e1]
    show (if b = true then bodyT lk τ' s2 else TR.ok [] s2) = _
    split at e2
    · rename_i hb
      rw [if_pos hb]
      exact hf _ _ _ _ e2
    · rename_i hb
      rw [if_neg hb]
      cases e2
      rfl
theorem cl_lst {α : Type} {lk : Bool} {tg : Tg} {ifs : List E} {own : List Nat} {τ : Tl} {bodyT : Bool → Tl → Om → TR (List α)} {f : Tl → Om → TR (List α)} (hf : ∀ τ s y s1, f τ s = .ok y s1 → bodyT lk τ s = .ok y s1) (x : T) (s : Om) (y : List α) (s1 : Om)
    (e : (match stTT TP tg x (wipeT τ own) with
      | none => TR.no
      | some τ' => (tevC TP lk ifs τ' s).bind fun b s1 => if b = true then f τ' s1 else .ok [] s1) = .ok y s1) : clT TP lk tg ifs own τ bodyT x s = .ok y s1 := by
  unfold clT
  split at e
  · cases e
  · rename_i τ' e0
    obtain ⟨b, s2, e1, e2⟩ := TR.bind_ok e
    simp only [e1]
    show (if b = true then bodyT lk τ' s2 else TR.ok [] s2) = _
    split at e2
    · rename_i hb
      rw [if_pos hb]
      exact hf _ _ _ _ e2
    · rename_i hb
      rw [if_neg hb]
      exact e2
theorem leafL_of {lk : Bool} {vx : E} (τ : Tl) (s : Om) (y : Option T) (s1 : Om) (e : ((tev TP lk false vx τ s).bind fun y s2 => TR.ok (some y) s2) = .ok y s1) : leafL TP vx lk τ s = .ok y.toList s1 := by
  obtain ⟨z, s2, e1, e2⟩ := TR.bind_ok e
  unfold leafL
  rw [e1]
  cases e2
  rfl
theorem leafD_of {lk : Bool} {kx vx : E} (τ : Tl) (s : Om) (y : Option (Key × T)) (s1 : Om) (e : ((tev TP lk false kx τ s).bind fun y s2 => (tev TP lk false vx τ s2).bind fun z s3 => match keyT y with
    | some k => TR.ok (some (k, z)) s3
    | none => .no) = .ok y s1) : leafD TP kx vx lk τ s = .ok y.toList s1 := by
  obtain ⟨a, s2, e1, e2⟩ := TR.bind_ok e
  obtain ⟨b, s3, e3, e4⟩ := TR.bind_ok e2
  unfold leafD
  rw [e1]
  show ((tev TP lk false vx τ s2).bind fun z s2 => match keyT a with
    | some k => .ok [(k, z)] s2
    | none => .no) = _
  rw [e3]
  cases ek : keyT a with
  | none => rw [ek] at e4; cases e4
  | some k => rw [ek] at e4; cases e4; rfl
theorem c_cp (hp : PP TP P) (hfu : P.fu ≤ lim) {o : Bool} {kx vx it : E} {tg : Tg} {ifs : List E} {own : List Nat} (ik : EvS TP P kx) (iv : EvS TP P vx) (ii : EvI TP P it) (ic : EvC TP P ifs) : EvS TP P (.cp o kx vx tg it ifs own) := fun {bo lk τ σ s F M θ h Ow} hF I S => by
  cases o with
  | false =>
    simp only [ev, tev]
    refine comp_all gaL (bodyT := leafL TP vx) (bodyW := leafLW P vx) hp (leafL_ok iv) (tg := tg) (own := own) ii ic hF I S (fun xs s1 t s2 e => ?_) (fun xs s1 c fs s2 e => ?_)
    · split at e
      · rename_i hl
        obtain ⟨ys, s3, e1, e2⟩ := TR.bind_ok e
        cases e2
        exact ⟨by rw [← hp.fu]; exact hl, ys, cpL_go (cl_opt leafL_of) e1, rfl, by have := cpL_len e1; rw [hp.fu] at hl; omega⟩
      · cases e
    · split at e
      · cases e1 : cpL _ xs.1 s1 with
        | ok a b => rw [e1] at e; cases e
        | ex a b c => exact cpL_ne e1
        | no => rw [e1] at e; cases e
      · cases e
  | true =>
    simp only [ev, tev]
    refine comp_all gaD (bodyT := leafD TP kx vx) (bodyW := leafDW P kx vx) hp (leafD_ok ik iv) (tg := tg) (own := own) ii ic hF I S (fun xs s1 t s2 e => ?_) (fun xs s1 c fs s2 e => ?_)
    · split at e
      · rename_i hl
        obtain ⟨ys, s3, e1, e2⟩ := TR.bind_ok e
        cases e2
        exact ⟨by rw [← hp.fu]; exact hl, ys, cpL_go (cl_opt leafD_of) e1, rfl, by have := cpL_len e1; rw [hp.fu] at hl; omega⟩
      · cases e
    · split at e
      · cases e1 : cpL _ xs.1 s1 with
        | ok a b => rw [e1] at e; cases e
        | ex a b c => exact cpL_ne e1
        | no => rw [e1] at e; cases e
      · cases e
theorem body2_of {α : Type} {lk : Bool} {it : E} {tg : Tg} {ifs : List E} {own : List Nat} {bodyT : Bool → Tl → Om → TR (List α)} {f : Tl → Om → TR (Option α)} (hf : ∀ τ s y s1, f τ s = .ok y s1 → bodyT lk τ s = .ok y.toList s1) (τ : Tl) (s : Om) (y : List α) (s1 : Om)
    (e : ((tevI TP lk false it τ s).bind fun xs1 s2 => if xs1.2 = false ∧ xs1.1.length < TP.fu then cpL (fun x s => match stTT TP tg x (wipeT τ own) with
      | none => TR.no
      | some τ' => (tevC TP lk ifs τ' s).bind fun b s1 => if b = true then f τ' s1 else .ok none s1) xs1.1 s2 else .no) = .ok y s1) : body2 TP it tg ifs own bodyT lk τ s = .ok y s1 := by
  obtain ⟨xs, s2, e1, e2⟩ := TR.bind_ok e
  unfold body2
  rw [e1]
  show (if xs.2 = false ∧ xs.1.length < TP.fu then cpF (clT TP lk tg ifs own τ bodyT) xs.1 s2 else .no) = _
  split at e2
  · rename_i hc
    rw [if_pos hc]
    exact cpL_go (cl_opt hf) e2
  · cases e2
theorem c_cp2 (hp : PP TP P) (hfu : P.fu ≤ lim) {o : Bool} {kx vx it it1 : E} {tg tg1 : Tg} {ifs ifs1 : List E} {own own1 : List Nat} (ik : EvS TP P kx) (iv : EvS TP P vx) (ii : EvI TP P it) (ic : EvC TP P ifs) (ii1 : EvI TP P it1) (ic1 : EvC TP P ifs1) : EvS TP P (.cp2 o kx vx tg it ifs tg1 it1 ifs1 own own1) := fun {bo lk τ σ s F M θ h Ow} hF I S => by
  cases o with
  | false =>
    simp only [ev, tev]
    refine comp_all gaL (bodyT := body2 TP it1 tg1 ifs1 own1 (leafL TP vx)) (bodyW := body2W P it1 tg1 ifs1 own1 (leafLW P vx)) hp (body2_ok hp (leafL_ok iv) ii1 ic1) (tg := tg) (own := own) ii ic hF I S (fun xs s1 t s2 e => ?_) (fun xs s1 c fs s2 e => ?_)
    · split at e
      · rename_i hl
        obtain ⟨ys, s3, e1, e2⟩ := TR.bind_ok e
        split at e2
        · rename_i hy
          cases e2
          exact ⟨by rw [← hp.fu]; exact hl, ys, cpF_go (cl_lst (body2_of leafL_of)) e1, rfl, hy⟩
        · cases e2
      · cases e
    · split at e
      · cases e1 : cpF _ xs.1 s1 with
        | ok a b => rw [e1] at e; replace e : (if a.length ≤ lim then TR.ok (T.lst a) b else TR.no) = TR.ex c fs s2 := e; split at e <;> cases e
        | ex a b c => exact cpF_ne e1
        | no => rw [e1] at e; cases e
      · cases e
  | true =>
    simp only [ev, tev]
    refine comp_all gaD (bodyT := body2 TP it1 tg1 ifs1 own1 (leafD TP kx vx)) (bodyW := body2W P it1 tg1 ifs1 own1 (leafDW P kx vx)) hp (body2_ok hp (leafD_ok ik iv) ii1 ic1) (tg := tg) (own := own) ii ic hF I S (fun xs s1 t s2 e => ?_) (fun xs s1 c fs s2 e => ?_)
    · split at e
      · rename_i hl
        obtain ⟨ys, s3, e1, e2⟩ := TR.bind_ok e
        split at e2
        · rename_i hy
          cases e2
          exact ⟨by rw [← hp.fu]; exact hl, ys, cpF_go (cl_lst (body2_of leafD_of)) e1, rfl, hy⟩
        · cases e2
      · cases e
    · split at e
      · cases e1 : cpF _ xs.1 s1 with
        | ok a b => rw [e1] at e; replace e : (if a.length ≤ lim then TR.ok (T.dic (mkD [] a)) b else TR.no) = TR.ex c fs s2 := e; split at e <;> cases e
        | ex a b c => exact cpF_ne e1
        | no => rw [e1] at e; cases e
      · cases e
/-! ### all of them -/
theorem s_no {e : E} (h1 : ∀ lk bo τ s, tev TP lk bo e τ s = .no) : EvS TP P e := fun {bo lk τ σ s F M θ h Ow} hF I S => by rw [h1]; trivial
theorem i_no {e : E} (h1 : ∀ lk bo τ s, tevI TP lk bo e τ s = .no) : EvI TP P e := fun {bo lk τ σ s F M θ h Ow} hF I S => by rw [h1]; trivial
mutual
theorem ev_all (hp : PP TP P) (hcl : ClOK TP P) (hfu : P.fu ≤ lim) : ∀ e : E, EvS TP P e
  | .var i => c_var i
  | .con w => c_con w
  | .glb x => c_glb hp x
  | .bin o a b => c_bin (ev_all hp hcl hfu a) (ev_all hp hcl hfu b)
  | .cmp o a b => c_cmp hp (ev_all hp hcl hfu a) (ev_all hp hcl hfu b)
  | .cmp2 o o' a b c => c_cmp2 hp (ev_all hp hcl hfu a) (ev_all hp hcl hfu b) (ev_all hp hcl hfu c)
  | .and a b => c_and hp (ev_all hp hcl hfu a) (ev_all hp hcl hfu b)
  | .or a b => c_or hp (ev_all hp hcl hfu a) (ev_all hp hcl hfu b)
  | .not a => c_not hp (ev_all hp hcl hfu a)
  | .neg a => c_neg (ev_all hp hcl hfu a)
  | .ite c a b => c_ite hp (ev_all hp hcl hfu c) (ev_all hp hcl hfu a) (ev_all hp hcl hfu b)
  | .call f as => c_call hcl (evs_all hp hcl hfu as)
  | .make c as => c_make hcl (evs_all hp hcl hfu as)
  | .meth o m as => c_meth hp hcl (ev_all hp hcl hfu o) (evs_all hp hcl hfu as)
  | .blt f as => c_blt hp (evs_all hp hcl hfu as)
  | .bm o m as => s_no fun _ _ _ _ => rfl
  | .isa a c => c_isa hp (ev_all hp hcl hfu a)
  | .fld o f => c_fld hp (ev_all hp hcl hfu o)
  | .xf i f => c_xf hp i f
  | .xi i c => c_xi hp i c
  | .idx o i => c_idx hp (ev_all hp hcl hfu o) (ev_all hp hcl hfu i)
  | .slc o lo hi => c_slc (ev_all hp hcl hfu o) (evo_all hp hcl hfu lo) (evo_all hp hcl hfu hi)
  | .rev o => c_rev (ev_all hp hcl hfu o)
  | .tup as => c_tup (evs_all hp hcl hfu as)
  | .lst as => c_lst (evs_all hp hcl hfu as)
  | .star e => s_no fun _ _ _ _ => rfl
  | .dsp ks vs => c_dsp ks vs
  | .cp o k v tg it ifs own => c_cp hp hfu (ev_all hp hcl hfu k) (ev_all hp hcl hfu v) (evI_all hp hcl hfu it) (evC_all hp hcl hfu ifs)
  | .cp2 o k v tg it ifs tg1 it1 ifs1 own own1 => c_cp2 hp hfu (ev_all hp hcl hfu k) (ev_all hp hcl hfu v) (evI_all hp hcl hfu it) (evC_all hp hcl hfu ifs) (evI_all hp hcl hfu it1) (evC_all hp hcl hfu ifs1)
  | .seq a => s_no fun _ _ _ _ => rfl
  | .enum a => s_no fun _ _ _ _ => rfl
  | .rng a => s_no fun _ _ _ _ => rfl
  | .rng2 a b => s_no fun _ _ _ _ => rfl
  | .zip a b => s_no fun _ _ _ _ => rfl
  | .items a => s_no fun _ _ _ _ => rfl
  | .vals a => s_no fun _ _ _ _ => rfl
  | .setOf a => c_setOf (ev_all hp hcl hfu a)
  | .srtK a j => s_no fun _ _ _ _ => rfl
  | .minD a => s_no fun _ _ _ _ => rfl
theorem evI_all (hp : PP TP P) (hcl : ClOK TP P) (hfu : P.fu ≤ lim) : ∀ e : E, EvI TP P e
  | .seq a => i_seq hp (ev_all hp hcl hfu a)
  | .enum a => i_enum hp (ev_all hp hcl hfu a)
  | .rng a => i_rng (ev_all hp hcl hfu a)
  | .rng2 a b => i_rng2 (ev_all hp hcl hfu a) (ev_all hp hcl hfu b)
  | .items a => i_items (ev_all hp hcl hfu a)
  | .vals a => i_vals (ev_all hp hcl hfu a)
  | .var i => i_no fun _ _ _ _ => rfl
  | .con w => i_no fun _ _ _ _ => rfl
  | .glb x => i_no fun _ _ _ _ => rfl
  | .bin o a b => i_no fun _ _ _ _ => rfl
  | .cmp o a b => i_no fun _ _ _ _ => rfl
  | .cmp2 o o' a b c => i_no fun _ _ _ _ => rfl
  | .and a b => i_no fun _ _ _ _ => rfl
  | .or a b => i_no fun _ _ _ _ => rfl
  | .not a => i_no fun _ _ _ _ => rfl
  | .neg a => i_no fun _ _ _ _ => rfl
  | .ite c a b => i_no fun _ _ _ _ => rfl
  | .call f as => i_no fun _ _ _ _ => rfl
  | .make c as => i_no fun _ _ _ _ => rfl
  | .meth o m as => i_no fun _ _ _ _ => rfl
  | .blt f as => i_no fun _ _ _ _ => rfl
  | .bm o m as => i_no fun _ _ _ _ => rfl
  | .isa a c => i_no fun _ _ _ _ => rfl
  | .fld o f => i_no fun _ _ _ _ => rfl
  | .xf i f => i_no fun _ _ _ _ => rfl
  | .xi i c => i_no fun _ _ _ _ => rfl
  | .idx o i => i_no fun _ _ _ _ => rfl
  | .slc o lo hi => i_no fun _ _ _ _ => rfl
  | .rev o => i_no fun _ _ _ _ => rfl
  | .tup as => i_no fun _ _ _ _ => rfl
  | .lst as => i_no fun _ _ _ _ => rfl
  | .star e => i_no fun _ _ _ _ => rfl
  | .dsp ks vs => i_no fun _ _ _ _ => rfl
  | .cp o k v tg it ifs own => i_no fun _ _ _ _ => rfl
  | .cp2 o k v tg it ifs tg1 it1 ifs1 own own1 => i_no fun _ _ _ _ => rfl
  | .zip a b => i_no fun _ _ _ _ => rfl
  | .setOf a => i_no fun _ _ _ _ => rfl
  | .srtK a j => i_no fun _ _ _ _ => rfl
  | .minD a => i_no fun _ _ _ _ => rfl
theorem evs_all (hp : PP TP P) (hcl : ClOK TP P) (hfu : P.fu ≤ lim) : ∀ es : List E, EvL TP P es
  | [] => l_nil
  | .star a :: es => l_star hp (ev_all hp hcl hfu a) (evs_all hp hcl hfu es)
  | .var i :: es => l_cons (fun _ => by simp) (ev_all hp hcl hfu (.var i)) (evs_all hp hcl hfu es)
  | .con w :: es => l_cons (fun _ => by simp) (ev_all hp hcl hfu (.con w)) (evs_all hp hcl hfu es)
  | .glb x :: es => l_cons (fun _ => by simp) (ev_all hp hcl hfu (.glb x)) (evs_all hp hcl hfu es)
  | .bin o a b :: es => l_cons (fun _ => by simp) (ev_all hp hcl hfu (.bin o a b)) (evs_all hp hcl hfu es)
  | .cmp o a b :: es => l_cons (fun _ => by simp) (ev_all hp hcl hfu (.cmp o a b)) (evs_all hp hcl hfu es)
  | .cmp2 o o' a b c :: es => l_cons (fun _ => by simp) (ev_all hp hcl hfu (.cmp2 o o' a b c)) (evs_all hp hcl hfu es)
  | .and a b :: es => l_cons (fun _ => by simp) (ev_all hp hcl hfu (.and a b)) (evs_all hp hcl hfu es)
  | .or a b :: es => l_cons (fun _ => by simp) (ev_all hp hcl hfu (.or a b)) (evs_all hp hcl hfu es)
  | .not a :: es => l_cons (fun _ => by simp) (ev_all hp hcl hfu (.not a)) (evs_all hp hcl hfu es)
  | .neg a :: es => l_cons (fun _ => by simp) (ev_all hp hcl hfu (.neg a)) (evs_all hp hcl hfu es)
  | .ite c a b :: es => l_cons (fun _ => by simp) (ev_all hp hcl hfu (.ite c a b)) (evs_all hp hcl hfu es)
  | .call f as :: es => l_cons (fun _ => by simp) (ev_all hp hcl hfu (.call f as)) (evs_all hp hcl hfu es)
  | .make c as :: es => l_cons (fun _ => by simp) (ev_all hp hcl hfu (.make c as)) (evs_all hp hcl hfu es)
  | .meth o m as :: es => l_cons (fun _ => by simp) (ev_all hp hcl hfu (.meth o m as)) (evs_all hp hcl hfu es)
  | .blt f as :: es => l_cons (fun _ => by simp) (ev_all hp hcl hfu (.blt f as)) (evs_all hp hcl hfu es)
  | .bm o m as :: es => l_cons (fun _ => by simp) (ev_all hp hcl hfu (.bm o m as)) (evs_all hp hcl hfu es)
  | .isa a c :: es => l_cons (fun _ => by simp) (ev_all hp hcl hfu (.isa a c)) (evs_all hp hcl hfu es)
  | .fld o f :: es => l_cons (fun _ => by simp) (ev_all hp hcl hfu (.fld o f)) (evs_all hp hcl hfu es)
  | .xf i f :: es => l_cons (fun _ => by simp) (ev_all hp hcl hfu (.xf i f)) (evs_all hp hcl hfu es)
  | .xi i c :: es => l_cons (fun _ => by simp) (ev_all hp hcl hfu (.xi i c)) (evs_all hp hcl hfu es)
  | .idx o i :: es => l_cons (fun _ => by simp) (ev_all hp hcl hfu (.idx o i)) (evs_all hp hcl hfu es)
  | .slc o lo hi :: es => l_cons (fun _ => by simp) (ev_all hp hcl hfu (.slc o lo hi)) (evs_all hp hcl hfu es)
  | .rev o :: es => l_cons (fun _ => by simp) (ev_all hp hcl hfu (.rev o)) (evs_all hp hcl hfu es)
  | .tup as :: es => l_cons (fun _ => by simp) (ev_all hp hcl hfu (.tup as)) (evs_all hp hcl hfu es)
  | .lst as :: es => l_cons (fun _ => by simp) (ev_all hp hcl hfu (.lst as)) (evs_all hp hcl hfu es)
  | .dsp ks vs :: es => l_cons (fun _ => by simp) (ev_all hp hcl hfu (.dsp ks vs)) (evs_all hp hcl hfu es)
  | .cp o k v tg it ifs own :: es => l_cons (fun _ => by simp) (ev_all hp hcl hfu (.cp o k v tg it ifs own)) (evs_all hp hcl hfu es)
  | .cp2 o k v tg it ifs tg1 it1 ifs1 own own1 :: es => l_cons (fun _ => by simp) (ev_all hp hcl hfu (.cp2 o k v tg it ifs tg1 it1 ifs1 own own1)) (evs_all hp hcl hfu es)
  | .seq a :: es => l_cons (fun _ => by simp) (ev_all hp hcl hfu (.seq a)) (evs_all hp hcl hfu es)
  | .enum a :: es => l_cons (fun _ => by simp) (ev_all hp hcl hfu (.enum a)) (evs_all hp hcl hfu es)
  | .rng a :: es => l_cons (fun _ => by simp) (ev_all hp hcl hfu (.rng a)) (evs_all hp hcl hfu es)
  | .rng2 a b :: es => l_cons (fun _ => by simp) (ev_all hp hcl hfu (.rng2 a b)) (evs_all hp hcl hfu es)
  | .zip a b :: es => l_cons (fun _ => by simp) (ev_all hp hcl hfu (.zip a b)) (evs_all hp hcl hfu es)
  | .items a :: es => l_cons (fun _ => by simp) (ev_all hp hcl hfu (.items a)) (evs_all hp hcl hfu es)
  | .vals a :: es => l_cons (fun _ => by simp) (ev_all hp hcl hfu (.vals a)) (evs_all hp hcl hfu es)
  | .setOf a :: es => l_cons (fun _ => by simp) (ev_all hp hcl hfu (.setOf a)) (evs_all hp hcl hfu es)
  | .srtK a j :: es => l_cons (fun _ => by simp) (ev_all hp hcl hfu (.srtK a j)) (evs_all hp hcl hfu es)
  | .minD a :: es => l_cons (fun _ => by simp) (ev_all hp hcl hfu (.minD a)) (evs_all hp hcl hfu es)
theorem evo_all (hp : PP TP P) (hcl : ClOK TP P) (hfu : P.fu ≤ lim) : ∀ o : Option E, EvO TP P o
  | none => to_none
  | some a => to_some (ev_all hp hcl hfu a)
theorem evC_all (hp : PP TP P) (hcl : ClOK TP P) (hfu : P.fu ≤ lim) : ∀ es : List E, EvC TP P es
  | [] => k_nil
  | a :: es => k_cons hp (ev_all hp hcl hfu a) (evC_all hp hcl hfu es)
end
end
end MP

set_option Elab.async false
set_option linter.all false
set_option maxRecDepth 100000
/-! MP: the evaluator over values is sound: what the names own. -/
namespace MP
open PySem L2
abbrev MM (Mc : Nat → Prop) (Ow : List Nat) : Nat → Prop := fun n => Mc n ∨ n ∈ Ow
structure SS (F : List Nat) (Mc : Nat → Prop) (b : Nat) (Ow : List Nat) (θ : List Nat) (s : Om) (h : Hh) (τ : Tl) (σ : Sl) : Prop where
  ist : Ist F (MM Mc Ow) θ s h
  se : SE Ow (MM Mc Ow) θ h τ σ
  mu : ∀ (i : Nat) (t : T), τ[i]? = some (some ⟨t, true⟩) → isMutT t = true
  inj : ∀ (i j : Nat) (t u : T) (n : Nat), τ[i]? = some (some ⟨t, true⟩) → τ[j]? = some (some ⟨u, true⟩) → σ[i]? = some (some (.ref n)) → σ[j]? = some (some (.ref n)) → i = j
  unf : ∀ n ∈ Ow, n ∉ F
  fl : ∀ n ∈ F, n < h.sz
  lo : ∀ n ∈ Ow, b ≤ n
  mc : ∀ n, Mc n → n < b
section
variable {TP : Tg0} {P : Pg} {F : List Nat} {Mc M M' : Nat → Prop} {b : Nat} {Ow O' θ θ' θ2 : List Nat} {s s' : Om} {h h' h2 : Hh} {τ τ' : Tl} {σ σ' : Sl}
theorem R0.r {n : Nat} : ∀ {t : T}, R0 M θ h t (.ref n) → ¬ M n → R M θ h t (.ref n)
  | .lst ts, r, hn => by
    obtain ⟨m, ws, e, h1, g, q⟩ := r
    cases e
    unfold R
    exact ⟨n, ws, rfl, hn, h1, g, q⟩
  | .dic ts, r, hn => by
    obtain ⟨m, ws, e, h1, g, q⟩ := r
    cases e
    unfold R
    exact ⟨n, ws, rfl, hn, h1, g, q⟩
  | .non, r, _ => r
  | .bl _, r, _ => r
  | .int _, r, _ => r
  | .str _, r, _ => r
  | .st _, r, _ => r
  | .tup _, r, _ => r
  | .ob _, r, _ => r
  | .exn _ _, r, _ => r
theorem R0.less {t : T} {w : W} (r : R0 M θ h t w) (hm : ∀ n, M' n → M n) : R0 M' θ h t w := r.go (Stp.refl θ h []) fun n _ z => hm n z
theorem SS.step (S : SS F Mc b Ow θ s h τ σ) (a : Stp θ h θ' h' []) (I : Ist F (MM Mc Ow) θ' s' h') : SS F Mc b Ow θ' s' h' τ σ :=
  ⟨I, S.se.step a, S.mu, S.inj, S.unf, fun n z => Nat.lt_of_lt_of_le (S.fl n z) a.sz, S.lo, S.mc⟩
/-- one name does not own any longer -/
theorem SS.rel1 (S : SS F Mc b Ow θ s h τ σ) (i : Nat) {v : Sv} (e : τ[i]? = some (some v)) : ∃ O', (∀ n ∈ O', n ∈ Ow) ∧ SS F Mc b O' θ s h (τ.set i (some ⟨v.v, false⟩)) σ := by
  have hi : i < τ.length := (List.getElem?_eq_some_iff.mp e).1
  have old : ∀ {j : Nat} {u : T}, (τ.set i (some ⟨v.v, false⟩))[j]? = some (some ⟨u, true⟩) → j ≠ i ∧ τ[j]? = some (some ⟨u, true⟩) := fun {j u} z => by
    rw [List.getElem?_set] at z
    split at z
    · first | (split at z <;> cases z) | cases z
    · rename_i hj; exact ⟨Ne.symm hj, z⟩
  cases ho : v.own with
  | false =>
    refine ⟨Ow, fun n z => z, S.ist, ⟨by rw [List.length_set]; exact S.se.len, fun j u ej => ?_, S.se.sub⟩, fun j t ej => S.mu j t (old ej).2, fun j k t u n e1 e2 => S.inj j k t u n (old e1).2 (old e2).2, S.unf, S.fl, S.lo, S.mc⟩
    rw [List.getElem?_set] at ej
    split at ej
    · rename_i hj
      subst hj
      try rw [if_pos hi] at ej
      cases ej
      obtain ⟨w, e1, r, q, _⟩ := S.se.at_ i v e
      exact ⟨w, e1, r, fun _ => q ho, fun z => nomatch z⟩
    · exact S.se.at_ j u ej
  | true =>
    obtain ⟨w, e1, r, q, o⟩ := S.se.at_ i v e
    obtain ⟨n, hn, rfl⟩ := o ho
    have ev : v = ⟨v.v, true⟩ := by rw [← ho]
    have less : ∀ m, MM Mc (Ow.filter (· ≠ n)) m → MM Mc Ow m := fun m z => z.imp id fun q => (List.mem_filter.mp q).1
    have nn : ¬ MM Mc (Ow.filter (· ≠ n)) n := fun z => by
      rcases z with z | z
      · have := S.mc n z; have := S.lo n hn; omega
      · have := (List.mem_filter.mp z).2; simp at this
    refine ⟨Ow.filter (· ≠ n), fun m z => (List.mem_filter.mp z).1, S.ist.less less, ⟨by rw [List.length_set]; exact S.se.len, fun j u ej => ?_, fun m z => .inr z⟩, fun j t ej => S.mu j t (old ej).2, fun j k t u n e1 e2 => S.inj j k t u n (old e1).2 (old e2).2, fun m z => S.unf m (List.mem_filter.mp z).1, S.fl, fun m z => S.lo m (List.mem_filter.mp z).1, S.mc⟩
    rw [List.getElem?_set] at ej
    split at ej
    · rename_i hj
      subst hj
      try rw [if_pos hi] at ej
      cases ej
      exact ⟨.ref n, e1, (r.less less), fun _ => (r.less less).r nn, fun z => nomatch z⟩
    · rename_i hj
      obtain ⟨w', f1, f2, f3, f4⟩ := S.se.at_ j u ej
      refine ⟨w', f1, f2.less less, fun z => (f3 z).less less, fun z => ?_⟩
      obtain ⟨m, hm, rfl⟩ := f4 z
      refine ⟨m, List.mem_filter.mpr ⟨hm, ?_⟩, rfl⟩
      have hne : m ≠ n := fun q => by
        subst q
        have eu : u = ⟨u.v, true⟩ := by rw [← z]
        rw [ev] at e
        rw [eu] at ej
        exact hj (S.inj i j _ _ m e ej e1 f1)
      simpa using hne
theorem SS.rel (S : SS F Mc b Ow θ s h τ σ) : ∀ is : List Nat, ∃ O', (∀ n ∈ O', n ∈ Ow) ∧ SS F Mc b O' θ s h (MP.rel τ is) σ
  | [] => ⟨Ow, fun n z => z, S⟩
  | i :: is => by
    obtain ⟨O1, h1, S1⟩ := SS.rel S is
    unfold MP.rel
    split
    · rename_i sv e
      obtain ⟨O2, h2, S2⟩ := S1.rel1 i e
      exact ⟨O2, fun n z => h1 n (h2 n z), S2⟩
    · exact ⟨O1, h1, S1⟩
theorem SS.relAll (S : SS F Mc b Ow θ s h τ σ) : SS F Mc b [] θ s h (MP.relAll τ) σ := by
  have less : ∀ m, MM Mc [] m → MM Mc Ow m := fun m z => z.imp id fun q => nomatch q
  have none : ∀ {j : Nat} {u : T}, (MP.relAll τ)[j]? ≠ some (some ⟨u, true⟩) := fun {j u} z => by
    unfold MP.relAll at z
    rw [List.getElem?_map] at z
    cases e : τ[j]? with
    | none => rw [e] at z; cases z
    | some o => rw [e] at z; cases o <;> cases z
  refine ⟨S.ist.less less, ⟨by unfold MP.relAll; rw [List.length_map]; exact S.se.len, fun j u ej => ?_, (fun n z => (nomatch z))⟩, fun j t ej => absurd ej none, fun j k t u n e1 => absurd e1 none, (fun n z => (nomatch z)), S.fl, (fun n z => (nomatch z)), S.mc⟩
  unfold MP.relAll at ej
  rw [List.getElem?_map] at ej
  cases e : τ[j]? with
  | none => rw [e] at ej; cases ej
  | some o =>
    rw [e] at ej
    cases o with
    | none => cases ej
    | some v =>
      cases ej
      obtain ⟨w, e1, r, q, o⟩ := S.se.at_ j v e
      refine ⟨w, e1, r.less less, fun _ => ?_, fun z => nomatch z⟩
      cases ho : v.own with
      | false => exact (q ho).less less
      | true =>
        obtain ⟨n, hn, rfl⟩ := o ho
        refine (r.less less).r fun z => ?_
        rcases z with z | z
        · have := S.mc n z; have := S.lo n hn; omega
        · cases z
/-- a name is given a value -/
theorem SS.setR (S : SS F Mc b Ow θ s h τ σ) (i : Nat) {t : T} {w : W} (r : R (MM Mc Ow) θ h t w) : SS F Mc b Ow θ s h (τ.set i (some ⟨t, false⟩)) (σ.set i (some w)) := by
  have old : ∀ {j : Nat} {u : T}, (τ.set i (some ⟨t, false⟩))[j]? = some (some ⟨u, true⟩) → j ≠ i ∧ τ[j]? = some (some ⟨u, true⟩) := fun {j u} z => by
    rw [List.getElem?_set] at z
    split at z
    · first | (split at z <;> cases z) | cases z
    · rename_i hj; exact ⟨Ne.symm hj, z⟩
  have oldW : ∀ {j : Nat} {w' : W}, j ≠ i → (σ.set i (some w))[j]? = some (some w') → σ[j]? = some (some w') := fun {j w'} hj z => by
    rw [List.getElem?_set, if_neg (Ne.symm hj)] at z; exact z
  exact ⟨S.ist, S.se.set i r, fun j u ej => S.mu j u (old ej).2, fun j k u v n e1 e2 e3 e4 => S.inj j k u v n (old e1).2 (old e2).2 (oldW (old e1).1 e3) (oldW (old e2).1 e4), S.unf, S.fl, S.lo, S.mc⟩
theorem SS.clr (S : SS F Mc b Ow θ s h τ σ) (i : Nat) : SS F Mc b Ow θ s h (τ.set i none) (σ.set i none) := by
  have old : ∀ {j : Nat} {u : T}, (τ.set i none)[j]? = some (some ⟨u, true⟩) → j ≠ i ∧ τ[j]? = some (some ⟨u, true⟩) := fun {j u} z => by
    rw [List.getElem?_set] at z
    split at z
    · first | (split at z <;> cases z) | cases z
    · rename_i hj; exact ⟨Ne.symm hj, z⟩
  have oldW : ∀ {j : Nat} {w' : W}, j ≠ i → (σ.set i none)[j]? = some (some w') → σ[j]? = some (some w') := fun {j w'} hj z => by
    rw [List.getElem?_set, if_neg (Ne.symm hj)] at z; exact z
  exact ⟨S.ist, S.se.clr i, fun j u ej => S.mu j u (old ej).2, fun j k u v n e1 e2 e3 e4 => S.inj j k u v n (old e1).2 (old e2).2 (oldW (old e1).1 e3) (oldW (old e2).1 e4), S.unf, S.fl, S.lo, S.mc⟩
mutual
theorem SS.stT (hp : PP TP P) : ∀ (g : Tg) {t : T} {w : W} {τ τ' : Tl} {σ : Sl}, SS F Mc b Ow θ s h τ σ → R (MM Mc Ow) θ h t w → stTT TP g t τ = some τ' → ∃ σ', MP.stT P g w σ h = some σ' ∧ SS F Mc b Ow θ s h τ' σ'
  | .nm i, t, w, τ, τ', σ, S, r, e => by
    unfold stTT at e
    cases e
    exact ⟨σ.set i (some w), by unfold MP.stT; rfl, S.setR i r⟩
  | .tup gs, t, w, τ, τ', σ, S, r, e => by
    unfold stTT at e
    cases q : sqT TP t with
    | none => rw [q] at e; cases e
    | some ts =>
      rw [q] at e
      simp only at e
      split at e
      · rename_i hl
        obtain ⟨ws, e1, rl⟩ := sq_ok hp r.r0 q
        obtain ⟨σ', e2, S'⟩ := SS.stTs hp gs S rl e
        refine ⟨σ', ?_, S'⟩
        unfold MP.stT
        simp only [e1]
        rw [if_pos (by rw [← rl_len rl]; exact hl)]
        exact e2
      · cases e
theorem SS.stTs (hp : PP TP P) : ∀ (gs : List Tg) {ts : List T} {ws : List W} {τ τ' : Tl} {σ : Sl}, SS F Mc b Ow θ s h τ σ → Rl (MM Mc Ow) θ h ts ws → stTTs TP gs ts τ = some τ' → ∃ σ', MP.stTs P gs ws σ h = some σ' ∧ SS F Mc b Ow θ s h τ' σ'
  | [], [], ws, τ, τ', σ, S, r, e => by
    unfold stTTs at e
    cases e
    rw [rl_nil r]
    exact ⟨σ, by unfold MP.stTs; rfl, S⟩
  | g :: gs, t :: ts, ws, τ, τ', σ, S, r, e => by
    obtain ⟨w, u, rfl, a, b⟩ := rl_cons r
    unfold stTTs at e
    obtain ⟨τ1, e1, e2⟩ := Option.bind_eq_some_iff.mp e
    obtain ⟨σ1, e3, S1⟩ := SS.stT hp g S a e1
    obtain ⟨σ2, e4, S2⟩ := SS.stTs hp gs S1 b e2
    exact ⟨σ2, by unfold MP.stTs; rw [e3]; exact e4, S2⟩
  | [], _ :: _, _, _, _, _, _, _, e => by unfold stTTs at e; cases e
  | _ :: _, [], _, _, _, _, _, _, e => by unfold stTTs at e; cases e
end
theorem SS.setAll : ∀ (is : List Nat) {ts : List T} {ws : List W} {τ : Tl} {σ : Sl}, SS F Mc b Ow θ s h τ σ → Rl (MM Mc Ow) θ h ts ws → SS F Mc b Ow θ s h (setAllT τ is ts) (MP.setAll σ is ws)
  | [], ts, ws, τ, σ, S, r => by
    unfold setAllT MP.setAll
    exact S
  | i :: is, [], ws, τ, σ, S, r => by
    rw [rl_nil r]
    unfold setAllT MP.setAll
    exact S
  | i :: is, t :: ts, ws, τ, σ, S, r => by
    obtain ⟨w, u, rfl, a, b⟩ := rl_cons r
    unfold setAllT MP.setAll
    exact SS.setAll is (S.setR i a) b
theorem SS.clrT (S : SS F Mc b Ow θ s h τ σ) : SS F Mc b Ow θ s h (MP.clrT τ) (clrX σ) := by
  have old : ∀ {j : Nat} {u : Sv}, (MP.clrT τ)[j]? = some (some u) → τ[j]? = some (some u) ∧ isExnT u.v = false := fun {j u} z => by
    unfold MP.clrT at z
    rw [List.getElem?_map] at z
    cases e : τ[j]? with
    | none => rw [e] at z; cases z
    | some o =>
      rw [e] at z
      cases o with
      | none => cases z
      | some v =>
        obtain ⟨t, ow⟩ := v
        cases t <;> first | (cases z; exact ⟨rfl, rfl⟩) | cases z
  have oldW : ∀ {j : Nat} {w : W}, (∀ c n, w ≠ .exn c n) → (σ[j]? = some (some w) ↔ (clrX σ)[j]? = some (some w)) := fun {j w} hw => by
    unfold clrX
    rw [List.getElem?_map]
    cases e : σ[j]? with
    | none => simp
    | some o =>
      cases o with
      | none => simp [clr1]
      | some v =>
        cases v <;> simp [clr1]
        intro z
        exact hw _ _ z.symm
  refine ⟨S.ist, ⟨by unfold MP.clrT clrX; rw [List.length_map, List.length_map]; exact S.se.len, fun j u ej => ?_, S.se.sub⟩, fun j t ej => S.mu j t (old ej).1, fun j k t u n e1 e2 e3 e4 => S.inj j k t u n (old e1).1 (old e2).1 ((oldW (by simp)).mpr e3) ((oldW (by simp)).mpr e4), S.unf, S.fl, S.lo, S.mc⟩
  obtain ⟨e1, e2⟩ := old ej
  obtain ⟨w, f1, f2, f3, f4⟩ := S.se.at_ j u e1
  exact ⟨w, (oldW (exn_ne f2 e2)).mp f1, f2, f3, f4⟩
/-- a new list, a new dict for a name -/
theorem SS.own (S : SS F Mc b Ow θ s h τ σ) (a : Stp θ h θ' h' []) (i : Nat) {t : T} {d : Nat} (hd : h.sz ≤ d) (hm : isMutT t = true) (I : Ist F (fun n => MM Mc Ow n ∨ n = d) θ' s' h') (r : R0 (fun n => MM Mc Ow n ∨ n = d) θ' h' t (.ref d)) (hb : b ≤ h.sz) :
    SS F Mc b (d :: Ow) θ' s' h' (τ.set i (some ⟨t, true⟩)) (σ.set i (some (.ref d))) := by
  have iff1 : ∀ n, MM Mc (d :: Ow) n → (MM Mc Ow n ∨ n = d) := fun n z => by
    rcases z with z | z
    · exact .inl (.inl z)
    · rcases List.mem_cons.mp z with z | z
      · exact .inr z
      · exact .inl (.inr z)
  have S2 := S.se.go a (M' := MM Mc (d :: Ow)) (fun n hl z => (iff1 n z).resolve_right (by omega)) (fun n z => .inr (List.mem_cons_of_mem _ z))
  have lt : ∀ {j : Nat} {u : T} {n : Nat}, τ[j]? = some (some ⟨u, true⟩) → σ[j]? = some (some (.ref n)) → n < h.sz := fun {j u n} e1 e2 => by
    obtain ⟨w, f1, _, _, f4⟩ := S.se.at_ j _ e1
    obtain ⟨m, hm, rfl⟩ := f4 rfl
    rw [f1] at e2
    cases e2
    exact S.ist.lt n (.inr hm)
  have cut : ∀ {j : Nat} {u : T}, (τ.set i (some ⟨t, true⟩))[j]? = some (some ⟨u, true⟩) → (j = i ∧ u = t ∧ i < τ.length) ∨ (j ≠ i ∧ τ[j]? = some (some ⟨u, true⟩)) := fun {j u} z => by
    rw [List.getElem?_set] at z
    split at z
    · rename_i hj
      split at z
      · rename_i hl; cases z; exact .inl ⟨hj.symm, rfl, hl⟩
      · cases z
    · rename_i hj; exact .inr ⟨Ne.symm hj, z⟩
  have atI : ∀ {n : Nat}, (σ.set i (some (W.ref d)))[i]? = some (some (.ref n)) → n = d := fun {n} z => by
    rw [List.getElem?_set, if_pos rfl] at z
    split at z <;> cases z
    rfl
  have atJ : ∀ {j n : Nat}, j ≠ i → (σ.set i (some (W.ref d)))[j]? = some (some (.ref n)) → σ[j]? = some (some (.ref n)) := fun {j n} hj z => by
    rw [List.getElem?_set, if_neg (Ne.symm hj)] at z; exact z
  refine ⟨I.less iff1, ⟨by rw [List.length_set, List.length_set]; exact S.se.len, fun j u ej => ?_, fun n z => .inr z⟩, fun j u ej => ?_, fun j k u v n e1 e2 e3 e4 => ?_, fun n z => ?_, fun n z => Nat.lt_of_lt_of_le (S.fl n z) a.sz, fun n z => ?_, S.mc⟩
  · rw [List.getElem?_set] at ej
    split at ej
    · rename_i hj
      subst hj
      split at ej
      · rename_i hl
        cases ej
        exact ⟨.ref d, by rw [List.getElem?_set, if_pos rfl, if_pos (by rw [← S.se.len]; exact hl)], r.less iff1, (fun z => (nomatch z)), fun _ => ⟨d, List.mem_cons_self, rfl⟩⟩
      · cases ej
    · rename_i hj
      obtain ⟨w, f1, f2, f3, f4⟩ := S2.at_ j u ej
      exact ⟨w, by rw [List.getElem?_set, if_neg hj]; exact f1, f2, f3, fun z => let ⟨n, hn, e⟩ := f4 z; ⟨n, List.mem_cons_of_mem _ hn, e⟩⟩
  · rcases cut ej with ⟨_, rfl, _⟩ | ⟨_, z⟩
    · exact hm
    · exact S.mu j u z
  · rcases cut e1 with ⟨h1, _⟩ | ⟨h1, z1⟩ <;> rcases cut e2 with ⟨h2, _⟩ | ⟨h2, z2⟩
    · rw [h1, h2]
    · rw [h1] at e3
      have := atI e3
      have := lt z2 (atJ h2 e4)
      omega
    · rw [h2] at e4
      have := atI e4
      have := lt z1 (atJ h1 e3)
      omega
    · exact S.inj j k u v n z1 z2 (atJ h1 e3) (atJ h2 e4)
  · rcases List.mem_cons.mp z with z | z
    · rw [z]; intro q; have := S.fl d q; omega
    · exact S.unf n z
  · rcases List.mem_cons.mp z with z | z
    · omega
    · exact S.lo n z
/-- an owned list, an owned dict changes -/
theorem SS.mut (S : SS F Mc b Ow θ s h τ σ) {j n : Nat} {t u : T} {o : O} (e : τ[j]? = some (some ⟨t, true⟩)) (eσ : σ[j]? = some (some (.ref n))) (hm : isMutT u = true) (ho : ∀ x, o ≠ .frz x) (r : R0 (MM Mc Ow) θ (h.set n o) u (.ref n)) :
    SS F Mc b Ow θ s (h.set n o) (τ.set j (some ⟨u, true⟩)) σ ∧ Stp θ h θ (h.set n o) Ow := by
  obtain ⟨w, f1, _, _, f4⟩ := S.se.at_ j _ e
  obtain ⟨n', hn, rfl⟩ := f4 rfl
  rw [f1] at eσ
  cases eσ
  have hd : MM Mc Ow n := .inr hn
  have m := monoSet S.ist hd o
  have st := stp_set S.ist hd o
  have cut : ∀ {k : Nat} {v : T}, (τ.set j (some ⟨u, true⟩))[k]? = some (some ⟨v, true⟩) → ∃ v', τ[k]? = some (some ⟨v', true⟩) := fun {k v} z => by
    rw [List.getElem?_set] at z
    split at z
    · rename_i hj; subst hj; exact ⟨t, e⟩
    · exact ⟨v, z⟩
  refine ⟨⟨S.ist.setM hd ho, ⟨by rw [List.length_set]; exact S.se.len, fun k v ek => ?_, S.se.sub⟩, fun k v ek => ?_, fun i k t u n e1 e2 e3 e4 => ?_, S.unf, S.fl, S.lo, S.mc⟩, st.weak fun m z => .inl (by rw [List.mem_singleton] at z; rw [z]; exact hn)⟩
  · rw [List.getElem?_set] at ek
    split at ek
    · rename_i hj
      subst hj
      split at ek
      · cases ek
        exact ⟨.ref n, f1, r, (fun z => (nomatch z)), fun _ => ⟨n, hn, rfl⟩⟩
      · cases ek
    · rename_i hj
      obtain ⟨w', g1, g2, g3, g4⟩ := S.se.at_ k v ek
      refine ⟨w', g1, ?_, fun z => (g3 z).mono m, g4⟩
      cases hv : v.own with
      | false => exact ((g3 hv).mono m).r0
      | true =>
        obtain ⟨m', hm', rfl⟩ := g4 hv
        have ev : v = ⟨v.v, true⟩ := by rw [← hv]
        rw [ev] at ek
        refine g2.off st m fun z => ?_
        rw [List.mem_singleton] at z
        rw [z] at g1
        exact hj (S.inj j k _ _ n e ek f1 g1)
  · rw [List.getElem?_set] at ek
    split at ek
    · split at ek
      · cases ek; exact hm
      · cases ek
    · exact S.mu k v ek
  · obtain ⟨t', z1⟩ := cut e1
    obtain ⟨u', z2⟩ := cut e2
    exact S.inj i k t' u' n z1 z2 e3 e4
end
end MP

set_option Elab.async false
set_option linter.all false
set_option maxRecDepth 100000
/-! MP: the evaluator over values is sound: statements. -/
namespace MP
open PySem L2
section
variable {TP : Tg0} {P : Pg}
def simO (F : List Nat) (Mc : Nat → Prop) (b : Nat) (Ow θ : List Nat) (h : Hh) (r : Out) (tr : TO) : Prop := match tr with
  | .nx τ' s' => ∃ σ' h' θ' O', r = .nx σ' h' ∧ Stp θ h θ' h' Ow ∧ (∀ n ∈ O', n ∈ Ow ∨ h.sz ≤ n) ∧ SS F Mc b O' θ' s' h' τ' σ'
  | .bk τ' s' => ∃ σ' h' θ' O', r = .bk σ' h' ∧ Stp θ h θ' h' Ow ∧ (∀ n ∈ O', n ∈ Ow ∨ h.sz ≤ n) ∧ SS F Mc b O' θ' s' h' τ' σ'
  | .ct τ' s' => ∃ σ' h' θ' O', r = .ct σ' h' ∧ Stp θ h θ' h' Ow ∧ (∀ n ∈ O', n ∈ Ow ∨ h.sz ≤ n) ∧ SS F Mc b O' θ' s' h' τ' σ'
  | .rt t s' => ∃ w h' θ', r = .rt w h' ∧ Stp θ h θ' h' Ow ∧ Ist F Mc θ' s' h' ∧ R Mc θ' h' t w
  | .ex c fs τ' s' => ∃ n σ' h' θ' O' ws, r = .ex c n σ' h' ∧ Stp θ h θ' h' Ow ∧ (∀ n ∈ O', n ∈ Ow ∨ h.sz ≤ n) ∧ SS F Mc b O' θ' s' h' τ' σ' ∧ ¬ MM Mc O' n ∧ n ∉ θ' ∧ h'.get n = some (.xd ws) ∧ Rf (MM Mc O') θ' h' fs ws
  | .no => True
variable {α β : Type} {F : List Nat} {Mc : Nat → Prop} {b : Nat} {Ow O1 θ θ1 : List Nat} {s s' : Om} {h h1 : Hh} {τ τ' : Tl} {σ σ' : Sl} {r : Out} {tr : TO} {lk : Bool}
theorem simO.weak (a : Stp θ h θ1 h1 Ow) (ho : ∀ n ∈ O1, n ∈ Ow ∨ h.sz ≤ n) (q : simO F Mc b O1 θ1 h1 r tr) : simO F Mc b Ow θ h r tr := by
  have oo : ∀ {O' : List Nat}, (∀ n ∈ O', n ∈ O1 ∨ h1.sz ≤ n) → ∀ n ∈ O', n ∈ Ow ∨ h.sz ≤ n := fun z n hn => by
    rcases z n hn with z | z
    · exact ho n z
    · exact .inr (Nat.le_trans a.sz z)
  cases tr with
  | nx τ' s' => obtain ⟨σ', h', θ', O', e, c, d, S⟩ := q; exact ⟨σ', h', θ', O', e, a.trans c ho, oo d, S⟩
  | bk τ' s' => obtain ⟨σ', h', θ', O', e, c, d, S⟩ := q; exact ⟨σ', h', θ', O', e, a.trans c ho, oo d, S⟩
  | ct τ' s' => obtain ⟨σ', h', θ', O', e, c, d, S⟩ := q; exact ⟨σ', h', θ', O', e, a.trans c ho, oo d, S⟩
  | rt t s' => obtain ⟨w, h', θ', e, c, d⟩ := q; exact ⟨w, h', θ', e, a.trans c ho, d⟩
  | ex c fs τ' s' => obtain ⟨n, σ', h', θ', O', ws, e, c, d, S⟩ := q; exact ⟨n, σ', h', θ', O', ws, e, a.trans c ho, oo d, S⟩
  | no => trivial
theorem simO.nx (S : SS F Mc b Ow θ s h τ σ) : simO F Mc b Ow θ h (.nx σ h) (.nx τ s) := ⟨σ, h, θ, Ow, rfl, Stp.refl _ _ _, fun n z => .inl z, S⟩
theorem sim.go {rel : List Nat → Om → Hh → α → β → Prop} {r : Rs β} {tr : TR α} {k : β → Hh → Out} {kt : α → Om → TO} (S : SS F Mc b Ow θ s h τ σ) (q : sim F (MM Mc Ow) θ h rel r tr)
    (hk : ∀ t w θ' s' h', Stp θ h θ' h' [] → SS F Mc b Ow θ' s' h' τ σ → rel θ' s' h' t w → simO F Mc b Ow θ' h' (k w h') (kt t s')) : simO F Mc b Ow θ h (r.go σ k) (tr.go τ kt) := by
  cases tr with
  | ok t s' =>
    obtain ⟨w, h', θ', rfl, a, I, q⟩ := q
    exact (hk t w θ' s' h' a (S.step a I) q).weak (a.weak fun n z => (nomatch z)) fun n z => .inl z
  | ex c fs s' =>
    obtain ⟨n, h', θ', ws, rfl, a, I, q⟩ := q
    exact ⟨n, σ, h', θ', Ow, ws, rfl, a.weak (fun n z => (nomatch z)), fun n z => .inl z, S.step a I, q⟩
  | no => trivial
/-- what is released ahead -/
theorem SS.let_go (S : SS F Mc b Ow θ s h τ σ) (is : List Nat) (hk : ∀ O1, (∀ n ∈ O1, n ∈ Ow) → SS F Mc b O1 θ s h (MP.rel τ is) σ → simO F Mc b O1 θ h r tr) : simO F Mc b Ow θ h r tr := by
  obtain ⟨O1, hs, S1⟩ := S.rel is
  exact (hk O1 hs S1).weak (Stp.refl _ _ _) fun n z => .inl (hs n z)
def StS (TP : Tg0) (P : Pg) (c : S) : Prop := ∀ {lk : Bool} {τ : Tl} {σ : Sl} {s : Om} {F : List Nat} {Mc : Nat → Prop} {b : Nat} {Ow θ : List Nat} {h : Hh}, (lk = false → F = []) → b ≤ h.sz → SS F Mc b Ow θ s h τ σ → simO F Mc b Ow θ h (ex P c σ h) (tex TP lk c τ s)
def StL (TP : Tg0) (P : Pg) (cs : List S) : Prop := ∀ {lk : Bool} {τ : Tl} {σ : Sl} {s : Om} {F : List Nat} {Mc : Nat → Prop} {b : Nat} {Ow θ : List Nat} {h : Hh}, (lk = false → F = []) → b ≤ h.sz → SS F Mc b Ow θ s h τ σ → simO F Mc b Ow θ h (exs P cs σ h) (texs TP lk cs τ s)
/-- all expressions -/
abbrev EvA (TP : Tg0) (P : Pg) : Prop := (∀ e, EvS TP P e) ∧ (∀ e, EvI TP P e) ∧ (∀ es, EvL TP P es)
/-! ### methods of an owned list -/
theorem bm_ok {M : Nat → Prop} {m : BM} {n : Nat} {xs ts ys : List T} {y : T} {us ws : List W} (I : Ist F M θ s h) (rx : Rl M θ h xs us) (rt : Rl M θ h ts ws) (e : bmT m xs ts = some (y, ys)) :
    ∃ wy vs, bmL m n us ws h = .ok wy (h.set n (.lst vs)) ∧ R M θ h y wy ∧ Rl M θ h ys vs := by
  have px := rl_prd.mp rx
  have hl := rl_len rx
  have non : R M θ h .non .non := by unfold R; rfl
  unfold bmT at e
  split at e
  · split at e
    · rename_i z hz
      cases e
      obtain ⟨w, u, rfl, a, b⟩ := rl_cons rt
      rw [rl_nil b]
      exact ⟨.non, us ++ [w], by unfold bmL; simp only; rw [if_pos (by rw [← hl]; exact hz)], non, rl_prd.mpr (prd_app px (.cons a .nil))⟩
    · cases e
  · split at e
    · rename_i z hz
      cases e
      obtain ⟨w, u, rfl, a, b⟩ := rl_cons rt
      rw [rl_nil b]
      unfold R at a
      obtain ⟨k, vs, rfl, _, _, g, q⟩ := a
      refine ⟨.non, us ++ vs, ?_, non, rl_prd.mpr (prd_app px (rl_prd.mp q))⟩
      unfold bmL
      simp only [g]
      rw [if_pos (by rw [← hl, ← rl_len q]; exact hz)]
    · cases e
  · obtain ⟨z, ez, e2⟩ := Option.map_eq_some_iff.mp e
    cases e2
    rw [rl_nil rt]
    obtain ⟨w, ew, q⟩ := rl_get rx ez
    refine ⟨w, us.dropLast, ?_, q, rl_prd.mpr (prd_dropLast px)⟩
    unfold bmL
    simp only
    rw [← hl, ew]
  · split at e
    · rename_i i z hz
      cases e
      obtain ⟨w, u, rfl, a, b⟩ := rl_cons rt
      obtain ⟨w2, u2, rfl, a2, b2⟩ := rl_cons b
      rw [rl_nil b2]
      unfold R at a
      subst a
      refine ⟨.non, us.take i.toNat ++ [w2] ++ us.drop i.toNat, ?_, non, rl_prd.mpr (prd_app (prd_app (prd_take _ px) (.cons a2 .nil)) (prd_drop _ px))⟩
      unfold bmL
      simp only
      rw [if_pos (by rw [← hl]; exact hz)]
    · cases e
  · cases e
    rw [rl_nil rt]
    exact ⟨.non, [], rfl, non, rl_nil'⟩
  · cases e
theorem tbm_ok (A : EvA TP P) {j : Nat} {m : BM} {as : List E} {kW : W → Hh → Out} {kT : T → Tl → Om → TO} (hF : lk = false → F = []) (hb : b ≤ h.sz) (S : SS F Mc b Ow θ s h τ σ)
    (hk : ∀ y wy τ' s' O' θ' h', b ≤ h'.sz → SS F Mc b O' θ' s' h' τ' σ → R (MM Mc O') θ' h' y wy → simO F Mc b O' θ' h' (kW wy h') (kT y τ' s')) :
    simO F Mc b Ow θ h ((ev P (.bm (.var j) m as) σ h).go σ kW) (tbm TP lk j m as τ s kT) := by
  refine S.let_go (keepss as) fun O1 hs S1 => ?_
  unfold tbm
  split
  · rename_i xs ej
    obtain ⟨w0, f1, r0, _, f4⟩ := S1.se.at_ j _ ej
    obtain ⟨n, hn, rfl⟩ := f4 rfl
    obtain ⟨n', us0, e0, hnθ, g0, _⟩ := r0
    cases e0
    have ee : ev P (.bm (.var j) m as) σ h = (evs P as σ h).bind fun ws h2 => bmW m (.ref n) ws h2 := by
      have e1 : ev P (.var j) σ h = .ok (.ref n) h := by simp only [ev, f1]
      simp only [ev]
      simp only [ev] at e1
      rw [e1]
      show (if isL (.ref n) h = true then (evs P as σ h).bind fun ws h2 => bmW m (.ref n) ws h2 else .no) = _
      have e2 : isL (.ref n) h = true := by unfold isL; simp only [g0, lstO]; rfl
      rw [if_pos e2]
    rw [ee]
    have eg : ((evs P as σ h).bind fun ws h2 => bmW m (.ref n) ws h2).go σ kW = (evs P as σ h).go σ fun ws h2 => (bmW m (.ref n) ws h2).go σ kW := by cases evs P as σ h <;> rfl
    rw [eg]
    refine sim.go S1 (A.2.2 as (bo := false) hF S1.ist S1.se) fun ts ws θ2 s2 h2 a S2 rt => ?_
    split
    · rename_i y ys eb
      obtain ⟨w1, g1, r1, _, _⟩ := S2.se.at_ j _ ej
      rw [f1] at g1
      cases g1
      obtain ⟨n', us, e0, hnθ2, g2, rx⟩ := r1
      cases e0
      obtain ⟨wy, vs, e3, ry, rys⟩ := bm_ok (n := n) S2.ist rx (pr_rl rt) eb
      have hd : MM Mc O1 n := .inr hn
      have mo := monoSet S2.ist hd (.lst vs)
      obtain ⟨S3, st⟩ := S2.mut (u := .lst ys) (o := .lst vs) ej f1 rfl (fun x => by simp) ⟨n, vs, rfl, hnθ2, by rw [Hh.get_set (S2.ist.lt n hd), if_pos rfl], rys.mono mo⟩
      have e4 : bmW m (.ref n) ws h2 = .ok wy (h2.set n (.lst vs)) := by
        unfold bmW
        simp only [g2, lstO]
        exact e3
      rw [e4]
      exact (hk y wy _ s2 O1 θ2 (h2.set n (.lst vs)) (Nat.le_trans hb a.sz) S3 (ry.mono mo)).weak st fun n z => .inl z
    · trivial
  · trivial
end
end MP

set_option Elab.async false
set_option linter.all false
set_option maxRecDepth 100000
/-! MP: the evaluator over values is sound: statements, two. -/
namespace MP
open PySem L2
section
variable {TP : Tg0} {P : Pg}
variable {α β : Type} {F : List Nat} {Mc M : Nat → Prop} {b : Nat} {Ow O1 θ θ1 : List Nat} {s s' : Om} {h h1 : Hh} {τ τ' : Tl} {σ σ' : Sl} {lk : Bool}
/-! ### x = e -/
theorem tex_asg {t : Tg} {e : E} (hn : ∀ j m as, e ≠ .bm (.var j) m as) : tex TP lk (.asg t e) τ s = (tev TP lk false e (rel τ (keeps e)) s).go (rel τ (keeps e)) fun v s1 => match t with
    | .nm i => .nx ((rel τ (keeps e)).set i (some ⟨v, freshE e && isMutT v⟩)) s1
    | t => (match stTT TP t v (rel τ (keeps e)) with
      | some τ' => .nx τ' s1
      | none => .no) := by
  cases e <;> first | rfl | (rename_i o m as; cases o <;> first | rfl | exact absurd rfl (hn _ _ _))
theorem ex_asg {t : Tg} {e : E} : ex P (.asg t e) σ h = (ev P e σ h).go σ fun w h1 => match stT P t w σ h1 with
    | some σ' => .nx σ' h1
    | none => .no := rfl
theorem s_asg (hp : PP TP P) (A : EvA TP P) (t : Tg) (e : E) : StS TP P (.asg t e) := fun {lk τ σ s F Mc b Ow θ h} hF hb S => by
  by_cases hbm : ∃ j m as, e = .bm (.var j) m as
  · obtain ⟨j, m, as, rfl⟩ := hbm
    rw [ex_asg]
    show simO F Mc b Ow θ h _ (tbm TP lk j m as τ s fun y τ' s' => (match t with
      | .nm i => if i = j then .no else .nx (τ'.set i (some ⟨y, false⟩)) s'
      | _ => .no))
    refine tbm_ok A hF hb S fun y wy τ' s' O' θ' h' hb' S' r => ?_
    cases t with
    | nm i =>
      show simO F Mc b O' θ' h' _ (if i = j then .no else .nx (τ'.set i (some ⟨y, false⟩)) s')
      by_cases hij : i = j
      · rw [if_pos hij]; trivial
      · rw [if_neg hij]; exact simO.nx (S'.setR i r)
    | tup gs => trivial
  · have hn : ∀ j m as, e ≠ .bm (.var j) m as := fun j m as z => hbm ⟨j, m, as, z⟩
    rw [ex_asg, tex_asg hn]
    refine S.let_go (keeps e) fun O1 hs S1 => ?_
    have q := A.1 e (bo := false) hF S1.ist S1.se
    cases t with
    | nm i =>
      cases et : tev TP lk false e (rel τ (keeps e)) s with
      | no => trivial
      | ex c fs s2 =>
        rw [et] at q
        obtain ⟨n, h', θ', ws, ew, a, I, q⟩ := q
        rw [ew]
        exact ⟨n, σ, h', θ', O1, ws, rfl, a.weak (fun n z => (nomatch z)), fun n z => .inl z, S1.step a I, q⟩
      | ok v s2 =>
        rw [et] at q
        obtain ⟨w, h', θ', ew, a, I, rv, fr⟩ := q
        rw [ew]
        have rv : R (MM Mc O1) θ' h' v w := rv
        show simO F Mc b O1 θ h (.nx (σ.set i (some w)) h') (.nx ((rel τ (keeps e)).set i (some ⟨v, freshE e && isMutT v⟩)) s2)
        cases hf : freshE e && isMutT v with
        | false => exact (simO.nx ((S1.step a I).setR i rv)).weak (a.weak fun n z => (nomatch z)) fun n z => .inl z
        | true =>
          obtain ⟨f1, f2⟩ := Bool.and_eq_true_iff.mp hf
          obtain ⟨d, rfl, hd, I2, r2⟩ := fr f1 f2
          refine ⟨_, h', θ', d :: O1, rfl, a.weak (fun n z => (nomatch z)), fun n z => ?_, S1.own a i hd f2 I2 r2 hb⟩
          rcases List.mem_cons.mp z with z | z
          · rw [z]; exact .inr hd
          · exact .inl z
    | tup gs =>
      refine sim.go S1 q fun v w θ' s' h' a S2 rv => ?_
      have rv : R (MM Mc O1) θ' h' v w := rv.1
      show simO F Mc b O1 θ' h' _ (match stTT TP (.tup gs) v (rel τ (keeps e)) with
        | some τ' => .nx τ' s'
        | none => .no)
      cases e2 : stTT TP (.tup gs) v (rel τ (keeps e)) with
      | none => trivial
      | some τ' =>
        obtain ⟨σ', e3, S3⟩ := SS.stT hp (.tup gs) S2 rv e2
        simp only [e3]
        exact simO.nx S3
theorem tex_exp {e : E} (hn : ∀ j m as, e ≠ .bm (.var j) m as) : tex TP lk (.exp e) τ s = (tev TP lk false e (rel τ (keeps e)) s).go (rel τ (keeps e)) fun _ s1 => .nx (rel τ (keeps e)) s1 := by
  cases e <;> first | rfl | (rename_i o m as; cases o <;> first | rfl | exact absurd rfl (hn _ _ _))
theorem ts_exp (A : EvA TP P) (e : E) : StS TP P (.exp e) := fun {lk τ σ s F Mc b Ow θ h} hF hb S => by
  show simO F Mc b Ow θ h ((ev P e σ h).go σ fun _ h1 => .nx σ h1) _
  by_cases hbm : ∃ j m as, e = .bm (.var j) m as
  · obtain ⟨j, m, as, rfl⟩ := hbm
    show simO F Mc b Ow θ h _ (tbm TP lk j m as τ s fun _ τ' s' => .nx τ' s')
    exact tbm_ok A hF hb S fun y wy τ' s' O' θ' h' hb' S' r => simO.nx S'
  · have hn : ∀ j m as, e ≠ .bm (.var j) m as := fun j m as z => hbm ⟨j, m, as, z⟩
    rw [tex_exp hn]
    refine S.let_go (keeps e) fun O1 hs S1 => ?_
    exact sim.go S1 (A.1 e (bo := false) hF S1.ist S1.se) fun v w θ' s' h' a S2 rv => simO.nx S2
theorem ts_par (A : EvA TP P) (is : List Nat) (es : List E) : StS TP P (.par is es) := fun {lk τ σ s F Mc b Ow θ h} hF hb S => by
  show simO F Mc b Ow θ h ((evs P es σ h).go σ fun ws h1 => if ws.length = is.length then .nx (setAll σ is ws) h1 else .no) ((tevs TP lk false es (rel τ (keepss es)) s).go (rel τ (keepss es)) fun ts s1 => if ts.length = is.length then .nx (setAllT (rel τ (keepss es)) is ts) s1 else .no)
  refine S.let_go (keepss es) fun O1 hs S1 => ?_
  refine sim.go S1 (A.2.2 es (bo := false) hF S1.ist S1.se) fun ts ws θ' s' h' a S2 rs => ?_
  by_cases hl : ts.length = is.length
  · rw [if_pos hl, if_pos (by rw [← rs.length]; exact hl)]
    exact simO.nx (S2.setAll is (pr_rl rs))
  · rw [if_neg hl]; trivial
/-! ### o.f = e -/
theorem putF_ok {f : Str} {v : T} {w : W} {M : Nat → Prop} (rv : R M θ h v w) : ∀ {fs : List (Str × T)} {ws : List (Str × W)}, Rf M θ h fs ws → Rf M θ h (putFT f v fs) (putFW f w ws)
  | [], ws, r => by
    unfold Rf at r
    subst r
    unfold putFT putFW Rf
    exact ⟨_, _, rfl, by unfold Rfp; exact ⟨rfl, rv⟩, by unfold Rf; rfl⟩
  | (g, u) :: fs, ws, r => by
    unfold Rf at r
    obtain ⟨⟨g', w'⟩, us, rfl, a, b⟩ := r
    unfold Rfp at a
    obtain ⟨e, a⟩ := a
    simp only at e a
    subst e
    unfold putFT putFW
    split
    · unfold Rf
      exact ⟨_, _, rfl, by unfold Rfp; exact ⟨rfl, rv⟩, b⟩
    · unfold Rf
      exact ⟨_, _, rfl, by unfold Rfp; exact ⟨rfl, a⟩, putF_ok rv b⟩
theorem mono_ob {n : Nat} (hn : n ∈ θ) (hl : n < h.sz) (o : O) : Mono M θ h M θ (h.set n o) where
  at_ := fun m o' e h1 h2 => ⟨h1, h2, .inl (by
    rw [Hh.get_set hl, if_neg (fun z => h2 (by rw [z]; exact hn))]
    exact e)⟩
  th := fun _ _ e => e
theorem stp_ob {n : Nat} (hn : n ∈ θ) (hl : n < h.sz) (o : O) : Stp θ h θ (h.set n o) [] where
  sz := Nat.le_refl _
  ext := fun m o' e h1 _ => by
    rw [Hh.get_set hl, if_neg (fun z => h1 (by rw [z]; exact hn))]
    exact e
  pr := pre.refl θ
  new := fun m hm => .inl hm
/-- a shared object changes -/
theorem Ist.setOb (I : Ist F M θ s h) {k n : Nat} {ob : Ob} {o : O} (ek : θ[k]? = some n) (ho : ∀ x, o ≠ .frz x) (r : ObR M θ (h.set n o) ob n) : Ist F M θ (s.set k ob) (h.set n o) := by
  have hn : n ∈ θ := List.mem_of_getElem? ek
  have hl := I.obLt hn
  have mo : Mono M θ h M θ (h.set n o) := mono_ob hn hl o
  refine ⟨by rw [List.length_set]; exact I.len, I.nd, I.mt, fun m z => I.lt m z, fun j ob' ej => ?_, fun m x e => ?_⟩
  · rw [List.getElem?_set] at ej
    split at ej
    · rename_i hj
      subst hj
      split at ej
      · cases ej
        exact ⟨n, ek, r⟩
      · cases ej
    · rename_i hj
      obtain ⟨m, e1, q⟩ := I.at_ j ob' ej
      have hne : m ≠ n := fun z => by
        subst z
        obtain ⟨h1, e1'⟩ := List.getElem?_eq_some_iff.mp e1
        obtain ⟨h2, e2'⟩ := List.getElem?_eq_some_iff.mp ek
        exact hj ((List.getElem_inj I.nd).mp (e2'.trans e1'.symm))
      refine ⟨m, e1, ?_⟩
      have gm : (h.set n o).get m = h.get m := by rw [Hh.get_set hl, if_neg hne]
      cases ob' with
      | ins c fs => obtain ⟨ws, g, q⟩ := q; exact ⟨ws, by rw [gm]; exact g, q.mono mo⟩
      | pool cs ns =>
        obtain ⟨c, g, h1, h2, g2⟩ := q
        exact ⟨c, by rw [gm]; exact g, h1, h2, by rw [Hh.get_set hl, if_neg (fun z => h2 (by rw [z]; exact hn))]; exact g2⟩
      | src ns => show (h.set n o).get m = _; rw [gm]; exact q
  · rw [Hh.get_set hl] at e
    split at e
    · cases e; exact absurd rfl (ho x)
    · exact I.fz m x e
theorem SS.setOb (S : SS F Mc b Ow θ s h τ σ) {k n : Nat} {ob : Ob} {o : O} (ek : θ[k]? = some n) (ho : ∀ x, o ≠ .frz x) (r : ObR (MM Mc Ow) θ (h.set n o) ob n) : SS F Mc b Ow θ (s.set k ob) (h.set n o) τ σ :=
  S.step (stp_ob (List.mem_of_getElem? ek) (S.ist.obLt (List.mem_of_getElem? ek)) o) (S.ist.setOb ek ho r)
theorem s_asgF (hp : PP TP P) (A : EvA TP P) (o : E) (f : Str) (e : E) : StS TP P (.asgF o f e) := fun {lk τ σ s F Mc b Ow θ h} hF hb S => by
  show simO F Mc b Ow θ h ((ev P e σ h).go σ fun v h1 => (ev P o σ h1).go σ fun x h2 => match setF P x f v h2 with
    | some h3 => .nx σ h3
    | none => .no) ((tev TP lk false e (rel τ (keeps e)) s).go (rel τ (keeps e)) fun v s1 => (tev TP lk true o (rel τ (keeps e)) s1).go (rel τ (keeps e)) fun x s2 => match insT s2 x with
    | some (k, c, fs) => if TP.fd c f = true ∧ fs.length < 900 then .nx (rel τ (keeps e)) (s2.set k (.ins c (putFT f v fs))) else .no
    | none => .no)
  refine S.let_go (keeps e) fun O1 hs S1 => ?_
  refine sim.go S1 (A.1 e (bo := false) hF S1.ist S1.se) fun v w θ1 s1 h1 a1 S2 rv => ?_
  refine sim.go S2 (A.1 o (bo := true) hF S2.ist S2.se) fun x wx θ2 s2 h2 a2 S3 rx => ?_
  have rv : R (MM Mc O1) θ2 h2 v w := R.mono a2.mono0 rv.1
  cases e1 : insT s2 x with
  | none => trivial
  | some q =>
    obtain ⟨k, c, fs⟩ := q
    obtain ⟨n, ws, rfl, rfl, ek, es, g, rf, ew⟩ := ins_ok S3.ist rx.1.r0 e1
    simp only
    by_cases hc : TP.fd c f = true ∧ fs.length < 900
    · rw [if_pos hc]
      have hn := List.mem_of_getElem? ek
      have hl := S3.ist.obLt hn
      have e2 : setF P (.ref n) f w h2 = some (h2.set n (.ins c (putFW f w ws))) := by
        unfold setF
        simp only [ew]
        rw [if_pos ⟨by rw [← hp.fd]; exact hc.1, by rw [← (rf_prd.mp rf).length]; exact hc.2⟩]
      simp only [e2]
      have mo : Mono (MM Mc O1) θ2 h2 (MM Mc O1) θ2 (h2.set n (.ins c (putFW f w ws))) := mono_ob hn hl _
      refine (simO.nx (S3.setOb (ob := .ins c (putFT f v fs)) (o := .ins c (putFW f w ws)) ek (fun x => by simp) ⟨putFW f w ws, by rw [Hh.get_set hl, if_pos rfl], ?_⟩)).weak ((stp_ob hn hl _).weak fun n z => (nomatch z)) fun n z => .inl z
      exact putF_ok (R.mono mo rv) (Rf.mono mo rf)
    · rw [if_neg hc]; trivial
/-! ### o[i] = e -/
theorem rl_set {M : Nat → Prop} {ts : List T} {ws : List W} {t : T} {w : W} (i : Nat) (rt : R M θ h t w) (r : Rl M θ h ts ws) : Rl M θ h (ts.set i t) (ws.set i w) := rl_prd.mpr (prd_set rt i (rl_prd.mp r))
theorem s_asgS (A : EvA TP P) (o i e : E) : StS TP P (.asgS o i e) := fun {lk τ σ s F Mc b Ow θ h} hF hb S => by
  by_cases hv : ∃ j, o = .var j
  · obtain ⟨j, rfl⟩ := hv
    show simO F Mc b Ow θ h ((ev P e σ h).go σ fun v h1 => (ev P (.var j) σ h1).go σ fun x h2 => (ev P i σ h2).go σ fun y h3 => match setS x y v h3 with
      | some h4 => .nx σ h4
      | none => .no) ((tev TP lk false e (rel τ (keeps e)) s).go (rel τ (keeps e)) fun v s1 => (match (rel τ (keeps e))[j]? with
      | some (some ⟨.lst xs, true⟩) => (tev TP lk true i (rel τ (keeps e)) s1).go (rel τ (keeps e)) fun y s2 => setLT (rel τ (keeps e)) j xs v y s2
      | some (some ⟨.dic kvs, true⟩) => (tev TP lk true i (rel τ (keeps e)) s1).go (rel τ (keeps e)) fun y s2 => setDT (rel τ (keeps e)) j kvs v y s2
      | _ => .no))
    refine S.let_go (keeps e) fun O1 hs S1 => ?_
    refine sim.go S1 (A.1 e (bo := false) hF S1.ist S1.se) fun v w θ1 s1 h1 a1 S2 rv => ?_
    have key : ∀ {t : T}, (rel τ (keeps e))[j]? = some (some ⟨t, true⟩) → ∃ n, σ[j]? = some (some (.ref n)) ∧ n ∈ O1 ∧ ev P (.var j) σ h1 = .ok (.ref n) h1 := fun {t} ej => by
      obtain ⟨w0, f1, _, _, f4⟩ := S2.se.at_ j _ ej
      obtain ⟨n, hn, rfl⟩ := f4 rfl
      exact ⟨n, f1, hn, by simp only [ev, f1]⟩
    split
    · rename_i xs ej
      obtain ⟨n, eσ, hn, e1⟩ := key ej
      rw [e1]
      show simO F Mc b O1 θ1 h1 ((ev P i σ h1).go σ fun y h3 => match setS (.ref n) y w h3 with
        | some h4 => .nx σ h4
        | none => .no) _
      refine sim.go S2 (A.1 i (bo := true) hF S2.ist S2.se) fun y wy θ2 s2 h2 a2 S3 ry => ?_
      have rv : R (MM Mc O1) θ2 h2 v w := R.mono a2.mono0 rv.1
      obtain ⟨w1, g1, r1, _, _⟩ := S3.se.at_ j _ ej
      rw [eσ] at g1
      cases g1
      have hd : MM Mc O1 n := .inr hn
      have hl := S3.ist.lt n hd
      obtain ⟨n', us, e0, hnθ, g, rx⟩ := r1
      cases e0
      unfold setLT
      cases y with
      | int z =>
        cases flT_ok ry.1.r0 rfl
        simp only
        cases em : ixN xs.length z with
        | none => trivial
        | some m =>
          have e3 : setS (.ref n) (.int z) w h2 = some (h2.set n (.lst (us.set m w))) := by
            unfold setS
            simp only [g, ← rl_len rx, em, Option.map_some]
          simp only [e3]
          have mo := monoSet S3.ist hd (.lst (us.set m w))
          obtain ⟨S4, st⟩ := S3.mut (u := .lst (xs.set m v)) (o := .lst (us.set m w)) ej eσ rfl (fun x => by simp) ⟨n, us.set m w, rfl, hnθ, by rw [Hh.get_set hl, if_pos rfl], rl_set m (R.mono mo rv) (Rl.mono mo rx)⟩
          exact (simO.nx S4).weak st fun n z => .inl z
      | _ => trivial
    · rename_i kvs ej
      obtain ⟨n, eσ, hn, e1⟩ := key ej
      rw [e1]
      show simO F Mc b O1 θ1 h1 ((ev P i σ h1).go σ fun y h3 => match setS (.ref n) y w h3 with
        | some h4 => .nx σ h4
        | none => .no) _
      refine sim.go S2 (A.1 i (bo := true) hF S2.ist S2.se) fun y wy θ2 s2 h2 a2 S3 ry => ?_
      have rv : R (MM Mc O1) θ2 h2 v w := R.mono a2.mono0 rv.1
      obtain ⟨w1, g1, r1, _, _⟩ := S3.se.at_ j _ ej
      rw [eσ] at g1
      cases g1
      have hd : MM Mc O1 n := .inr hn
      have hl := S3.ist.lt n hd
      obtain ⟨n', us, e0, hnθ, g, rx⟩ := r1
      cases e0
      have g2 : h2.get n = some (.dic us) := by
        rcases g with g | g
        · exact g
        · exact absurd (S3.ist.fz n _ g) (S3.unf n hn)
      unfold setDT
      cases ek : keyT y with
      | none => trivial
      | some k =>
        simp only
        by_cases hlen : kvs.length < lim
        · rw [if_pos hlen]
          have e3 : setS (.ref n) wy w h2 = some (h2.set n (.dic (putW us k w))) := by
            unfold setS
            simp only [g2, keyT_ok ry.1.r0 ek]
            rw [if_pos (by rw [← (rk_prd.mp rx).length]; exact hlen)]
          simp only [e3]
          have mo := monoSet S3.ist hd (.dic (putW us k w))
          obtain ⟨S4, st⟩ := S3.mut (u := .dic (putT kvs k v)) (o := .dic (putW us k w)) ej eσ rfl (fun x => by simp) ⟨n, putW us k w, rfl, hnθ, .inl (by rw [Hh.get_set hl, if_pos rfl]), put_ok (R.mono mo rv) (Rk.mono mo rx)⟩
          exact (simO.nx S4).weak st fun n z => .inl z
        · rw [if_neg hlen]; trivial
    · trivial
  · have e1 : tex TP lk (.asgS o i e) τ s = .no := by
      cases o <;> first | rfl | exact absurd ⟨_, rfl⟩ hv
    rw [e1]
    trivial
theorem augI_ok {M : Nat → Prop} {o : BO} {a : Int} {y t : T} {wy : W} (r : R0 M θ h y wy) (e : augIT o a y = some t) : ∃ w, augW o (.int a) wy h = .ok w h ∧ R M θ h t w := by
  unfold augIT at e
  split at e
  · cases e; cases flT_ok r rfl; exact ⟨_, rfl, by unfold R; rfl⟩
  · cases e; cases flT_ok r rfl; exact ⟨_, rfl, by unfold R; rfl⟩
  · cases e
theorem augS_ok {M : Nat → Prop} {o : BO} {a : Str} {y t : T} {wy : W} (r : R0 M θ h y wy) (e : augST o a y = some t) : ∃ w, augW o (.str a) wy h = .ok w h ∧ R M θ h t w := by
  unfold augST at e
  split at e
  · cases flT_ok r rfl
    split at e
    · rename_i hl; cases e; exact ⟨_, if_pos hl, by unfold R; rfl⟩
    · cases e
  · cases e
theorem ts_aug (A : EvA TP P) (i : Nat) (o : BO) (e : E) : StS TP P (.aug i o e) := fun {lk τ σ s F Mc b Ow θ h} hF hb S => by
  simp only [ex, tex]
  cases ei : τ[i]? with
  | none => trivial
  | some ov =>
    cases ov with
    | none => trivial
    | some sv =>
      obtain ⟨x, own⟩ := sv
      cases own with
      | true => cases x <;> trivial
      | false =>
        obtain ⟨w, e1, r, _, _⟩ := S.se.at_ i _ ei
        cases x with
        | int a =>
          cases flT_ok r rfl
          simp only [e1]
          refine sim.go S (A.1 e (bo := true) hF S.ist S.se) fun y wy θ1 s1 h1 a1 S1 ry => ?_
          cases et : augIT o a y with
          | none => trivial
          | some t =>
            obtain ⟨w, e2, r2⟩ := augI_ok ry.1.r0 et
            rw [e2]
            exact simO.nx (S1.setR i r2)
        | str a =>
          cases flT_ok r rfl
          simp only [e1]
          refine sim.go S (A.1 e (bo := true) hF S.ist S.se) fun y wy θ1 s1 h1 a1 S1 ry => ?_
          cases et : augST o a y with
          | none => trivial
          | some t =>
            obtain ⟨w, e2, r2⟩ := augS_ok ry.1.r0 et
            rw [e2]
            exact simO.nx (S1.setR i r2)
        | _ => trivial
/-! ### return, if, raise -/
theorem ts_ret (A : EvA TP P) (e : E) : StS TP P (.ret e) := fun {lk τ σ s F Mc b Ow θ h} hF hb S => by
  show simO F Mc b Ow θ h ((ev P e σ h).go σ fun w h1 => .rt w h1) ((tev TP lk false e (relAll τ) s).go (relAll τ) fun t s1 => .rt t s1)
  have S1 := S.relAll
  refine simO.weak (O1 := []) (Stp.refl _ _ _) (fun n z => (nomatch z)) ?_
  refine sim.go S1 (A.1 e (bo := false) hF S1.ist S1.se) fun t w θ1 s1 h1 a1 S2 rt => ?_
  have r : R (MM Mc []) θ1 h1 t w := rt.1
  exact ⟨w, h1, θ1, rfl, Stp.refl _ _ _, S2.ist.less fun n z => .inl z, r.less fun n z => .inl z⟩
theorem ts_retN : StS TP P .retN := fun {lk τ σ s F Mc b Ow θ h} hF hb S => ⟨.non, h, θ, rfl, Stp.refl _ _ _, S.ist.less fun n z => .inl z, by unfold R; rfl⟩
theorem ts_ite (hp : PP TP P) (A : EvA TP P) {c : E} {x y : List S} (ia : StL TP P x) (ib : StL TP P y) : StS TP P (.ite c x y) := fun {lk τ σ s F Mc b Ow θ h} hF hb S => by
  show simO F Mc b Ow θ h ((ev P c σ h).go σ fun v h1 => match tru P h1 v with
    | some true => exs P x σ h1
    | some false => exs P y σ h1
    | none => .no) ((tev TP lk true c (rel τ (looks c)) s).go (rel τ (looks c)) fun v s1 => match truT TP lk v with
    | some true => texs TP lk x (rel τ (looks c)) s1
    | some false => texs TP lk y (rel τ (looks c)) s1
    | none => .no)
  refine S.let_go (looks c) fun O1 hs S1 => ?_
  refine sim.go S1 (A.1 c (bo := true) hF S1.ist S1.se) fun v w θ1 s1 h1 a1 S2 rv => ?_
  cases e1 : truT TP lk v with
  | none => trivial
  | some t =>
    rw [tru_ok hp S2.ist hF rv.1.r0 e1]
    cases t with
    | true => exact ia hF (Nat.le_trans hb a1.sz) S2
    | false => exact ib hF (Nat.le_trans hb a1.sz) S2
theorem zip_rf {M : Nat → Prop} : ∀ {fs : List Str} {ts : List T} {ws : List W}, Rl M θ h ts ws → Paired (fun p q => p.1 = q.1 ∧ R M θ h p.2 q.2) (fs.zip ts) (fs.zip ws)
  | [], _, _, _ => .nil
  | f :: fs, [], ws, r => by rw [rl_nil r]; exact .nil
  | f :: fs, t :: ts, ws, r => by
    obtain ⟨w, u, rfl, a, b⟩ := rl_cons r
    exact .cons ⟨rfl, a⟩ (zip_rf b)
theorem ts_rse (hp : PP TP P) (A : EvA TP P) (c : Str) (as : List E) : StS TP P (.rse c as) := fun {lk τ σ s F Mc b Ow θ h} hF hb S => by
  simp only [ex, tex]
  rw [hp.exf]
  cases ec : P.exf c with
  | none => trivial
  | some fs =>
    simp only
    refine S.let_go (keepss as) fun O1 hs S1 => ?_
    refine sim.go S1 (A.2.2 as (bo := false) hF S1.ist S1.se) fun ts ws θ1 s1 h1 a1 S2 rs => ?_
    by_cases hl : fs.length = ts.length
    · rw [if_pos hl, if_pos (by rw [← rs.length]; exact hl)]
      have st := Stp.push S2.ist (.xd (fs.zip ws).reverse)
      have S3 := S2.step st (S2.ist.push fun x => by simp)
      refine ⟨h1.sz, σ, _, θ1, O1, (fs.zip ws).reverse, rfl, st.weak (fun n z => (nomatch z)), fun n z => .inl z, S3, fun z => Nat.lt_irrefl _ (S2.ist.lt _ z), fun z => Nat.lt_irrefl _ (S2.ist.obLt z), by rw [Hh.get_push, if_pos rfl], ?_⟩
      exact rf_prd.mpr (prd_rev (zip_rf ((pr_rl rs).mono st.mono0)))
    · rw [if_neg hl]; trivial
theorem ts_tri (hp : PP TP P) {x u : List S} {c : Str} {i : Nat} (ix : StL TP P x) (iu : StL TP P u) : StS TP P (.tri x c i u) := fun {lk τ σ s F Mc b Ow θ h} hF hb S => by
  simp only [ex, tex]
  have q := ix (lk := lk) hF hb S
  cases e1 : texs TP lk x τ s with
  | no => trivial
  | nx τ' s' => rw [e1] at q; obtain ⟨σ', h', θ', O', e, r⟩ := q; rw [e]; exact ⟨σ', h', θ', O', rfl, r⟩
  | bk τ' s' => rw [e1] at q; obtain ⟨σ', h', θ', O', e, r⟩ := q; rw [e]; exact ⟨σ', h', θ', O', rfl, r⟩
  | ct τ' s' => rw [e1] at q; obtain ⟨σ', h', θ', O', e, r⟩ := q; rw [e]; exact ⟨σ', h', θ', O', rfl, r⟩
  | rt t s' => rw [e1] at q; obtain ⟨w, h', θ', e, r⟩ := q; rw [e]; exact ⟨w, h', θ', rfl, r⟩
  | ex c' fs τ' s' =>
    rw [e1] at q
    obtain ⟨n, σ', h', θ', O', ws, e, a, ho, S', nm, nθ, g, rf⟩ := q
    rw [e]
    simp only [hp.isC]
    cases ec : P.isC c' c with
    | none => trivial
    | some bb =>
      cases bb with
      | false => exact ⟨n, σ', h', θ', O', ws, rfl, a, ho, S', nm, nθ, g, rf⟩
      | true =>
        simp only
        have S2 := S'.setR i (t := .exn c' fs) (w := .exn c' n) (by unfold R; exact ⟨n, ws, rfl, nm, nθ, g, rf⟩)
        have q2 := iu (lk := lk) hF (Nat.le_trans hb a.sz) S2
        refine simO.weak a ho ?_
        cases e2 : texs TP lk u (τ'.set i (some ⟨.exn c' fs, false⟩)) s' with
        | nx τ2 s2 =>
          rw [e2] at q2
          obtain ⟨σ2, h2, θ2, O2, e, a2, ho2, S3⟩ := q2
          rw [e]
          exact ⟨_, h2, θ2, O2, rfl, a2, ho2, S3.clrT.clr i⟩
        | rt t s2 => rw [e2] at q2; obtain ⟨w, h2, θ2, e, r⟩ := q2; rw [e]; exact ⟨w, h2, θ2, rfl, r⟩
        | _ => trivial
theorem l_nilS : StL TP P [] := fun {lk τ σ s F Mc b Ow θ h} hF hb S => simO.nx S
theorem l_consS {c : S} {cs : List S} (i1 : StS TP P c) (i2 : StL TP P cs) : StL TP P (c :: cs) := fun {lk τ σ s F Mc b Ow θ h} hF hb S => by
  show simO F Mc b Ow θ h (match ex P c σ h with
    | .nx σ' h' => exs P cs σ' h'
    | o => o) (match tex TP lk c τ s with
    | .nx τ' s' => texs TP lk cs τ' s'
    | o => o)
  have q := i1 (lk := lk) hF hb S
  cases e1 : tex TP lk c τ s with
  | no => trivial
  | nx τ' s' =>
    rw [e1] at q
    obtain ⟨σ', h', θ', O', e, a, ho, S'⟩ := q
    rw [e]
    exact (i2 (lk := lk) hF (Nat.le_trans hb a.sz) S').weak a ho
  | bk τ' s' => rw [e1] at q; obtain ⟨σ', h', θ', O', e, r⟩ := q; rw [e]; exact ⟨σ', h', θ', O', rfl, r⟩
  | ct τ' s' => rw [e1] at q; obtain ⟨σ', h', θ', O', e, r⟩ := q; rw [e]; exact ⟨σ', h', θ', O', rfl, r⟩
  | rt t s' => rw [e1] at q; obtain ⟨w, h', θ', e, r⟩ := q; rw [e]; exact ⟨w, h', θ', rfl, r⟩
  | ex c' fs τ' s' => rw [e1] at q; obtain ⟨n, σ', h', θ', O', ws, e, r⟩ := q; rw [e]; exact ⟨n, σ', h', θ', O', ws, rfl, r⟩
/-! ### loops -/
theorem bodyT_ok {r : Out} {tr : TO} {nW : Sl → Hh → Out} {nT : Tl → Om → TO} (q : simO F Mc b Ow θ h r tr) (hn : ∀ τ' σ' s' O' θ' h', Stp θ h θ' h' Ow → (∀ n ∈ O', n ∈ Ow ∨ h.sz ≤ n) → SS F Mc b O' θ' s' h' τ' σ' → simO F Mc b O' θ' h' (nW σ' h') (nT τ' s')) : simO F Mc b Ow θ h (bodyK r nW) (bodyT tr nT) := by
  cases tr with
  | no => trivial
  | nx τ' s' => obtain ⟨σ', h', θ', O', rfl, a, ho, S'⟩ := q; exact (hn τ' σ' s' O' θ' h' a ho S').weak a ho
  | ct τ' s' => obtain ⟨σ', h', θ', O', rfl, a, ho, S'⟩ := q; exact (hn τ' σ' s' O' θ' h' a ho S').weak a ho
  | bk τ' s' => obtain ⟨σ', h', θ', O', rfl, r⟩ := q; exact ⟨σ', h', θ', O', rfl, r⟩
  | rt t s' => obtain ⟨w, h', θ', rfl, r⟩ := q; exact ⟨w, h', θ', rfl, r⟩
  | ex c' fs τ' s' => obtain ⟨n, σ', h', θ', O', ws, rfl, r⟩ := q; exact ⟨n, σ', h', θ', O', ws, rfl, r⟩
theorem wh_ok {cW : Sl → Hh → Rs Bool} {cT : Tl → Om → TR Bool} {bW : Sl → Hh → Out} {bT : Tl → Om → TO}
    (ic : ∀ {τ σ s Ow θ h}, b ≤ h.sz → SS F Mc b Ow θ s h τ σ → sim F (MM Mc Ow) θ h (fun _ _ _ a b => a = b) (cW σ h) (cT τ s))
    (ib : ∀ {τ σ s Ow θ h}, b ≤ h.sz → SS F Mc b Ow θ s h τ σ → simO F Mc b Ow θ h (bW σ h) (bT τ s)) :
    ∀ (f : Nat) {τ : Tl} {σ : Sl} {s : Om} {Ow θ : List Nat} {h : Hh}, b ≤ h.sz → SS F Mc b Ow θ s h τ σ → simO F Mc b Ow θ h (whL cW bW f σ h) (whT cT bT f τ s)
  | 0, _, _, _, _, _, _, _, _ => trivial
  | f + 1, τ, σ, s, Ow, θ, h, hb, S => by
    unfold whL whT
    refine sim.go S (ic hb S) fun t w θ1 s1 h1 a1 S1 e => ?_
    subst e
    cases t with
    | true =>
      simp only [if_true]
      exact bodyT_ok (ib (Nat.le_trans hb a1.sz) S1) fun τ' σ' s' O' θ' h' a ho S' => wh_ok ic ib f (Nat.le_trans (Nat.le_trans hb a1.sz) a.sz) S'
    | false => simp only [Bool.false_eq_true, if_false]; exact simO.nx S1
theorem ts_whl (hp : PP TP P) (A : EvA TP P) {c : E} {x : List S} (ix : StL TP P x) : StS TP P (.whl c x) := fun {lk τ σ s F Mc b Ow θ h} hF hb S => by
  show simO F Mc b Ow θ h (whL (fun σ h => (ev P c σ h).bind fun x h1 => truR P x h1) (fun σ h => exs P x σ h) P.fu σ h) (whT (fun τ s => (tev TP lk true c τ s).bind fun x s1 => ofT (truT TP lk x) s1) (fun τ s => texs TP lk x τ s) TP.fu τ s)
  rw [hp.fu]
  refine wh_ok (fun {τ σ s Ow θ h} hb S => ?_) (fun {τ σ s Ow θ h} hb S => ix hF hb S) P.fu hb S
  refine (A.1 c (bo := true) hF S.ist S.se).bind fun v w θ1 s1 h1 a1 I1 rv => sim.ofT fun t et => ?_
  unfold truR
  rw [tru_ok hp I1 hF rv.1.r0 et]
  exact sim.ret I1 rfl
theorem fr_ok {κ : Ik} {all : List T} {M0 : Nat → Prop} {θ0 D : List Nat} {h0 : Hh} {tW : W → Sl → Hh → Out} {tT : T → Tl → Om → TO} (L : IkL P D M0 θ0 h0 κ all) (hD : ∀ n ∈ D, M0 n) (hM : ∀ n, Mc n → M0 n)
    (ib : ∀ {t w τ σ s Ow θ h}, b ≤ h.sz → SS F Mc b Ow θ s h τ σ → R (MM Mc Ow) θ h t w → simO F Mc b Ow θ h (tW w σ h) (tT t τ s)) :
    ∀ (xs : List T) (i f : Nat) {τ : Tl} {σ : Sl} {s : Om} {Ow θ : List Nat} {h : Hh}, (∀ k, xs[k]? = all[i + k]?) → xs.length < f → Stp θ0 h0 θ h D → (∀ n ∈ Ow, n ∈ D ∨ h0.sz ≤ n) → b ≤ h.sz → SS F Mc b Ow θ s h τ σ → simO F Mc b Ow θ h (frL (κ.next P) tW f i σ h) (frT tT xs τ s)
  | xs, i, 0, _, _, _, _, _, _, _, hf, _, _, _, _ => by omega
  | [], i, f + 1, τ, σ, s, Ow, θ, h, hx, hf, a, ho, hb, S => by
    have m : Mono M0 θ0 h0 (MM Mc Ow) θ h := a.mono (fun n z => .inl (hD n z)) fun n hl z => by
      rcases z with z | z
      · exact hM n z
      · rcases ho n z with q | q
        · exact hD n q
        · omega
    have hn := (next_ok L a m S.ist i).stop (by have := hx 0; rw [Nat.add_zero] at this; rw [← this]; rfl)
    unfold frL frT
    simp only [hn]
    exact simO.nx S
  | x :: xs, i, f + 1, τ, σ, s, Ow, θ, h, hx, hf, a, ho, hb, S => by
    have m : Mono M0 θ0 h0 (MM Mc Ow) θ h := a.mono (fun n z => .inl (hD n z)) fun n hl z => by
      rcases z with z | z
      · exact hM n z
      · rcases ho n z with q | q
        · exact hD n q
        · omega
    obtain ⟨w, h3, en, b3, I3, rw_⟩ := (next_ok L a m S.ist i).it x (by have := hx 0; rw [Nat.add_zero] at this; rw [← this]; rfl)
    unfold frL frT
    simp only [en]
    refine (bodyT_ok (ib (Nat.le_trans hb b3.sz) (S.step b3 I3) rw_) fun τ' σ' s' O' θ' h' a' ho' S' => ?_).weak (b3.weak fun n z => (nomatch z)) fun n z => .inl z
    refine fr_ok L hD hM ib xs (i + 1) f (fun k => by
      have := hx (k + 1)
      rw [List.getElem?_cons_succ] at this
      rw [this]
      congr 1
      omega) (by simp at hf; omega) ((a.trans b3 fun n z => (nomatch z)).trans a' fun n z => ?_) (fun n z => ?_) (Nat.le_trans (Nat.le_trans hb b3.sz) a'.sz) S'
    · rcases ho n z with q | q
      · exact .inl q
      · exact .inr q
    · rcases ho' n z with q | q
      · exact ho n q
      · exact .inr (Nat.le_trans a.sz (Nat.le_trans b3.sz q))
theorem SS.fF {F' : List Nat} (S : SS F Mc b Ow θ s h τ σ) (I : Ist F' (MM Mc Ow) θ s h) (hu : ∀ n ∈ Ow, n ∉ F') (hl : ∀ n ∈ F', n < h.sz) : SS F' Mc b Ow θ s h τ σ := ⟨I, S.se, S.mu, S.inj, hu, hl, S.lo, S.mc⟩
theorem s_frr (hp : PP TP P) (A : EvA TP P) {t : Tg} {it : E} {x : List S} (ix : StL TP P x) : StS TP P (.frr t it x) := fun {lk τ σ s F Mc b Ow θ h} hF hb S => by
  show simO F Mc b Ow θ h (((evI P it σ h).bind lockR).go σ fun k h2 => unlO k (frL (k.next P) (fun y σ' h3 => match stT P t y σ' h3 with
      | some σ'' => exs P x σ'' h3
      | none => .no) P.fu 0 σ h2)) ((tevI TP lk false it (rel τ (keepI it)) s).go (rel τ (keepI it)) fun xs s1 => if xs.1.length < TP.fu then
      dicO xs.2 (frT (fun y τ' s => match stTT TP t y τ' with
        | some τ'' => texs TP (lk || xs.2) x τ'' s
        | none => .no) xs.1 (rel τ (keepI it)) s1) else .no)
  refine S.let_go (keepI it) fun O1 hs S1 => ?_
  have eg : ((evI P it σ h).bind lockR).go σ (fun k h2 => unlO k (frL (k.next P) (fun y σ' h3 => match stT P t y σ' h3 with
      | some σ'' => exs P x σ'' h3
      | none => .no) P.fu 0 σ h2)) = (evI P it σ h).go σ fun k h1 => (lockR k h1).go σ fun k h2 => unlO k (frL (k.next P) (fun y σ' h3 => match stT P t y σ' h3 with
      | some σ'' => exs P x σ'' h3
      | none => .no) P.fu 0 σ h2) := by cases evI P it σ h <;> rfl
  rw [eg]
  refine sim.go S1 (A.2.1 it (bo := false) hF S1.ist S1.se) fun xs κ θ1 s1 h1 a1 S2 hk => ?_
  by_cases hfu : xs.1.length < TP.fu
  · rw [if_pos hfu]
    obtain ⟨F', h2, L, hF', hd⟩ := lock_ok (D := O1) S2.ist hk (fun n z => ⟨rfl, .inr z⟩)
    rw [L.lock]
    show simO F Mc b O1 θ1 h1 (unlO κ (frL (κ.next P) (fun y σ' h3 => match stT P t y σ' h3 with
      | some σ'' => exs P x σ'' h3
      | none => .no) P.fu 0 σ h2)) _
    have hF2 : (lk || xs.2) = false → F' = [] := fun z => by
      obtain ⟨z1, z2⟩ := Bool.or_eq_false_iff.mp z
      rw [hF' z2]
      exact hF z1
    have S3 : SS F' Mc b O1 θ1 s1 h2 (rel τ (keepI it)) σ := by
      refine ⟨L.ist, S2.se.same L.same, S2.mu, S2.inj, fun n z q => ?_, fun n z => ?_, S2.lo, S2.mc⟩
      · rcases L.fx n q with q | q
        · exact S2.unf n z q
        · exact q.2 z
      · rw [L.sz]
        rcases L.fx n z with q | q
        · exact S2.fl n q
        · exact q.1
    have q := fr_ok (P := P) (F := F') (Mc := Mc) (b := b) (M0 := MM Mc O1) (tW := fun y σ' h3 => match stT P t y σ' h3 with
      | some σ'' => exs P x σ'' h3
      | none => .no) (tT := fun y τ' s => match stTT TP t y τ' with
        | some τ'' => texs TP (lk || xs.2) x τ'' s
        | none => .no) L.ikl (fun n z => .inr z) (fun n z => .inl z) (fun {t' w τ σ s Ow θ h} hb S r => by
        cases e1 : stTT TP t t' τ with
        | none => trivial
        | some τ2 =>
          obtain ⟨σ2, e2, S4⟩ := SS.stT hp t S r e1
          simp only [e2]
          exact ix hF2 hb S4) xs.1 0 P.fu (fun k => by rw [Nat.zero_add]) (by rw [← hp.fu]; exact hfu) (Stp.refl θ1 h2 O1) (fun n z => .inl z) (by rw [L.sz]; exact Nat.le_trans hb a1.sz) S3
    cases hx : xs.2 with
    | false =>
      have hn := hd.mp hx
      have eF := hF' hx
      subst eF
      have e3 : h2 = h1 := by
        have := L.lock
        unfold lockR lockK at this
        simp only [hn] at this
        cases this
        rfl
      subst e3
      have eu : ∀ r, unlO κ r = r := fun r => by unfold unlO; simp only [hn]
      rw [eu]
      rw [hx] at q
      exact q
    | true =>
      rw [hx] at q
      have hn : ∃ n, κ.isD = some n := by
        cases e : κ.isD with
        | none => exact absurd (hd.mpr e) (by rw [hx]; simp)
        | some n => exact ⟨n, rfl⟩
      obtain ⟨n, hn⟩ := hn
      have eu : ∀ r, unlO κ r = (match r with
        | .nx σ h => (match unlockK κ h with
          | some h' => .nx σ h'
          | none => .no)
        | .rt w h => (match unlockK κ h with
          | some h' => .rt w h'
          | none => .no)
        | _ => .no) := fun r => by unfold unlO; simp only [hn]; all_goals (cases r <;> rfl)
      rw [eu]
      unfold dicO
      simp only [if_true]
      generalize frT (fun y τ' s => match stTT TP t y τ' with
        | some τ'' => texs TP (lk || true) x τ'' s
        | none => .no) xs.1 (rel τ (keepI it)) s1 = tr at q ⊢
      cases tr with
      | nx τ' s' =>
        obtain ⟨σ', h', θ', O', e, a, ho, S'⟩ := q
        rw [e]
        obtain ⟨h5, e5, a5, I5, z5, same5, _⟩ := L.un a S'.ist
        simp only [e5]
        refine ⟨σ', h5, θ', O', rfl, a5, fun n z => ?_, I5, S'.se.same (fun n o e _ => same5 n o e), S'.mu, S'.inj, fun n z => ?_, fun n z => ?_, S'.lo, S'.mc⟩
        · rw [← L.sz]; exact ho n z
        · rcases ho n z with q | q
          · exact S2.unf n q
          · intro w
            have := S2.fl n w
            rw [L.sz] at q
            omega
        · have := S2.fl n z
          have := a5.sz
          omega
      | rt t s' =>
        obtain ⟨w, h', θ', e, a, I, r⟩ := q
        rw [e]
        obtain ⟨h5, e5, a5, I5, z5, same5, _⟩ := L.un a I
        simp only [e5]
        exact ⟨w, h5, θ', rfl, a5, I5, r.mono (mono_same fun n o e _ => same5 n o e)⟩
      | _ => trivial
  · rw [if_neg hfu]; trivial
theorem s_noS {c : S} (h1 : ∀ lk τ s, tex TP lk c τ s = .no) : StS TP P c := fun {lk τ σ s F Mc b Ow θ h} hF hb S => by rw [h1]; trivial
theorem ts_pas : StS TP P .pas := fun {lk τ σ s F Mc b Ow θ h} hF hb S => simO.nx S
theorem ts_brk : StS TP P .brk := fun {lk τ σ s F Mc b Ow θ h} hF hb S => ⟨σ, h, θ, Ow, rfl, Stp.refl _ _ _, fun n z => .inl z, S⟩
theorem ts_cnt : StS TP P .cnt := fun {lk τ σ s F Mc b Ow θ h} hF hb S => ⟨σ, h, θ, Ow, rfl, Stp.refl _ _ _, fun n z => .inl z, S⟩
mutual
theorem st_all (hp : PP TP P) (A : EvA TP P) : ∀ c : S, StS TP P c
  | .asg t e => s_asg hp A t e
  | .par is es => ts_par A is es
  | .asgF o f e => s_asgF hp A o f e
  | .asgS o i e => s_asgS A o i e
  | .aug i o e => ts_aug A i o e
  | .del o i => s_noS fun _ _ _ => rfl
  | .stk => s_noS fun _ _ _ => rfl
  | .exp e => ts_exp A e
  | .ret e => ts_ret A e
  | .retN => ts_retN
  | .pas => ts_pas
  | .brk => ts_brk
  | .cnt => ts_cnt
  | .ite c a b => ts_ite hp A (sts_allT hp A a) (sts_allT hp A b)
  | .whl c b => ts_whl hp A (sts_allT hp A b)
  | .frr t it b => s_frr hp A (sts_allT hp A b)
  | .rse c as => ts_rse hp A c as
  | .tri b c i u => ts_tri hp (sts_allT hp A b) (sts_allT hp A u)
theorem sts_allT (hp : PP TP P) (A : EvA TP P) : ∀ cs : List S, StL TP P cs
  | [] => l_nilS
  | c :: cs => l_consS (st_all hp A c) (sts_allT hp A cs)
end
end
end MP

set_option Elab.async false
set_option linter.all false
set_option maxRecDepth 100000
/-! MP: the evaluator over values is sound: calls to a depth. -/
namespace MP
open PySem L2
section
variable {p : Prog} {F : List Nat} {M : Nat → Prop} {θ θ' : List Nat} {s : Om} {h h' : Hh}
theorem Ist.fzw {F' : List Nat} (I : Ist F M θ s h) (hf : ∀ n ∈ F, n ∈ F') : Ist F' M θ s h := ⟨I.len, I.nd, I.mt, I.lt, I.at_, fun n o e => hf n (I.fz n o e)⟩
theorem rl_slots {ts : List T} {ws : List W} (r : Rl M θ h ts ws) (n i : Nat) (v : Sv) (e : (ts.map (fun t => some (⟨t, false⟩ : Sv)) ++ List.replicate n none)[i]? = some (some v)) : ∃ w, (ws.map some ++ List.replicate n none)[i]? = some (some w) ∧ v.own = false ∧ R M θ h v.v w := by
  rw [List.getElem?_append] at e
  split at e
  · rename_i hl
    rw [List.length_map] at hl
    rw [List.getElem?_map] at e
    obtain ⟨t, et, e2⟩ := Option.map_eq_some_iff.mp e
    cases e2
    obtain ⟨w, ew, q⟩ := rl_get r et
    refine ⟨w, ?_, rfl, q⟩
    rw [List.getElem?_append_left (by rw [List.length_map, ← rl_len r]; exact hl), List.getElem?_map, ew]
    rfl
  · rw [List.getElem?_replicate] at e
    split at e <;> cases e
theorem run_ok {TP : Tg0} {P : Pg} (hp : PP TP P) (A : EvA TP P) {d : Df} {ts : List T} {ws : List W} {lk : Bool} (hF : lk = false → F = []) (I : Ist F M θ s h) (r : Rl M θ h ts ws) :
    sim F M θ h (fun θ' _ h' t w => R M θ' h' t w) (runD P d ws h) (runT TP d ts lk s) := by
  unfold runD runT
  by_cases hl : ts.length = d.np
  · rw [if_pos hl, if_pos (by rw [← rl_len r]; exact hl)]
    have mm : ∀ n, MM M [] n → M n := fun n z => z.elim id fun q => nomatch q
    have I1 : Ist (F.filter (· < h.sz)) (MM M []) θ s h := ⟨I.len, I.nd, fun n hn z => I.mt n hn (mm n z), fun n z => I.lt n (mm n z), (I.less mm).at_, fun n o e => List.mem_filter.mpr ⟨I.fz n o e, by simpa using Hh.get_lt e⟩⟩
    have S : SS (F.filter (· < h.sz)) M h.sz [] θ s h (ts.map (fun t => some ⟨t, false⟩) ++ List.replicate (d.nn - d.np) none) (ws.map some ++ List.replicate (d.nn - d.np) none) := by
      refine ⟨I1, ⟨by simp [rl_len r], fun i v e => ?_, fun n z => nomatch z⟩, fun i t e => ?_, fun i j t u n e => ?_, fun n z => (nomatch z), fun n z => ?_, fun n z => (nomatch z), I.lt⟩
      · obtain ⟨w, e1, e2, q⟩ := rl_slots r _ i v e
        exact ⟨w, e1, (q.less mm).r0, fun _ => q.less mm, fun z => by rw [e2] at z; cases z⟩
      · obtain ⟨w, _, e2, _⟩ := rl_slots r _ i _ e
        cases e2
      · obtain ⟨w, _, e2, _⟩ := rl_slots r _ i _ e
        cases e2
      · simpa using (List.mem_filter.mp z).2
    have hF' : lk = false → F.filter (· < h.sz) = [] := fun z => by rw [hF z]; rfl
    have q := sts_allT hp A d.body (lk := lk) hF' (Nat.le_refl _) S
    have up : ∀ n ∈ F.filter (· < h.sz), n ∈ F := fun n z => (List.mem_filter.mp z).1
    generalize texs TP lk d.body (ts.map (fun t => some ⟨t, false⟩) ++ List.replicate (d.nn - d.np) none) s = tr at q ⊢
    cases tr with
    | no => trivial
    | bk τ' s' => trivial
    | ct τ' s' => trivial
    | nx τ' s' =>
      obtain ⟨σ', h', θ', O', e, a, _, S'⟩ := q
      rw [e]
      exact ⟨.non, h', θ', rfl, a, (S'.ist.less fun n z => .inl z).fzw up, by unfold R; rfl⟩
    | rt t s' =>
      obtain ⟨w, h', θ', e, a, I', r'⟩ := q
      rw [e]
      exact ⟨w, h', θ', rfl, a, I'.fzw up, r'⟩
    | ex c fs τ' s' =>
      obtain ⟨n, σ', h', θ', O', ws', e, a, _, S', nm, nθ, g, rf⟩ := q
      rw [e]
      exact ⟨n, h', θ', ws', rfl, a, (S'.ist.less fun n z => .inl z).fzw up, fun z => nm (.inl z), nθ, g, rf.mono ((Stp.refl θ' h' []).mono (fun n z => (nomatch z)) fun n _ z => .inl z)⟩
  · rw [if_neg hl]; trivial
/-- what is known otherwise is so -/
def PrOK (p : Prog) (pr : Str × Str → List T → Om → Option (TR T)) : Prop := ∀ (f : Str × Str) (ts : List T) (s : Om) (r : TR T), pr f ts s = some r → ∀ (k : Nat) (F : List Nat) (M : Nat → Prop) (θ : List Nat) (h : Hh) (ws : List W), Ist F M θ s h → Rl M θ h ts ws →
  sim F M θ h (fun θ' _ h' t w => R M θ' h' t w) (p.cl (k + 1) f ws h) r
theorem pp_of (p : Prog) (tcl : Str × Str → List T → Bool → Om → TR T) (cl : Str × Str → List W → Hh → Rs W) : PP (p.tg tcl) (p.pg cl) := ⟨rfl, rfl, rfl, rfl, rfl, rfl, rfl, rfl⟩
theorem cl_ok (hfu : p.fu ≤ lim) {pr : Str × Str → List T → Om → Option (TR T)} (hpr : PrOK p pr) : ∀ d, ClOK (p.tg (p.tcl pr d)) (p.pg (p.cl d))
  | 0 => fun f ts lk s F M θ h ws hF I r => trivial
  | d + 1 => fun f ts lk s F M θ h ws hF I r => by
    show sim F M θ h _ (p.cl (d + 1) f ws h) (match pr f ts s with
      | some r => r
      | none => match p.fn f with
        | some d' => runT (p.tg (p.tcl pr d)) d' ts lk s
        | none => .no)
    cases e : pr f ts s with
    | some r' => exact hpr f ts s r' e d F M θ h ws I r
    | none =>
      cases e2 : p.fn f with
      | none => trivial
      | some d' =>
        have ih := cl_ok hfu hpr d
        have hp := pp_of p (p.tcl pr d) (p.cl d)
        have A : EvA (p.tg (p.tcl pr d)) (p.pg (p.cl d)) := ⟨ev_all hp ih hfu, evI_all hp ih hfu, evs_all hp ih hfu⟩
        have e3 : p.cl (d + 1) f ws h = runD (p.pg (p.cl d)) d' ws h := by
          show (match p.fn f with
            | some d' => runD (p.pg (p.cl d)) d' ws h
            | none => .no) = _
          rw [e2]
        rw [e3]
        exact run_ok hp A hF I r
/-- a law's run -/
theorem law_run (hfu : p.fu ≤ lim) {pr : Str × Str → List T → Om → Option (TR T)} (hpr : PrOK p pr) {d : Nat} {f : Str × Str} {b : Bool} {s' : Om} (e : p.tcl pr d f [.st 0] false [] = .ok (.bl b) s') : ∃ h', p.cl d f [.st 0] ⟨0, .nil⟩ = .ok (.bl b) h' := by
  have I : Ist [] (fun _ => False) [] [] (⟨0, .nil⟩ : Hh) := ⟨rfl, List.nodup_nil, fun n z => (nomatch z), fun n z => z.elim, fun k ob e => by simp at e, fun n o e => by
    have := Hh.get_lt e
    cases this⟩
  have q := cl_ok hfu hpr d f [.st 0] false [] [] (fun _ => False) [] ⟨0, .nil⟩ [.st 0] (fun _ => rfl) I (rl_mk (by unfold R; rfl) rl_nil')
  have q : sim [] (fun _ => False) [] ⟨0, .nil⟩ _ (p.cl d f [.st 0] ⟨0, .nil⟩) (p.tcl pr d f [.st 0] false []) := q
  rw [e] at q
  obtain ⟨w, h', θ', e1, _, _, r⟩ := q
  unfold R at r
  rw [r] at e1
  exact ⟨h', e1⟩
end
end MP

set_option Elab.async false
set_option linter.all false
set_option maxRecDepth 100000
/-! MP: from what is looked at behind a row's top to the facts of a program. -/
namespace MP
open PySem L2
/-- what of the text is asked for: fields; errors' pairs (raised, caught); types of values, types asked for; errors raised -/
structure Op where
  flds : List (Str × Str)
  ics : List (Str × Str)
  tys : List Ty
  tyc : List Ty
  ers : List Str
def scB (N ps : List Str) (sc : Scope) : Bool := decide (sc.kind = .function) && (sc.isCoroutine == false && (sc.isGenerator == false && (decide N.Nodup && (decide (N.take ps.length = ps) && (decide (∀ x ∈ ps, sc.names.lookup x = some .local ∨ sc.names.lookup x = some .cell) && decide (∀ y ∈ sc.names, y.2 ≠ .free))))))
theorem scB_ok {N ps : List Str} {sc : Scope} (h : scB N ps sc = true) : FnScope N ps sc := by
  unfold scB at h
  simp only [Bool.and_eq_true, decide_eq_true_eq, beq_iff_eq] at h
  obtain ⟨h1, h2, h3, h4, h5, h6, h7⟩ := h
  exact ⟨h1, h2, h3, h4, h5, h6, h7⟩
/-- an own error's fields, if its __init__ is as we want it -/
def exfC (env : List (Str × Bd)) (c : Str) : Option (List Str) := match env.lookup c with
  | some (.cls st true) => (match (methsOf (clsBody st)).lookup ("__init__" : Str) with
    | some m => (match exB (defBody m) with
      | some l => if l = (l.map (·.1)).map (fun f => (f, f)) ∧ l.map (·.1) ≠ [] ∧ (l.map (·.1)).length ≤ 100 ∧ plainPs (defArgs m) = some (("self" : Str) :: l.map (·.1)) ∧ scB (("self" : Str) :: l.map (·.1)) (("self" : Str) :: l.map (·.1)) (defScope m) = true then some (l.map (·.1)) else none
      | none => none)
    | none => none)
  | _ => none
/-! ### the program -/
def progK (env : List (Str × Bd)) (o : Op) (script : List W) (fu : Nat) : Prog where
  fn := fun f => (fnTab env).lookup f
  gl := fun x => (stat0 env []).1.lookup x
  so := fun i => if i = 0 then some (.rol script) else ((stat0 env []).2[i]?).map (·.2)
  exf := fun c => if o.ers.contains c = true then exfC env c else none
  isC := fun c' c => if o.ics.contains (c', c) = true then isCOf env c' c else none
  isT := fun t c => if o.tys.contains t = true ∧ o.tyc.contains c = true then isTOf t c else none
  fd := fun c f => o.flds.contains (c, f)
  hm := fun c m => !(c == ("" : Str)) && ((fnTab env).lookup (c, m)).isSome
  fu := fu
/-! ### addresses -/
def saN (env : List (Str × Bd)) (K : PySem.W.Frag) (i : Nat) : Addr := match (stat0 env []).2[i]? with
  | some ((x, none), _) => He.ga K x
  | some ((x, some k), _) => (match PySem.W.nsIn K (He.ga K x) k with
    | some (some (.ref b)) => b
    | _ => 0)
  | none => 0
def lnK (env : List (Str × Bd)) (K : PySem.W.Frag) (so : Nat → Option O) (a : Addr) : Ln := ⟨fun i => if i = 0 then a else saN env K i, He.ga K, so, fun _ => none⟩
def vOf (env : List (Str × Bd)) (K : PySem.W.Frag) : W → Option L2.V
  | .non => some .non
  | .bl b => some (.bl b)
  | .int i => some (.int i)
  | .str x => some (.str x)
  | .st i => if i = 0 then none else some (.ref (saN env K i))
  | _ => none
theorem vOf_ok {env : List (Str × Bd)} {K : PySem.W.Frag} {so : Nat → Option O} {a : Addr} : ∀ {w : W} {v : L2.V}, vOf env K w = some v → vr (lnK env K so a).sa [] w v
  | .non, _, e => by cases e; rfl
  | .bl _, _, e => by cases e; rfl
  | .int _, _, e => by cases e; rfl
  | .str _, _, e => by cases e; rfl
  | .st i, v, e => by
    have e : (if i = 0 then none else some (L2.V.ref (saN env K i))) = some v := e
    split at e
    · cases e
    · rename_i h
      cases e
      show _ = L2.V.ref (if i = 0 then a else saN env K i)
      rw [if_neg h]
  | .ref _, _, e => by cases e
  | .exn _ _, _, e => by cases e
def vsOf (env : List (Str × Bd)) (K : PySem.W.Frag) : List W → Option (List L2.V)
  | [] => some []
  | w :: ws => (vOf env K w).bind fun v => (vsOf env K ws).map (v :: ·)
theorem vsOf_ok {env : List (Str × Bd)} {K : PySem.W.Frag} {so : Nat → Option O} {a : Addr} : ∀ {ws : List W} {vs : List L2.V}, vsOf env K ws = some vs → vrs (lnK env K so a).sa [] ws vs
  | [], _, e => by cases e; exact .nil
  | w :: ws, vs, e => by
    unfold vsOf at e
    obtain ⟨v, e1, e⟩ := Option.bind_eq_some_iff.mp e
    obtain ⟨us, e2, rfl⟩ := Option.map_eq_some_iff.mp e
    exact .cons (vOf_ok e1) (vsOf_ok e2)
/-! ### the top's tuples, tables -/
def tupAt (K : PySem.W.Frag) (a : Addr) (vs : List L2.V) : Bool := match K.lookup a with
  | some ⟨.type c, _, .seq its _, _⟩ => decide (c = "tuple") && (decide (its.size ≤ sizeLine) && He.relAll vs its.toList)
  | _ => false
theorem tupAt_ok {K : PySem.W.Frag} {a : Addr} {vs : List L2.V} (h : tupAt K a vs = true) (H : Hp) : SqT K H a vs := by
  unfold tupAt at h
  split at h
  · rename_i c dd its n sl q
    obtain ⟨h1, h2⟩ := Bool.and_eq_true_iff.mp h
    obtain ⟨h3, h4⟩ := Bool.and_eq_true_iff.mp h2
    exact .inr ⟨_, its, n, q, congrArg Value.type (of_decide_eq_true h1), rfl, of_decide_eq_true h3, He.relAll_ok h4⟩
  · cases h
def keyS : Key → Option Str
  | .inr x => some x
  | _ => none
def keysS : List (Key × W) → List Str := fun kvs => kvs.filterMap fun kv => keyS kv.1
def dicB (env : List (Str × Bd)) (K : PySem.W.Frag) (a : Addr) (kvs : List (Key × W)) : Bool := kvs.all fun kv => match keyS kv.1, vOf env K kv.2 with
  | some k, some v => (match PySem.W.nsIn K a k with
    | some (some u) => He.relB v u
    | _ => false)
  | _, _ => false
def objB (env : List (Str × Bd)) (K : PySem.W.Frag) (i : Nat) : O → Bool
  | .tup ws => (match vsOf env K ws with
    | some vs => tupAt K (saN env K i) vs
    | none => false)
  | .dic kvs => dicB env K (saN env K i) kvs
  | _ => i == 0
def objsB (env : List (Str × Bd)) (K : PySem.W.Frag) : Nat → Objs → Bool
  | _, [] => true
  | i, (_, o) :: r => objB env K i o && objsB env K (i + 1) r
def tabs (env : List (Str × Bd)) : Nat → Objs → List He.Tab
  | _, [] => []
  | i, (_, .dic kvs) :: r => ((fun K => saN env K i), keysS kvs) :: tabs env (i + 1) r
  | i, _ :: r => tabs env (i + 1) r
theorem objsB_at {env : List (Str × Bd)} {K : PySem.W.Frag} : ∀ {os : Objs} {i j : Nat} {q : Path × O}, objsB env K i os = true → os[j]? = some q → objB env K (i + j) q.2 = true
  | [], i, j, q, _, e => by cases e
  | (x, o) :: r, i, 0, q, h, e => by cases e; exact (Bool.and_eq_true_iff.mp h).1
  | (x, o) :: r, i, j + 1, q, h, e => by
    have := objsB_at (Bool.and_eq_true_iff.mp h).2 (show r[j]? = some q from e)
    rw [show i + (j + 1) = i + 1 + j by omega]
    exact this
theorem tabs_at {env : List (Str × Bd)} : ∀ {os : Objs} {i j : Nat} {x : Path} {kvs : List (Key × W)}, os[j]? = some (x, .dic kvs) → ∃ t ∈ tabs env i os, t.1 = (fun K => saN env K (i + j)) ∧ t.2 = keysS kvs
  | [], i, j, x, kvs, e => by cases e
  | (y, o) :: r, i, 0, x, kvs, e => by
    cases e
    exact ⟨_, List.mem_cons_self, rfl, rfl⟩
  | (y, o) :: r, i, j + 1, x, kvs, e => by
    obtain ⟨t, h1, h2, h3⟩ := tabs_at (i := i + 1) (show r[j]? = some (x, .dic kvs) from e)
    refine ⟨t, ?_, by rw [h2, show i + (j + 1) = i + 1 + j by omega], h3⟩
    cases o with
    | dic _ => exact List.mem_cons_of_mem _ h1
    | _ => exact h1
/-- a table's look-up tells all -/
theorem ns_dict {K : PySem.W.Frag} {w : World} {a : Addr} {ks : List Str} (h : He.dicW K a = some (He.keysIn w.params ks)) (z : Str) : ∃ r, PySem.W.nsIn K a z = some r ∧ (z ∉ ks → r = none) := by
  obtain ⟨es, n, D⟩ := He.dicW_ok h
  have e1 := D.at_
  unfold He.dicW at h
  rw [e1] at h
  have hk : es.toList.map He.keyOf = He.keysIn w.params ks := by
    simp only at h
    split at h
    · exact Option.some.inj h
    · cases h
  have hr : es.toList.any (·.refKey) = false := by
    rw [List.any_eq_false]
    intro e he
    obtain ⟨x, t, ex, _⟩ := D.lit.all e he
    unfold DictEntry.refKey
    rw [ex]
    simp
  unfold PySem.W.nsIn
  rw [e1]
  simp only
  cases q : es.toList.find? (·.key.isStr z) with
  | some e =>
    refine ⟨_, rfl, fun hz => ?_⟩
    exfalso
    apply hz
    have he := List.mem_of_find?_eq_some q
    have hp := List.find?_some q
    obtain ⟨x, t, ex, _⟩ := D.lit.all e he
    have hx : x = z := by
      rw [ex] at hp
      have hp : (x == z) = true := hp
      exact beq_iff_eq.mp hp
    have hm : He.keyOf e ∈ es.toList.map He.keyOf := List.mem_map_of_mem he
    rw [hk] at hm
    obtain ⟨k, hk1, hk2⟩ := List.mem_map.mp hm
    have ek : He.keyOf e = some (x, e.hash) := by unfold He.keyOf; rw [ex]
    rw [ek] at hk2
    have := (Prod.mk.inj (Option.some.inj hk2)).1
    rw [← hx, ← this]
    exact hk1
  | none =>
    refine ⟨none, ?_, fun _ => rfl⟩
    rw [if_neg (by rw [hr]; simp)]
theorem dicB_get {env : List (Str × Bd)} {K : PySem.W.Frag} {a : Addr} : ∀ {kvs : List (Key × W)} {z : Str}, dicB env K a kvs = true → (match getK kvs (.inr z) with
    | some x => ∃ v u, vOf env K x = some v ∧ PySem.W.nsIn K a z = some (some u) ∧ RelV v u
    | none => z ∉ keysS kvs)
  | [], z, _ => by simp [getK, keysS]
  | (k, x) :: r, z, h => by
    unfold dicB at h
    rw [List.all_cons] at h
    obtain ⟨h1, h2⟩ := Bool.and_eq_true_iff.mp h
    have ih := dicB_get (z := z) (show dicB env K a r = true from h2)
    cases k with
    | inl i => simp [keyS] at h1
    | inr k =>
      simp only [keyS] at h1
      cases ev : vOf env K x with
      | none => rw [ev] at h1; cases h1
      | some v =>
        rw [ev] at h1
        simp only at h1
        by_cases hk : k = z
        · subst hk
          have : getK ((.inr k, x) :: r) (.inr k) = some x := by unfold getK; simp [List.find?_cons]
          rw [this]
          simp only
          cases en : PySem.W.nsIn K a k with
          | none => rw [en] at h1; cases h1
          | some o =>
            rw [en] at h1
            cases o with
            | none => cases h1
            | some u => exact ⟨v, u, ev, rfl, He.relB_ok h1⟩
        · have hne : ¬ ((Sum.inr k : Key) = .inr z) := fun q => hk (Sum.inr.inj q)
          have : getK ((.inr k, x) :: r) (.inr z) = getK r (.inr z) := by unfold getK; simp [List.find?_cons, hne]
          rw [this]
          cases eg : getK r (.inr z) with
          | some y => rw [eg] at ih; exact ih
          | none =>
            rw [eg] at ih
            simp only at ih ⊢
            unfold keysS at ih ⊢
            rw [List.filterMap_cons]
            simp only [keyS, List.mem_cons, not_or]
            exact ⟨fun q => hk q.symm, ih⟩
/-! ### all that is checked -/
def tyV (K : PySem.W.Frag) : Ty → Value
  | .bi s => .type s
  | .own c => .ref (He.ga K c)
def tyB (K : PySem.W.Frag) (t c : Ty) : Bool := match isTOf t c with
  | some b => decide (PySem.W.kitOne K (tyV K t) (tyV K c) = some b)
  | none => true
def erB (env : List (Str × Bd)) (K : PySem.W.Frag) (c : Str) : Bool := match exfC env c with
  | some fs => oexB K (He.ga K c) && (xfB K (He.ga K c) && (He.eqO (PySem.W.findIn K (.ref (He.ga K c)) "__init__") (some (some (.ref (He.ma K (He.ga K c) "__init__")))) && (decide (PySem.W.typeIn K (.ref (He.ma K (He.ga K c) "__init__")) = some (.type "function")) && fs.all fun f => He.eqO (PySem.W.findIn K (.ref (He.ga K c)) f) (some none))))
  | none => true
def glB (env : List (Str × Bd)) (K : PySem.W.Frag) (q : Str × W) : Bool := match vOf env K q.2, PySem.W.nsIn K mainGlobals q.1 with
  | some v, some (some u) => He.relB v u
  | _, _ => false
def ownB (K : PySem.W.Frag) : Ty → Bool
  | .own x => insB K (He.ga K x)
  | _ => true
def moreB (env : List (Str × Bd)) (o : Op) (K : PySem.W.Frag) : Bool :=
  (o.ers.all (erB env K)) && ((o.tys.all fun t => ownB K t && o.tyc.all (tyB K t)) && ((o.flds.all fun cf => clsB K (He.ga K cf.1)) && ((stat0 env []).1.all (glB env K) && objsB env K 0 (stat0 env []).2)))
def clsFa (env : List (Str × Bd)) (q : Str × Bd) : List He.Fa := match q.2 with
  | .fn st => if plainD st = true then [.glo q.1] else []
  | .cls st false => .glo q.1 :: ((if ((methsOf (clsBody st)).lookup ("__init__" : Str)).isSome = true then [He.Fa.mkr q.1] else []) ++ (methsOf (clsBody st)).flatMap fun m => if (dfOf (ctOf env) m.2).isSome = true then [He.Fa.meth q.1 m.1, He.Fa.cls q.1] else [])
  | .cls _ true => [.glo q.1]
  | _ => []
def faOf (env : List (Str × Bd)) (o : Op) : List He.Fa := env.flatMap (clsFa env) ++ (bltNs.map He.Fa.free ++ (o.flds.map (fun cf => He.Fa.noat cf.1 cf.2) ++ o.ics.map fun q => He.Fa.exm q.1 q.2 (isSub env 20 q.1 q.2)))
/-- of the text alone -/
def defChk (env : List (Str × Bd)) (st : Stmt) : Bool := match plainPs (defArgs st) with
  | some ps => decide ps.Nodup && (match dfOf (ctOf env) st with
    | some _ => scB (defN ps st) ps (defScope st)
    | none => true)
  | none => true
def envB (env : List (Str × Bd)) : Bool := env.all fun q => !(q.1 == ("" : Str)) && (match q.2 with
  | .fn st => defChk env st
  | .cls st _ => (methsOf (clsBody st)).all fun m => defChk env m.2
  | _ => true)
end MP

set_option Elab.async false
set_option linter.all false
set_option maxRecDepth 100000
/-! MP: the facts of a program from the head's. -/
namespace MP
open PySem L2
theorem lk_mem {α β : Type} [BEq α] [LawfulBEq α] {k : α} {v : β} : ∀ {l : List (α × β)}, l.lookup k = some v → (k, v) ∈ l
  | [], e => by cases e
  | (a, b) :: r, e => by
    rw [List.lookup_cons] at e
    cases q : k == a with
    | true => rw [q] at e; cases e; rw [eq_of_beq q]; exact List.mem_cons_self
    | false => rw [q] at e; exact List.mem_cons_of_mem _ (lk_mem e)
section
variable {env : List (Str × Bd)} {o : Op} {K : PySem.W.Frag} {w : World} {mg : Str → Option Value} {h : Heap} {prog : Program} {base : Heap} {script : List W} {fu : Nat} {a : Addr}
theorem fact_mem {fa : List He.Fa} {fn : List He.DefD} {ts : List He.Tab} (c : He.SaysT fa fn ts w K) {f : He.Fa} (hf : f ∈ fa) : f.ok K = true := by
  have c1 := (Bool.and_eq_true_iff.mp (show ((fa.all fun f => f.ok K) && fn.all fun d => d.ok K) = true from congrArg (fun z : He.AlD => z.1) c.d)).1
  exact List.all_eq_true.mp c1 f hf
theorem def_mem {fa : List He.Fa} {fn : List He.DefD} {ts : List He.Tab} (c : He.SaysT fa fn ts w K) {d : He.DefD} (hd : d ∈ fn) : ∃ fd, FunD K d.name d.qual d.params d.body d.scope (d.dvs K) (d.kws K) (He.fAd K d.at_) fd := by
  obtain ⟨i, hi, e⟩ := List.mem_iff_getElem.mp hd
  exact c.d.def_ i (d := d) (by rw [List.getElem?_eq_getElem hi, e])
theorem tab_mem {fa : List He.Fa} {fn : List He.DefD} {ts : List He.Tab} (c : He.SaysT fa fn ts w K) {t : He.Tab} (ht : t ∈ ts) : He.dicW K (t.1 K) = some (He.keysIn w.params t.2) := by
  have e : ts.map (fun t => He.dicW K (t.1 K)) = ts.map fun t => some (He.keysIn w.params t.2) := congrArg (fun z : He.AlT => z.2) c
  obtain ⟨i, hi, et⟩ := List.mem_iff_getElem.mp ht
  have e2 : (ts.map fun t => He.dicW K (t.1 K))[i]? = (ts.map fun t => some (He.keysIn w.params t.2))[i]? := by rw [e]
  rw [List.getElem?_map, List.getElem?_map, List.getElem?_eq_getElem hi, et] at e2
  exact Option.some.inj e2
theorem dfOf_some {T : Ct} {st : Stmt} {df : Df} (e : dfOf T st = some df) : ∃ ps cb, plainPs (defArgs st) = some ps ∧ cSs { T with N := defN ps st, exv := (defBody st).flatMap (exNames 60) } 100 true (defScope st) (defBody st) = some cb ∧ df = ⟨ps.length, (defN ps st).length, cb⟩ := by
  unfold dfOf at e
  obtain ⟨ps, e1, e⟩ := Option.bind_eq_some_iff.mp e
  obtain ⟨cb, e2, rfl⟩ := Option.map_eq_some_iff.mp e
  exact ⟨ps, cb, e1, e2, rfl⟩
theorem fnS_of {p : Prog} {f : Str × Str} {st : Stmt} {x qual : Str} {fa : Addr} {fd : FuncData} {ps : List Str} (F : FunD K x qual (defArgs st) (defBody st) (defScope st) [] [] fa fd) (hp : plainPs (defArgs st) = some ps) (chk : defChk env st = true) (hf : p.fn f = none ∨ ∃ df, p.fn f = some df ∧ dfOf (ctOf env) st = some df) : FnS K (ctOf env) p f fa fd ps := by
  unfold defChk at chk
  rw [hp] at chk
  obtain ⟨h1, h2⟩ := Bool.and_eq_true_iff.mp chk
  refine ⟨binds_of F hp (of_decide_eq_true h1), ?_⟩
  rcases hf with hf | ⟨df, hf, e⟩
  · exact .inl hf
  · obtain ⟨ps', cb, e1, e2, rfl⟩ := dfOf_some e
    rw [hp] at e1
    cases e1
    rw [e] at h2
    exact .inr ⟨x, qual, defArgs st, defBody st, defScope st, [], [], defN ps st, (defBody st).flatMap (exNames 60), 100, cb, F, scB_ok h2, e2, hf⟩
theorem fn_in {f : Str × Str} {df : Df} (e : (fnTab env).lookup f = some df) : ∃ q ∈ env, (∃ st, q.2 = .fn st ∧ f = (("" : Str), q.1) ∧ dfOf (ctOf env) st = some df) ∨ ∃ st m, q.2 = .cls st false ∧ m ∈ methsOf (clsBody st) ∧ f = (q.1, m.1) ∧ dfOf (ctOf env) m.2 = some df := by
  have hm := lk_mem e
  unfold fnTab at hm
  obtain ⟨q, hq, hm⟩ := List.mem_flatMap.mp hm
  refine ⟨q, hq, ?_⟩
  split at hm
  · rename_i st e1
    rw [Option.mem_toList] at hm
    obtain ⟨d, e2, e3⟩ := Option.map_eq_some_iff.mp hm
    cases e3
    exact .inl ⟨st, e1, rfl, e2⟩
  · rename_i st e1
    obtain ⟨m, hm1, hm2⟩ := List.mem_filterMap.mp hm
    obtain ⟨d, e2, e3⟩ := Option.map_eq_some_iff.mp hm2
    cases e3
    exact .inr ⟨st, m, e1, hm1, rfl, e2⟩
  · cases hm
theorem env_ne (he : envB env = true) {q : Str × Bd} (hq : q ∈ env) : q.1 ≠ "" := by
  have := (Bool.and_eq_true_iff.mp (List.all_eq_true.mp he q hq)).1
  intro z
  rw [z] at this
  simp at this
theorem env_fn (he : envB env = true) {q : Str × Bd} (hq : q ∈ env) {st : Stmt} (e : q.2 = .fn st) : defChk env st = true := by
  have := (Bool.and_eq_true_iff.mp (List.all_eq_true.mp he q hq)).2
  rw [e] at this
  exact this
theorem env_cls (he : envB env = true) {q : Str × Bd} (hq : q ∈ env) {st : Stmt} {b : Bool} (e : q.2 = .cls st b) {m : Str × Stmt} (hm : m ∈ methsOf (clsBody st)) : defChk env m.2 = true := by
  have := (Bool.and_eq_true_iff.mp (List.all_eq_true.mp he q hq)).2
  rw [e] at this
  exact List.all_eq_true.mp this m hm
variable (X : K.In h) (G : h.Ns mainGlobals mg) (c : He.SaysT (faOf env o) (defsOf env) (tabs env 0 (stat0 env []).2) w K) (hmore : moreB env o K = true) (he : envB env = true)
include c in
theorem fa_env {q : Str × Bd} (hq : q ∈ env) {f : He.Fa} (hf : f ∈ clsFa env q) : f.ok K = true := fact_mem c (List.mem_append_left _ (List.mem_flatMap.mpr ⟨q, hq, hf⟩))
include X G c he in
theorem fn_of {f : Str} {st : Stmt} (hq : (f, Bd.fn st) ∈ env) {ps : List Str} (hp : plainPs (defArgs st) = some ps) {p : Prog} (hf : p.fn (("" : Str), f) = none ∨ ∃ df, p.fn (("" : Str), f) = some df ∧ dfOf (ctOf env) st = some df) :
    ∃ a fd ps, mg f = some (.ref a) ∧ PySem.W.keepIn K (.ref a) = true ∧ FnS K (ctOf env) p ("", f) a fd ps := by
  have hpl : plainD st = true := by unfold plainD; rw [hp]; rfl
  have hd : defD f st ∈ defsOf env := List.mem_flatMap.mpr ⟨_, hq, by simp only [hpl, if_true]; exact List.mem_singleton_self _⟩
  obtain ⟨fd, F⟩ := def_mem c hd
  have g := He.glo_ok X G (fa_env (q := (f, Bd.fn st)) c hq (f := .glo f) (by unfold clsFa; simp only [hpl, if_true]; exact List.mem_singleton_self _))
  exact ⟨He.ga K f, fd, ps, g, F.kp, fnS_of F hp (env_fn he hq rfl) hf⟩
include c he in
theorem met_of {cn m : Str} {st ms : Stmt} {b : Bool} (hq : (cn, Bd.cls st b) ∈ env) (hm : (m, ms) ∈ methsOf (clsBody st)) {ps : List Str} (hp : plainPs (defArgs ms) = some ps) {p : Prog} (hf : p.fn (cn, m) = none ∨ ∃ df, p.fn (cn, m) = some df ∧ dfOf (ctOf env) ms = some df) :
    ∃ fd, FunD K m (cn ++ "." ++ m) (defArgs ms) (defBody ms) (defScope ms) [] [] (He.ma K (He.ga K cn) m) fd ∧ FnS K (ctOf env) p (cn, m) (He.ma K (He.ga K cn) m) fd ps := by
  have hpl : plainD ms = true := by unfold plainD; rw [hp]; rfl
  have hd : metD cn m ms ∈ defsOf env := List.mem_flatMap.mpr ⟨_, hq, List.mem_filterMap.mpr ⟨_, hm, by simp only [hpl, if_true]⟩⟩
  obtain ⟨fd, F⟩ := def_mem c hd
  exact ⟨fd, F, fnS_of F hp (env_cls he hq rfl hm) hf⟩
include X G c hmore he in
theorem pf_of : PF prog w K mg base (lnK env K (progK env o script fu).so a) (ctOf env) (progK env o script fu) where
  so := rfl
  fn := fun f m e => by
    have hm := lk_mem e
    obtain ⟨q, hq, e1⟩ := List.mem_filterMap.mp hm
    obtain ⟨x, b⟩ := q
    cases b with
    | fn st =>
      obtain ⟨ps, hp, e2⟩ := Option.map_eq_some_iff.mp (show (plainPs (defArgs st)).map (fun ps => (x, ps.length)) = some (f, m) from e1)
      cases e2
      cases ef : (fnTab env).lookup (("" : Str), f) with
      | none => exact fn_of X G c he hq hp (.inl ef)
      | some df =>
        obtain ⟨q2, hq2, z⟩ := fn_in ef
        rcases z with ⟨st2, e3, e4, e5⟩ | ⟨st2, m2, e3, e4, e5, e6⟩
        · obtain ⟨y, b2⟩ := q2
          simp only at e3
          subst e3
          cases e4
          obtain ⟨ps2, cb, hp2, _, _⟩ := dfOf_some e5
          exact fn_of X G c he hq2 hp2 (.inr ⟨df, ef, e5⟩)
        · exact absurd (congrArg Prod.fst e5).symm (env_ne he hq2)
    | _ => cases e1
  cls := fun cn m e => by
    have hm := lk_mem e
    obtain ⟨q, hq, e1⟩ := List.mem_filterMap.mp hm
    obtain ⟨x, b⟩ := q
    cases b with
    | cls st bb =>
      cases bb with
      | true => cases e1
      | false =>
        obtain ⟨ms, e2, e3⟩ := Option.bind_eq_some_iff.mp (show ((methsOf (clsBody st)).lookup ("__init__" : Str)).bind (fun m => (plainPs (defArgs m)).map fun ps => (x, ps.length)) = some (cn, m) from e1)
        obtain ⟨ps, hp, e4⟩ := Option.map_eq_some_iff.mp e3
        cases e4
        have g := He.glo_ok X G (fa_env c hq (f := .glo cn) (by unfold clsFa; exact List.mem_cons_self))
        have mk : Mk K (He.ga K cn) (He.ma K (He.ga K cn) "__init__") := He.mkr_ok (fa_env c hq (f := .mkr cn) (by
          unfold clsFa
          refine List.mem_cons_of_mem _ (List.mem_append_left _ ?_)
          rw [if_pos (by rw [e2]; rfl)]
          exact List.mem_singleton_self _))
        refine ⟨g, He.ma K (He.ga K cn) "__init__", ?_⟩
        cases ef : (fnTab env).lookup (cn, ("__init__" : Str)) with
        | none =>
          obtain ⟨fd, _, F⟩ := met_of (p := progK env o script fu) c he hq (lk_mem e2) hp (.inl ef)
          exact ⟨fd, ps, mk, F⟩
        | some df =>
          obtain ⟨q2, hq2, z⟩ := fn_in ef
          rcases z with ⟨st2, e3', e4, e5⟩ | ⟨st2, m2, e3', e4, e5, e6⟩
          · exact absurd (congrArg Prod.fst e4) (env_ne he hq)
          · obtain ⟨y, b2⟩ := q2
            obtain ⟨mn, ms2⟩ := m2
            simp only at e3'
            subst e3'
            cases e5
            obtain ⟨ps2, cb, hp2, _, _⟩ := dfOf_some e6
            obtain ⟨fd, _, F⟩ := met_of (p := progK env o script fu) c he hq2 e4 hp2 (.inr ⟨df, ef, e6⟩)
            exact ⟨fd, ps2, mk, F⟩
    | _ => cases e1
  mt := fun cn m e => by
    obtain ⟨h1, h2⟩ := Bool.and_eq_true_iff.mp (show (!(cn == ("" : Str)) && ((fnTab env).lookup (cn, m)).isSome) = true from e)
    obtain ⟨df, ef⟩ := Option.isSome_iff_exists.mp h2
    obtain ⟨q2, hq2, z⟩ := fn_in ef
    rcases z with ⟨st2, e3', e4, e5⟩ | ⟨st2, m2, e3', e4, e5, e6⟩
    · have := congrArg Prod.fst e4
      simp only at this
      rw [this] at h1
      simp at h1
    · obtain ⟨y, b2⟩ := q2
      obtain ⟨mn, ms2⟩ := m2
      simp only at e3'
      subst e3'
      cases e5
      obtain ⟨ps2, cb, hp2, _, _⟩ := dfOf_some e6
      obtain ⟨fd, _, F⟩ := met_of (p := progK env o script fu) c he hq2 e4 hp2 (.inr ⟨df, ef, e6⟩)
      have fm : He.Fa.meth y mn ∈ clsFa env (y, Bd.cls st2 false) ∧ He.Fa.cls y ∈ clsFa env (y, Bd.cls st2 false) := by
        have hin : ∀ f ∈ [He.Fa.meth y mn, He.Fa.cls y], f ∈ clsFa env (y, Bd.cls st2 false) := fun f hf => by
          unfold clsFa
          refine List.mem_cons_of_mem _ (List.mem_append_right _ (List.mem_flatMap.mpr ⟨_, e4, ?_⟩))
          rw [if_pos (by rw [e6]; rfl)]
          exact hf
        exact ⟨hin _ List.mem_cons_self, hin _ (List.mem_cons_of_mem _ (List.mem_singleton_self _))⟩
      exact ⟨_, fd, ps2, He.cls_ok (fa_env c hq2 fm.2), He.meth_ok (fa_env c hq2 fm.1), F⟩
  fd := fun cn f e => by
    have hin : (cn, f) ∈ o.flds := by
      have : o.flds.contains (cn, f) = true := e
      simpa using this
    obtain ⟨_, h2⟩ := Bool.and_eq_true_iff.mp hmore
    obtain ⟨_, h2⟩ := Bool.and_eq_true_iff.mp h2
    obtain ⟨h3, _⟩ := Bool.and_eq_true_iff.mp h2
    exact ⟨clsB_ok (List.all_eq_true.mp h3 _ hin), He.noat_ok (fact_mem c (f := .noat cn f) (List.mem_append_right _ (List.mem_append_right _ (List.mem_append_left _ (List.mem_map.mpr ⟨_, hin, rfl⟩)))))⟩
  gl := fun x y e => by
    have hin := lk_mem (show (stat0 env []).1.lookup x = some y from e)
    obtain ⟨_, h2⟩ := Bool.and_eq_true_iff.mp hmore
    obtain ⟨_, h2⟩ := Bool.and_eq_true_iff.mp h2
    obtain ⟨_, h2⟩ := Bool.and_eq_true_iff.mp h2
    obtain ⟨h3, _⟩ := Bool.and_eq_true_iff.mp h2
    have hg := List.all_eq_true.mp h3 _ hin
    unfold glB at hg
    simp only at hg
    cases ev : vOf env K y with
    | none => rw [ev] at hg; cases hg
    | some v =>
      rw [ev] at hg
      cases en : PySem.W.nsIn K mainGlobals x with
      | none => rw [en] at hg; cases hg
      | some r =>
        rw [en] at hg
        cases r with
        | none => cases hg
        | some u => exact ⟨v, u, PySem.W.mg_of X G en, He.relB_ok hg, vOf_ok ev⟩
  bl := fun x hx => He.free_ok X G (fact_mem c (f := .free x) (List.mem_append_right _ (List.mem_append_left _ (List.mem_map.mpr ⟨x, hx, rfl⟩))))
  ty := fun t cc b e => by
    have e : (if o.tys.contains t = true ∧ o.tyc.contains cc = true then isTOf t cc else none) = some b := e
    split at e
    · rename_i hc
      have h1 : t ∈ o.tys := by simpa using hc.1
      have h2 : cc ∈ o.tyc := by simpa using hc.2
      obtain ⟨_, h3⟩ := Bool.and_eq_true_iff.mp hmore
      obtain ⟨h3, _⟩ := Bool.and_eq_true_iff.mp h3
      obtain ⟨h4, h5⟩ := Bool.and_eq_true_iff.mp (List.all_eq_true.mp h3 t h1)
      have h6 := List.all_eq_true.mp h5 cc h2
      unfold tyB at h6
      rw [e] at h6
      have ht : ∀ t : Ty, tyVal (lnK env K (progK env o script fu).so a) t = tyV K t := fun t => by cases t <;> rfl
      refine ⟨by rw [ht, ht]; exact of_decide_eq_true h6, fun x hx => ?_⟩
      subst hx
      exact insB_ok h4
    · cases e
  tc := fun cn e => by
    obtain ⟨m, e⟩ := Option.isSome_iff_exists.mp e
    have hm := lk_mem e
    obtain ⟨q, hq, e1⟩ := List.mem_filterMap.mp hm
    obtain ⟨x, b⟩ := q
    cases b with
    | cls st bb =>
      cases bb with
      | true => cases e1
      | false =>
        obtain ⟨ms, e2, e3⟩ := Option.bind_eq_some_iff.mp (show ((methsOf (clsBody st)).lookup ("__init__" : Str)).bind (fun m => (plainPs (defArgs m)).map fun ps => (x, ps.length)) = some (cn, m) from e1)
        obtain ⟨ps, hp, e4⟩ := Option.map_eq_some_iff.mp e3
        cases e4
        exact He.glo_ok X G (fa_env c hq (f := .glo cn) (by unfold clsFa; exact List.mem_cons_self))
    | _ => cases e1
  ex := fun cn hcn => by
    obtain ⟨q, hq, e1⟩ := List.mem_filterMap.mp (show cn ∈ env.filterMap (fun q => match q.2 with
      | .cls _ true => some q.1
      | _ => none) from hcn)
    obtain ⟨x, b⟩ := q
    cases b with
    | cls st bb =>
      cases bb with
      | false => cases e1
      | true =>
        cases e1
        refine ⟨He.glo_ok X G (fa_env c hq (f := .glo x) (by unfold clsFa; exact List.mem_singleton_self _)), fun fs e => ?_⟩
        have e : (if o.ers.contains x = true then exfC env x else none) = some fs := e
        split at e
        · rename_i hin
          have hin : x ∈ o.ers := by simpa using hin
          obtain ⟨h3, _⟩ := Bool.and_eq_true_iff.mp hmore
          have h4 := List.all_eq_true.mp h3 x hin
          unfold erB at h4
          rw [e] at h4
          simp only at h4
          obtain ⟨k1, h4⟩ := Bool.and_eq_true_iff.mp h4
          obtain ⟨k2, h4⟩ := Bool.and_eq_true_iff.mp h4
          obtain ⟨k3, h4⟩ := Bool.and_eq_true_iff.mp h4
          obtain ⟨k4, k5⟩ := Bool.and_eq_true_iff.mp h4
          unfold exfC at e
          split at e
          · rename_i st2 el
            split at e
            · rename_i ms em
              split at e
              · rename_i l eb
                split at e
                · rename_i hall
                  cases e
                  obtain ⟨a1, a2, a3, a4, a5⟩ := hall
                  have hq2 := lk_mem el
                  obtain ⟨fd, F, S⟩ := met_of (p := ⟨fun _ => none, fun _ => none, fun _ => none, fun _ => none, fun _ _ => none, fun _ _ => none, fun _ _ => false, fun _ _ => false, 0⟩) c he hq2 (lk_mem em) a4 (.inl rfl)
                  refine ⟨by omega, He.ma K (He.ga K x) "__init__", fd, _, oexB_ok k1, He.eqO_ok k3, of_decide_eq_true k4, S.bd, ?_⟩
                  exact ex_init F (scB_ok a5) (by rw [← a1]; exact eb) a2 a3 (oexB_ok k1) fun f hf => He.eqO_ok (List.all_eq_true.mp k5 f hf)
                · cases e
              · cases e
            · cases e
          · cases e
        · cases e
    | _ => cases e1
  ic := fun c' cc b e => by
    have e : (if o.ics.contains (c', cc) = true then isCOf env c' cc else none) = some b := e
    split at e
    · rename_i hc
      have h1 : (c', cc) ∈ o.ics := by simpa using hc
      have f := He.exm_ok (fact_mem c (f := .exm c' cc (isSub env 20 c' cc)) (List.mem_append_right _ (List.mem_append_right _ (List.mem_append_right _ (List.mem_map.mpr ⟨_, h1, rfl⟩)))))
      unfold isCOf at e
      split at e
      · cases e; exact f
      · cases e
    · cases e
  xf := fun cn fs e => by
    have e : (if o.ers.contains cn = true then exfC env cn else none) = some fs := e
    split at e
    · rename_i hin
      have hin : cn ∈ o.ers := by simpa using hin
      obtain ⟨h3, _⟩ := Bool.and_eq_true_iff.mp hmore
      have h4 := List.all_eq_true.mp h3 cn hin
      unfold erB at h4
      rw [e] at h4
      simp only at h4
      obtain ⟨k1, h4⟩ := Bool.and_eq_true_iff.mp h4
      obtain ⟨k2, h4⟩ := Bool.and_eq_true_iff.mp h4
      obtain ⟨k3, h4⟩ := Bool.and_eq_true_iff.mp h4
      obtain ⟨k4, k5⟩ := Bool.and_eq_true_iff.mp h4
      exact ⟨xfB_ok k2, fun f hf => He.eqO_ok (List.all_eq_true.mp k5 f hf)⟩
    · cases e
include c hmore in
/-- the top's tuples and tables -/
theorem st_of {i : Nat} {ob : O} (hi : i ≠ 0) (e : (progK env o script fu).so i = some ob) (H : Hp) : srl K w (lnK env K (progK env o script fu).so a).sa ((lnK env K (progK env o script fu).so a).sa i) H ob := by
  have e : (if i = 0 then some (O.rol script) else ((stat0 env []).2[i]?).map (·.2)) = some ob := e
  rw [if_neg hi] at e
  obtain ⟨q, eq, e2⟩ := Option.map_eq_some_iff.mp e
  have esa : (lnK env K (progK env o script fu).so a).sa i = saN env K i := by
    show (if i = 0 then a else saN env K i) = _
    rw [if_neg hi]
  rw [esa]
  obtain ⟨_, h2⟩ := Bool.and_eq_true_iff.mp hmore
  obtain ⟨_, h2⟩ := Bool.and_eq_true_iff.mp h2
  obtain ⟨_, h2⟩ := Bool.and_eq_true_iff.mp h2
  obtain ⟨_, h4⟩ := Bool.and_eq_true_iff.mp h2
  have hb := objsB_at h4 eq
  rw [Nat.zero_add, e2] at hb
  cases ob with
  | tup ws =>
    unfold objB at hb
    simp only at hb
    cases ev : vsOf env K ws with
    | none => rw [ev] at hb; cases hb
    | some vs =>
      rw [ev] at hb
      exact ⟨vs, vsOf_ok ev, fun H => tupAt_ok hb H⟩
  | dic kvs =>
    obtain ⟨x, ob2⟩ := q
    simp only at e2
    subst e2
    obtain ⟨t, ht, t1, t2⟩ := tabs_at (env := env) (i := 0) eq
    have hd := tab_mem c ht
    rw [t1, t2, Nat.zero_add] at hd
    refine ⟨He.dicW_ok hd, fun z => ?_⟩
    obtain ⟨r, er, hr⟩ := ns_dict hd z
    refine ⟨r, er, ?_⟩
    have hg := dicB_get (z := z) (show dicB env K (saN env K i) kvs = true from hb)
    cases eg : getK kvs (.inr z) with
    | none =>
      rw [eg] at hg
      rw [hr hg]
      trivial
    | some y =>
      rw [eg] at hg
      obtain ⟨v, u, h1, h2, h3⟩ := hg
      rw [er] at h2
      cases h2
      exact ⟨v, vOf_ok h1, h3⟩
  | _ =>
    exfalso
    unfold objB at hb
    simp only [beq_iff_eq] at hb
    exact hi hb
end
end MP

set_option Elab.async false
set_option linter.all false
set_option maxRecDepth 100000
set_option maxHeartbeats 0
namespace H05
open PySem PySem.W PySem.Calls PyProof.Rows
abbrev Rr : OpenRow := OpenLaw.row PySem.Challenge.rw_lastarrivals_k05_nests_and_begins
abbrev qv : Program := view Rr.prog [60]
def names0 : List PySem.Str := ["_wall", "FlowError", "InvalidFlow", "NameTaken", "NotJoined", "UnknownName", "GUARDS_links", "QUICK", "scope_homes", "lies_inside", "edge_homes", "begin_out", "is_exit", "inside_pairs", "linked"]
def names1 : List PySem.Str := ["direct_links", "quick_links", "closure", "closure_links", "LETTERS", "KINDS", "GUARDS_names", "is_name", "are_names", "is_place", "is_kind", "is_node", "DEPTH", "wrong_kind", "wrong_name"]
def names2 : List PySem.Str := ["wrong_home", "wrong_nest", "wrong_begin", "wrong_edge", "wrong_border", "wrong_reach", "wrong_spin", "refuse", "check_nodes", "Layout", "View", "has_common", "closure_layout", "reached", "redirected"]
def names3 : List PySem.Str := ["joined_nodes", "Flow", "_law_draw", "_law_pool", "_law_name", "_law_depth", "_law_due"]
def names : List PySem.Str := names0 ++ names1 ++ names2 ++ names3
def env := MP.topEnv Rr.prog.main.body
def op : MP.Op := ⟨[], [("InvalidFlow", "InvalidFlow")], [.bi "str", .bi "tuple", .bi "list"], [.bi "str", .bi "tuple", .bi "list"], ["InvalidFlow"]⟩
def fn : List He.DefD := MP.defsOf env
def fa : List He.Fa := MP.faOf env op
def ts : List He.Tab := MP.tabs env 0 (MP.stat0 env []).2
def more : PySem.W.Frag → Bool := MP.moreB env op
abbrev hk : PySem.W.Hook := MP.hookM 5 fa fn ts more
def ob (s : PySem.W.SharedT) : Bool × He.AlT := MP.obsMG 5 fa fn ts more (HandSHeadRun.getT s)
theorem ob_eq (s : PySem.W.SharedT) : ob s = hk.obs s.abs := MP.obsMG_eq (HandSHeadRun.getT_eq s)
theorem envOk : MP.envB env = true := by kernel_rfl
theorem run0 (w : World) : HandSHeadRun.RunEq Rr qv hk ob 4100 names (w.withFollow "special-get-raises" false) := by
  intro os
  kernel_rfl
theorem run1 (w : World) : HandSHeadRun.RunEq Rr qv hk ob 4100 names (w.withFollow "special-get-raises" true) := by
  intro os
  kernel_rfl
theorem run (w : World) : HandSHeadRun.RunEq Rr qv hk ob 4100 names w := byRow2 "special-get-raises" (P := fun w => HandSHeadRun.RunEq Rr qv hk ob 4100 names w) run0 run1 w
end H05

set_option Elab.async false
set_option linter.all false
set_option maxRecDepth 100000
/-! MP: a law's pool of numbers: the defs do as the values say. -/
namespace MP
open PySem L2
abbrev ds1 : S := .asgS (.var 0) (.con (.int 3)) (.bin .add (.idx (.var 0) (.con (.int 3))) (.con (.int 1)))
abbrev ds2 : S := .ite (.cmp .gt (.idx (.var 0) (.con (.int 2))) (.con (.int 0))) [.asg (.nm 2) (.idx (.var 0) (.con (.int 2))), .asgS (.var 0) (.con (.int 2)) (.bin .fdv (.var 2) (.var 1)), .ret (.bin .md (.blt .int [(.var 2)]) (.var 1))] []
abbrev ds3 : S := .asg (.nm 3) (.idx (.var 0) (.con (.int 0)))
abbrev ds4 : S := .asg (.nm 4) (.idx (.var 0) (.con (.int 1)))
abbrev ds5 : S := .asgS (.var 0) (.con (.int 1)) (.bin .add (.var 4) (.con (.int 1)))
abbrev ds6 : S := .asg (.nm 5) (.idx (.var 3) (.bin .md (.blt .int [(.var 4)]) (.blt .len [(.var 3)])))
abbrev ds7 : S := .ite (.and (.cmp .ge (.var 5) (.bin .pow (.con (.int 10)) (.con (.int 18)))) (.cmp .lt (.var 4) (.blt .len [(.var 3)]))) [.asgS (.var 0) (.con (.int 2)) (.bin .fdv (.var 5) (.var 1)), .ret (.bin .md (.blt .int [(.var 5)]) (.var 1))] []
abbrev ds8 : S := .asg (.nm 6) (.bin .md (.blt .int [(.bin .pow (.bin .add (.bin .add (.bin .md (.blt .int [(.var 5)]) (.bin .pow (.con (.int 10)) (.con (.int 18)))) (.bin .mul (.con (.int 7919)) (.idx (.var 0) (.con (.int 3))))) (.con (.int 11))) (.con (.int 5)))]) (.con (.int 2147483647)))
abbrev ds9 : S := .asg (.nm 6) (.bin .md (.blt .int [(.bin .pow (.bin .add (.var 6) (.bin .mul (.con (.int 104729)) (.idx (.var 0) (.con (.int 3))))) (.con (.int 3)))]) (.con (.int 998244353)))
abbrev ds10 : S := .ret (.bin .md (.blt .int [(.bin .fdv (.var 6) (.con (.int 16)))]) (.var 1))
def d_draw : Df := ⟨2, 7, [ds1, ds2, ds3, ds4, ds5, ds6, ds7, ds8, ds9, ds10]⟩
def d_pool : Df := ⟨1, 3, [
    .ret (.lst [(.bin .add (.cp false (.con .non) (.blt .abs [(.var 2)]) (.nm 2) (.seq (.var 0)) [] [1, 2]) (.bin .mul (.lst [(.con (.int 0))]) (.blt .int [(.cmp .eq (.blt .len [(.var 0)]) (.con (.int 0)))]))), (.con (.int 0)), (.con (.int 0)), (.con (.int 0))])]⟩
/-! ### single steps over the pool's list -/
theorem rok {α β : Type} (a : α) (h : Hh) (k : α → Hh → Rs β) : (Rs.ok a h).bind k = k a h := rfl
theorem gok {α : Type} (a : α) (h : Hh) (σ : Sl) (k : α → Hh → Out) : (Rs.ok a h).go σ k = k a h := rfl
theorem exs_nx {P : Pg} {s : S} {r : List S} {σ σ' : Sl} {h h' : Hh} (e : ex P s σ h = .nx σ' h') : exs P (s :: r) σ h = exs P r σ' h' := by
  show (match ex P s σ h with
    | .nx σ' h' => exs P r σ' h'
    | o => o) = _
  rw [e]
theorem exs_rt {P : Pg} {s : S} {r : List S} {σ : Sl} {h h' : Hh} {w : W} (e : ex P s σ h = .rt w h') : exs P (s :: r) σ h = .rt w h' := by
  show (match ex P s σ h with
    | .nx σ' h' => exs P r σ' h'
    | o => o) = _
  rw [e]
theorem ex_as {P : Pg} {i : Nat} {e : E} {σ : Sl} {h h' : Hh} {w : W} (q : ev P e σ h = .ok w h') : ex P (.asg (.nm i) e) σ h = .nx (σ.set i (some w)) h' := by
  rw [ex_asg, q]
  rfl
theorem ex_rt {P : Pg} {e : E} {σ : Sl} {h h' : Hh} {w : W} (q : ev P e σ h = .ok w h') : ex P (.ret e) σ h = .rt w h' := by
  show (ev P e σ h).go σ (fun w h1 => .rt w h1) = _
  rw [q]
theorem ex_if {P : Pg} {c : E} {a b : List S} {σ : Sl} {h h' : Hh} {t : Bool} (q : ev P c σ h = .ok (.bl t) h') : ex P (.ite c a b) σ h = if t = true then exs P a σ h' else exs P b σ h' := by
  show (ev P c σ h).go σ (fun x h1 => match tru P h1 x with
    | some true => exs P a σ h1
    | some false => exs P b σ h1
    | none => .no) = _
  rw [q]
  cases t <;> rfl
section
variable {P : Pg} {σ : Sl} {h : Hh} {n c : Nat} {a l t : Int}
abbrev plst (c : Nat) (a l t : Int) : O := .lst [.ref c, .int a, .int l, .int t]
theorem pl_idx (hs : σ[0]? = some (some (.ref n))) (hn : h.get n = some (plst c a l t)) (k : Int) {w : W} (hk : atI [W.ref c, .int a, .int l, .int t] k = some w) : ev P (.idx (.var 0) (.con (.int k))) σ h = .ok w h := by
  have e1 : ev P (.var 0) σ h = .ok (.ref n) h := by simp only [ev, hs]
  simp only [ev, hs]
  show ofO (idxW P (.ref n) (.int k) h) h = _
  have e2 : idxW P (.ref n) (.int k) h = some w := by
    unfold idxW sq
    simp only [ob_lst' hn]
    exact hk
  rw [e2]
  rfl
theorem pl_set (hs : σ[0]? = some (some (.ref n))) (hn : h.get n = some (plst c a l t)) {k : Int} {e : E} {v : W} {j : Nat} (he : ev P e σ h = .ok v h) (hk : ixN 4 k = some j) : ex P (.asgS (.var 0) (.con (.int k)) e) σ h = .nx σ (h.set n (.lst ([W.ref c, .int a, .int l, .int t].set j v))) := by
  have e1 : ev P (.var 0) σ h = .ok (.ref n) h := by simp only [ev, hs]
  show ((ev P e σ h).go σ fun v h1 => (ev P (.var 0) σ h1).go σ fun x h2 => (ev P (.con (.int k)) σ h2).go σ fun y h3 => match setS x y v h3 with
    | some h4 => .nx σ h4
    | none => .no) = _
  rw [he]
  show ((ev P (.var 0) σ h).go σ fun x h2 => (ev P (.con (.int k)) σ h2).go σ fun y h3 => match setS x y v h3 with
    | some h4 => .nx σ h4
    | none => .no) = _
  rw [e1]
  show (match setS (.ref n) (.int k) v h with
    | some h4 => Out.nx σ h4
    | none => .no) = _
  have e2 : setS (.ref n) (.int k) v h = some (h.set n (.lst ([W.ref c, .int a, .int l, .int t].set j v))) := by
    unfold setS
    simp only [hn]
    show (ixN 4 k).map _ = _
    rw [hk]
    rfl
  rw [e2]
theorem e_vari {i : Nat} {k : Int} (hs : σ[i]? = some (some (.int k))) : ev P (.var i) σ h = .ok (.int k) h := by simp only [ev, hs]
theorem e_bini {o : BO} {x y : E} {i j k : Int} (hx : ev P x σ h = .ok (.int i) h) (hy : ev P y σ h = .ok (.int j) h) (hb : binW o (.int i) (.int j) h = .ok (.int k) h) : ev P (.bin o x y) σ h = .ok (.int k) h := by
  show ((ev P x σ h).bind fun x' h1 => (ev P y σ h1).bind fun y' h2 => binW o x' y' h2) = _
  rw [hx]
  show ((ev P y σ h).bind fun y' h2 => binW o (.int i) y' h2) = _
  rw [hy]
  exact hb
theorem evs_one {x : E} {w : W} (hs : ∀ z, x ≠ .star z) (hx : ev P x σ h = .ok w h) : evs P [x] σ h = .ok [w] h := by
  rw [evs_cons hs, hx]
  rfl
theorem e_int {x : E} {i : Int} (hx : ev P x σ h = .ok (.int i) h) : ev P (.blt .int [x]) σ h = .ok (.int i) h := by
  show (evs P [x] σ h).bind _ = _
  rw [evs_one (fun z q => by subst q; simp only [ev] at hx; cases hx) hx]
  rfl
theorem e_cmpi {o : CO} {x y : E} {i j : Int} {b : Bool} (hx : ev P x σ h = .ok (.int i) h) (hy : ev P y σ h = .ok (.int j) h) (hb : cmpW P o (.int i) (.int j) h = some b) : ev P (.cmp o x y) σ h = .ok (.bl b) h := by
  show ((ev P x σ h).bind fun x' h1 => (ev P y σ h1).bind fun y' h2 => ofO ((cmpW P o x' y' h2).map W.bl) h2) = _
  rw [hx]
  show ((ev P y σ h).bind fun y' h2 => ofO ((cmpW P o (.int i) y' h2).map W.bl) h2) = _
  rw [hy]
  show ofO ((cmpW P o (.int i) (.int j) h).map W.bl) h = _
  rw [hb]
  rfl
theorem mpe_and {x y : E} {a b : Bool} (hx : ev P x σ h = .ok (.bl a) h) (hy : ev P y σ h = .ok (.bl b) h) : ev P (.and x y) σ h = .ok (.bl (a && b)) h := by
  show ((ev P x σ h).bind fun x' h1 => match tru P h1 x' with
    | some true => ev P y σ h1
    | some false => .ok x' h1
    | none => .no) = _
  rw [hx]
  cases a
  · rfl
  · exact hy
theorem e_len {i : Nat} {cs : List W} {c : Nat} (hs : σ[i]? = some (some (.ref c))) (hc : h.get c = some (.lst cs)) : ev P (.blt .len [.var i]) σ h = .ok (.int cs.length) h := by
  have e1 : ev P (.var i) σ h = .ok (.ref c) h := by simp only [ev, hs]
  show (evs P [.var i] σ h).bind _ = _
  rw [evs_one (fun z q => by cases q) e1]
  show lenW P (.ref c) h = _
  unfold lenW sq
  simp only [hc, ob_lst' hc]
theorem mpe_idx {x y : E} {u v w : W} (hx : ev P x σ h = .ok u h) (hy : ev P y σ h = .ok v h) (hw : idxW P u v h = some w) : ev P (.idx x y) σ h = .ok w h := by
  show ((ev P x σ h).bind fun x' h1 => (ev P y σ h1).bind fun y' h2 => ofO (idxW P x' y' h2) h2) = _
  rw [hx]
  show ((ev P y σ h).bind fun y' h2 => ofO (idxW P u y' h2) h2) = _
  rw [hy]
  show ofO (idxW P u v h) h = _
  rw [hw]
  rfl
theorem e_coni (k : Int) : ev P (.con (.int k)) σ h = .ok (.int k) h := rfl
end
theorem log2_lt {n k : Nat} (h : n < 2 ^ k) (hk : 0 < k) : n.log2 < k := by
  by_cases z : n = 0
  · subst z; simpa using hk
  · exact (Nat.log2_lt z).mpr h
theorem mul_ok {i j : Int} {h : Hh} (h1 : i.natAbs < 2 ^ 100) (h2 : j.natAbs < 2 ^ 100) : binW .mul (.int i) (.int j) h = .ok (.int (i * j)) h := by
  have a := log2_lt h1 (by decide)
  have b := log2_lt h2 (by decide)
  exact if_pos (by omega)
def outR : Out → Rs W
  | .nx _ h' => .ok .non h'
  | .rt w h' => .ok w h'
  | .ex c n _ h' => .ex c n h'
  | _ => .no
theorem runD_of {P : Pg} {d : Df} {ws : List W} {h : Hh} (q : ws.length = d.np) : runD P d ws h = outR (exs P d.body (ws.map some ++ List.replicate (d.nn - d.np) none) h) := if_pos q

theorem fdv_ok {i j : Int} {h : Hh} (h1 : 0 < j) (h2 : j.natAbs.log2 < 9000) : binW .fdv (.int i) (.int j) h = .ok (.int (i / j)) h := if_pos ⟨h1, h2⟩
theorem pow_ok {i j : Int} {h : Hh} (h1 : 0 ≤ j) (h2 : j ≤ 1000000) (h3 : i.natAbs < 2 ^ 64) : binW .pow (.int i) (.int j) h = .ok (.int (i ^ j.toNat)) h := if_pos ⟨h1, h2, h3⟩
theorem md_ok {i j : Int} {h : Hh} (h1 : 0 < j) : binW .md (.int i) (.int j) h = .ok (.int (i % j)) h := if_pos h1
theorem bl_t {a : Bool} (h : a = true) (P : Pg) (x y : List S) (σ : Sl) (hh : Hh) : (if a = true then exs P x σ hh else exs P y σ hh) = exs P x σ hh := if_pos h
theorem bl_f {a : Bool} (h : a = false) (P : Pg) (x y : List S) (σ : Sl) (hh : Hh) : (if a = true then exs P x σ hh else exs P y σ hh) = exs P y σ hh := if_neg (by rw [h]; decide)
/-- a draw -/
theorem draw_run {P : Pg} {h : Hh} {n c : Nat} {a l t m : Int} {cs : List Int} (hn : h.get n = some (plst c a l t)) (hc : h.get c = some (.lst (cs.map W.int))) (hne : c ≠ n) (hm : 0 < m) (hm2 : m.natAbs.log2 < 9000) (ht : 0 ≤ t) (ht2 : t < 1000000) (ha : 0 ≤ a) (hcs : cs ≠ []) :
    ∃ h', runD P d_draw [.ref n, .int m] h = .ok (.int (drawV cs a l t m).1) h' ∧ (h' = (h.set n (plst c a l (t + 1))).set n (plst c (drawV cs a l t m).2.1 (drawV cs a l t m).2.2.1 (t + 1)) ∨ h' = ((h.set n (plst c a l (t + 1))).set n (plst c (a + 1) l (t + 1))).set n (plst c (drawV cs a l t m).2.1 (drawV cs a l t m).2.2.1 (t + 1))) := by
  have hl := Hh.get_lt hn
  have gs : ∀ (h : Hh) (o : O), n < h.sz → (h.set n o).get n = some o := fun h o z => by rw [Hh.get_set z, if_pos rfl]
  have gc : ∀ (h : Hh) (o : O), n < h.sz → (h.set n o).get c = h.get c := fun h o z => by rw [Hh.get_set z, if_neg hne]
  have H1 := gs h (plst c a l (t + 1)) hl
  have H1c : (h.set n (plst c a l (t + 1))).get c = some (.lst (cs.map W.int)) := by rw [gc _ _ hl]; exact hc
  have s1 : ex P ds1 [some (.ref n), some (.int m), none, none, none, none, none] h = .nx [some (.ref n), some (.int m), none, none, none, none, none] (h.set n (plst c a l (t + 1))) :=
    pl_set (c := c) (a := a) (l := l) (t := t) (j := 3) rfl hn (e_bini (pl_idx rfl hn 3 (w := .int t) rfl) (e_coni 1) rfl) rfl
  rw [runD_of rfl]
  show ∃ h', outR (exs P [ds1, ds2, ds3, ds4, ds5, ds6, ds7, ds8, ds9, ds10] [some (.ref n), some (.int m), none, none, none, none, none] h) = _ ∧ _
  rw [exs_nx s1]
  generalize h.set n (plst c a l (t + 1)) = H at H1 H1c
  have hlH : n < H.sz := Hh.get_lt H1
  have c1 : ev P (.cmp .gt (.idx (.var 0) (.con (.int 2))) (.con (.int 0))) [some (.ref n), some (.int m), none, none, none, none, none] H = .ok (.bl (decide (0 < l))) H := e_cmpi (pl_idx rfl H1 2 (w := .int l) rfl) (e_coni 0) rfl
  by_cases hleft : 0 < l
  · have c2 : ex P ds2 [some (.ref n), some (.int m), none, none, none, none, none] H = .rt (.int (l % m)) (H.set n (plst c a (l / m) (t + 1))) := by
      refine (ex_if c1).trans ((bl_t (decide_eq_true hleft) P _ _ _ _).trans ?_)
      have k1 : ex P (.asg (.nm 2) (.idx (.var 0) (.con (.int 2)))) [some (.ref n), some (.int m), none, none, none, none, none] H = .nx [some (.ref n), some (.int m), some (.int l), none, none, none, none] H := ex_as (pl_idx rfl H1 2 (w := .int l) rfl)
      have k2 : ex P (.asgS (.var 0) (.con (.int 2)) (.bin .fdv (.var 2) (.var 1))) [some (.ref n), some (.int m), some (.int l), none, none, none, none] H = .nx [some (.ref n), some (.int m), some (.int l), none, none, none, none] (H.set n (plst c a (l / m) (t + 1))) :=
        pl_set (c := c) (a := a) (l := l) (t := t + 1) (j := 2) (v := .int (l / m)) rfl H1 (e_bini (e_vari rfl) (e_vari rfl) (fdv_ok hm hm2)) rfl
      have k3 : ex P (.ret (.bin .md (.blt .int [(.var 2)]) (.var 1))) [some (.ref n), some (.int m), some (.int l), none, none, none, none] (H.set n (plst c a (l / m) (t + 1))) = .rt (.int (l % m)) (H.set n (plst c a (l / m) (t + 1))) :=
        ex_rt (e_bini (e_int (e_vari rfl)) (e_vari rfl) (md_ok hm))
      rw [exs_nx k1, exs_nx k2, exs_rt k3]
    rw [exs_rt c2]
    have dv : drawV cs a l t m = (l % m, a, l / m, t + 1) := by unfold drawV; rw [if_pos hleft]
    rw [dv]
    exact ⟨_, rfl, .inl rfl⟩
  · have c2 : ex P ds2 [some (.ref n), some (.int m), none, none, none, none, none] H = .nx [some (.ref n), some (.int m), none, none, none, none, none] H :=
      (ex_if c1).trans ((bl_f (decide_eq_false hleft) P _ _ _ _).trans rfl)
    have s3 : ex P ds3 [some (.ref n), some (.int m), none, none, none, none, none] H = .nx [some (.ref n), some (.int m), none, some (.ref c), none, none, none] H := ex_as (pl_idx rfl H1 0 (w := .ref c) rfl)
    have s4 : ex P ds4 [some (.ref n), some (.int m), none, some (.ref c), none, none, none] H = .nx [some (.ref n), some (.int m), none, some (.ref c), some (.int a), none, none] H := ex_as (pl_idx rfl H1 1 (w := .int a) rfl)
    have s5 : ex P ds5 [some (.ref n), some (.int m), none, some (.ref c), some (.int a), none, none] H = .nx [some (.ref n), some (.int m), none, some (.ref c), some (.int a), none, none] (H.set n (plst c (a + 1) l (t + 1))) :=
      pl_set (c := c) (a := a) (l := l) (t := t + 1) (j := 1) (v := .int (a + 1)) rfl H1 (e_bini (e_vari rfl) (e_coni 1) rfl) rfl
    rw [exs_nx c2, exs_nx s3, exs_nx s4, exs_nx s5]
    have G1 := gs H (plst c (a + 1) l (t + 1)) hlH
    have G1c : (H.set n (plst c (a + 1) l (t + 1))).get c = some (.lst (cs.map W.int)) := by rw [gc _ _ hlH]; exact H1c
    -- what is left
    suffices q : ∃ h', outR (exs P [ds6, ds7, ds8, ds9, ds10] [some (.ref n), some (.int m), none, some (.ref c), some (.int a), none, none] (H.set n (plst c (a + 1) l (t + 1)))) = .ok (.int (drawV cs a l t m).1) h' ∧ (h' = (H.set n (plst c (a + 1) l (t + 1))).set n (plst c (drawV cs a l t m).2.1 (drawV cs a l t m).2.2.1 (t + 1)) ∨ h' = H.set n (plst c (a + 1) l (t + 1)) ∧ (drawV cs a l t m).2.1 = a + 1 ∧ (drawV cs a l t m).2.2.1 = l) by
      obtain ⟨h', q1, q2 | ⟨q2, q3, q4⟩⟩ := q
      · exact ⟨h', q1, .inr q2⟩
      · exact ⟨h', q1, .inl (by rw [q2, q3, q4])⟩
    generalize H.set n (plst c (a + 1) l (t + 1)) = H2 at G1 G1c
    have hcl : 0 < cs.length := List.length_pos_iff.mpr hcs
    have hmod1 := Int.emod_nonneg a (show (cs.length : Int) ≠ 0 by omega)
    have hmod2 := Int.emod_lt_of_pos a (show (0 : Int) < cs.length by omega)
    obtain ⟨cell, hcell⟩ : ∃ x, cs[(a % cs.length).toNat]? = some x := ⟨_, List.getElem?_eq_getElem (by omega)⟩
    have hcd : cs.getD (a % cs.length).toNat 0 = cell := by rw [List.getD_eq_getElem?_getD, hcell]; rfl
    have eln : ev P (.blt .len [(.var 3)]) [some (.ref n), some (.int m), none, some (.ref c), some (.int a), none, none] H2 = .ok (.int cs.length) H2 := by
      have := e_len (P := P) (σ := [some (.ref n), some (.int m), none, some (.ref c), some (.int a), none, none]) (i := 3) rfl G1c
      rw [List.length_map] at this
      exact this
    have e5 : ev P (.idx (.var 3) (.bin .md (.blt .int [(.var 4)]) (.blt .len [(.var 3)]))) [some (.ref n), some (.int m), none, some (.ref c), some (.int a), none, none] H2 = .ok (.int cell) H2 := by
      have e51 : ev P (.var 3) [some (.ref n), some (.int m), none, some (.ref c), some (.int a), none, none] H2 = .ok (.ref c) H2 := by simp only [ev]; rfl
      have e52 : ev P (.bin .md (.blt .int [(.var 4)]) (.blt .len [(.var 3)])) [some (.ref n), some (.int m), none, some (.ref c), some (.int a), none, none] H2 = .ok (.int (a % cs.length)) H2 :=
        e_bini (e_int (e_vari rfl)) eln (md_ok (by omega))
      have e53 : idxW P (.ref c) (.int (a % cs.length)) H2 = some (.int cell) := by
        unfold idxW sq
        simp only [ob_lst' G1c]
        show atI (cs.map W.int) (a % cs.length) = _
        unfold atI
        rw [List.length_map]
        have : ixN cs.length (a % cs.length) = some (a % cs.length).toNat := by
          unfold ixN
          rw [if_pos (by omega), if_pos (by omega)]
        rw [this]
        show (cs.map W.int)[(a % cs.length).toNat]? = _
        rw [List.getElem?_map, hcell]
        rfl
      exact mpe_idx e51 e52 e53
    have s6 : ex P ds6 [some (.ref n), some (.int m), none, some (.ref c), some (.int a), none, none] H2 = .nx [some (.ref n), some (.int m), none, some (.ref c), some (.int a), some (.int cell), none] H2 := ex_as e5
    rw [exs_nx s6]
    have eln' : ev P (.blt .len [(.var 3)]) [some (.ref n), some (.int m), none, some (.ref c), some (.int a), some (.int cell), none] H2 = .ok (.int cs.length) H2 := by
      have := e_len (P := P) (σ := [some (.ref n), some (.int m), none, some (.ref c), some (.int a), some (.int cell), none]) (i := 3) rfl G1c
      rw [List.length_map] at this
      exact this
    have p18 : ev P (.bin .pow (.con (.int 10)) (.con (.int 18))) [some (.ref n), some (.int m), none, some (.ref c), some (.int a), some (.int cell), none] H2 = .ok (.int (10 ^ 18)) H2 := e_bini (e_coni 10) (e_coni 18) (pow_ok (by decide) (by decide) (by decide))
    have d1 : ev P (.and (.cmp .ge (.var 5) (.bin .pow (.con (.int 10)) (.con (.int 18)))) (.cmp .lt (.var 4) (.blt .len [(.var 3)]))) [some (.ref n), some (.int m), none, some (.ref c), some (.int a), some (.int cell), none] H2 = .ok (.bl (decide ((10 : Int) ^ 18 ≤ cell) && decide (a < cs.length))) H2 :=
      mpe_and (e_cmpi (e_vari rfl) p18 rfl) (e_cmpi (e_vari rfl) eln' rfl)
    by_cases hbig : (10 : Int) ^ 18 ≤ cell ∧ a < cs.length
    · have d2 : ex P ds7 [some (.ref n), some (.int m), none, some (.ref c), some (.int a), some (.int cell), none] H2 = .rt (.int (cell % m)) (H2.set n (plst c (a + 1) (cell / m) (t + 1))) := by
        refine (ex_if d1).trans ((bl_t (show (decide ((10 : Int) ^ 18 ≤ cell) && decide (a < cs.length)) = true by rw [decide_eq_true hbig.1, decide_eq_true hbig.2]; rfl) P _ _ _ _).trans ?_)
        have k2 : ex P (.asgS (.var 0) (.con (.int 2)) (.bin .fdv (.var 5) (.var 1))) [some (.ref n), some (.int m), none, some (.ref c), some (.int a), some (.int cell), none] H2 = .nx [some (.ref n), some (.int m), none, some (.ref c), some (.int a), some (.int cell), none] (H2.set n (plst c (a + 1) (cell / m) (t + 1))) :=
          pl_set (c := c) (a := a + 1) (l := l) (t := t + 1) (j := 2) (v := .int (cell / m)) rfl G1 (e_bini (e_vari rfl) (e_vari rfl) (fdv_ok hm hm2)) rfl
        have k3 : ex P (.ret (.bin .md (.blt .int [(.var 5)]) (.var 1))) [some (.ref n), some (.int m), none, some (.ref c), some (.int a), some (.int cell), none] (H2.set n (plst c (a + 1) (cell / m) (t + 1))) = .rt (.int (cell % m)) (H2.set n (plst c (a + 1) (cell / m) (t + 1))) :=
          ex_rt (e_bini (e_int (e_vari rfl)) (e_vari rfl) (md_ok hm))
        rw [exs_nx k2, exs_rt k3]
      rw [exs_rt d2]
      have dv : drawV cs a l t m = (cell % m, a + 1, cell / m, t + 1) := by
        unfold drawV
        rw [if_neg hleft]
        simp only [hcd]
        rw [if_pos ⟨hbig.1, hbig.2⟩]
      rw [dv]
      exact ⟨_, rfl, .inl rfl⟩
    · have hfb : (decide ((10 : Int) ^ 18 ≤ cell) && decide (a < cs.length)) = false := by
        cases q1 : decide ((10 : Int) ^ 18 ≤ cell) with
        | false => rfl
        | true =>
          cases q2 : decide (a < (cs.length : Int)) with
          | false => rfl
          | true => exact absurd ⟨of_decide_eq_true q1, of_decide_eq_true q2⟩ hbig
      have d2 : ex P ds7 [some (.ref n), some (.int m), none, some (.ref c), some (.int a), some (.int cell), none] H2 = .nx [some (.ref n), some (.int m), none, some (.ref c), some (.int a), some (.int cell), none] H2 :=
        (ex_if d1).trans ((bl_f hfb P _ _ _ _).trans rfl)
      have b1 := Int.emod_nonneg cell (show (10 : Int) ^ 18 ≠ 0 by decide)
      have b2 := Int.emod_lt_of_pos cell (show (0 : Int) < 10 ^ 18 by decide)
      have p10 : (10 : Int) ^ 18 = 1000000000000000000 := by decide
      have u1 : ev P (.bin .mul (.con (.int 7919)) (.idx (.var 0) (.con (.int 3)))) [some (.ref n), some (.int m), none, some (.ref c), some (.int a), some (.int cell), none] H2 = .ok (.int (7919 * (t + 1))) H2 :=
        e_bini (e_coni 7919) (pl_idx rfl G1 3 (w := .int (t + 1)) rfl) (mul_ok (by decide) (by omega))
      have u2 : ev P (.bin .md (.blt .int [(.var 5)]) (.bin .pow (.con (.int 10)) (.con (.int 18)))) [some (.ref n), some (.int m), none, some (.ref c), some (.int a), some (.int cell), none] H2 = .ok (.int (cell % 10 ^ 18)) H2 :=
        e_bini (e_int (e_vari rfl)) p18 (md_ok (by decide))
      have u3 : ev P (.bin .pow (.bin .add (.bin .add (.bin .md (.blt .int [(.var 5)]) (.bin .pow (.con (.int 10)) (.con (.int 18)))) (.bin .mul (.con (.int 7919)) (.idx (.var 0) (.con (.int 3))))) (.con (.int 11))) (.con (.int 5))) [some (.ref n), some (.int m), none, some (.ref c), some (.int a), some (.int cell), none] H2 = .ok (.int ((cell % 10 ^ 18 + 7919 * (t + 1) + 11) ^ 5)) H2 :=
        e_bini (e_bini (e_bini u2 u1 rfl) (e_coni 11) rfl) (e_coni 5) (pow_ok (by decide) (by decide) (by rw [p10] at b1 b2 ⊢; omega))
      have s8 : ex P ds8 [some (.ref n), some (.int m), none, some (.ref c), some (.int a), some (.int cell), none] H2 = .nx [some (.ref n), some (.int m), none, some (.ref c), some (.int a), some (.int cell), some (.int ((cell % 10 ^ 18 + 7919 * (t + 1) + 11) ^ 5 % 2147483647))] H2 :=
        ex_as (e_bini (e_int u3) (e_coni _) (md_ok (by decide)))
      rw [exs_nx d2, exs_nx s8]
      have dv0 : drawV cs a l t m = ((((cell % 10 ^ 18 + 7919 * (t + 1) + 11) ^ 5 % 2147483647) + 104729 * (t + 1)) ^ 3 % 998244353 / 16 % m, a + 1, l, t + 1) := by
        unfold drawV
        rw [if_neg hleft]
        simp only [hcd]
        rw [if_neg (fun z => hbig ⟨z.1, z.2⟩)]
      rw [dv0]
      have b3 : 0 ≤ (cell % 10 ^ 18 + 7919 * (t + 1) + 11) ^ 5 % 2147483647 := Int.emod_nonneg _ (by decide)
      have b4 : (cell % 10 ^ 18 + 7919 * (t + 1) + 11) ^ 5 % 2147483647 < 2147483647 := Int.emod_lt_of_pos _ (by decide)
      generalize (cell % 10 ^ 18 + 7919 * (t + 1) + 11) ^ 5 % 2147483647 = x1 at b3 b4
      have u4 : ev P (.bin .mul (.con (.int 104729)) (.idx (.var 0) (.con (.int 3)))) [some (.ref n), some (.int m), none, some (.ref c), some (.int a), some (.int cell), some (.int x1)] H2 = .ok (.int (104729 * (t + 1))) H2 :=
        e_bini (e_coni 104729) (pl_idx rfl G1 3 (w := .int (t + 1)) rfl) (mul_ok (by decide) (by omega))
      have u5 : ev P (.bin .pow (.bin .add (.var 6) (.bin .mul (.con (.int 104729)) (.idx (.var 0) (.con (.int 3))))) (.con (.int 3))) [some (.ref n), some (.int m), none, some (.ref c), some (.int a), some (.int cell), some (.int x1)] H2 = .ok (.int ((x1 + 104729 * (t + 1)) ^ 3)) H2 :=
        e_bini (e_bini (e_vari rfl) u4 rfl) (e_coni 3) (pow_ok (by decide) (by decide) (by omega))
      have s9 : ex P ds9 [some (.ref n), some (.int m), none, some (.ref c), some (.int a), some (.int cell), some (.int x1)] H2 = .nx [some (.ref n), some (.int m), none, some (.ref c), some (.int a), some (.int cell), some (.int ((x1 + 104729 * (t + 1)) ^ 3 % 998244353))] H2 :=
        ex_as (e_bini (e_int u5) (e_coni _) (md_ok (by decide)))
      have s10 : ex P ds10 [some (.ref n), some (.int m), none, some (.ref c), some (.int a), some (.int cell), some (.int ((x1 + 104729 * (t + 1)) ^ 3 % 998244353))] H2 = .rt (.int ((x1 + 104729 * (t + 1)) ^ 3 % 998244353 / 16 % m)) H2 :=
        ex_rt (e_bini (e_int (e_bini (e_vari rfl) (e_coni 16) (fdv_ok (by decide) (by decide)))) (e_vari rfl) (md_ok hm))
      rw [exs_nx s9, exs_rt s10]
      exact ⟨_, rfl, .inr ⟨rfl, rfl, rfl⟩⟩
end MP

set_option Elab.async false
set_option linter.all false
set_option maxRecDepth 100000
/-! MP: a law's pool of numbers: what the defs do agrees with what is said of them. -/
namespace MP
open PySem L2
abbrev poolE : E := .lst [(.bin .add (.cp false (.con .non) (.blt .abs [(.var 2)]) (.nm 2) (.seq (.var 0)) [] [1, 2]) (.bin .mul (.lst [(.con (.int 0))]) (.blt .int [(.cmp .eq (.blt .len [(.var 0)]) (.con (.int 0)))]))), (.con (.int 0)), (.con (.int 0)), (.con (.int 0))]
theorem intsW_eq : ∀ {ws : List W} {ns : List Int}, intsW ws = some ns → ws = ns.map W.int
  | [], ns, e => by cases e; rfl
  | .int x :: r, ns, e => by
    obtain ⟨q, e1, rfl⟩ := Option.map_eq_some_iff.mp e
    rw [intsW_eq e1]
    rfl
  | .non :: _, ns, e => by cases e
  | .bl _ :: _, ns, e => by cases e
  | .str _ :: _, ns, e => by cases e
  | .st _ :: _, ns, e => by cases e
  | .ref _ :: _, ns, e => by cases e
  | .exn _ _ :: _, ns, e => by cases e
theorem wTs_ints : ∀ ns : List Int, wTs (ns.map W.int) = some (ns.map T.int)
  | [] => rfl
  | n :: ns => by
    show (wTs (ns.map W.int)).map (T.int n :: ·) = _
    rw [wTs_ints ns]
    rfl
theorem rl_ints {M : Nat → Prop} {θ : List Nat} {h : Hh} : ∀ {ns : List Int} {ws : List W}, Rl M θ h (ns.map T.int) ws → ws = ns.map W.int
  | [], ws, r => rl_nil r
  | n :: ns, ws, r => by
    obtain ⟨w, u, rfl, a, b⟩ := rl_cons r
    rw [rl_ints b]
    unfold R at a
    rw [a]
    rfl
/-- a comprehension whose turns change nothing -/
theorem cpL_map {α : Type} {turn : T → Om → TR (Option α)} {s : Om} {g : T → α} : ∀ {xs : List T}, (∀ x ∈ xs, turn x s = .ok (some (g x)) s) → cpL turn xs s = .ok (xs.map g) s
  | [], _ => rfl
  | x :: xs, hx => by
    show (match turn x s with
      | .ok y s1 => (match cpL turn xs s1 with
        | .ok ys s2 => TR.ok (match y with
          | some y => y :: ys
          | none => ys) s2
        | _ => TR.no)
      | _ => TR.no) = _
    rw [hx x (List.mem_cons_self ..)]
    show (match cpL turn xs s with
        | .ok ys s2 => TR.ok (g x :: ys) s2
        | _ => .no) = _
    rw [cpL_map fun y hy => hx y (List.mem_cons_of_mem _ hy)]
    rfl
theorem cpF_map {α : Type} {turn : T → Om → TR (List α)} {s : Om} {g : T → List α} : ∀ {xs : List T}, (∀ x ∈ xs, turn x s = .ok (g x) s) → cpF turn xs s = .ok (xs.flatMap g) s
  | [], _ => rfl
  | x :: xs, hx => by
    show (match turn x s with
      | .ok y s1 => (match cpF turn xs s1 with
        | .ok ys s2 => TR.ok (y ++ ys) s2
        | _ => TR.no)
      | _ => TR.no) = _
    rw [hx x (List.mem_cons_self ..)]
    show (match cpF turn xs s with
        | .ok ys s2 => TR.ok (g x ++ ys) s2
        | _ => .no) = _
    rw [cpF_map fun y hy => hx y (List.mem_cons_of_mem _ hy)]
    rfl
def absT : T → T
  | .int i => .int (if i < 0 then -i else i)
  | t => t
theorem pool_T {TP : Tg0} {ns : List Int} (hs : TP.so 0 = some (.rol (ns.map W.int))) (h1 : ns.length < TP.fu) (h2 : ns.length < 1000) (s : Om) :
    tev TP true false poolE [some ⟨.st 0, false⟩, none, none] s = .ok (.lst [.lst ((poolC ns).map T.int), .int 0, .int 0, .int 0]) s := by
  have sq0 : sqT TP (.st 0) = some (ns.map T.int) := by
    show (match soT TP 0 with
      | some (.tup ts) => some ts
      | some (.lst ts) => some ts
      | _ => none) = _
    have : soT TP 0 = some (.lst (ns.map T.int)) := by
      unfold soT
      rw [hs]
      show (wTs (ns.map W.int)).map T.lst = _
      rw [wTs_ints]
      rfl
    rw [this]
  have e1 : tev TP true true (.cp false (.con .non) (.blt .abs [(.var 2)]) (.nm 2) (.seq (.var 0)) [] [1, 2]) [some ⟨.st 0, false⟩, none, none] s = .ok (.lst ((ns.map fun i => if i < 0 then -i else i).map T.int)) s := by
    have e0 : tevI TP true true (.seq (.var 0)) [some ⟨.st 0, false⟩, none, none] s = .ok (ns.map T.int, false) s := by
      show ofT ((sqT TP (.st 0)).map fun ts => (ts, false)) s = _
      rw [sq0]
      rfl
    unfold tev
    rw [e0]
    show (if (ns.map T.int).length < TP.fu then _ else _) = _
    rw [List.length_map, if_pos h1]
    refine Eq.trans (congrArg (fun z => TR.bind z fun ys s2 => TR.ok (T.lst ys) s2) (cpL_map (g := absT) fun x hx => ?_)) ?_
    · obtain ⟨i, _, rfl⟩ := List.mem_map.mp hx
      rfl
    · show TR.ok (T.lst ((ns.map T.int).map absT)) s = _
      rw [List.map_map, List.map_map]
      rfl
  have e2 : tev TP true true (.blt .len [.var 0]) [some ⟨.st 0, false⟩, none, none] s = .ok (.int ns.length) s := by
    show ofT ((sqT TP (.st 0)).map fun ts => T.int ts.length) s = _
    rw [sq0]
    show TR.ok (T.int (ns.map T.int).length) s = _
    rw [List.length_map]
  have e3 : tev TP true true (.bin .mul (.lst [(.con (.int 0))]) (.blt .int [(.cmp .eq (.blt .len [(.var 0)]) (.con (.int 0)))])) [some ⟨.st 0, false⟩, none, none] s = .ok (.lst ((if ns.isEmpty = true then [0] else []).map T.int)) s := by
    have e4 : tev TP true true (.cmp .eq (.blt .len [(.var 0)]) (.con (.int 0))) [some ⟨.st 0, false⟩, none, none] s = .ok (.bl ns.isEmpty) s := by
      show ((tev TP true true (.blt .len [.var 0]) [some ⟨.st 0, false⟩, none, none] s).bind fun x s1 => TR.bind (TR.ok (T.int 0) s1) fun y s2 => ofT ((cmpT TP .eq x y).map T.bl) s2) = _
      rw [e2]
      show ofT (some (T.bl (decide (W.int ns.length = W.int 0)))) s = _
      cases ns with
      | nil => rfl
      | cons n ns =>
        have : decide (W.int ((n :: ns).length : Nat) = W.int 0) = false := decide_eq_false (fun z => by
          have := W.int.inj z
          simp at this
          omega)
        rw [this]
        rfl
    have e5 : tev TP true true (.blt .int [(.cmp .eq (.blt .len [(.var 0)]) (.con (.int 0)))]) [some ⟨.st 0, false⟩, none, none] s = .ok (.int (if ns.isEmpty then 1 else 0)) s := by
      show (((tev TP true true (.cmp .eq (.blt .len [(.var 0)]) (.con (.int 0))) [some ⟨.st 0, false⟩, none, none] s).bind fun x s1 => TR.ok [x] s1).bind fun xs s1 => (TR.ok ([] : List T) s1).bind fun ys s2 => TR.ok (xs ++ ys) s2).bind (fun ts s1 => ofT (bltT TP true .int ts) s1) = _
      rw [e4]
      rfl
    show ((TR.ok (T.lst [.int 0]) s).bind fun x s1 => (tev TP true true (.blt .int [(.cmp .eq (.blt .len [(.var 0)]) (.con (.int 0)))]) [some ⟨.st 0, false⟩, none, none] s1).bind fun y s2 => ofT (binT .mul x y) s2) = _
    show ((tev TP true true (.blt .int [(.cmp .eq (.blt .len [(.var 0)]) (.con (.int 0)))]) [some ⟨.st 0, false⟩, none, none] s).bind fun y s2 => ofT (binT .mul (T.lst [.int 0]) y) s2) = _
    rw [e5]
    cases ns <;> rfl
  have e6 : tev TP true false (.bin .add (.cp false (.con .non) (.blt .abs [(.var 2)]) (.nm 2) (.seq (.var 0)) [] [1, 2]) (.bin .mul (.lst [(.con (.int 0))]) (.blt .int [(.cmp .eq (.blt .len [(.var 0)]) (.con (.int 0)))]))) [some ⟨.st 0, false⟩, none, none] s = .ok (.lst ((poolC ns).map T.int)) s := by
    show ((tev TP true true (.cp false (.con .non) (.blt .abs [(.var 2)]) (.nm 2) (.seq (.var 0)) [] [1, 2]) [some ⟨.st 0, false⟩, none, none] s).bind fun x s1 => (tev TP true true (.bin .mul (.lst [(.con (.int 0))]) (.blt .int [(.cmp .eq (.blt .len [(.var 0)]) (.con (.int 0)))])) [some ⟨.st 0, false⟩, none, none] s1).bind fun y s2 => ofT (binT .add x y) s2) = _
    rw [e1]
    show ((tev TP true true (.bin .mul (.lst [(.con (.int 0))]) (.blt .int [(.cmp .eq (.blt .len [(.var 0)]) (.con (.int 0)))])) [some ⟨.st 0, false⟩, none, none] s).bind fun y s2 => ofT (binT .add (.lst ((ns.map fun i => if i < 0 then -i else i).map T.int)) y) s2) = _
    rw [e3]
    have hl : ((ns.map fun i => if i < 0 then -i else i).map T.int).length + ((if ns.isEmpty = true then [0] else []).map T.int).length ≤ lim := by
      cases ns with
      | nil => decide
      | cons n ns =>
        have : lim = 1000000 := rfl
        simp at h2 ⊢
        omega
    show ofT (if ((ns.map fun i => if i < 0 then -i else i).map T.int).length + ((if ns.isEmpty = true then [0] else []).map T.int).length ≤ lim then some (T.lst (((ns.map fun i => if i < 0 then -i else i).map T.int) ++ ((if ns.isEmpty = true then [0] else []).map T.int))) else none) s = _
    rw [if_pos hl]
    unfold poolC
    rw [List.map_append]
    rfl
  show ((((tev TP true false (.bin .add (.cp false (.con .non) (.blt .abs [(.var 2)]) (.nm 2) (.seq (.var 0)) [] [1, 2]) (.bin .mul (.lst [(.con (.int 0))]) (.blt .int [(.cmp .eq (.blt .len [(.var 0)]) (.con (.int 0)))]))) [some ⟨.st 0, false⟩, none, none] s).bind fun x s1 => TR.ok [x] s1).bind fun xs s1 => (TR.ok [T.int 0, .int 0, .int 0] s1).bind fun ys s2 => TR.ok (xs ++ ys) s2).bind fun ts s1 => if ts.length ≤ lim then .ok (T.lst ts) s1 else .no) = _
  rw [e6]
  rfl
end MP

set_option Elab.async false
set_option linter.all false
set_option maxRecDepth 100000
namespace MP
open PySem L2
section
variable {F : List Nat} {M : Nat → Prop} {θ : List Nat} {s : Om} {h : Hh}
/-- what is owned becomes shared -/
theorem Ist.share {n : Nat} {ob : Ob} (I : Ist F (fun m => M m ∨ m = n) θ s h) (hn : n ∉ θ) (nm : ¬ M n) (r : ObR M (θ ++ [n]) h ob n) : Ist F M (θ ++ [n]) (s ++ [ob]) h := by
  have mo : Mono (fun m => M m ∨ m = n) θ h M (θ ++ [n]) h := ⟨fun m o e h1 h2 => ⟨fun z => h1 (.inl z), fun z => by
    rcases List.mem_append.mp z with q | q
    · exact h2 q
    · rw [List.mem_singleton] at q; exact h1 (.inr q), .inl e⟩, fun k m e => by
    rw [List.getElem?_append_left (List.getElem?_eq_some_iff.mp e).1]
    exact e⟩
  refine ⟨by rw [List.length_append, List.length_append, I.len]; rfl, ?_, fun m hm => ?_, fun m z => I.lt m (.inl z), fun k ob' e => ?_, I.fz⟩
  · rw [List.nodup_append]
    refine ⟨I.nd, by simp, fun x hx y hy z => ?_⟩
    rw [List.mem_singleton] at hy
    exact hn (by rw [← hy, ← z]; exact hx)
  · rcases List.mem_append.mp hm with q | q
    · exact fun z => I.mt m q (.inl z)
    · rw [List.mem_singleton] at q; rw [q]; exact nm
  · rw [List.getElem?_append] at e
    split at e
    · obtain ⟨m, e1, q⟩ := I.at_ k ob' e
      exact ⟨m, mo.th _ _ e1, q.mono mo (fun _ _ => rfl) (List.mem_of_getElem? e1)⟩
    · rename_i hk
      have e0 : k - s.length = 0 := by
        have := (List.getElem?_eq_some_iff.mp e).1
        simp at this
        omega
      rw [e0] at e
      cases e
      refine ⟨n, ?_, r⟩
      have : k = θ.length := by rw [I.len]; omega
      rw [this]
      simp
end
theorem draw_ok {p : Prog} (e1 : p.fn (Str.ofString "", Str.ofString "_law_draw") = some d_draw) {k : Nat} {F : List Nat} {M : Nat → Prop} {θ : List Nat} {s : Om} {h : Hh} {ws : List W} {j : Nat} {m : Int} (I : Ist F M θ s h) (rl : Rl M θ h [.ob j, .int m] ws) {cs : List Int} {a l t : Int} (es : s[j]? = some (.pool cs [a, l, t])) (c1 : 0 < m) (c2 : m.natAbs.log2 < 9000) (c3 : t < 1000000) (c4 : 0 ≤ t) (c5 : 0 ≤ a) (c6 : cs ≠ []) :
    sim F M θ h (fun θ' _ h' t w => R M θ' h' t w) (p.cl (k + 1) (Str.ofString "", Str.ofString "_law_draw") ws h) (.ok (.int (drawV cs a l t m).1) (s.set j (.pool cs [(drawV cs a l t m).2.1, (drawV cs a l t m).2.2.1, t + 1]))) := by
  obtain ⟨w1, u1, rfl, r1, rl⟩ := rl_cons rl
  obtain ⟨w2, u2, rfl, r2, rl⟩ := rl_cons rl
  have := rl_nil rl
  subst this
  unfold R at r1 r2
  obtain ⟨n, rfl, hn⟩ := r1
  subst r2
  obtain ⟨n', hn', c, g, nM, nθ, gc⟩ := I.at_ j _ es
  rw [hn] at hn'
  cases hn'
  have hmem := List.mem_of_getElem? hn
  have hne : c ≠ n := fun z => nθ (by rw [z]; exact hmem)
  have hl := Hh.get_lt g
  obtain ⟨h', er, hh⟩ := draw_run (P := p.pg (p.cl k)) g gc hne c1 c2 c4 c3 c5 c6
  have ecl : p.cl (k + 1) (Str.ofString "", Str.ofString "_law_draw") [.ref n, .int m] h = runD (p.pg (p.cl k)) d_draw [.ref n, .int m] h := by
    show (match p.fn (Str.ofString "", Str.ofString "_law_draw") with
      | some d => runD (p.pg (p.cl k)) d [.ref n, .int m] h
      | none => Rs.no) = _
    rw [e1]
  rw [ecl, er]
  have one : ∀ {s1 : Om} {h1 : Hh} {a' l' t' : Int}, Ist F M θ s1 h1 → h1.get c = some (.lst (cs.map W.int)) → n < h1.sz → Ist F M θ (s1.set j (.pool cs [a', l', t'])) (h1.set n (plst c a' l' t')) ∧ (h1.set n (plst c a' l' t')).get c = some (.lst (cs.map W.int)) ∧ n < (h1.set n (plst c a' l' t')).sz ∧ Stp θ h1 θ (h1.set n (plst c a' l' t')) [] := fun {s1 h1 a' l' t'} I1 g1 l1 => by
    have gc1 : (h1.set n (plst c a' l' t')).get c = some (.lst (cs.map W.int)) := by rw [Hh.get_set l1, if_neg hne]; exact g1
    exact ⟨I1.setOb hn (fun x => by simp) ⟨c, by rw [Hh.get_set l1, if_pos rfl]; rfl, nM, nθ, gc1⟩, gc1, l1, stp_ob hmem l1 _⟩
  obtain ⟨I1, g1, l1, st1⟩ := one (a' := a) (l' := l) (t' := t + 1) I gc hl
  rcases hh with rfl | rfl
  · obtain ⟨I2, g2, l2, st2⟩ := one (a' := (drawV cs a l t m).2.1) (l' := (drawV cs a l t m).2.2.1) (t' := t + 1) I1 g1 l1
    rw [List.set_set] at I2
    exact ⟨_, _, θ, rfl, st1.tr st2, I2, by unfold R; rfl⟩
  · obtain ⟨I2, g2, l2, st2⟩ := one (a' := a + 1) (l' := l) (t' := t + 1) I1 g1 l1
    obtain ⟨I3, g3, l3, st3⟩ := one (a' := (drawV cs a l t m).2.1) (l' := (drawV cs a l t m).2.2.1) (t' := t + 1) I2 g2 l2
    rw [List.set_set, List.set_set] at I3
    exact ⟨_, _, θ, rfl, (st1.tr st2).tr st3, I3, by unfold R; rfl⟩
theorem drawV_cnt (cs : List Int) (a l t m : Int) : (drawV cs a l t m).2.2.2 = t + 1 := by
  unfold drawV
  split
  · rfl
  · dsimp only
    split <;> rfl
theorem pool_ok {p : Prog} (hfu : p.fu ≤ lim) (e2 : p.fn (Str.ofString "", Str.ofString "_law_pool") = some d_pool) {k : Nat} {F : List Nat} {M : Nat → Prop} {θ : List Nat} {s : Om} {h : Hh} {ws : List W} (I : Ist F M θ s h) (rl : Rl M θ h [.st 0] ws) {ns : List Int} (hs : scriptT p = some ns) (l1 : ns.length < p.fu) (l2 : ns.length < 1000) :
    sim F M θ h (fun θ' _ h' t w => R M θ' h' t w) (p.cl (k + 1) (Str.ofString "", Str.ofString "_law_pool") ws h) (.ok (.ob s.length) (s ++ [.pool (poolC ns) [0, 0, 0]])) := by
  obtain ⟨w1, u1, rfl, r1, rl⟩ := rl_cons rl
  have := rl_nil rl
  subst this
  unfold R at r1
  subst r1
  have hso : p.so 0 = some (.rol (ns.map W.int)) := by
    unfold scriptT at hs
    split at hs
    · rename_i ws e
      rw [e, intsW_eq hs]
    · cases hs
  have S : SE [] M θ h [some ⟨.st 0, false⟩, none, none] [some (.st 0), none, none] := ⟨rfl, fun i v e => by
    match i with
    | 0 =>
      cases e
      exact ⟨.st 0, rfl, by show R M θ h (.st 0) (.st 0); unfold R; rfl, fun _ => by unfold R; rfl, fun z => by cases z⟩
    | 1 => (cases e)
    | 2 => (cases e)
    | i + 3 => (cases e), fun n z => (nomatch z)⟩
  let TP := p.tg (fun _ _ _ _ => .no)
  have q := ev_all (TP := p.tg (fun _ _ _ _ => .no)) (P := p.pg (p.cl k)) (pp_of p _ _) (fun f ts lk s F M θ h ws hF I r => trivial) hfu poolE (bo := false) (lk := true) (F := F) (fun z => (by cases z)) I S
  rw [pool_T (TP := p.tg (fun _ _ _ _ => .no)) (ns := ns) hso l1 l2 s] at q
  obtain ⟨w, h', θ', er, st, I', rw_, fr⟩ := q
  obtain ⟨d, rfl, hd, I2, r0⟩ := fr rfl rfl
  have ecl : p.cl (k + 1) (Str.ofString "", Str.ofString "_law_pool") [.st 0] h = .ok (.ref d) h' := by
    show (match p.fn (Str.ofString "", Str.ofString "_law_pool") with
      | some d => runD (p.pg (p.cl k)) d [.st 0] h
      | none => Rs.no) = _
    rw [e2]
    show runD (p.pg (p.cl k)) d_pool [.st 0] h = _
    rw [runD_of rfl]
    show outR (exs (p.pg (p.cl k)) [.ret poolE] [some (.st 0), none, none] h) = _
    rw [exs_rt (ex_rt er)]
    rfl
  rw [ecl]
  unfold Rm at rw_
  rw [if_neg (by decide)] at rw_
  unfold R at rw_
  obtain ⟨n, ws, en, nM, nθ, g, rl⟩ := rw_
  cases en
  obtain ⟨x1, u1, rfl, q1, rl⟩ := rl_cons rl
  obtain ⟨x2, u2, rfl, q2, rl⟩ := rl_cons rl
  obtain ⟨x3, u3, rfl, q3, rl⟩ := rl_cons rl
  obtain ⟨x4, u4, rfl, q4, rl⟩ := rl_cons rl
  have := rl_nil rl
  subst this
  unfold R at q1 q2 q3 q4
  subst q2 q3 q4
  obtain ⟨c, us, rfl, cM, cθ, gc, rc⟩ := q1
  have := rl_ints rc
  subst this
  have hcd : c ≠ d := fun z => by
    subst z
    rw [gc] at g
    have := O.lst.inj (Option.some.inj g)
    cases hp : poolC ns with
    | nil => rw [hp] at this; cases this
    | cons x xs => rw [hp] at this; cases this
  have I3 := I2.share (ob := .pool (poolC ns) [0, 0, 0]) nθ nM ⟨c, g, cM, fun z => by
    rcases List.mem_append.mp z with q | q
    · exact cθ q
    · rw [List.mem_singleton] at q; exact hcd q, gc⟩
  have st2 : Stp θ h (θ' ++ [d]) h' [] := ⟨st.sz, st.ext, st.pr.trans (pre.snoc _ _), fun m hm => by
    rcases List.mem_append.mp hm with z | z
    · exact st.new m z
    · rw [List.mem_singleton] at z
      rw [z]
      exact .inr hd⟩
  exact ⟨_, _, _, rfl, st2, I3, by
    unfold R
    refine ⟨d, rfl, ?_⟩
    rw [← I'.len]
    simp⟩
/-- the two defs, as they are said to be -/
theorem pr_ok {p : Prog} (hfu : p.fu ≤ lim) (e1 : p.fn (Str.ofString "", Str.ofString "_law_draw") = some d_draw) (e2 : p.fn (Str.ofString "", Str.ofString "_law_pool") = some d_pool) : PrOK p (prP p) := by
  intro f ts s r e k F M θ h ws I rl
  unfold prP at e
  split at e
  · rename_i hf
    subst hf
    have e := Option.some.inj e
    subst e
    split
    · rename_i j m
      split
      · rename_i cs a l t es
        split
        · rename_i hc
          have q := draw_ok e1 (k := k) I rl es hc.1 hc.2.1 hc.2.2.1 hc.2.2.2.1 hc.2.2.2.2.1 hc.2.2.2.2.2
          have hc4 := drawV_cnt cs a l t m
          generalize drawV cs a l t m = dv at q hc4 ⊢
          obtain ⟨v, a', l', c'⟩ := dv
          dsimp only at hc4 q ⊢
          rw [hc4]
          exact q
        · trivial
      · trivial
    · trivial
  · split at e
    · rename_i hf
      subst hf
      have e := Option.some.inj e
      subst e
      split
      · rename_i ns hs
        split
        · rename_i hl
          exact pool_ok hfu e2 I rl hs hl.1 hl.2
        · trivial
      · trivial
    · cases e
end MP

set_option Elab.async false
set_option linter.all false
set_option maxRecDepth 100000
/-! MP: which names a value keeps, computed. -/
namespace MP
open PySem L2
mutual
def kB : Bool → E → List Nat
  | b, .var i => if b = true then [] else [i]
  | _, .bin _ a b => kB true a ++ kB true b
  | _, .cmp _ a b => kB true a ++ kB true b
  | _, .cmp2 _ _ a b c => kB true a ++ kB true b ++ kB true c
  | _, .and a b => kB false a ++ kB false b
  | _, .or a b => kB false a ++ kB false b
  | _, .not a => kB true a
  | _, .neg a => kB true a
  | _, .ite c a b => kB true c ++ kB false a ++ kB false b
  | _, .call _ as => kBs false as
  | _, .make _ as => kBs false as
  | _, .meth o _ as => kB true o ++ kBs false as
  | _, .blt _ as => kBs true as
  | _, .isa a _ => kB true a
  | _, .fld o _ => kB true o
  | _, .idx o i => kB true o ++ kB true i
  | _, .slc o _ _ => kB true o
  | _, .rev o => kB true o
  | _, .tup as => kBs false as
  | _, .lst as => kBs false as
  | _, .setOf a => kB true a
  | _, .cp _ k v _ _ _ _ => kB false k ++ kB false v
  | _, .cp2 _ k v _ _ _ _ _ _ _ _ => kB false k ++ kB false v
  | _, .xf _ _ => []
  | _, .xi _ _ => []
  | _, .con _ => []
  | _, .glb _ => []
  | _, .bm _ _ _ => []
  | _, .star _ => []
  | _, .dsp _ _ => []
  | _, .seq _ => []
  | _, .enum _ => []
  | _, .rng _ => []
  | _, .rng2 _ _ => []
  | _, .zip _ _ => []
  | _, .items _ => []
  | _, .vals _ => []
  | _, .srtK _ _ => []
  | _, .minD _ => []
def kBs : Bool → List E → List Nat
  | _, [] => []
  | b, e :: es => kB b e ++ kBs b es
end
mutual
theorem kB_ok : ∀ e : E, keeps e = kB false e ∧ looks e = kB true e
  | .var i => ⟨by simp [keeps, kB], by simp [looks, kB]⟩
  | .bin _ a b => by simp only [looks, keeps, kB, (kB_ok a).2, (kB_ok b).2, and_self]
  | .cmp _ a b => by simp only [looks, keeps, kB, (kB_ok a).2, (kB_ok b).2, and_self]
  | .cmp2 _ _ a b c => by simp only [looks, keeps, kB, (kB_ok a).2, (kB_ok b).2, (kB_ok c).2, and_self]
  | .and a b => by simp only [looks, keeps, kB, (kB_ok a).1, (kB_ok b).1, and_self]
  | .or a b => by simp only [looks, keeps, kB, (kB_ok a).1, (kB_ok b).1, and_self]
  | .not a => by simp only [looks, keeps, kB, (kB_ok a).2, and_self]
  | .neg a => by simp only [looks, keeps, kB, (kB_ok a).2, and_self]
  | .ite c a b => by simp only [looks, keeps, kB, (kB_ok c).2, (kB_ok a).1, (kB_ok b).1, and_self]
  | .call _ as => by simp only [looks, keeps, kB, (kBs_ok as).1, and_self]
  | .make _ as => by simp only [looks, keeps, kB, (kBs_ok as).1, and_self]
  | .meth o _ as => by simp only [looks, keeps, kB, (kB_ok o).2, (kBs_ok as).1, and_self]
  | .blt _ as => by simp only [looks, keeps, kB, (kBs_ok as).2, and_self]
  | .isa a _ => by simp only [looks, keeps, kB, (kB_ok a).2, and_self]
  | .fld o _ => by simp only [looks, keeps, kB, (kB_ok o).2, and_self]
  | .idx o i => by simp only [looks, keeps, kB, (kB_ok o).2, (kB_ok i).2, and_self]
  | .slc o _ _ => by simp only [looks, keeps, kB, (kB_ok o).2, and_self]
  | .rev o => by simp only [looks, keeps, kB, (kB_ok o).2, and_self]
  | .tup as => by simp only [looks, keeps, kB, (kBs_ok as).1, and_self]
  | .lst as => by simp only [looks, keeps, kB, (kBs_ok as).1, and_self]
  | .setOf a => by simp only [looks, keeps, kB, (kB_ok a).2, and_self]
  | .cp _ k v _ _ _ _ => by simp only [looks, keeps, kB, (kB_ok k).1, (kB_ok v).1, and_self]
  | .cp2 _ k v _ _ _ _ _ _ _ _ => by simp only [looks, keeps, kB, (kB_ok k).1, (kB_ok v).1, and_self]
  | .xf _ _ => by simp only [looks, keeps, kB, and_self]
  | .xi _ _ => by simp only [looks, keeps, kB, and_self]
  | .con _ => by simp only [looks, keeps, kB, and_self]
  | .glb _ => by simp only [looks, keeps, kB, and_self]
  | .bm _ _ _ => by simp only [looks, keeps, kB, and_self]
  | .star _ => by simp only [looks, keeps, kB, and_self]
  | .dsp _ _ => by simp only [looks, keeps, kB, and_self]
  | .seq _ => by simp only [looks, keeps, kB, and_self]
  | .enum _ => by simp only [looks, keeps, kB, and_self]
  | .rng _ => by simp only [looks, keeps, kB, and_self]
  | .rng2 _ _ => by simp only [looks, keeps, kB, and_self]
  | .zip _ _ => by simp only [looks, keeps, kB, and_self]
  | .items _ => by simp only [looks, keeps, kB, and_self]
  | .vals _ => by simp only [looks, keeps, kB, and_self]
  | .srtK _ _ => by simp only [looks, keeps, kB, and_self]
  | .minD _ => by simp only [looks, keeps, kB, and_self]
theorem kBs_ok : ∀ es : List E, keepss es = kBs false es ∧ lookss es = kBs true es
  | [] => by simp only [keepss, lookss, kBs, and_self]
  | e :: es => by simp only [keepss, lookss, kBs, (kB_ok e).1, (kB_ok e).2, (kBs_ok es).1, (kBs_ok es).2, and_self]
end
def kI : E → List Nat
  | .seq a => kB false a
  | .enum a => kB false a
  | .items a => kB false a
  | .vals a => kB false a
  | .rng a => kB true a
  | .rng2 a b => kB true a ++ kB true b
  | _ => []
theorem kI_ok (e : E) : keepI e = kI e := by
  cases e <;> first | rfl | (simp only [keepI, kI, kB_ok])
end MP

set_option Elab.async false
set_option linter.all false
set_option maxRecDepth 100000
/-! MP: how values are computed, rule by rule. -/
namespace MP
open PySem L2
def isStarE : E → Bool
  | .star _ => true
  | _ => false
def isBmE : E → Bool
  | .bm _ _ _ => true
  | _ => false
section
variable {TP : Tg0} {lk bo : Bool} {τ τ1 τ2 τ3 : Tl} {s s1 s2 s3 : Om}
theorem v_var {i : Nat} {t : T} {o : Bool} (e : τ[i]? = some (some ⟨t, o⟩)) (h1 : isExnT t = false) (h2 : (o && !bo) = false) : tev TP lk bo (.var i) τ s = .ok t s := by
  show (match τ[i]? with
    | some (some sv) => if isExnT sv.v = true ∨ (sv.own = true ∧ bo = false) then TR.no else .ok sv.v s
    | _ => .no) = _
  rw [e]
  show (if isExnT t = true ∨ (o = true ∧ bo = false) then TR.no else .ok t s) = _
  rw [if_neg]
  rw [h1]
  cases o <;> cases bo <;> simp_all
theorem v_con {w : W} {t : T} (e : wT w = some t) : tev TP lk bo (.con w) τ s = .ok t s := by
  show ofT (wT w) s = _
  rw [e]; rfl
theorem v_glb {x : Str} {w : W} {t : T} (e : TP.gl x = some w) (e2 : wT w = some t) : tev TP lk bo (.glb x) τ s = .ok t s := by
  show ofT ((TP.gl x).bind wT) s = _
  rw [e]
  show ofT (wT w) s = _
  rw [e2]; rfl
theorem v_bin {o : BO} {a b : E} {x y z : T} (ha : tev TP lk true a τ s = .ok x s1) (hb : tev TP lk true b τ s1 = .ok y s2) (h : binT o x y = some z) : tev TP lk bo (.bin o a b) τ s = .ok z s2 := by
  show ((tev TP lk true a τ s).bind fun x s1 => (tev TP lk true b τ s1).bind fun y s2 => ofT (binT o x y) s2) = _
  rw [ha]
  show ((tev TP lk true b τ s1).bind fun y s2 => ofT (binT o x y) s2) = _
  rw [hb]
  show ofT (binT o x y) s2 = _
  rw [h]; rfl
theorem v_cmp {o : CO} {a b : E} {x y : T} {z : Bool} (ha : tev TP lk true a τ s = .ok x s1) (hb : tev TP lk true b τ s1 = .ok y s2) (h : cmpT TP o x y = some z) : tev TP lk bo (.cmp o a b) τ s = .ok (.bl z) s2 := by
  show ((tev TP lk true a τ s).bind fun x s1 => (tev TP lk true b τ s1).bind fun y s2 => ofT ((cmpT TP o x y).map T.bl) s2) = _
  rw [ha]
  show ((tev TP lk true b τ s1).bind fun y s2 => ofT ((cmpT TP o x y).map T.bl) s2) = _
  rw [hb]
  show ofT ((cmpT TP o x y).map T.bl) s2 = _
  rw [h]; rfl
theorem v_cmp2 {o o' : CO} {a b c : E} {x y z : T} {p q : Bool} (ha : tev TP lk true a τ s = .ok x s1) (hb : tev TP lk true b τ s1 = .ok y s2) (hc : tev TP lk true c τ s2 = .ok z s2) (h : cmpT TP o x y = some p) (h' : cmpT TP o' y z = some q) : tev TP lk bo (.cmp2 o o' a b c) τ s = .ok (.bl (p && q)) s2 := by
  show ((tev TP lk true a τ s).bind fun x s1 => (tev TP lk true b τ s1).bind fun y s2 => match cmpT TP o x y with
    | some true => (tev TP lk true c τ s2).bind fun z s3 => ofT ((cmpT TP o' y z).map T.bl) s3
    | some false => .ok (.bl false) s2
    | none => .no) = _
  rw [ha]
  show ((tev TP lk true b τ s1).bind fun y s2 => match cmpT TP o x y with
    | some true => (tev TP lk true c τ s2).bind fun z s3 => ofT ((cmpT TP o' y z).map T.bl) s3
    | some false => .ok (.bl false) s2
    | none => .no) = _
  rw [hb]
  show (match cmpT TP o x y with
    | some true => (tev TP lk true c τ s2).bind fun z s3 => ofT ((cmpT TP o' y z).map T.bl) s3
    | some false => .ok (.bl false) s2
    | none => .no) = _
  rw [h]
  cases p
  · rfl
  · show ((tev TP lk true c τ s2).bind fun z s3 => ofT ((cmpT TP o' y z).map T.bl) s3) = _
    rw [hc]
    show ofT ((cmpT TP o' y z).map T.bl) s2 = _
    rw [h']; rfl
theorem v_and_t {a b : E} {x : T} {r : TR T} (ha : tev TP lk bo a τ s = .ok x s1) (ht : truT TP lk x = some true) (hb : tev TP lk bo b τ s1 = r) : tev TP lk bo (.and a b) τ s = r := by
  show ((tev TP lk bo a τ s).bind fun x s1 => match truT TP lk x with
    | some true => tev TP lk bo b τ s1
    | some false => .ok x s1
    | none => .no) = _
  rw [ha]
  show (match truT TP lk x with
    | some true => tev TP lk bo b τ s1
    | some false => .ok x s1
    | none => .no) = _
  rw [ht]; exact hb
theorem v_and_f {a b : E} {x : T} (ha : tev TP lk bo a τ s = .ok x s1) (ht : truT TP lk x = some false) : tev TP lk bo (.and a b) τ s = .ok x s1 := by
  show ((tev TP lk bo a τ s).bind fun x s1 => match truT TP lk x with
    | some true => tev TP lk bo b τ s1
    | some false => .ok x s1
    | none => .no) = _
  rw [ha]
  show (match truT TP lk x with
    | some true => tev TP lk bo b τ s1
    | some false => .ok x s1
    | none => .no) = _
  rw [ht]
theorem v_and {a b : E} {x y : Bool} (ha : tev TP lk bo a τ s = .ok (.bl x) s) (hb : x = true → tev TP lk bo b τ s = .ok (.bl y) s) : tev TP lk bo (.and a b) τ s = .ok (.bl (x && y)) s := by
  cases x
  · exact v_and_f ha rfl
  · exact v_and_t ha rfl (hb rfl)
theorem v_or_t {a b : E} {x : T} (ha : tev TP lk bo a τ s = .ok x s1) (ht : truT TP lk x = some true) : tev TP lk bo (.or a b) τ s = .ok x s1 := by
  show ((tev TP lk bo a τ s).bind fun x s1 => match truT TP lk x with
    | some true => .ok x s1
    | some false => tev TP lk bo b τ s1
    | none => .no) = _
  rw [ha]
  show (match truT TP lk x with
    | some true => TR.ok x s1
    | some false => tev TP lk bo b τ s1
    | none => .no) = _
  rw [ht]
theorem v_or_f {a b : E} {x : T} {r : TR T} (ha : tev TP lk bo a τ s = .ok x s1) (ht : truT TP lk x = some false) (hb : tev TP lk bo b τ s1 = r) : tev TP lk bo (.or a b) τ s = r := by
  show ((tev TP lk bo a τ s).bind fun x s1 => match truT TP lk x with
    | some true => .ok x s1
    | some false => tev TP lk bo b τ s1
    | none => .no) = _
  rw [ha]
  show (match truT TP lk x with
    | some true => TR.ok x s1
    | some false => tev TP lk bo b τ s1
    | none => .no) = _
  rw [ht]; exact hb
theorem v_or {a b : E} {x y : Bool} (ha : tev TP lk bo a τ s = .ok (.bl x) s) (hb : x = false → tev TP lk bo b τ s = .ok (.bl y) s) : tev TP lk bo (.or a b) τ s = .ok (.bl (x || y)) s := by
  cases x
  · exact v_or_f ha rfl (hb rfl)
  · exact v_or_t ha rfl
theorem v_not {a : E} {x : T} {b : Bool} (ha : tev TP lk true a τ s = .ok x s1) (ht : truT TP lk x = some b) : tev TP lk bo (.not a) τ s = .ok (.bl (!b)) s1 := by
  show ((tev TP lk true a τ s).bind fun x s1 => (ofT (truT TP lk x) s1).bind fun b s2 => .ok (T.bl (!b)) s2) = _
  rw [ha]
  show ((ofT (truT TP lk x) s1).bind fun b s2 => TR.ok (T.bl (!b)) s2) = _
  rw [ht]; rfl
theorem v_neg {a : E} {i : Int} (ha : tev TP lk true a τ s = .ok (.int i) s1) : tev TP lk bo (.neg a) τ s = .ok (.int (-i)) s1 := by
  show ((tev TP lk true a τ s).bind fun x s1 => match x with
    | .int i => .ok (T.int (-i)) s1
    | _ => .no) = _
  rw [ha]
theorem v_ite {c a b : E} {x : T} {t : Bool} {r : TR T} (hc : tev TP lk true c τ s = .ok x s1) (ht : truT TP lk x = some t) (hr : (if t = true then tev TP lk bo a τ s1 else tev TP lk bo b τ s1) = r) : tev TP lk bo (.ite c a b) τ s = r := by
  show ((tev TP lk true c τ s).bind fun x s1 => match truT TP lk x with
    | some true => tev TP lk bo a τ s1
    | some false => tev TP lk bo b τ s1
    | none => .no) = _
  rw [hc]
  show (match truT TP lk x with
    | some true => tev TP lk bo a τ s1
    | some false => tev TP lk bo b τ s1
    | none => .no) = _
  rw [ht]
  cases t <;> exact hr
theorem v_call {f : Str} {as : List E} {ts : List T} {r : TR T} (ha : tevs TP lk false as τ s = .ok ts s1) (hr : TP.cl (Str.ofString "", f) ts lk s1 = r) : tev TP lk bo (.call f as) τ s = r := by
  show ((tevs TP lk false as τ s).bind fun ts s1 => TP.cl (Str.ofString "", f) ts lk s1) = _
  rw [ha]; exact hr
theorem v_blt {f : BF} {as : List E} {ts : List T} {z : T} (ha : tevs TP lk true as τ s = .ok ts s1) (h : bltT TP lk f ts = some z) : tev TP lk bo (.blt f as) τ s = .ok z s1 := by
  show ((tevs TP lk true as τ s).bind fun ts s1 => ofT (bltT TP lk f ts) s1) = _
  rw [ha]
  show ofT (bltT TP lk f ts) s1 = _
  rw [h]; rfl
theorem v_isa {a : E} {c : Ty} {x : T} {t : Ty} {b : Bool} (ha : tev TP lk true a τ s = .ok x s1) (ht : tyT s1 x = some t) (hb : TP.isT t c = some b) : tev TP lk bo (.isa a c) τ s = .ok (.bl b) s1 := by
  show ((tev TP lk true a τ s).bind fun x s1 => ofT (((tyT s1 x).bind fun t => TP.isT t c).map T.bl) s1) = _
  rw [ha]
  show ofT (((tyT s1 x).bind fun t => TP.isT t c).map T.bl) s1 = _
  rw [ht]
  show ofT ((TP.isT t c).map T.bl) s1 = _
  rw [hb]; rfl
theorem v_idx {o i : E} {x y z : T} (ha : tev TP lk true o τ s = .ok x s1) (hb : tev TP lk true i τ s1 = .ok y s2) (h : idxT TP x y = some z) : tev TP lk bo (.idx o i) τ s = .ok z s2 := by
  show ((tev TP lk true o τ s).bind fun x s1 => (tev TP lk true i τ s1).bind fun y s2 => ofT (idxT TP x y) s2) = _
  rw [ha]
  show ((tev TP lk true i τ s1).bind fun y s2 => ofT (idxT TP x y) s2) = _
  rw [hb]
  show ofT (idxT TP x y) s2 = _
  rw [h]; rfl
theorem w_nil : tevs TP lk bo [] τ s = .ok [] s := rfl
theorem w_cons {e : E} {es : List E} {x : T} {xs : List T} (hs : isStarE e = false) (ha : tev TP lk bo e τ s = .ok x s1) (hb : tevs TP lk bo es τ s1 = .ok xs s2) : tevs TP lk bo (e :: es) τ s = .ok (x :: xs) s2 := by
  have : tevs TP lk bo (e :: es) τ s = ((tev TP lk bo e τ s).bind fun x s1 => TR.ok [x] s1).bind fun xs s1 => (tevs TP lk bo es τ s1).bind fun ys s2 => .ok (xs ++ ys) s2 := by
    cases e <;> first | rfl | (cases hs)
  rw [this, ha]
  show ((tevs TP lk bo es τ s1).bind fun ys s2 => TR.ok ([x] ++ ys) s2) = _
  rw [hb]; rfl
theorem w_star {a : E} {es : List E} {x : T} {ys xs : List T} (ha : tev TP lk true a τ s = .ok x s1) (hx : starT TP x = some ys) (hb : tevs TP lk bo es τ s1 = .ok xs s2) : tevs TP lk bo (.star a :: es) τ s = .ok (ys ++ xs) s2 := by
  show (((tev TP lk true a τ s).bind fun x s1 => ofT (starT TP x) s1).bind fun xs s1 => (tevs TP lk bo es τ s1).bind fun ys s2 => .ok (xs ++ ys) s2) = _
  rw [ha]
  show ((ofT (starT TP x) s1).bind fun xs s1 => (tevs TP lk bo es τ s1).bind fun ys s2 => TR.ok (xs ++ ys) s2) = _
  rw [hx]
  show ((tevs TP lk bo es τ s1).bind fun zs s2 => TR.ok (ys ++ zs) s2) = _
  rw [hb]
theorem v_tup {as : List E} {ts : List T} (ha : tevs TP lk false as τ s = .ok ts s1) (hl : ts.length ≤ lim) : tev TP lk bo (.tup as) τ s = .ok (.tup ts) s1 := by
  show ((tevs TP lk false as τ s).bind fun ts s1 => if ts.length ≤ lim then TR.ok (T.tup ts) s1 else .no) = _
  rw [ha]; exact if_pos hl
theorem v_lst {as : List E} {ts : List T} (ha : tevs TP lk false as τ s = .ok ts s1) (hl : ts.length ≤ lim) : tev TP lk bo (.lst as) τ s = .ok (.lst ts) s1 := by
  show ((tevs TP lk false as τ s).bind fun ts s1 => if ts.length ≤ lim then TR.ok (T.lst ts) s1 else .no) = _
  rw [ha]; exact if_pos hl
theorem v_setOf {a : E} {x z : T} (ha : tev TP lk true a τ s = .ok x s1) (h : setT x = some z) : tev TP lk bo (.setOf a) τ s = .ok z s1 := by
  show ((tev TP lk true a τ s).bind fun x s1 => ofT (setT x) s1) = _
  rw [ha]
  show ofT (setT x) s1 = _
  rw [h]; rfl
theorem v_rev {a : E} {ts : List T} (ha : tev TP lk true a τ s = .ok (.lst ts) s1) : tev TP lk bo (.rev a) τ s = .ok (.lst ts.reverse) s1 := by
  show ((tev TP lk true a τ s).bind fun x s1 => match x with
    | .lst ts => TR.ok (T.lst ts.reverse) s1
    | _ => .no) = _
  rw [ha]
/-- the turn of a list's comprehension -/
def turnL (TP : Tg0) (lk : Bool) (vx : E) (tg : Tg) (ifs : List E) (own : List Nat) (τ : Tl) : T → Om → TR (Option T) := fun x s => match stTT TP tg x (wipeT τ own) with
  | none => .no
  | some τ' => (tevC TP lk ifs τ' s).bind fun b s1 => if b = true then (tev TP lk false vx τ' s1).bind fun y s2 => .ok (some y) s2 else .ok none s1
def turnD (TP : Tg0) (lk : Bool) (kx vx : E) (tg : Tg) (ifs : List E) (own : List Nat) (τ : Tl) : T → Om → TR (Option (Key × T)) := fun x s => match stTT TP tg x (wipeT τ own) with
  | none => .no
  | some τ' => (tevC TP lk ifs τ' s).bind fun b s1 => if b = true then (tev TP lk false kx τ' s1).bind fun y s2 => (tev TP lk false vx τ' s2).bind fun z s3 => match keyT y with
      | some k => .ok (some (k, z)) s3
      | none => .no
    else .ok none s1
theorem v_cp {kx vx it : E} {tg : Tg} {ifs : List E} {own : List Nat} {xs : List T × Bool} {ys : List T} (hi : tevI TP lk true it τ s = .ok xs s1) (hl : xs.1.length < TP.fu) (hc : cpL (turnL TP (lk || xs.2) vx tg ifs own τ) xs.1 s1 = .ok ys s2) : tev TP lk bo (.cp false kx vx tg it ifs own) τ s = .ok (.lst ys) s2 := by
  show ((tevI TP lk true it τ s).bind fun xs s1 => if xs.1.length < TP.fu then ((cpL (turnL TP (lk || xs.2) vx tg ifs own τ) xs.1 s1).bind fun ys s2 => TR.ok (T.lst ys) s2) else .no) = _
  rw [hi]
  show (if xs.1.length < TP.fu then ((cpL (turnL TP (lk || xs.2) vx tg ifs own τ) xs.1 s1).bind fun ys s2 => TR.ok (T.lst ys) s2) else .no) = _
  rw [if_pos hl, hc]
theorem v_cpD {kx vx it : E} {tg : Tg} {ifs : List E} {own : List Nat} {xs : List T × Bool} {ys : List (Key × T)} (hi : tevI TP lk true it τ s = .ok xs s1) (hl : xs.1.length < TP.fu) (hc : cpL (turnD TP (lk || xs.2) kx vx tg ifs own τ) xs.1 s1 = .ok ys s2) : tev TP lk bo (.cp true kx vx tg it ifs own) τ s = .ok (.dic (mkD [] ys)) s2 := by
  show ((tevI TP lk true it τ s).bind fun xs s1 => if xs.1.length < TP.fu then ((cpL (turnD TP (lk || xs.2) kx vx tg ifs own τ) xs.1 s1).bind fun kvs s2 => TR.ok (T.dic (mkD [] kvs)) s2) else .no) = _
  rw [hi]
  show (if xs.1.length < TP.fu then ((cpL (turnD TP (lk || xs.2) kx vx tg ifs own τ) xs.1 s1).bind fun kvs s2 => TR.ok (T.dic (mkD [] kvs)) s2) else .no) = _
  rw [if_pos hl, hc]
theorem turnL_ok {vx : E} {tg : Tg} {own : List Nat} {x y : T} (h1 : stTT TP tg x (wipeT τ own) = some τ1) (hv : tev TP lk false vx τ1 s = .ok y s1) : turnL TP lk vx tg [] own τ x s = .ok (some y) s1 := by
  show (match stTT TP tg x (wipeT τ own) with
    | none => TR.no
    | some τ' => (tev TP lk false vx τ' s).bind fun y s2 => .ok (some y) s2) = _
  rw [h1]
  show ((tev TP lk false vx τ1 s).bind fun y s2 => TR.ok (some y) s2) = _
  rw [hv]
/-- with one condition -/
theorem turnL_if {c vx : E} {tg : Tg} {own : List Nat} {x y : T} {b : Bool} (h1 : stTT TP tg x (wipeT τ own) = some τ1) (hc : tev TP lk true c τ1 s = .ok (.bl b) s) (hv : b = true → tev TP lk false vx τ1 s = .ok y s) : turnL TP lk vx tg [c] own τ x s = .ok (if b = true then some y else none) s := by
  show (match stTT TP tg x (wipeT τ own) with
    | none => TR.no
    | some τ' => (((tev TP lk true c τ' s).bind fun x s1 => match truT TP lk x with
    | some true => TR.ok true s1
    | some false => .ok false s1
    | none => .no)).bind fun b s1 => if b = true then (tev TP lk false vx τ' s1).bind fun y s2 => .ok (some y) s2 else .ok none s1) = _
  rw [h1]
  show ((((tev TP lk true c τ1 s).bind fun x s1 => match truT TP lk x with
    | some true => TR.ok true s1
    | some false => .ok false s1
    | none => .no)).bind fun b s1 => if b = true then (tev TP lk false vx τ1 s1).bind fun y s2 => TR.ok (some y) s2 else .ok none s1) = _
  rw [hc]
  cases b
  · rfl
  · show ((tev TP lk false vx τ1 s).bind fun y s2 => TR.ok (some y) s2) = _
    rw [hv rfl]; rfl
theorem turnD_if {c kx vx : E} {tg : Tg} {own : List Nat} {x z : T} {k : Key} {y : T} {b : Bool} (h1 : stTT TP tg x (wipeT τ own) = some τ1) (hc : tev TP lk true c τ1 s = .ok (.bl b) s) (hk : b = true → tev TP lk false kx τ1 s = .ok y s) (hv : b = true → tev TP lk false vx τ1 s = .ok z s) (hky : b = true → keyT y = some k) : turnD TP lk kx vx tg [c] own τ x s = .ok (if b = true then some (k, z) else none) s := by
  show (match stTT TP tg x (wipeT τ own) with
    | none => TR.no
    | some τ' => (((tev TP lk true c τ' s).bind fun x s1 => match truT TP lk x with
    | some true => TR.ok true s1
    | some false => .ok false s1
    | none => .no)).bind fun b s1 => if b = true then (tev TP lk false kx τ' s1).bind fun y s2 => (tev TP lk false vx τ' s2).bind fun z s3 => match keyT y with
      | some k => .ok (some (k, z)) s3
      | none => .no
     else .ok none s1) = _
  rw [h1]
  show ((((tev TP lk true c τ1 s).bind fun x s1 => match truT TP lk x with
    | some true => TR.ok true s1
    | some false => .ok false s1
    | none => .no)).bind fun b s1 => if b = true then (tev TP lk false kx τ1 s1).bind fun y s2 => (tev TP lk false vx τ1 s2).bind fun z s3 => match keyT y with
      | some k => TR.ok (some (k, z)) s3
      | none => .no
     else .ok none s1) = _
  rw [hc]
  cases b
  · rfl
  · show ((tev TP lk false kx τ1 s).bind fun y s2 => (tev TP lk false vx τ1 s2).bind fun z s3 => match keyT y with
      | some k => TR.ok (some (k, z)) s3
      | none => .no) = _
    rw [hk rfl]
    show ((tev TP lk false vx τ1 s).bind fun z s3 => match keyT y with
      | some k => TR.ok (some (k, z)) s3
      | none => .no) = _
    rw [hv rfl]
    show (match keyT y with
      | some k => TR.ok (some (k, z)) s
      | none => .no) = _
    rw [hky rfl]; rfl
/-- turns that change nothing, some of which give nothing -/
theorem cpL_opt {α : Type} {turn : T → Om → TR (Option α)} {g : T → Option α} : ∀ {xs : List T}, (∀ x ∈ xs, turn x s = .ok (g x) s) → cpL turn xs s = .ok (xs.filterMap g) s
  | [], _ => rfl
  | x :: xs, hx => by
    show (match turn x s with
      | .ok y s1 => (match cpL turn xs s1 with
        | .ok ys s2 => TR.ok (match y with
          | some y => y :: ys
          | none => ys) s2
        | _ => TR.no)
      | _ => TR.no) = _
    rw [hx x (List.mem_cons_self ..)]
    show (match cpL turn xs s with
        | .ok ys s2 => TR.ok (match g x with
          | some y => y :: ys
          | none => ys) s2
        | _ => TR.no) = _
    rw [cpL_opt fun y hy => hx y (List.mem_cons_of_mem _ hy)]
    show TR.ok (match g x with
          | some y => y :: xs.filterMap g
          | none => xs.filterMap g) s = _
    rw [List.filterMap_cons]
    cases g x <;> rfl
/-! ### what is walked -/
theorem vi_seq {a : E} {x : T} {xs : List T × Bool} (ha : tev TP lk bo a τ s = .ok x s1) (h : seqT TP lk x = some xs) : tevI TP lk bo (.seq a) τ s = .ok xs s1 := by
  show ((tev TP lk bo a τ s).bind fun x s1 => ofT (seqT TP lk x) s1) = _
  rw [ha]
  show ofT (seqT TP lk x) s1 = _
  rw [h]; rfl
theorem vi_enum {a : E} {x : T} {xs : List T × Bool} (ha : tev TP lk bo a τ s = .ok x s1) (h : enumT TP x = some xs) : tevI TP lk bo (.enum a) τ s = .ok xs s1 := by
  show ((tev TP lk bo a τ s).bind fun x s1 => ofT (enumT TP x) s1) = _
  rw [ha]
  show ofT (enumT TP x) s1 = _
  rw [h]; rfl
theorem vi_rng {a : E} {x : T} {xs : List T × Bool} (ha : tev TP lk true a τ s = .ok x s1) (h : rng1 x = some xs) : tevI TP lk bo (.rng a) τ s = .ok xs s1 := by
  show ((tev TP lk true a τ s).bind fun x s1 => ofT (rng1 x) s1) = _
  rw [ha]
  show ofT (rng1 x) s1 = _
  rw [h]; rfl
/-! ### statements -/
theorem x_nil : texs TP lk [] τ s = .nx τ s := rfl
theorem x_cons {c : S} {r : List S} {o : TO} (h : tex TP lk c τ s = .nx τ1 s1) (h2 : texs TP lk r τ1 s1 = o) : texs TP lk (c :: r) τ s = o := by
  show (match tex TP lk c τ s with
    | .nx τ' s' => texs TP lk r τ' s'
    | o => o) = _
  rw [h]; exact h2
theorem x_rt {c : S} {r : List S} {t : T} (h : tex TP lk c τ s = .rt t s1) : texs TP lk (c :: r) τ s = .rt t s1 := by
  show (match tex TP lk c τ s with
    | .nx τ' s' => texs TP lk r τ' s'
    | o => o) = _
  rw [h]
theorem x_ex {c : S} {r : List S} {k : Str} {fs : List (Str × T)} (h : tex TP lk c τ s = .ex k fs τ1 s1) : texs TP lk (c :: r) τ s = .ex k fs τ1 s1 := by
  show (match tex TP lk c τ s with
    | .nx τ' s' => texs TP lk r τ' s'
    | o => o) = _
  rw [h]
theorem texE_asg {t : Tg} {e : E} (hb : isBmE e = false) : tex TP lk (.asg t e) τ s = (tev TP lk false e (rel τ (keeps e)) s).go (rel τ (keeps e)) fun v s1 => match t with
      | .nm i => .nx ((rel τ (keeps e)).set i (some ⟨v, freshE e && isMutT v⟩)) s1
      | t => (match stTT TP t v (rel τ (keeps e)) with
        | some τ' => .nx τ' s1
        | none => .no) := by
  cases e <;> first | rfl | (cases hb)
theorem x_asg {i : Nat} {e : E} {v : T} (hb : isBmE e = false) (hr : rel τ (kB false e) = τ1) (he : tev TP lk false e τ1 s = .ok v s1) (h2 : τ1.set i (some ⟨v, freshE e && isMutT v⟩) = τ2) : tex TP lk (.asg (.nm i) e) τ s = .nx τ2 s1 := by
  rw [← (kB_ok e).1] at hr
  rw [texE_asg hb, hr, he, ← h2]
theorem x_asgT {gs : List Tg} {e : E} {v : T} (hb : isBmE e = false) (hr : rel τ (kB false e) = τ1) (he : tev TP lk false e τ1 s = .ok v s1) (h2 : stTT TP (.tup gs) v τ1 = some τ2) : tex TP lk (.asg (.tup gs) e) τ s = .nx τ2 s1 := by
  rw [← (kB_ok e).1] at hr
  rw [texE_asg hb, hr, he]
  show (match stTT TP (.tup gs) v τ1 with
        | some τ' => TO.nx τ' s1
        | none => .no) = _
  rw [h2]
theorem texE_exp {e : E} (hb : isBmE e = false) : tex TP lk (.exp e) τ s = (tev TP lk false e (rel τ (keeps e)) s).go (rel τ (keeps e)) fun _ s1 => .nx (rel τ (keeps e)) s1 := by
  cases e <;> first | rfl | (cases hb)
theorem x_exp {e : E} {v : T} (hb : isBmE e = false) (hr : rel τ (kB false e) = τ1) (he : tev TP lk false e τ1 s = .ok v s1) : tex TP lk (.exp e) τ s = .nx τ1 s1 := by
  rw [← (kB_ok e).1] at hr
  rw [texE_exp hb, hr, he]
theorem x_expX {e : E} {k : Str} {fs : List (Str × T)} (hb : isBmE e = false) (hr : rel τ (kB false e) = τ1) (he : tev TP lk false e τ1 s = .ex k fs s1) : tex TP lk (.exp e) τ s = .ex k fs τ1 s1 := by
  rw [← (kB_ok e).1] at hr
  rw [texE_exp hb, hr, he]
theorem x_ret {e : E} {v : T} (hr : relAll τ = τ1) (he : tev TP lk false e τ1 s = .ok v s1) : tex TP lk (.ret e) τ s = .rt v s1 := by
  show (tev TP lk false e (relAll τ) s).go (relAll τ) (fun t s1 => TO.rt t s1) = _
  rw [hr, he]
theorem x_if {c : E} {a b : List S} {x : T} {t : Bool} {o : TO} (hr : rel τ (kB true c) = τ1) (hc : tev TP lk true c τ1 s = .ok x s1) (ht : truT TP lk x = some t) (ho : (if t = true then texs TP lk a τ1 s1 else texs TP lk b τ1 s1) = o) : tex TP lk (.ite c a b) τ s = o := by
  rw [← (kB_ok c).2] at hr
  show (tev TP lk true c (rel τ (looks c)) s).go (rel τ (looks c)) (fun x s1 => match truT TP lk x with
    | some true => texs TP lk a (rel τ (looks c)) s1
    | some false => texs TP lk b (rel τ (looks c)) s1
    | none => TO.no) = _
  rw [hr, hc]
  show (match truT TP lk x with
    | some true => texs TP lk a τ1 s1
    | some false => texs TP lk b τ1 s1
    | none => TO.no) = _
  rw [ht]
  cases t <;> exact ho
/-- a walk's turn -/
def turnF (TP : Tg0) (lk : Bool) (t : Tg) (b : List S) : T → Tl → Om → TO := fun x τ' s => match stTT TP t x τ' with
  | some τ'' => texs TP lk b τ'' s
  | none => .no
theorem x_frr {t : Tg} {it : E} {b : List S} {xs : List T × Bool} {o : TO} (hr : rel τ (kI it) = τ1) (hi : tevI TP lk false it τ1 s = .ok xs s1) (hl : xs.1.length < TP.fu) (ho : dicO xs.2 (frT (turnF TP (lk || xs.2) t b) xs.1 τ1 s1) = o) : tex TP lk (.frr t it b) τ s = o := by
  rw [← kI_ok] at hr
  show (tevI TP lk false it (rel τ (keepI it)) s).go (rel τ (keepI it)) (fun xs s1 => if xs.1.length < TP.fu then dicO xs.2 (frT (turnF TP (lk || xs.2) t b) xs.1 (rel τ (keepI it)) s1) else TO.no) = _
  rw [hr, hi]
  show (if xs.1.length < TP.fu then dicO xs.2 (frT (turnF TP (lk || xs.2) t b) xs.1 τ1 s1) else TO.no) = _
  rw [if_pos hl]; exact ho
theorem tF {t : Tg} {b : List S} {x : T} (h : stTT TP t x τ = some τ1) : turnF TP lk t b x τ s = texs TP lk b τ1 s := by
  show (match stTT TP t x τ with
  | some τ'' => texs TP lk b τ'' s
  | none => .no) = _
  rw [h]
theorem f_cons {turn : T → Tl → Om → TO} {x : T} {xs : List T} (h : turn x τ s = .nx τ1 s1) : frT turn (x :: xs) τ s = frT turn xs τ1 s1 := by
  show bodyT (turn x τ s) (frT turn xs) = _
  rw [h]; rfl
theorem f_rt {turn : T → Tl → Om → TO} {x : T} {xs : List T} {t : T} (h : turn x τ s = .rt t s1) : frT turn (x :: xs) τ s = .rt t s1 := by
  show bodyT (turn x τ s) (frT turn xs) = _
  rw [h]; rfl
theorem x_rse {c : Str} {as : List E} {fs : List Str} {ts : List T} (hf : TP.exf c = some fs) (hr : rel τ (kBs false as) = τ1) (ha : tevs TP lk false as τ1 s = .ok ts s1) (hl : fs.length = ts.length) : tex TP lk (.rse c as) τ s = .ex c (fs.zip ts).reverse τ1 s1 := by
  rw [← (kBs_ok as).1] at hr
  show (match TP.exf c with
    | some fs => (tevs TP lk false as (rel τ (keepss as)) s).go (rel τ (keepss as)) fun ts s1 => if fs.length = ts.length then TO.ex c (fs.zip ts).reverse (rel τ (keepss as)) s1 else .no
    | none => .no) = _
  rw [hf, hr]
  show (tevs TP lk false as τ1 s).go τ1 (fun ts s1 => if fs.length = ts.length then TO.ex c (fs.zip ts).reverse τ1 s1 else .no) = _
  rw [ha]
  show (if fs.length = ts.length then TO.ex c (fs.zip ts).reverse τ1 s1 else .no) = _
  rw [if_pos hl]
def outT : TO → TR T
  | .nx _ s' => .ok .non s'
  | .rt t s' => .ok t s'
  | .ex c fs _ s' => .ex c fs s'
  | _ => .no
theorem runT_of {d : Df} {ts : List T} {o : TO} (hl : ts.length = d.np) (h : texs TP lk d.body (ts.map (fun t => some ⟨t, false⟩) ++ List.replicate (d.nn - d.np) none) s = o) : runT TP d ts lk s = outT o := by
  unfold runT
  rw [if_pos hl, h]
  cases o <;> rfl
end
/-- a def of p, called -/
theorem tcl_fn {p : Prog} {k : Nat} {f : Str} {c : Str} {d : Df} {ts : List T} {lk : Bool} {s : Om} {o : TO} (hp : prP p (c, f) ts s = none) (hf : p.fn (c, f) = some d) (hl : ts.length = d.np) (h : texs (p.tg (p.tcl (prP p) k)) lk d.body (ts.map (fun t => some ⟨t, false⟩) ++ List.replicate (d.nn - d.np) none) s = o) : (p.tg (p.tcl (prP p) (k + 1))).cl (c, f) ts lk s = outT o := by
  show (match prP p (c, f) ts s with
    | some r => r
    | none => match p.fn (c, f) with
      | some d => runT (p.tg (p.tcl (prP p) k)) d ts lk s
      | none => .no) = _
  rw [hp, hf]
  exact runT_of hl h
end MP

set_option Elab.async false
set_option linter.all false
set_option maxRecDepth 100000
/-! MP: a flow's rows as values. -/
namespace MP
open PySem L2
structure Rw where
  k : Str
  nm : Str
  ins : List Str
  outs : List Str
  home : Str
  gd : Str
def Rw.t (r : Rw) : T := .tup [.str r.k, .str r.nm, .tup (r.ins.map .str), .tup (r.outs.map .str), .str r.home, .str r.gd]
abbrev stL (xs : List Str) : List T := xs.map T.str
/-! ### as data -/
def Rw.ok (r : Rw) : Prop := PyData.strOk r.k = true ∧ PyData.strOk r.nm = true ∧ (∀ x ∈ r.ins, PyData.strOk x = true) ∧ (∀ x ∈ r.outs, PyData.strOk x = true) ∧ PyData.strOk r.home = true ∧ PyData.strOk r.gd = true
def Rw.d (r : Rw) : PyData := .tuple [.str r.k, .str r.nm, .tuple (r.ins.map .str), .tuple (r.outs.map .str), .str r.home, .str r.gd]
theorem dat_str (d : Nat) (x : Str) : datT d (.str x) = some (.str x) := by cases d <;> rfl
theorem dat_int (d : Nat) (x : Int) : datT d (.int x) = some (.int x) := by cases d <;> rfl
theorem mapM_map {α β γ : Type} (f : β → Option γ) (g : α → β) (k : α → γ) (h : ∀ a, f (g a) = some (k a)) : ∀ xs : List α, (xs.map g).mapM f = some (xs.map k)
  | [] => rfl
  | x :: xs => by
    rw [List.map_cons, List.mapM_cons, h, mapM_map f g k h xs]
    rfl
theorem dat_strs (d : Nat) (xs : List Str) : (stL xs).mapM (datT d) = some (xs.map PyData.str) := mapM_map _ _ _ (dat_str d) xs
theorem dat_tup (d : Nat) (xs : List Str) : datT (d + 1) (.tup (stL xs)) = some (.tuple (xs.map .str)) := by
  show ((stL xs).mapM (datT d)).map PyData.tuple = _
  rw [dat_strs]; rfl
theorem dat_row (d : Nat) (r : Rw) : datT (d + 2) r.t = some r.d := by
  show (([T.str r.k, .str r.nm, .tup (stL r.ins), .tup (stL r.outs), .str r.home, .str r.gd]).mapM (datT (d + 1))).map PyData.tuple = _
  rw [List.mapM_cons, List.mapM_cons, List.mapM_cons, List.mapM_cons, List.mapM_cons, List.mapM_cons, List.mapM_nil, dat_str, dat_str, dat_str, dat_str, dat_tup, dat_tup]
  rfl
theorem dat_rows (d : Nat) (rs : List Rw) : datT (d + 3) (.lst (rs.map Rw.t)) = some (.list (rs.map Rw.d)) := by
  show ((rs.map Rw.t).mapM (datT (d + 2))).map PyData.list = _
  rw [mapM_map _ _ _ (dat_row d)]; rfl
theorem lay_strs : ∀ {xs : List Str}, (∀ x ∈ xs, PyData.strOk x = true) → PyData.canLayAll0 (xs.map .str) = true
  | [], _ => rfl
  | x :: xs, h => by
    show (PyData.canLay0 (.str x) && PyData.canLayAll0 (xs.map .str)) = true
    rw [lay_strs fun y hy => h y (List.mem_cons_of_mem _ hy)]
    have := h x (List.mem_cons_self ..)
    simp only [PyData.canLay0]
    rw [this]; rfl
theorem lay_row {r : Rw} (h : r.ok) : PyData.canLay0 r.d = true := by
  obtain ⟨h1, h2, h3, h4, h5, h6⟩ := h
  unfold Rw.d
  simp only [PyData.canLay0, PyData.canLayAll0, lay_strs h3, lay_strs h4, Bool.and_true, Bool.true_and]
  rw [h1, h2, h5, h6]; rfl
theorem lay_rows : ∀ {rs : List Rw}, (∀ r ∈ rs, r.ok) → PyData.canLayAll0 (rs.map Rw.d) = true
  | [], _ => rfl
  | r :: rs, h => by
    show (PyData.canLay0 r.d && PyData.canLayAll0 (rs.map Rw.d)) = true
    rw [lay_rows fun y hy => h y (List.mem_cons_of_mem _ hy), lay_row (h r (List.mem_cons_self ..))]; rfl
/-! ### depths -/
theorem dep_strs : ∀ xs : List Str, PyData.depthAll (xs.map .str) = 0
  | [] => by simp only [List.map_nil, PyData.depthAll]
  | x :: xs => by simp only [List.map_cons, PyData.depthAll, PyData.depth, dep_strs xs, Nat.max_self]
theorem dep_row (r : Rw) : PyData.depth r.d = 2 := by
  unfold Rw.d
  simp only [PyData.depth, PyData.depthAll, dep_strs]
  rfl
theorem dep_rows : ∀ rs : List Rw, PyData.depthAll (rs.map Rw.d) ≤ 2
  | [] => by simp only [List.map_nil, PyData.depthAll]; omega
  | r :: rs => by
    have := dep_rows rs
    simp only [List.map_cons, PyData.depthAll, dep_row]
    omega
theorem shaped_rows {rs : List Rw} (h : ∀ r ∈ rs, r.ok) : SeqAt.shaped (.list (rs.map Rw.d)) = true := by
  have := dep_rows rs
  unfold SeqAt.shaped
  simp only [PyData.canLay0, PyData.depth, lay_rows h, Bool.true_and]
  exact decide_eq_true (by omega)
abbrev rowsT (rs : List Rw) : T := .lst (rs.map Rw.t)
theorem fl_lst (ts : List T) : flT (.lst ts) = none := rfl
theorem fl_tup (ts : List T) : flT (.tup ts) = none := rfl
theorem eqT_D {x y : T} {a b : PyData} (hx : flT x = none) (ha : datT 60 x = some a) (hb : datT 60 y = some b) (sa : SeqAt.shaped a = true) (sb : SeqAt.shaped b = true) : eqT x y = some (PyData.eqv a b) := by
  have : eqT x y = eqDT x y := by
    unfold eqT
    rw [hx]
  rw [this]
  unfold eqDT
  rw [ha, hb]
  exact if_pos ⟨sa, sb⟩
theorem eq_rows_nil {r : Rw} {rs : List Rw} (h : ∀ x ∈ r :: rs, x.ok) : eqT (rowsT (r :: rs)) (.lst []) = some false :=
  (eqT_D rfl (dat_rows 57 (r :: rs)) (dat_rows 57 []) (shaped_rows h) (shaped_rows (rs := []) (fun _ z => nomatch z))).trans rfl
theorem eq_rows_self {rs : List Rw} (h : ∀ x ∈ rs, x.ok) : eqT (rowsT rs) (rowsT rs) = some true := by
  rw [eqT_D rfl (dat_rows 57 rs) (dat_rows 57 rs) (shaped_rows h) (shaped_rows h)]
  rw [SeqAt.eqv_refl _ (SeqAt.canLay_of_shaped (shaped_rows h))]
theorem eq_int2 (a b c d : Int) : eqT (.lst [.int a, .int b]) (.lst [.int c, .int d]) = some (decide (a = c) && decide (b = d)) := by
  have sh : ∀ x y : Int, SeqAt.shaped (.list [.int x, .int y]) = true := fun x y => rfl
  rw [eqT_D (a := .list [.int a, .int b]) (b := .list [.int c, .int d]) rfl rfl rfl (sh _ _) (sh _ _)]
  show some ((a == c) && ((b == d) && true)) = _
  rw [Bool.and_true]
  rfl
theorem shaped_str2 {a b : Str} (h1 : PyData.strOk a = true) (h2 : PyData.strOk b = true) : SeqAt.shaped (.tuple [.str a, .str b]) = true := by
  unfold SeqAt.shaped
  simp only [PyData.canLay0, PyData.canLayAll0, PyData.depth, PyData.depthAll]
  rw [h1, h2]; rfl
theorem eq_str2 {a b c d : Str} (h1 : PyData.strOk a = true) (h2 : PyData.strOk b = true) (h3 : PyData.strOk c = true) (h4 : PyData.strOk d = true) : eqT (.tup [.str a, .str b]) (.tup [.str c, .str d]) = some (decide (a = c) && decide (b = d)) := by
  rw [eqT_D (a := .tuple [.str a, .str b]) (b := .tuple [.str c, .str d]) rfl rfl rfl (shaped_str2 h1 h2) (shaped_str2 h3 h4)]
  show some ((a == c) && ((b == d) && true)) = _
  rw [Bool.and_true]
  rfl
end MP

set_option Elab.async false
set_option linter.all false
set_option maxRecDepth 100000
/-! MP: the defs, printed by pr05.lean. -/
namespace MP
open PySem L2
def d_scope_homes : Df := ⟨1, 3, [
    .ret (.cp true (.idx (.var 2) (.con (.int 1))) (.idx (.var 2) (.con (.int 4))) (.nm 2) (.seq (.var 0)) [(.cmp .eq (.idx (.var 2) (.con (.int 0))) (.con (.str "scope")))] [1, 2])]⟩
def d_is_name : Df := ⟨1, 3, [
    .ite (.or (.not (.isa (.var 0) (.bi "str"))) (.not (.cmp2 .le .le (.con (.int 1)) (.blt .len [(.var 0)]) (.con (.int 8))))) [.ret (.con (.bl false))] [],
    .ret (.blt .all [(.cp false (.con .non) (.cmp .inn (.var 2) (.glb "LETTERS")) (.nm 2) (.seq (.var 0)) [] [1, 2])])]⟩
def d_are_names : Df := ⟨1, 3, [
    .ret (.and (.isa (.var 0) (.bi "tuple")) (.blt .all [(.cp false (.con .non) (.call "is_name" [(.var 2)]) (.nm 2) (.seq (.var 0)) [] [1, 2])]))]⟩
def d_is_place : Df := ⟨1, 1, [
    .ret (.and (.isa (.var 0) (.bi "str")) (.or (.cmp .eq (.var 0) (.con (.str ""))) (.call "is_name" [(.var 0)])))]⟩
def d_is_kind : Df := ⟨1, 1, [
    .ret (.and (.isa (.var 0) (.bi "str")) (.cmp .inn (.var 0) (.glb "KINDS")))]⟩
def d_is_node : Df := ⟨1, 7, [
    .ite (.or (.not (.isa (.var 0) (.bi "tuple"))) (.cmp .ne (.blt .len [(.var 0)]) (.con (.int 6)))) [.ret (.con (.bl false))] [],
    .asg (.tup [(.nm 1), (.nm 2), (.nm 3), (.nm 4), (.nm 5), (.nm 6)]) (.var 0),
    .ite (.or (.not (.call "is_kind" [(.var 1)])) (.not (.call "is_name" [(.var 2)]))) [.ret (.con (.bl false))] [],
    .ret (.and (.call "are_names" [(.var 3)]) (.and (.call "are_names" [(.var 4)]) (.and (.call "is_place" [(.var 5)]) (.call "is_place" [(.var 6)]))))]⟩
def d_wrong_kind : Df := ⟨1, 11, [
    .frr (.tup [(.nm 1), (.nm 2), (.nm 3), (.nm 4), (.nm 5), (.nm 6)]) (.seq (.var 0)) [.asg (.tup [(.nm 7), (.nm 8), (.nm 9), (.nm 10)]) (.idx (.glb "KINDS") (.var 1)), .ite (.or (.not (.cmp2 .le .le (.var 7) (.blt .len [(.var 3)]) (.var 8))) (.not (.cmp2 .le .le (.var 9) (.blt .len [(.var 4)]) (.var 10)))) [.ret (.var 2)] [], .ite (.cmp .ne (.cmp .ne (.var 6) (.con (.str ""))) (.cmp .inn (.var 1) (.glb "GUARDS_names"))) [.ret (.var 2)] []],
    .ret (.con .non)]⟩
def d_wrong_name : Df := ⟨1, 3, [
    .asg (.nm 1) (.dsp [] []),
    .frr (.nm 2) (.seq (.var 0)) [.ite (.cmp .inn (.idx (.var 2) (.con (.int 1))) (.var 1)) [.ret (.idx (.var 2) (.con (.int 1)))] [], .asgS (.var 1) (.idx (.var 2) (.con (.int 1))) (.con (.bl true))],
    .ret (.con .non)]⟩
def d_wrong_home : Df := ⟨1, 8, [
    .asg (.nm 1) (.call "scope_homes" [(.var 0)]),
    .frr (.tup [(.nm 2), (.nm 3), (.nm 4), (.nm 5), (.nm 6), (.nm 7)]) (.seq (.var 0)) [.ite (.and (.cmp .ne (.var 6) (.con (.str ""))) (.cmp .nin (.var 6) (.var 1))) [.ret (.var 3)] [], .ite (.and (.cmp .inn (.var 2) (.glb "GUARDS_names")) (.or (.cmp .nin (.var 7) (.var 1)) (.cmp .ne (.idx (.var 1) (.var 7)) (.var 6)))) [.ret (.var 3)] [], .ite (.and (.cmp .eq (.var 2) (.con (.str "cancel"))) (.cmp .eq (.var 6) (.con (.str "")))) [.ret (.var 3)] []],
    .ret (.con .non)]⟩
def d_wrong_nest : Df := ⟨1, 5, [
    .asg (.nm 1) (.call "scope_homes" [(.var 0)]),
    .frr (.nm 2) (.seq (.var 1)) [.asg (.nm 3) (.con (.int 0)), .asg (.nm 4) (.var 2), .whl (.and (.cmp .ne (.var 4) (.con (.str ""))) (.cmp .le (.var 3) (.glb "DEPTH"))) [.asg (.nm 4) (.idx (.var 1) (.var 4)), .aug 3 .add (.con (.int 1))], .ite (.cmp .gt (.var 3) (.glb "DEPTH")) [.ret (.var 2)] []],
    .ret (.con .non)]⟩
def d_wrong_begin : Df := ⟨1, 5, [
    .asg (.nm 1) (.call "scope_homes" [(.var 0)]),
    .frr (.nm 2) (.seq (.lst [(.con (.str "")), (.star (.var 1))])) [.ite (.cmp .ne (.blt .len [(.cp false (.con .non) (.var 4) (.nm 4) (.seq (.var 0)) [(.and (.cmp .eq (.idx (.var 4) (.con (.int 0))) (.con (.str "begin"))) (.cmp .eq (.idx (.var 4) (.con (.int 4))) (.var 2)))] [3, 4])]) (.con (.int 1))) [.ret (.var 2)] []],
    .ret (.con .non)]⟩
def d_wrong_edge : Df := ⟨1, 8, [
    .asg (.nm 2) (.cp2 false (.con .non) (.var 1) (.nm 5) (.seq (.var 0)) [] (.nm 1) (.seq (.idx (.var 5) (.con (.int 2)))) [] [4, 5, 1] [1]),
    .asg (.nm 3) (.cp2 false (.con .non) (.var 1) (.nm 5) (.seq (.var 0)) [] (.nm 1) (.seq (.idx (.var 5) (.con (.int 3)))) [] [4, 5, 1] [1]),
    .frr (.nm 1) (.seq (.setOf (.bin .add (.var 2) (.var 3)))) [.ite (.cmp .ne (.cp false (.con .non) (.blt .len [(.cp false (.con .non) (.var 7) (.nm 7) (.seq (.var 6)) [(.cmp .eq (.var 7) (.var 1))] [4, 7])]) (.nm 6) (.seq (.tup [(.var 2), (.var 3)])) [] [4, 6]) (.lst [(.con (.int 1)), (.con (.int 1))])) [.ret (.var 1)] []],
    .ret (.con .non)]⟩
def d_refuse : Df := ⟨2, 2, [
    .ite (.cmp .isn (.var 0) (.con .non)) [.rse "InvalidFlow" [(.var 0), (.var 1)]] []]⟩
def d_check_nodes : Df := ⟨1, 3, [
    .ite (.or (.not (.isa (.var 0) (.bi "list"))) (.or (.cmp .eq (.var 0) (.lst [])) (.not (.blt .all [(.cp false (.con .non) (.call "is_node" [(.var 2)]) (.nm 2) (.seq (.var 0)) [] [1, 2])])))) [.rse "InvalidFlow" [(.con .non), (.con (.str "list"))]] [],
    .exp (.call "refuse" [(.call "wrong_kind" [(.var 0)]), (.con (.str "kind"))]),
    .exp (.call "refuse" [(.call "wrong_name" [(.var 0)]), (.con (.str "name"))]),
    .exp (.call "refuse" [(.call "wrong_home" [(.var 0)]), (.con (.str "home"))]),
    .exp (.call "refuse" [(.call "wrong_nest" [(.var 0)]), (.con (.str "nest"))]),
    .exp (.call "refuse" [(.call "wrong_begin" [(.var 0)]), (.con (.str "begin"))]),
    .exp (.call "refuse" [(.call "wrong_edge" [(.var 0)]), (.con (.str "edge"))]),
    .exp (.call "refuse" [(.call "wrong_border" [(.var 0)]), (.con (.str "border"))]),
    .exp (.call "refuse" [(.call "wrong_reach" [(.var 0)]), (.con (.str "reach"))]),
    .exp (.call "refuse" [(.call "wrong_spin" [(.var 0)]), (.con (.str "spin"))])]⟩
def d_Flow___init__ : Df := ⟨2, 2, [
    .exp (.call "check_nodes" [(.var 1)]),
    .stk,
    .asgF (.var 0) "places" (.call "edge_homes" [(.var 1)]),
    .asgF (.var 0) "layout" (.make "Layout" [(.fld (.var 0) "rows"), (.fld (.var 0) "places")])]⟩
def d__law_name : Df := ⟨2, 2, [
    .ret (.bin .add (.idx (.con (.str "abcdefghijklmnopqrstuvwxyz")) (.call "_law_draw" [(.var 0), (.con (.int 26))])) (.bin .mul (.idx (.con (.str "nmlkjihgfedcba")) (.var 1)) (.bin .add (.con (.int 1)) (.call "_law_draw" [(.var 0), (.con (.int 2))]))))]⟩
def d__law_depth : Df := ⟨2, 3, [
    .asg (.nm 2) (.con (.int 0)),
    .whl (.and (.cmp .ne (.var 1) (.con (.str ""))) (.cmp .lt (.var 2) (.con (.int 20)))) [.asg (.nm 1) (.idx (.var 0) (.var 1)), .asg (.nm 2) (.bin .add (.var 2) (.con (.int 1)))],
    .ret (.var 2)]⟩
def d__law_due : Df := ⟨1, 5, [
    .asg (.nm 1) (.dsp [] []),
    .frr (.nm 2) (.seq (.var 0)) [.ite (.cmp .eq (.idx (.var 2) (.con (.int 0))) (.con (.str "scope"))) [.asgS (.var 1) (.idx (.var 2) (.con (.int 1))) (.idx (.var 2) (.con (.int 4)))] []],
    .frr (.nm 2) (.seq (.var 0)) [.ite (.and (.cmp .eq (.idx (.var 2) (.con (.int 0))) (.con (.str "scope"))) (.cmp .gt (.call "_law_depth" [(.var 1), (.idx (.var 2) (.con (.int 1)))]) (.con (.int 4)))) [.ret (.tup [(.idx (.var 2) (.con (.int 1))), (.con (.str "nest"))])] []],
    .frr (.nm 3) (.seq (.bin .add (.lst [(.con (.str ""))]) (.cp false (.con .non) (.idx (.var 2) (.con (.int 1))) (.nm 2) (.seq (.var 0)) [(.cmp .eq (.idx (.var 2) (.con (.int 0))) (.con (.str "scope")))] [4, 2]))) [.ite (.cmp .ne (.blt .len [(.cp false (.con .non) (.var 2) (.nm 2) (.seq (.var 0)) [(.and (.cmp .eq (.idx (.var 2) (.con (.int 0))) (.con (.str "begin"))) (.cmp .eq (.idx (.var 2) (.con (.int 4))) (.var 3)))] [4, 2])]) (.con (.int 1))) [.ret (.tup [(.var 3), (.con (.str "begin"))])] []],
    .ret (.con .non)]⟩
def d_law : Df := ⟨1, 19, [
    .asg (.nm 1) (.call "_law_pool" [(.var 0)]),
    .asg (.nm 2) (.bin .add (.con (.int 2)) (.call "_law_draw" [(.var 1), (.con (.int 7))])),
    .asg (.nm 3) (.cmp .eq (.call "_law_draw" [(.var 1), (.con (.int 2))]) (.con (.int 1))),
    .asg (.nm 5) (.cp false (.con .non) (.bin .add (.call "_law_name" [(.var 1), (.var 4)]) (.bin .mul (.con (.str "z")) (.bin .fdv (.var 4) (.con (.int 2))))) (.nm 4) (.rng (.var 2)) [] [18, 4]),
    .asg (.nm 6) (.lst []),
    .frr (.tup [(.nm 4), (.nm 7)]) (.enum (.var 5)) [.asg (.nm 8) (.ite (.var 3) (.bin .add (.lst [(.con (.str ""))]) (.var 5)) (.bin .add (.lst [(.con (.str ""))]) (.slc (.slc (.var 5) none (some (.var 4))) (some (.neg (.con (.int 2)))) none))), .asg (.nm 9) (.idx (.var 8) (.call "_law_draw" [(.var 1), (.blt .len [(.var 8)])])), .exp (.bm (.var 6) .append [(.tup [(.con (.str "scope")), (.var 7), (.tup [(.bin .add (.con (.str "in")) (.idx (.con (.str "abcdefgh")) (.var 4)))]), (.tup [(.bin .add (.con (.str "out")) (.idx (.con (.str "abcdefgh")) (.var 4)))]), (.var 9), (.con (.str ""))])])],
    .asg (.nm 10) (.call "_law_draw" [(.var 1), (.con (.int 3))]),
    .frr (.tup [(.nm 4), (.nm 9)]) (.enum (.bin .add (.lst [(.con (.str ""))]) (.var 5))) [.asg (.nm 11) (.ite (.cmp .eq (.var 10) (.con (.int 1))) (.idx (.lst [(.con (.int 1)), (.con (.int 1)), (.con (.int 1)), (.con (.int 0)), (.con (.int 1)), (.con (.int 1)), (.con (.int 2)), (.con (.int 1))]) (.call "_law_draw" [(.var 1), (.con (.int 8))])) (.con (.int 1))), .frr (.nm 12) (.rng (.var 11)) [.asg (.nm 13) (.bin .add (.bin .add (.bin .mul (.con (.str "z")) (.con (.int 6))) (.idx (.con (.str "abcdefghij")) (.var 4))) (.idx (.con (.str "xy")) (.var 12))), .exp (.bm (.var 6) .insert [(.call "_law_draw" [(.var 1), (.bin .add (.blt .len [(.var 6)]) (.con (.int 1)))]), (.tup [(.con (.str "begin")), (.var 13), (.tup []), (.tup [(.var 13)]), (.var 9), (.con (.str ""))])])]],
    .ite (.cmp .eq (.call "_law_draw" [(.var 1), (.con (.int 2))]) (.con (.int 1))) [.asg (.nm 6) (.rev (.var 6))] [],
    .asg (.nm 14) (.blt .list [(.var 6)]),
    .asg (.nm 15) (.con .non),
    .tri [.exp (.make "Flow" [(.var 14)])] "InvalidFlow" 16 [.asg (.nm 15) (.tup [(.xf 16 "name"), (.xf 16 "why")])],
    .asg (.nm 17) (.call "_law_due" [(.var 6)]),
    .ite (.or (.cmp .iss (.var 15) (.con .non)) (.cmp .ne (.var 14) (.var 6))) [.ret (.con (.bl false))] [],
    .ret (.ite (.cmp .isn (.var 17) (.con .non)) (.cmp .eq (.var 15) (.var 17)) (.cmp .eq (.idx (.var 15) (.con (.int 1))) (.con (.str "edge"))))]⟩

end MP

set_option Elab.async false
set_option linter.all false
set_option maxRecDepth 100000
/-! MP: what the checks of a flow's rows say. -/
namespace MP
open PySem L2
abbrev LET : Str := "abcdefghijklmnopqrstuvwxyz"
structure CxN (p : Prog) : Prop where
  f_scope_homes : p.fn ("", "scope_homes") = some d_scope_homes
  f_is_name : p.fn ("", "is_name") = some d_is_name
  f_are_names : p.fn ("", "are_names") = some d_are_names
  f_is_place : p.fn ("", "is_place") = some d_is_place
  f_is_kind : p.fn ("", "is_kind") = some d_is_kind
  f_is_node : p.fn ("", "is_node") = some d_is_node
  f_wrong_kind : p.fn ("", "wrong_kind") = some d_wrong_kind
  f_wrong_name : p.fn ("", "wrong_name") = some d_wrong_name
  f_wrong_home : p.fn ("", "wrong_home") = some d_wrong_home
  f_wrong_nest : p.fn ("", "wrong_nest") = some d_wrong_nest
  f_wrong_begin : p.fn ("", "wrong_begin") = some d_wrong_begin
  f_wrong_edge : p.fn ("", "wrong_edge") = some d_wrong_edge
  f_refuse : p.fn ("", "refuse") = some d_refuse
  f_check_nodes : p.fn ("", "check_nodes") = some d_check_nodes
  f_Flow : p.fn ("Flow", "__init__") = some d_Flow___init__
  g_let : p.gl "LETTERS" = some (.str LET)
  g_kin : p.gl "KINDS" = some (.st 18)
  o_kin : ∃ kvs, p.so 18 = some (.dic kvs) ∧ getK kvs (.inr "begin") = some (.st 3) ∧ getK kvs (.inr "scope") = some (.st 14)
  o_beg : p.so 3 = some (.tup [.int 0, .int 0, .int 1, .int 1])
  o_scp : p.so 14 = some (.tup [.int 1, .int 1, .int 1, .int 1])
  g_grd : p.gl "GUARDS_names" = some (.st 19)
  o_grd : p.so 19 = some (.tup [.str "stop", .str "alarm"])
  g_dep : p.gl "DEPTH" = some (.int 4)
  t_str : p.isT (.bi "str") (.bi "str") = some true
  t_tup : p.isT (.bi "tuple") (.bi "tuple") = some true
  t_lst : p.isT (.bi "list") (.bi "list") = some true
  x_inv : p.exf "InvalidFlow" = some [Str.ofString "name", Str.ofString "why"]
  c_inv : p.isC "InvalidFlow" "InvalidFlow" = some true
  fu : p.fu = 2000
abbrev tk (p : Prog) (k : Nat) : Tg0 := p.tg (p.tcl (prP p) k)
theorem prP_none {p : Prog} {f : Str × Str} {ts : List T} {s : Om} (h1 : f ≠ (Str.ofString "", Str.ofString "_law_draw")) (h2 : f ≠ (Str.ofString "", Str.ofString "_law_pool")) : prP p f ts s = none := by
  unfold prP
  rw [if_neg h1, if_neg h2]
theorem lim_eq : lim = 1000000 := rfl
section
variable {p : Prog} {k : Nat} {lk : Bool} {s : Om}
/-- a def of p, called; its walk gives o -/
theorem call_fn {f c : Str} {d : Df} {ts : List T} {o : TO} (hf : p.fn (c, f) = some d) (h1 : (c, f) ≠ ((Str.ofString "", Str.ofString "_law_draw") : Str × Str)) (h2 : (c, f) ≠ ((Str.ofString "", Str.ofString "_law_pool") : Str × Str)) (hl : ts.length = d.np) (h : texs (tk p k) lk d.body (ts.map (fun t => some ⟨t, false⟩) ++ List.replicate (d.nn - d.np) none) s = o) : (tk p (k + 1)).cl (c, f) ts lk s = outT o := tcl_fn (prP_none h1 h2) hf hl h
def NmOk (x : Str) : Prop := 1 ≤ x.length ∧ x.length ≤ 8 ∧ ∀ c ∈ x.cps.toList, c ∈ LET.cps.toList
theorem bls_true {α : Type} (xs : List α) : blsT (xs.map fun _ => T.bl true) = some (xs.map fun _ => true) := by
  induction xs with
  | nil => rfl
  | cons x xs ih =>
    show (blsT (xs.map fun _ => T.bl true)).map (true :: ·) = _
    rw [ih]; rfl
theorem all_true {α : Type} {TP : Tg0} (xs : List α) : bltT TP lk .all [.lst (xs.map fun _ => T.bl true)] = some (.bl true) := by
  show (blsT (xs.map fun _ => T.bl true)).map (fun bs => T.bl (bs.all id)) = _
  rw [bls_true]
  have : (xs.map fun _ => true).all id = true := by
    rw [List.all_eq_true]
    intro x hx
    obtain ⟨_, _, rfl⟩ := List.mem_map.mp hx
    rfl
  show some (T.bl ((xs.map fun _ => true).all id)) = _
  rw [this]
theorem is_name_ok (C : CxN p) {x : Str} (h : NmOk x) : (tk p (k + 1)).cl ("", "is_name") [.str x] lk s = .ok (.bl true) s := by
  obtain ⟨h1, h2, h3⟩ := h
  have hx : x.length ≤ lim := by rw [lim_eq]; omega
  refine call_fn (d := d_is_name) (o := .rt (.bl true) s) C.f_is_name (by decide) (by decide) rfl ?_
  have a1 : tev (tk p k) lk true (.isa (.var 0) (.bi "str")) [some ⟨.str x, false⟩, none, none] s = .ok (.bl true) s := v_isa (v_var rfl rfl rfl) rfl C.t_str
  have a2 : tev (tk p k) lk true (.blt .len [(.var 0)]) [some ⟨.str x, false⟩, none, none] s = .ok (.int x.length) s := v_blt (w_cons rfl (v_var rfl rfl rfl) w_nil) (if_pos hx)
  have a3 : tev (tk p k) lk true (.cmp2 .le .le (.con (.int 1)) (.blt .len [(.var 0)]) (.con (.int 8))) [some ⟨.str x, false⟩, none, none] s = .ok (.bl (decide ((1 : Int) ≤ x.length) && decide ((x.length : Int) ≤ 8))) s := v_cmp2 (v_con rfl) a2 (v_con rfl) rfl rfl
  rw [decide_eq_true (by omega), decide_eq_true (by omega)] at a3
  refine x_cons (x_if (τ1 := [some ⟨.str x, false⟩, none, none]) rfl (v_or_f (v_not a1 rfl) rfl (v_not a3 rfl)) rfl rfl) (x_rt (x_ret (τ1 := [some ⟨.str x, false⟩, none, none]) rfl ?_))
  have hi : tevI (tk p k) lk true (.seq (.var 0)) [some ⟨.str x, false⟩, none, none] s = .ok (x.cps.toList.map fun c => T.str ⟨#[c]⟩, false) s := vi_seq (v_var rfl rfl rfl) rfl
  refine v_blt (w_cons rfl (v_cp hi ?_ (cpL_map (g := fun _ => T.bl true) fun y hy => ?_)) w_nil) ?_
  · show (x.cps.toList.map _).length < p.fu
    rw [C.fu, List.length_map]
    have : x.cps.toList.length = x.length := by simp [Str.length]
    omega
  · obtain ⟨c, hc, rfl⟩ := List.mem_map.mp hy
    refine turnL_ok (τ1 := [some ⟨.str x, false⟩, none, some ⟨.str ⟨#[c]⟩, false⟩]) rfl (v_cmp (v_var rfl rfl rfl) (v_glb C.g_let rfl) ?_)
    show some (decide (c ∈ LET.cps.toList)) = some true
    rw [decide_eq_true (h3 c hc)]
  · rw [List.map_map]
    exact all_true _
theorem are_names_ok (C : CxN p) {xs : List Str} (h : ∀ x ∈ xs, NmOk x) (hl : xs.length < 2000) : (tk p (k + 2)).cl ("", "are_names") [.tup (stL xs)] lk s = .ok (.bl true) s := by
  refine call_fn (d := d_are_names) (o := .rt (.bl true) s) C.f_are_names (by decide) (by decide) rfl ?_
  refine x_rt (x_ret (τ1 := [some ⟨.tup (stL xs), false⟩, none, none]) rfl (v_and_t (v_isa (v_var rfl rfl rfl) rfl C.t_tup) rfl ?_))
  refine v_blt (w_cons rfl (v_cp (vi_seq (v_var rfl rfl rfl) rfl) ?_ (cpL_map (g := fun _ => T.bl true) fun y hy => ?_)) w_nil) (by rw [List.map_map]; exact all_true _)
  · show (stL xs).length < p.fu
    rw [C.fu, List.length_map]; exact hl
  · obtain ⟨c, hc, rfl⟩ := List.mem_map.mp hy
    exact turnL_ok (τ1 := [some ⟨.tup (stL xs), false⟩, none, some ⟨.str c, false⟩]) rfl (v_call (w_cons rfl (v_var rfl rfl rfl) w_nil) (is_name_ok C (h c hc)))
theorem is_place_ok (C : CxN p) {x : Str} (h : x = Str.ofString "" ∨ NmOk x) : (tk p (k + 2)).cl ("", "is_place") [.str x] lk s = .ok (.bl true) s := by
  refine call_fn (d := d_is_place) (o := .rt (.bl true) s) C.f_is_place (by decide) (by decide) rfl ?_
  refine x_rt (x_ret (τ1 := [some ⟨.str x, false⟩]) rfl (v_and_t (v_isa (v_var rfl rfl rfl) rfl C.t_str) rfl ?_))
  have e : tev (tk p (k + 1)) lk false (.cmp .eq (.var 0) (.con (.str ""))) [some ⟨.str x, false⟩] s = .ok (.bl (decide (x = Str.ofString ""))) s := by
    refine v_cmp (v_var rfl rfl rfl) (v_con rfl) ?_
    show some (decide (W.str x = W.str (Str.ofString ""))) = _
    congr 1
    exact decide_eq_decide.mpr ⟨fun z => W.str.inj z, fun z => by rw [z]⟩
  by_cases hx : x = Str.ofString ""
  · rw [decide_eq_true hx] at e
    exact v_or_t e rfl
  · rw [decide_eq_false hx] at e
    exact v_or_f e rfl (v_call (w_cons rfl (v_var rfl rfl rfl) w_nil) (is_name_ok C (h.resolve_left hx)))
end
end MP

set_option Elab.async false
set_option linter.all false
set_option maxRecDepth 100000
/-! MP: what the checks of a flow's rows say. -/
namespace MP
open PySem L2
section
variable {TP : Tg0} {lk bo : Bool} {τ τ1 τ2 : Tl} {s s1 s2 : Om}
theorem eq_str (a b : Str) : cmpT TP .eq (.str a) (.str b) = some (decide (a = b)) := by
  show some (decide (W.str a = W.str b)) = _
  congr 1
  exact decide_eq_decide.mpr ⟨fun z => W.str.inj z, fun z => by rw [z]⟩
theorem ne_str (a b : Str) : cmpT TP .ne (.str a) (.str b) = some (!decide (a = b)) := by
  show (eqT (.str a) (.str b)).map (!·) = _
  rw [show eqT (.str a) (.str b) = _ from eq_str (TP := TP) a b]; rfl
theorem ne_int (a b : Int) : cmpT TP .ne (.int a) (.int b) = some (!decide (a = b)) := by
  show some (!decide (W.int a = W.int b)) = _
  congr 2
  exact decide_eq_decide.mpr ⟨fun z => W.int.inj z, fun z => by rw [z]⟩
theorem eq_int (a b : Int) : cmpT TP .eq (.int a) (.int b) = some (decide (a = b)) := by
  show some (decide (W.int a = W.int b)) = _
  congr 1
  exact decide_eq_decide.mpr ⟨fun z => W.int.inj z, fun z => by rw [z]⟩
theorem ne_bl (a b : Bool) : cmpT TP .ne (.bl a) (.bl b) = some (!decide (a = b)) := by
  show some (!decide (W.bl a = W.bl b)) = _
  congr 2
  exact decide_eq_decide.mpr ⟨fun z => W.bl.inj z, fun z => by rw [z]⟩
/-- a walk that goes on, or stops at the first x with an answer -/
theorem f_find {turn : T → Tl → Om → TO} {I : Tl → Prop} {g : T → Option T} : ∀ {xs : List T} {τ : Tl}, (∀ x ∈ xs, ∀ τ, I τ → (∀ v, g x = some v → turn x τ s = .rt v s) ∧ (g x = none → ∃ τ', turn x τ s = .nx τ' s ∧ I τ')) → I τ → (∀ v, xs.findSome? g = some v → frT turn xs τ s = .rt v s) ∧ (xs.findSome? g = none → ∃ τ', frT turn xs τ s = .nx τ' s ∧ I τ')
  | [], τ, _, i => ⟨fun v e => (by cases e), fun _ => ⟨τ, rfl, i⟩⟩
  | x :: xs, τ, h, i => by
    obtain ⟨h1, h2⟩ := h x (List.mem_cons_self ..) τ i
    cases e : g x with
    | some v =>
      refine ⟨fun v' e' => ?_, fun e' => ?_⟩
      · rw [List.findSome?_cons, e] at e'
        cases e'
        exact f_rt (h1 v e)
      · rw [List.findSome?_cons, e] at e'
        cases e'
    | none =>
      obtain ⟨τ', q, i'⟩ := h2 e
      rw [List.findSome?_cons, e, f_cons q]
      exact f_find (fun y hy => h y (List.mem_cons_of_mem _ hy)) i'
/-- a walk whose state says what is left -/
theorem f_fold {turn : T → Tl → Om → TO} {I : List T → Tl → Prop} (h : ∀ x xs τ, I (x :: xs) τ → ∃ τ', turn x τ s = .nx τ' s ∧ I xs τ') : ∀ {xs : List T} {τ : Tl}, I xs τ → ∃ τ', frT turn xs τ s = .nx τ' s ∧ I [] τ'
  | [], τ, i => ⟨τ, rfl, i⟩
  | x :: xs, τ, i => by
    obtain ⟨τ', q, i'⟩ := h x xs τ i
    rw [f_cons q]
    exact f_fold h i'
theorem x_setD {j : Nat} {i e : E} {kvs : List (Key × T)} {v y : T} {k : Key} (hr : rel τ (kB false e) = τ1) (he : tev TP lk false e τ1 s = .ok v s) (hj : τ1[j]? = some (some ⟨.dic kvs, true⟩)) (hi : tev TP lk true i τ1 s = .ok y s) (hk : keyT y = some k) (hl : kvs.length < lim) : tex TP lk (.asgS (.var j) i e) τ s = .nx (τ1.set j (some ⟨.dic (putT kvs k v), true⟩)) s := by
  rw [← (kB_ok e).1] at hr
  show (tev TP lk false e (rel τ (keeps e)) s).go (rel τ (keeps e)) (fun v s1 => (match (rel τ (keeps e))[j]? with
      | some (some ⟨.lst xs, true⟩) => (tev TP lk true i (rel τ (keeps e)) s1).go (rel τ (keeps e)) fun y s2 => setLT (rel τ (keeps e)) j xs v y s2
      | some (some ⟨.dic kvs, true⟩) => (tev TP lk true i (rel τ (keeps e)) s1).go (rel τ (keeps e)) fun y s2 => setDT (rel τ (keeps e)) j kvs v y s2
      | _ => .no)) = _
  rw [hr, he]
  show (match τ1[j]? with
      | some (some ⟨.lst xs, true⟩) => (tev TP lk true i τ1 s).go τ1 fun y s2 => setLT τ1 j xs v y s2
      | some (some ⟨.dic kvs, true⟩) => (tev TP lk true i τ1 s).go τ1 fun y s2 => setDT τ1 j kvs v y s2
      | _ => .no) = _
  rw [hj]
  show (tev TP lk true i τ1 s).go τ1 (fun y s2 => setDT τ1 j kvs v y s2) = _
  rw [hi]
  show setDT τ1 j kvs v y s = _
  unfold setDT
  rw [hk]
  exact if_pos hl
theorem x_aug {i : Nat} {a b : Int} {e : E} (hi : τ[i]? = some (some ⟨.int a, false⟩)) (he : tev TP lk true e τ s = .ok (.int b) s) : tex TP lk (.aug i .add e) τ s = .nx (τ.set i (some ⟨.int (a + b), false⟩)) s := by
  show (match τ[i]? with
    | some (some ⟨.int a, false⟩) => (tev TP lk true e τ s).go τ fun y s1 => (match augIT .add a y with
      | some t => .nx (τ.set i (some ⟨t, false⟩)) s1
      | none => .no)
    | some (some ⟨.str a, false⟩) => (tev TP lk true e τ s).go τ fun y s1 => (match augST .add a y with
      | some t => TO.nx (τ.set i (some ⟨t, false⟩)) s1
      | none => .no)
    | _ => .no) = _
  rw [hi]
  show (tev TP lk true e τ s).go τ (fun y s1 => (match augIT .add a y with
      | some t => .nx (τ.set i (some ⟨t, false⟩)) s1
      | none => TO.no)) = _
  rw [he]
  rfl
theorem x_whl {c : E} {b : List S} {o : TO} (h : whT (fun τ s => (tev TP lk true c τ s).bind fun x s1 => ofT (truT TP lk x) s1) (fun τ s => texs TP lk b τ s) TP.fu τ s = o) : tex TP lk (.whl c b) τ s = o := h
theorem wh_f {c : E} {b : List S} {n : Nat} {x : T} (hc : tev TP lk true c τ s = .ok x s) (ht : truT TP lk x = some false) : whT (fun τ s => (tev TP lk true c τ s).bind fun x s1 => ofT (truT TP lk x) s1) (fun τ s => texs TP lk b τ s) (n + 1) τ s = .nx τ s := by
  show ((tev TP lk true c τ s).bind fun x s1 => ofT (truT TP lk x) s1).go τ (fun t s1 => if t = true then bodyT (texs TP lk b τ s1) (whT (fun τ s => (tev TP lk true c τ s).bind fun x s1 => ofT (truT TP lk x) s1) (fun τ s => texs TP lk b τ s) n) else .nx τ s1) = _
  rw [hc]
  show (ofT (truT TP lk x) s).go τ (fun t s1 => if t = true then bodyT (texs TP lk b τ s1) (whT (fun τ s => (tev TP lk true c τ s).bind fun x s1 => ofT (truT TP lk x) s1) (fun τ s => texs TP lk b τ s) n) else .nx τ s1) = _
  rw [ht]; rfl
theorem wh_t {c : E} {b : List S} {n : Nat} {x : T} (hc : tev TP lk true c τ s = .ok x s) (ht : truT TP lk x = some true) (hb : texs TP lk b τ s = .nx τ1 s) : whT (fun τ s => (tev TP lk true c τ s).bind fun x s1 => ofT (truT TP lk x) s1) (fun τ s => texs TP lk b τ s) (n + 1) τ s = whT (fun τ s => (tev TP lk true c τ s).bind fun x s1 => ofT (truT TP lk x) s1) (fun τ s => texs TP lk b τ s) n τ1 s := by
  show ((tev TP lk true c τ s).bind fun x s1 => ofT (truT TP lk x) s1).go τ (fun t s1 => if t = true then bodyT (texs TP lk b τ s1) (whT (fun τ s => (tev TP lk true c τ s).bind fun x s1 => ofT (truT TP lk x) s1) (fun τ s => texs TP lk b τ s) n) else .nx τ s1) = _
  rw [hc]
  show (ofT (truT TP lk x) s).go τ (fun t s1 => if t = true then bodyT (texs TP lk b τ s1) (whT (fun τ s => (tev TP lk true c τ s).bind fun x s1 => ofT (truT TP lk x) s1) (fun τ s => texs TP lk b τ s) n) else .nx τ s1) = _
  rw [ht]
  show bodyT (texs TP lk b τ s) _ = _
  rw [hb]; rfl
end
/-! ### rows -/
structure RwOk (r : Rw) : Prop where
  kd : (r.k = Str.ofString "scope" ∧ r.ins.length = 1 ∧ r.outs.length = 1) ∨ (r.k = Str.ofString "begin" ∧ r.ins.length = 0 ∧ r.outs.length = 1)
  nm : NmOk r.nm
  ins : ∀ x ∈ r.ins, NmOk x
  outs : ∀ x ∈ r.outs, NmOk x
  home : r.home = Str.ofString "" ∨ NmOk r.home
  gd : r.gd = Str.ofString ""
section
variable {p : Prog} {k : Nat} {lk : Bool} {s : Om}
theorem is_kind_ok (C : CxN p) {x : Str} (h : x = Str.ofString "scope" ∨ x = Str.ofString "begin") : (tk p (k + 1)).cl ("", "is_kind") [.str x] lk s = .ok (.bl true) s := by
  refine call_fn (d := d_is_kind) (o := .rt (.bl true) s) C.f_is_kind (by decide) (by decide) rfl ?_
  refine x_rt (x_ret (τ1 := [some ⟨.str x, false⟩]) rfl (v_and_t (v_isa (v_var rfl rfl rfl) rfl C.t_str) rfl (v_cmp (v_var rfl rfl rfl) (v_glb C.g_kin rfl) ?_)))
  obtain ⟨kvs, o1, g1, g2⟩ := C.o_kin
  show (match p.so 18 with
    | some (.dic kvs) => some (getK kvs (.inr x)).isSome
    | _ => (sqT (tk p k) (.st 18)).bind (inSq (.str x))) = _
  rw [o1]
  rcases h with rfl | rfl
  · show some (getK kvs (.inr (Str.ofString "scope"))).isSome = _
    rw [show getK kvs (.inr (Str.ofString "scope")) = _ from g2]; rfl
  · show some (getK kvs (.inr (Str.ofString "begin"))).isSome = _
    rw [show getK kvs (.inr (Str.ofString "begin")) = _ from g1]; rfl
theorem RwOk.k' {r : Rw} (h : RwOk r) : r.k = Str.ofString "scope" ∨ r.k = Str.ofString "begin" := h.kd.imp (·.1) (·.1)
theorem is_node_ok (C : CxN p) {r : Rw} (h : RwOk r) : (tk p (k + 3)).cl ("", "is_node") [r.t] lk s = .ok (.bl true) s := by
  refine call_fn (d := d_is_node) (o := .rt (.bl true) s) C.f_is_node (by decide) (by decide) rfl ?_
  have a1 : tev (tk p (k + 2)) lk true (.isa (.var 0) (.bi "tuple")) [some ⟨r.t, false⟩, none, none, none, none, none, none] s = .ok (.bl true) s := v_isa (v_var rfl rfl rfl) rfl C.t_tup
  have a2 : tev (tk p (k + 2)) lk true (.cmp .ne (.blt .len [(.var 0)]) (.con (.int 6))) [some ⟨r.t, false⟩, none, none, none, none, none, none] s = .ok (.bl false) s := v_cmp (v_blt (w_cons rfl (v_var rfl rfl rfl) w_nil) rfl) (v_con rfl) rfl
  refine x_cons (x_if (τ1 := [some ⟨r.t, false⟩, none, none, none, none, none, none]) rfl (v_or_f (v_not a1 rfl) rfl a2) rfl rfl) ?_
  refine x_cons (x_asgT (τ1 := [some ⟨r.t, false⟩, none, none, none, none, none, none]) (τ2 := [some ⟨r.t, false⟩, some ⟨.str r.k, false⟩, some ⟨.str r.nm, false⟩, some ⟨.tup (stL r.ins), false⟩, some ⟨.tup (stL r.outs), false⟩, some ⟨.str r.home, false⟩, some ⟨.str r.gd, false⟩]) rfl rfl (v_var rfl rfl rfl) rfl) ?_
  refine x_cons (x_if (τ1 := [some ⟨r.t, false⟩, some ⟨.str r.k, false⟩, some ⟨.str r.nm, false⟩, some ⟨.tup (stL r.ins), false⟩, some ⟨.tup (stL r.outs), false⟩, some ⟨.str r.home, false⟩, some ⟨.str r.gd, false⟩]) rfl (v_or_f (v_not (v_call (w_cons rfl (v_var rfl rfl rfl) w_nil) (is_kind_ok C h.k')) rfl) rfl (v_not (v_call (w_cons rfl (v_var rfl rfl rfl) w_nil) (is_name_ok C h.nm)) rfl)) rfl rfl) ?_
  have l1 : r.ins.length < 2000 := by rcases h.kd with q | q <;> omega
  have l2 : r.outs.length < 2000 := by rcases h.kd with q | q <;> omega
  exact x_rt (x_ret (τ1 := [some ⟨r.t, false⟩, some ⟨.str r.k, false⟩, some ⟨.str r.nm, false⟩, some ⟨.tup (stL r.ins), false⟩, some ⟨.tup (stL r.outs), false⟩, some ⟨.str r.home, false⟩, some ⟨.str r.gd, false⟩]) rfl (v_and_t (v_call (w_cons rfl (v_var rfl rfl rfl) w_nil) (are_names_ok C h.ins l1)) rfl (v_and_t (v_call (w_cons rfl (v_var rfl rfl rfl) w_nil) (are_names_ok C h.outs l2)) rfl (v_and_t (v_call (w_cons rfl (v_var rfl rfl rfl) w_nil) (is_place_ok C h.home)) rfl (v_call (w_cons rfl (v_var rfl rfl rfl) w_nil) (is_place_ok C (.inl h.gd)))))))
end
end MP

set_option Elab.async false
set_option linter.all false
set_option maxRecDepth 100000
namespace MP
open PySem L2
section
variable {p : Prog} {k : Nat} {lk : Bool} {s : Om}
theorem rows_seq {TP : Tg0} {τ : Tl} {lk bo : Bool} {rs : List Rw} {i : Nat} (e : τ[i]? = some (some ⟨rowsT rs, false⟩)) : tevI TP lk bo (.seq (.var i)) τ s = .ok (rs.map Rw.t, false) s := vi_seq (v_var e rfl rfl) rfl
/-- a walk over rows that says nothing -/
theorem f_quiet {turn : T → Tl → Om → TO} {I : Tl → Prop} : ∀ {rs : List Rw} {τ : Tl}, (∀ r ∈ rs, ∀ τ, I τ → ∃ τ', turn r.t τ s = .nx τ' s ∧ I τ') → I τ → ∃ τ', frT turn (rs.map Rw.t) τ s = .nx τ' s ∧ I τ'
  | [], τ, _, i => ⟨τ, rfl, i⟩
  | r :: rs, τ, h, i => by
    obtain ⟨τ', q, i'⟩ := h r (List.mem_cons_self ..) τ i
    rw [List.map_cons, f_cons q]
    exact f_quiet (fun y hy => h y (List.mem_cons_of_mem _ hy)) i'
theorem kind_idx (C : CxN p) {r : Rw} (h : RwOk r) : ∃ j a b c d, idxT (tk p k) (.st 18) (.str r.k) = some (.st j) ∧ sqT (tk p k) (.st j) = some [.int a, .int b, .int c, .int d] ∧ a ≤ r.ins.length ∧ r.ins.length ≤ b ∧ c ≤ r.outs.length ∧ r.outs.length ≤ d := by
  obtain ⟨kvs, o1, g1, g2⟩ := C.o_kin
  have e : ∀ z j, getK kvs (.inr z) = some (.st j) → idxT (tk p k) (.st 18) (.str z) = some (.st j) := fun z j g => by
    show (match p.so 18 with
      | some (.dic kvs) => (getK kvs (.inr z)).bind wT
      | _ => (sqT (tk p k) (.st 18)).bind (sqIxT · (.str z))) = _
    rw [o1]
    show (getK kvs (.inr z)).bind wT = _
    rw [g]; rfl
  have q : ∀ (j : Nat) (ws : List Int), p.so j = some (.tup (ws.map W.int)) → sqT (tk p k) (.st j) = some (ws.map T.int) := fun j ws g => by
    show (match soT (tk p k) j with
      | some (.tup ts) => some ts
      | some (.lst ts) => some ts
      | _ => none) = _
    have : soT (tk p k) j = some (.tup (ws.map T.int)) := by
      unfold soT
      rw [show (tk p k).so j = _ from g]
      show (wTs (ws.map W.int)).map T.tup = _
      rw [wTs_ints]; rfl
    rw [this]
  rcases h.kd with ⟨e1, e2, e3⟩ | ⟨e1, e2, e3⟩
  · rw [e1]
    exact ⟨14, 1, 1, 1, 1, e _ _ g2, q 14 [1, 1, 1, 1] C.o_scp, by omega, by omega, by omega, by omega⟩
  · rw [e1]
    exact ⟨3, 0, 0, 1, 1, e _ _ g1, q 3 [0, 0, 1, 1] C.o_beg, by omega, by omega, by omega, by omega⟩
theorem in_grd (C : CxN p) {r : Rw} (h : RwOk r) : cmpT (tk p k) .inn (.str r.k) (.st 19) = some false := by
  have : sqT (tk p k) (.st 19) = some [.str "stop", .str "alarm"] := by
    show (match soT (tk p k) 19 with
      | some (.tup ts) => some ts
      | some (.lst ts) => some ts
      | _ => none) = _
    have : soT (tk p k) 19 = some (.tup [.str "stop", .str "alarm"]) := by
      unfold soT
      rw [show (tk p k).so 19 = _ from C.o_grd]; rfl
    rw [this]
  show (match p.so 19 with
    | some (.dic kvs) => some (getK kvs (.inr r.k)).isSome
    | _ => (sqT (tk p k) (.st 19)).bind (inSq (.str r.k))) = _
  rw [C.o_grd]
  show (sqT (tk p k) (.st 19)).bind (inSq (.str r.k)) = _
  rw [this]
  rcases h.k' with e | e <;> rw [e] <;> rfl
theorem wrong_kind_ok (C : CxN p) {rs : List Rw} (h : ∀ r ∈ rs, RwOk r) (hl : rs.length < 1000) : (tk p (k + 1)).cl ("", "wrong_kind") [rowsT rs] lk s = .ok .non s := by
  refine call_fn (d := d_wrong_kind) (o := .rt .non s) C.f_wrong_kind (by decide) (by decide) rfl ?_
  let I : Tl → Prop := fun τ => ∃ a1 a2 a3 a4 a5 a6 a7 a8 a9 a10 : Option Sv, τ = [some ⟨rowsT rs, false⟩, a1, a2, a3, a4, a5, a6, a7, a8, a9, a10]
  obtain ⟨τ', q, _⟩ := f_quiet (s := s) (rs := rs) (I := I) (turn := turnF (tk p k) lk (.tup [(.nm 1), (.nm 2), (.nm 3), (.nm 4), (.nm 5), (.nm 6)]) [.asg (.tup [(.nm 7), (.nm 8), (.nm 9), (.nm 10)]) (.idx (.glb "KINDS") (.var 1)), .ite (.or (.not (.cmp2 .le .le (.var 7) (.blt .len [(.var 3)]) (.var 8))) (.not (.cmp2 .le .le (.var 9) (.blt .len [(.var 4)]) (.var 10)))) [.ret (.var 2)] [], .ite (.cmp .ne (.cmp .ne (.var 6) (.con (.str ""))) (.cmp .inn (.var 1) (.glb "GUARDS_names"))) [.ret (.var 2)] []]) (τ := [some ⟨rowsT rs, false⟩, none, none, none, none, none, none, none, none, none, none]) (fun r hr τ i => by
    obtain ⟨a1, a2, a3, a4, a5, a6, a7, a8, a9, a10, rfl⟩ := i
    have hr := h r hr
    obtain ⟨j, a, b, c, d, e1, e2, b1, b2, b3, b4⟩ := kind_idx (k := k) C hr
    let σ : Tl := [some ⟨rowsT rs, false⟩, some ⟨.str r.k, false⟩, some ⟨.str r.nm, false⟩, some ⟨.tup (stL r.ins), false⟩, some ⟨.tup (stL r.outs), false⟩, some ⟨.str r.home, false⟩, some ⟨.str r.gd, false⟩, some ⟨.int a, false⟩, some ⟨.int b, false⟩, some ⟨.int c, false⟩, some ⟨.int d, false⟩]
    refine ⟨σ, ?_, _, _, _, _, _, _, _, _, _, _, rfl⟩
    refine (tF (τ1 := [some ⟨rowsT rs, false⟩, some ⟨.str r.k, false⟩, some ⟨.str r.nm, false⟩, some ⟨.tup (stL r.ins), false⟩, some ⟨.tup (stL r.outs), false⟩, some ⟨.str r.home, false⟩, some ⟨.str r.gd, false⟩, a7, a8, a9, a10]) rfl).trans ?_
    refine x_cons (x_asgT (τ1 := [some ⟨rowsT rs, false⟩, some ⟨.str r.k, false⟩, some ⟨.str r.nm, false⟩, some ⟨.tup (stL r.ins), false⟩, some ⟨.tup (stL r.outs), false⟩, some ⟨.str r.home, false⟩, some ⟨.str r.gd, false⟩, a7, a8, a9, a10]) (τ2 := σ) rfl rfl (v_idx (v_glb C.g_kin rfl) (v_var rfl rfl rfl) e1) ?_) ?_
    · show (match sqT (tk p k) (.st j) with
        | some ts => if ts.length = 4 then stTTs (tk p k) [(.nm 7), (.nm 8), (.nm 9), (.nm 10)] ts _ else none
        | none => none) = _
      rw [e2]; rfl
    have l1 : tev (tk p k) lk true (.blt .len [(.var 3)]) σ s = .ok (.int r.ins.length) s := v_blt (w_cons rfl (v_var rfl rfl rfl) w_nil) (by show some (T.int (stL r.ins).length) = _; rw [List.length_map])
    have l2 : tev (tk p k) lk true (.blt .len [(.var 4)]) σ s = .ok (.int r.outs.length) s := v_blt (w_cons rfl (v_var rfl rfl rfl) w_nil) (by show some (T.int (stL r.outs).length) = _; rw [List.length_map])
    have c1 : tev (tk p k) lk true (.cmp2 .le .le (.var 7) (.blt .len [(.var 3)]) (.var 8)) σ s = .ok (.bl (decide (a ≤ r.ins.length) && decide ((r.ins.length : Int) ≤ b))) s := v_cmp2 (v_var rfl rfl rfl) l1 (v_var rfl rfl rfl) rfl rfl
    have c2 : tev (tk p k) lk true (.cmp2 .le .le (.var 9) (.blt .len [(.var 4)]) (.var 10)) σ s = .ok (.bl (decide (c ≤ r.outs.length) && decide ((r.outs.length : Int) ≤ d))) s := v_cmp2 (v_var rfl rfl rfl) l2 (v_var rfl rfl rfl) rfl rfl
    rw [decide_eq_true b1, decide_eq_true b2] at c1
    rw [decide_eq_true b3, decide_eq_true b4] at c2
    refine x_cons (x_if (τ1 := σ) rfl (v_or_f (v_not c1 rfl) rfl (v_not c2 rfl)) rfl rfl) ?_
    have c3 : tev (tk p k) lk true (.cmp .ne (.var 6) (.con (.str ""))) σ s = .ok (.bl false) s := by
      refine v_cmp (v_var rfl rfl rfl) (v_con rfl) ((ne_str _ _).trans ?_)
      rw [decide_eq_true hr.gd]; rfl
    exact x_cons (x_if (τ1 := σ) rfl (v_cmp c3 (v_cmp (v_var rfl rfl rfl) (v_glb C.g_grd rfl) (in_grd C hr)) ((ne_bl _ _).trans rfl)) rfl rfl) x_nil) ⟨_, _, _, _, _, _, _, _, _, _, rfl⟩
  refine x_cons (τ1 := τ') (s1 := s) (x_frr (τ1 := [some ⟨rowsT rs, false⟩, none, none, none, none, none, none, none, none, none, none]) rfl (rows_seq rfl) ?_ ?_) (x_rt (x_ret rfl (v_con rfl)))
  · show (rs.map Rw.t).length < p.fu
    rw [C.fu, List.length_map]; omega
  · rw [Bool.or_false]
    exact q
end
end MP

set_option Elab.async false
set_option linter.all false
set_option maxRecDepth 100000
namespace MP
open PySem L2
abbrev sScope : Str := Str.ofString "scope"
abbrev sBegin : Str := Str.ofString "begin"
def scopesOf (rs : List Rw) : List Rw := rs.filter fun r => decide (r.k = sScope)
def hmL (rs : List Rw) : List (Key × T) := (scopesOf rs).map fun r => (.inr r.nm, .str r.home)
/-- a dict of homes -/
def homeIn (ss : List Rw) (x : Str) : Option Str := (ss.find? fun r => decide (r.nm = x)).map (·.home)
theorem key_inr {x y : Str} : ((.inr x : Key) = .inr y) ↔ x = y := ⟨fun z => by cases z; rfl, fun z => by rw [z]⟩
theorem getT_hm (ss : List Rw) (x : Str) : getT (ss.map fun r => ((.inr r.nm : Key), T.str r.home)) (.inr x) = (homeIn ss x).map T.str := by
  induction ss with
  | nil => rfl
  | cons r ss ih =>
    unfold getT homeIn at ih ⊢
    rw [List.map_cons, List.find?_cons, List.find?_cons]
    have : decide (((.inr r.nm : Key), T.str r.home).1 = .inr x) = decide (r.nm = x) := decide_eq_decide.mpr key_inr
    rw [this]
    cases decide (r.nm = x) with
    | true => rfl
    | false => exact ih
theorem mkD_cat : ∀ {kvs acc : List (Key × T)}, (∀ kv ∈ kvs, ∀ a ∈ acc, a.1 ≠ kv.1) → (kvs.map (·.1)).Nodup → mkD acc kvs = acc ++ kvs
  | [], acc, _, _ => (List.append_nil acc).symm
  | kv :: r, acc, h, nd => by
    have e : putT acc kv.1 kv.2 = acc ++ [kv] := by
      unfold putT
      rw [if_neg]
      rw [List.any_eq_true]
      rintro ⟨a, ha, he⟩
      exact h kv (List.mem_cons_self ..) a ha (of_decide_eq_true he)
    show mkD (putT acc kv.1 kv.2) r = _
    rw [e]
    rw [List.map_cons, List.nodup_cons] at nd
    rw [mkD_cat (fun kv' hkv a ha => ?_) nd.2, List.append_assoc]
    · rfl
    · rcases List.mem_append.mp ha with q | q
      · exact h kv' (List.mem_cons_of_mem _ hkv) a q
      · rw [List.mem_singleton] at q
        subst q
        exact fun z => nd.1 (by rw [z]; exact List.mem_map_of_mem hkv)
theorem nodup_keys {rs : List Rw} (h : (rs.map (·.nm)).Nodup) : ((hmL rs).map (·.1)).Nodup := by
  have h2 : ((scopesOf rs).map (·.nm)).Nodup := (List.Sublist.map _ List.filter_sublist).nodup h
  unfold hmL
  rw [List.map_map]
  generalize scopesOf rs = ss at h2
  induction ss with
  | nil => exact List.nodup_nil
  | cons r ss ih =>
    rw [List.map_cons, List.nodup_cons] at h2 ⊢
    refine ⟨fun z => h2.1 ?_, ih h2.2⟩
    obtain ⟨q, hq, e⟩ := List.mem_map.mp z
    have : q.nm = r.nm := key_inr.mp e
    rw [← this]
    exact List.mem_map_of_mem hq
section
variable {p : Prog} {k : Nat} {lk : Bool} {s : Om}
theorem cpL_rows {α : Type} {turn : T → Om → TR (Option α)} {g : Rw → Option α} : ∀ {rs : List Rw}, (∀ r ∈ rs, turn r.t s = .ok (g r) s) → cpL turn (rs.map Rw.t) s = .ok (rs.filterMap g) s
  | [], _ => rfl
  | r :: rs, hx => by
    rw [List.map_cons]
    show (match turn r.t s with
      | .ok y s1 => (match cpL turn (rs.map Rw.t) s1 with
        | .ok ys s2 => TR.ok (match y with
          | some y => y :: ys
          | none => ys) s2
        | _ => TR.no)
      | _ => TR.no) = _
    rw [hx r (List.mem_cons_self ..)]
    show (match cpL turn (rs.map Rw.t) s with
        | .ok ys s2 => TR.ok (match g r with
          | some y => y :: ys
          | none => ys) s2
        | _ => TR.no) = _
    rw [cpL_rows fun y hy => hx y (List.mem_cons_of_mem _ hy)]
    show TR.ok (match g r with
          | some y => y :: rs.filterMap g
          | none => rs.filterMap g) s = _
    rw [List.filterMap_cons]
    cases g r <;> rfl
theorem fm_if {α β : Type} (b : α → Bool) (f : α → β) : ∀ xs : List α, xs.filterMap (fun x => if b x = true then some (f x) else none) = (xs.filter b).map f
  | [] => rfl
  | x :: xs => by
    rw [List.filterMap_cons, List.filter_cons]
    cases b x with
    | true => simp [fm_if b f xs]
    | false => simp [fm_if b f xs]
theorem scope_homes_ok (C : CxN p) {rs : List Rw} (hn : (rs.map (·.nm)).Nodup) (hl : rs.length < 1000) : (tk p (k + 1)).cl ("", "scope_homes") [rowsT rs] lk s = .ok (.dic (hmL rs)) s := by
  refine call_fn (d := d_scope_homes) (o := .rt (.dic (hmL rs)) s) C.f_scope_homes (by decide) (by decide) rfl ?_
  refine x_rt (x_ret (τ1 := [some ⟨rowsT rs, false⟩, none, none]) rfl ?_)
  have q : cpL (turnD (tk p k) (lk || false) (.idx (.var 2) (.con (.int 1))) (.idx (.var 2) (.con (.int 4))) (.nm 2) [(.cmp .eq (.idx (.var 2) (.con (.int 0))) (.con (.str "scope")))] [1, 2] [some ⟨rowsT rs, false⟩, none, none]) (rs.map Rw.t) s = .ok (hmL rs) s := by
    have := cpL_rows (s := s) (rs := rs) (turn := turnD (tk p k) (lk || false) (.idx (.var 2) (.con (.int 1))) (.idx (.var 2) (.con (.int 4))) (.nm 2) [(.cmp .eq (.idx (.var 2) (.con (.int 0))) (.con (.str "scope")))] [1, 2] [some ⟨rowsT rs, false⟩, none, none]) (g := fun r => if decide (r.k = sScope) = true then some ((.inr r.nm : Key), T.str r.home) else none) (fun r hr => by
      refine turnD_if (τ1 := [some ⟨rowsT rs, false⟩, none, some ⟨r.t, false⟩]) (y := .str r.nm) (b := decide (r.k = sScope)) rfl ?_ (fun _ => v_idx (v_var rfl rfl rfl) (v_con rfl) rfl) (fun _ => v_idx (v_var rfl rfl rfl) (v_con rfl) rfl) (fun _ => rfl)
      exact v_cmp (v_idx (v_var rfl rfl rfl) (v_con rfl) rfl) (v_con rfl) (eq_str _ _))
    rw [this, fm_if]
    rfl
  have := v_cpD (bo := false) (TP := tk p k) (lk := lk) (τ := [some ⟨rowsT rs, false⟩, none, none]) (rows_seq (i := 0) rfl) (by show (rs.map Rw.t).length < p.fu; rw [C.fu, List.length_map]; omega) q
  rw [mkD_cat (fun _ _ a ha => absurd ha List.not_mem_nil) (nodup_keys hn)] at this
  exact this
theorem wrong_name_ok (C : CxN p) {rs : List Rw} (hn : (rs.map (·.nm)).Nodup) (hl : rs.length < 1000) : (tk p (k + 1)).cl ("", "wrong_name") [rowsT rs] lk s = .ok .non s := by
  refine call_fn (d := d_wrong_name) (o := .rt .non s) C.f_wrong_name (by decide) (by decide) rfl ?_
  refine x_cons (x_asg (v := .dic []) (τ1 := [some ⟨rowsT rs, false⟩, none, none]) (τ2 := [some ⟨rowsT rs, false⟩, some ⟨.dic [], true⟩, none]) (s1 := s) rfl rfl rfl rfl) ?_
  let I : List T → Tl → Prop := fun xs τ => ∃ (d e : List Rw) (o : Option Sv), rs = d ++ e ∧ xs = e.map Rw.t ∧ τ = [some ⟨rowsT rs, false⟩, some ⟨.dic (d.map fun r => (.inr r.nm, .bl true)), true⟩, o]
  obtain ⟨τ', q, d, e, o, h1, h2, h3⟩ := f_fold (s := s) (I := I) (turn := turnF (tk p k) lk (.nm 2) [.ite (.cmp .inn (.idx (.var 2) (.con (.int 1))) (.var 1)) [.ret (.idx (.var 2) (.con (.int 1)))] [], .asgS (.var 1) (.idx (.var 2) (.con (.int 1))) (.con (.bl true))]) (fun x xs τ i => by
    obtain ⟨d, e, o, h1, h2, rfl⟩ := i
    cases e with
    | nil => cases h2
    | cons r e =>
      rw [List.map_cons, List.cons.injEq] at h2
      obtain ⟨rfl, rfl⟩ := h2
      have nk : ∀ q ∈ d, q.nm ≠ r.nm := fun q hq z => by
        rw [h1, List.map_append, List.nodup_append] at hn
        exact hn.2.2 q.nm (List.mem_map_of_mem hq) r.nm (by rw [List.map_cons]; exact List.mem_cons_self ..) z
      have g0 : getT (d.map fun r => ((.inr r.nm : Key), T.bl true)) (.inr r.nm) = none := by
        unfold getT
        rw [List.find?_eq_none.mpr fun kv hkv => ?_]
        · rfl
        · obtain ⟨q, hq, rfl⟩ := List.mem_map.mp hkv
          have := nk q hq
          simp only [decide_eq_true_eq]
          exact fun z => this (key_inr.mp z)
      have p0 : putT (d.map fun r => ((.inr r.nm : Key), T.bl true)) (.inr r.nm) (.bl true) = (d ++ [r]).map fun r => ((.inr r.nm : Key), T.bl true) := by
        unfold putT
        rw [if_neg]
        · rw [List.map_append]; rfl
        · rw [List.any_eq_true]
          rintro ⟨kv, hkv, he⟩
          obtain ⟨q, hq, rfl⟩ := List.mem_map.mp hkv
          exact nk q hq (key_inr.mp (of_decide_eq_true he))
      refine ⟨[some ⟨rowsT rs, false⟩, some ⟨.dic ((d ++ [r]).map fun r => (.inr r.nm, .bl true)), true⟩, some ⟨r.t, false⟩], ?_, d ++ [r], e, some ⟨r.t, false⟩, by rw [h1, List.append_assoc]; rfl, rfl, rfl⟩
      refine (tF (τ1 := [some ⟨rowsT rs, false⟩, some ⟨.dic (d.map fun r => (.inr r.nm, .bl true)), true⟩, some ⟨r.t, false⟩]) rfl).trans ?_
      refine x_cons (x_if (τ1 := [some ⟨rowsT rs, false⟩, some ⟨.dic (d.map fun r => (.inr r.nm, .bl true)), true⟩, some ⟨r.t, false⟩]) rfl (v_cmp (z := false) (v_idx (v_var rfl rfl rfl) (v_con rfl) rfl) (v_var rfl rfl rfl) ?_) rfl rfl) ?_
      · show some (getT (d.map fun r => ((.inr r.nm : Key), T.bl true)) (.inr r.nm)).isSome = _
        rw [g0]; rfl
      · have := x_setD (TP := tk p k) (lk := lk) (s := s) (τ := [some ⟨rowsT rs, false⟩, some ⟨.dic (d.map fun r => (.inr r.nm, .bl true)), true⟩, some ⟨r.t, false⟩]) (τ1 := [some ⟨rowsT rs, false⟩, some ⟨.dic (d.map fun r => (.inr r.nm, .bl true)), true⟩, some ⟨r.t, false⟩]) (j := 1) (i := .idx (.var 2) (.con (.int 1))) (e := .con (.bl true)) (k := .inr r.nm) rfl (v_con rfl) rfl (v_idx (v_var rfl rfl rfl) (v_con rfl) rfl) rfl (by
          have := congrArg List.length h1
          rw [List.length_append, List.length_cons] at this
          rw [List.length_map, lim_eq]; omega)
        rw [p0] at this
        exact x_cons this x_nil) (xs := rs.map Rw.t) (τ := [some ⟨rowsT rs, false⟩, some ⟨.dic [], true⟩, none]) ⟨[], rs, none, rfl, rfl, rfl⟩
  refine x_cons (τ1 := τ') (s1 := s) (x_frr (τ1 := [some ⟨rowsT rs, false⟩, some ⟨.dic [], true⟩, none]) rfl (rows_seq rfl) ?_ ?_) (x_rt (x_ret rfl (v_con rfl)))
  · show (rs.map Rw.t).length < p.fu
    rw [C.fu, List.length_map]; omega
  · rw [Bool.or_false]
    exact q
/-- each home is a scope's name -/
def Closed (rs : List Rw) : Prop := ∀ r ∈ rs, r.home = Str.ofString "" ∨ ∃ h, homeIn (scopesOf rs) r.home = some h
theorem wrong_home_ok (C : CxN p) {rs : List Rw} (h : ∀ r ∈ rs, RwOk r) (hn : (rs.map (·.nm)).Nodup) (hc : Closed rs) (hl : rs.length < 1000) : (tk p (k + 2)).cl ("", "wrong_home") [rowsT rs] lk s = .ok .non s := by
  refine call_fn (d := d_wrong_home) (o := .rt .non s) C.f_wrong_home (by decide) (by decide) rfl ?_
  refine x_cons (x_asg (τ1 := [some ⟨rowsT rs, false⟩, none, none, none, none, none, none, none]) (τ2 := [some ⟨rowsT rs, false⟩, some ⟨.dic (hmL rs), false⟩, none, none, none, none, none, none]) (s1 := s) rfl rfl (v_call (w_cons rfl (v_var rfl rfl rfl) w_nil) (scope_homes_ok C hn hl)) rfl) ?_
  let I : Tl → Prop := fun τ => ∃ a2 a3 a4 a5 a6 a7 : Option Sv, τ = [some ⟨rowsT rs, false⟩, some ⟨.dic (hmL rs), false⟩, a2, a3, a4, a5, a6, a7]
  obtain ⟨τ', q, _⟩ := f_quiet (s := s) (rs := rs) (I := I) (turn := turnF (tk p (k + 1)) lk (.tup [(.nm 2), (.nm 3), (.nm 4), (.nm 5), (.nm 6), (.nm 7)]) [.ite (.and (.cmp .ne (.var 6) (.con (.str ""))) (.cmp .nin (.var 6) (.var 1))) [.ret (.var 3)] [], .ite (.and (.cmp .inn (.var 2) (.glb "GUARDS_names")) (.or (.cmp .nin (.var 7) (.var 1)) (.cmp .ne (.idx (.var 1) (.var 7)) (.var 6)))) [.ret (.var 3)] [], .ite (.and (.cmp .eq (.var 2) (.con (.str "cancel"))) (.cmp .eq (.var 6) (.con (.str "")))) [.ret (.var 3)] []]) (τ := [some ⟨rowsT rs, false⟩, some ⟨.dic (hmL rs), false⟩, none, none, none, none, none, none]) (fun r hr τ i => by
    obtain ⟨a2, a3, a4, a5, a6, a7, rfl⟩ := i
    have hcr := hc r hr
    have hr := h r hr
    let σ : Tl := [some ⟨rowsT rs, false⟩, some ⟨.dic (hmL rs), false⟩, some ⟨.str r.k, false⟩, some ⟨.str r.nm, false⟩, some ⟨.tup (stL r.ins), false⟩, some ⟨.tup (stL r.outs), false⟩, some ⟨.str r.home, false⟩, some ⟨.str r.gd, false⟩]
    refine ⟨σ, ?_, _, _, _, _, _, _, rfl⟩
    refine (tF (τ1 := σ) rfl).trans ?_
    have c1 : tev (tk p (k + 1)) lk true (.cmp .ne (.var 6) (.con (.str ""))) σ s = .ok (.bl (!decide (r.home = Str.ofString ""))) s := v_cmp (v_var rfl rfl rfl) (v_con rfl) (ne_str _ _)
    have c2 : r.home ≠ Str.ofString "" → tev (tk p (k + 1)) lk true (.cmp .nin (.var 6) (.var 1)) σ s = .ok (.bl false) s := fun z => by
      obtain ⟨x, hx⟩ := hcr.resolve_left z
      refine v_cmp (v_var rfl rfl rfl) (v_var rfl rfl rfl) ?_
      show (some (getT (hmL rs) (.inr r.home)).isSome).map (!·) = _
      unfold hmL
      rw [getT_hm, hx]; rfl
    have c12 : tev (tk p (k + 1)) lk true (.and (.cmp .ne (.var 6) (.con (.str ""))) (.cmp .nin (.var 6) (.var 1))) σ s = .ok (.bl false) s := by
      by_cases z : r.home = Str.ofString ""
      · rw [decide_eq_true z] at c1
        exact v_and_f c1 rfl
      · rw [decide_eq_false z] at c1
        exact v_and_t c1 rfl (c2 z)
    refine x_cons (x_if (τ1 := σ) rfl c12 rfl rfl) ?_
    refine x_cons (x_if (τ1 := σ) rfl (v_and_f (v_cmp (v_var rfl rfl rfl) (v_glb C.g_grd rfl) (in_grd C hr)) rfl) rfl rfl) ?_
    refine x_cons (x_if (τ1 := σ) rfl (v_and_f (x := .bl false) (v_cmp (v_var rfl rfl rfl) (v_con rfl) ((eq_str _ _).trans ?_)) rfl) rfl rfl) x_nil
    rcases hr.k' with e | e <;> rw [e] <;> rfl) ⟨_, _, _, _, _, _, rfl⟩
  refine x_cons (τ1 := τ') (s1 := s) (x_frr (τ1 := [some ⟨rowsT rs, false⟩, some ⟨.dic (hmL rs), false⟩, none, none, none, none, none, none]) rfl (rows_seq rfl) ?_ ?_) (x_rt (x_ret rfl (v_con rfl)))
  · show (rs.map Rw.t).length < p.fu
    rw [C.fu, List.length_map]; omega
  · rw [Bool.or_false]
    exact q
end
end MP

set_option Elab.async false
set_option linter.all false
set_option maxRecDepth 100000
namespace MP
open PySem L2
theorem x_ifT {TP : Tg0} {lk : Bool} {τ τ1 : Tl} {s s1 : Om} {c : E} {a b : List S} {x : T} {o : TO} (hr : rel τ (kB true c) = τ1) (hc : tev TP lk true c τ1 s = .ok x s1) (ht : truT TP lk x = some true) (ho : texs TP lk a τ1 s1 = o) : tex TP lk (.ite c a b) τ s = o := x_if hr hc ht ((if_pos rfl).trans ho)
theorem x_ifF {TP : Tg0} {lk : Bool} {τ τ1 : Tl} {s s1 : Om} {c : E} {a b : List S} {x : T} {o : TO} (hr : rel τ (kB true c) = τ1) (hc : tev TP lk true c τ1 s = .ok x s1) (ht : truT TP lk x = some false) (ho : texs TP lk b τ1 s1 = o) : tex TP lk (.ite c a b) τ s = o := x_if hr hc ht ((if_neg (by decide)).trans ho)
abbrev s0 : Str := Str.ofString ""
/-- how many steps up, at most n -/
def climb (hm : Str → Str) : Nat → Str → Nat
  | 0, _ => 0
  | n + 1, x => if x = s0 then 0 else 1 + climb hm n (hm x)
theorem climb_le (hm : Str → Str) : ∀ n x, climb hm n x ≤ n
  | 0, _ => Nat.le_refl _
  | n + 1, x => by
    unfold climb
    split
    · exact Nat.zero_le _
    · have := climb_le hm n (hm x)
      omega
theorem climb_ge (hm : Str → Str) : ∀ m n x, m ≤ n → (m ≤ climb hm n x ↔ m ≤ climb hm m x)
  | 0, _, _, _ => by simp
  | m + 1, n, x, h => by
    obtain ⟨n, rfl⟩ : ∃ n', n = n' + 1 := ⟨n - 1, by omega⟩
    unfold climb
    split
    · simp
    · have := climb_ge hm m n (hm x) (by omega)
      omega
/-- the home of a scope -/
def homeOf (ss : List Rw) (x : Str) : Str := (homeIn ss x).getD s0
/-- x is no scope's name, or a scope's -/
def Known (ss : List Rw) (x : Str) : Prop := x = s0 ∨ ∃ h, homeIn ss x = some h
theorem homeIn_mem {ss : List Rw} {x h : Str} (e : homeIn ss x = some h) : ∃ r ∈ ss, r.nm = x ∧ r.home = h := by
  unfold homeIn at e
  obtain ⟨r, e1, rfl⟩ := Option.map_eq_some_iff.mp e
  exact ⟨r, List.mem_of_find?_eq_some e1, by simpa using List.find?_some e1, rfl⟩
theorem known_home {rs : List Rw} (hc : Closed rs) {x h : Str} (e : homeIn (scopesOf rs) x = some h) : Known (scopesOf rs) h := by
  obtain ⟨r, hr, _, rfl⟩ := homeIn_mem e
  exact hc r (List.mem_filter.mp hr).1
section
variable {p : Prog} {k : Nat} {lk : Bool} {s : Om}
theorem idx_home {TP : Tg0} {rs : List Rw} {x h : Str} (e : homeIn (scopesOf rs) x = some h) : idxT TP (.dic (hmL rs)) (.str x) = some (.str h) := by
  show getT (hmL rs) (.inr x) = _
  unfold hmL
  rw [getT_hm, e]; rfl
/-- the climb of wrong_nest -/
theorem climb5 (C : CxN p) {rs : List Rw} (hc : Closed rs) {a2 : Option Sv} : ∀ (n d f : Nat) (x : Str), d + n = 5 → n < f → Known (scopesOf rs) x → ∃ y, whT (fun τ s => (tev (tk p k) lk true (.and (.cmp .ne (.var 4) (.con (.str ""))) (.cmp .le (.var 3) (.glb "DEPTH"))) τ s).bind fun x s1 => ofT (truT (tk p k) lk x) s1) (fun τ s => texs (tk p k) lk [.asg (.nm 4) (.idx (.var 1) (.var 4)), .aug 3 .add (.con (.int 1))] τ s) f [some ⟨rowsT rs, false⟩, some ⟨.dic (hmL rs), false⟩, a2, some ⟨.int d, false⟩, some ⟨.str x, false⟩] s = .nx [some ⟨rowsT rs, false⟩, some ⟨.dic (hmL rs), false⟩, a2, some ⟨.int (d + climb (homeOf (scopesOf rs)) n x : Nat), false⟩, some ⟨.str y, false⟩] s
  | 0, d, f + 1, x, hd, hf, hx => by
    refine ⟨x, ?_⟩
    have c1 : tev (tk p k) lk true (.cmp .ne (.var 4) (.con (.str ""))) [some ⟨rowsT rs, false⟩, some ⟨.dic (hmL rs), false⟩, a2, some ⟨.int d, false⟩, some ⟨.str x, false⟩] s = .ok (.bl (!decide (x = s0))) s := v_cmp (v_var rfl rfl rfl) (v_con rfl) (ne_str _ _)
    have c2 : tev (tk p k) lk true (.cmp .le (.var 3) (.glb "DEPTH")) [some ⟨rowsT rs, false⟩, some ⟨.dic (hmL rs), false⟩, a2, some ⟨.int d, false⟩, some ⟨.str x, false⟩] s = .ok (.bl (decide ((d : Int) ≤ 4))) s := v_cmp (v_var rfl rfl rfl) (v_glb C.g_dep rfl) rfl
    rw [decide_eq_false (by omega)] at c2
    have c := v_and c1 (fun _ => c2)
    rw [Bool.and_false] at c
    exact wh_f c rfl
  | n + 1, d, f + 1, x, hd, hf, hx => by
    have c1 : tev (tk p k) lk true (.cmp .ne (.var 4) (.con (.str ""))) [some ⟨rowsT rs, false⟩, some ⟨.dic (hmL rs), false⟩, a2, some ⟨.int d, false⟩, some ⟨.str x, false⟩] s = .ok (.bl (!decide (x = s0))) s := v_cmp (v_var rfl rfl rfl) (v_con rfl) (ne_str _ _)
    have c2 : tev (tk p k) lk true (.cmp .le (.var 3) (.glb "DEPTH")) [some ⟨rowsT rs, false⟩, some ⟨.dic (hmL rs), false⟩, a2, some ⟨.int d, false⟩, some ⟨.str x, false⟩] s = .ok (.bl (decide ((d : Int) ≤ 4))) s := v_cmp (v_var rfl rfl rfl) (v_glb C.g_dep rfl) rfl
    rw [decide_eq_true (by omega)] at c2
    have c := v_and c1 (fun _ => c2)
    rw [Bool.and_true] at c
    by_cases z : x = s0
    · rw [decide_eq_true z] at c
      refine ⟨x, ?_⟩
      have : climb (homeOf (scopesOf rs)) (n + 1) x = 0 := by unfold climb; rw [if_pos z]
      rw [this]
      exact wh_f c rfl
    · rw [decide_eq_false z] at c
      obtain ⟨h, e⟩ := hx.resolve_left z
      have eh : homeOf (scopesOf rs) x = h := by unfold homeOf; rw [e]; rfl
      obtain ⟨y, q⟩ := climb5 C hc (a2 := a2) n (d + 1) f h (by omega) (by omega) (known_home hc e)
      refine ⟨y, (wh_t c rfl ?_).trans (q.trans ?_)⟩
      · refine x_cons (x_asg (v := .str h) (τ1 := [some ⟨rowsT rs, false⟩, some ⟨.dic (hmL rs), false⟩, a2, some ⟨.int d, false⟩, some ⟨.str x, false⟩]) (τ2 := [some ⟨rowsT rs, false⟩, some ⟨.dic (hmL rs), false⟩, a2, some ⟨.int d, false⟩, some ⟨.str h, false⟩]) rfl rfl (v_idx (v_var rfl rfl rfl) (v_var rfl rfl rfl) (idx_home e)) rfl) ?_
        exact x_cons (x_aug (a := (d : Int)) (b := 1) rfl (v_con rfl)) rfl
      · have : climb (homeOf (scopesOf rs)) (n + 1) x = 1 + climb (homeOf (scopesOf rs)) n h := by
          rw [← eh]
          conv => lhs; unfold climb
          rw [if_neg z]
        rw [this, Nat.add_assoc]
/-- the scope that is nested too deep -/
def nestOf (rs : List Rw) : Option Str := ((scopesOf rs).find? fun r => decide (4 < climb (homeOf (scopesOf rs)) 5 r.nm)).map (·.nm)
theorem self_known {ss : List Rw} {r : Rw} (h : r ∈ ss) : Known ss r.nm := by
  refine .inr ?_
  cases e : homeIn ss r.nm with
  | some h => exact ⟨h, rfl⟩
  | none =>
    unfold homeIn at e
    rw [Option.map_eq_none_iff, List.find?_eq_none] at e
    exact absurd (decide_eq_true rfl) (e r h)
def optT : Option Str → T
  | some x => .str x
  | none => .non
theorem find_some {α : Type} (b : α → Bool) (f : α → T) : ∀ xs : List α, (xs.map f).findSome? (fun _ => (none : Option T)) = none
  | [] => rfl
  | x :: xs => by rw [List.map_cons, List.findSome?_cons]; exact find_some b f xs
/-- a walk over things made of rows that stops at the first that b marks -/
theorem f_first {turn : T → Tl → Om → TO} {I : Tl → Prop} {b : Rw → Bool} {f v : Rw → T} : ∀ {rs : List Rw} {τ : Tl}, (∀ r ∈ rs, ∀ τ, I τ → if b r = true then turn (f r) τ s = .rt (v r) s else ∃ τ', turn (f r) τ s = .nx τ' s ∧ I τ') → I τ → match rs.find? b with
    | some r => frT turn (rs.map f) τ s = .rt (v r) s
    | none => ∃ τ', frT turn (rs.map f) τ s = .nx τ' s ∧ I τ'
  | [], τ, _, i => ⟨τ, rfl, i⟩
  | r :: rs, τ, h, i => by
    have h1 := h r (List.mem_cons_self ..) τ i
    rw [List.find?_cons, List.map_cons]
    cases e : b r with
    | true =>
      rw [if_pos e] at h1
      exact f_rt h1
    | false =>
      rw [if_neg (by rw [e]; decide)] at h1
      obtain ⟨τ', q, i'⟩ := h1
      show (match rs.find? b with
        | some r' => frT turn (f r :: rs.map f) τ s = .rt (v r') s
        | none => ∃ τ', frT turn (f r :: rs.map f) τ s = .nx τ' s ∧ I τ')
      rw [f_cons q]
      exact f_first (fun y hy => h y (List.mem_cons_of_mem _ hy)) i'
theorem wrong_nest_ok (C : CxN p) {rs : List Rw} (hn : (rs.map (·.nm)).Nodup) (hc : Closed rs) (hl : rs.length < 1000) : (tk p (k + 2)).cl ("", "wrong_nest") [rowsT rs] false s = .ok (optT (nestOf rs)) s := by
  refine call_fn (d := d_wrong_nest) (o := .rt (optT (nestOf rs)) s) C.f_wrong_nest (by decide) (by decide) rfl ?_
  refine x_cons (x_asg (τ1 := [some ⟨rowsT rs, false⟩, none, none, none, none]) (τ2 := [some ⟨rowsT rs, false⟩, some ⟨.dic (hmL rs), false⟩, none, none, none]) (s1 := s) rfl rfl (v_call (w_cons rfl (v_var rfl rfl rfl) w_nil) (scope_homes_ok C hn hl)) rfl) ?_
  let I : Tl → Prop := fun τ => ∃ a2 a3 a4 : Option Sv, τ = [some ⟨rowsT rs, false⟩, some ⟨.dic (hmL rs), false⟩, a2, a3, a4]
  have key := f_first (s := s) (rs := scopesOf rs) (I := I) (b := fun r => decide (4 < climb (homeOf (scopesOf rs)) 5 r.nm)) (f := fun r => .str r.nm) (v := fun r => .str r.nm) (turn := turnF (tk p (k + 1)) true (.nm 2) [.asg (.nm 3) (.con (.int 0)), .asg (.nm 4) (.var 2), .whl (.and (.cmp .ne (.var 4) (.con (.str ""))) (.cmp .le (.var 3) (.glb "DEPTH"))) [.asg (.nm 4) (.idx (.var 1) (.var 4)), .aug 3 .add (.con (.int 1))], .ite (.cmp .gt (.var 3) (.glb "DEPTH")) [.ret (.var 2)] []]) (τ := [some ⟨rowsT rs, false⟩, some ⟨.dic (hmL rs), false⟩, none, none, none]) (fun r hr τ i => by
    obtain ⟨a2, a3, a4, rfl⟩ := i
    obtain ⟨y, q⟩ := climb5 (k := k + 1) (lk := true) (s := s) C hc (a2 := some ⟨.str r.nm, false⟩) 5 0 2000 r.nm rfl (by omega) (self_known hr)
    rw [Nat.zero_add] at q
    have c : tev (tk p (k + 1)) true true (.cmp .gt (.var 3) (.glb "DEPTH")) [some ⟨rowsT rs, false⟩, some ⟨.dic (hmL rs), false⟩, some ⟨.str r.nm, false⟩, some ⟨.int (climb (homeOf (scopesOf rs)) 5 r.nm : Nat), false⟩, some ⟨.str y, false⟩] s = .ok (.bl (decide ((4 : Int) < climb (homeOf (scopesOf rs)) 5 r.nm))) s := v_cmp (v_var rfl rfl rfl) (v_glb C.g_dep rfl) rfl
    have run : ∀ o, tex (tk p (k + 1)) true (.ite (.cmp .gt (.var 3) (.glb "DEPTH")) [.ret (.var 2)] []) [some ⟨rowsT rs, false⟩, some ⟨.dic (hmL rs), false⟩, some ⟨.str r.nm, false⟩, some ⟨.int (climb (homeOf (scopesOf rs)) 5 r.nm : Nat), false⟩, some ⟨.str y, false⟩] s = o → texs (tk p (k + 1)) true [.asg (.nm 3) (.con (.int 0)), .asg (.nm 4) (.var 2), .whl (.and (.cmp .ne (.var 4) (.con (.str ""))) (.cmp .le (.var 3) (.glb "DEPTH"))) [.asg (.nm 4) (.idx (.var 1) (.var 4)), .aug 3 .add (.con (.int 1))], .ite (.cmp .gt (.var 3) (.glb "DEPTH")) [.ret (.var 2)] []] [some ⟨rowsT rs, false⟩, some ⟨.dic (hmL rs), false⟩, some ⟨.str r.nm, false⟩, a3, a4] s = texs (tk p (k + 1)) true [.ite (.cmp .gt (.var 3) (.glb "DEPTH")) [.ret (.var 2)] []] [some ⟨rowsT rs, false⟩, some ⟨.dic (hmL rs), false⟩, some ⟨.str r.nm, false⟩, some ⟨.int (climb (homeOf (scopesOf rs)) 5 r.nm : Nat), false⟩, some ⟨.str y, false⟩] s := fun o _ => by
      refine x_cons (x_asg (v := .int 0) (τ1 := [some ⟨rowsT rs, false⟩, some ⟨.dic (hmL rs), false⟩, some ⟨.str r.nm, false⟩, a3, a4]) (τ2 := [some ⟨rowsT rs, false⟩, some ⟨.dic (hmL rs), false⟩, some ⟨.str r.nm, false⟩, some ⟨.int 0, false⟩, a4]) rfl rfl (v_con rfl) rfl) ?_
      refine x_cons (x_asg (v := .str r.nm) (τ1 := [some ⟨rowsT rs, false⟩, some ⟨.dic (hmL rs), false⟩, some ⟨.str r.nm, false⟩, some ⟨.int 0, false⟩, a4]) (τ2 := [some ⟨rowsT rs, false⟩, some ⟨.dic (hmL rs), false⟩, some ⟨.str r.nm, false⟩, some ⟨.int 0, false⟩, some ⟨.str r.nm, false⟩]) rfl rfl (v_var rfl rfl rfl) rfl) ?_
      refine x_cons (x_whl ?_) rfl
      rw [show (tk p (k + 1)).fu = 2000 from C.fu]
      exact q
    have t1 : turnF (tk p (k + 1)) true (.nm 2) [.asg (.nm 3) (.con (.int 0)), .asg (.nm 4) (.var 2), .whl (.and (.cmp .ne (.var 4) (.con (.str ""))) (.cmp .le (.var 3) (.glb "DEPTH"))) [.asg (.nm 4) (.idx (.var 1) (.var 4)), .aug 3 .add (.con (.int 1))], .ite (.cmp .gt (.var 3) (.glb "DEPTH")) [.ret (.var 2)] []] (.str r.nm) [some ⟨rowsT rs, false⟩, some ⟨.dic (hmL rs), false⟩, a2, a3, a4] s = _ := (tF (τ1 := [some ⟨rowsT rs, false⟩, some ⟨.dic (hmL rs), false⟩, some ⟨.str r.nm, false⟩, a3, a4]) rfl).trans (run _ rfl)
    by_cases z : 4 < climb (homeOf (scopesOf rs)) 5 r.nm
    · rw [if_pos (decide_eq_true z)]
      rw [decide_eq_true (by omega)] at c
      exact t1.trans (x_rt (x_ifT (τ1 := [some ⟨rowsT rs, false⟩, some ⟨.dic (hmL rs), false⟩, some ⟨.str r.nm, false⟩, some ⟨.int (climb (homeOf (scopesOf rs)) 5 r.nm : Nat), false⟩, some ⟨.str y, false⟩]) rfl c rfl (x_rt (x_ret (τ1 := [some ⟨rowsT rs, false⟩, some ⟨.dic (hmL rs), false⟩, some ⟨.str r.nm, false⟩, some ⟨.int (climb (homeOf (scopesOf rs)) 5 r.nm : Nat), false⟩, some ⟨.str y, false⟩]) rfl (v_var rfl rfl rfl)))))
    · rw [if_neg (by rw [decide_eq_false z]; decide)]
      rw [decide_eq_false (by omega)] at c
      exact ⟨_, t1.trans (x_cons (x_if (τ1 := [some ⟨rowsT rs, false⟩, some ⟨.dic (hmL rs), false⟩, some ⟨.str r.nm, false⟩, some ⟨.int (climb (homeOf (scopesOf rs)) 5 r.nm : Nat), false⟩, some ⟨.str y, false⟩]) rfl c rfl rfl) x_nil), _, _, _, rfl⟩) ⟨_, _, _, rfl⟩
  have hseq : tevI (tk p (k + 1)) false false (.seq (.var 1)) [some ⟨rowsT rs, false⟩, some ⟨.dic (hmL rs), false⟩, none, none, none] s = .ok ((scopesOf rs).map fun r => T.str r.nm, true) s := by
    refine vi_seq (v_var rfl rfl rfl) ?_
    show some ((hmL rs).map fun kv => tK kv.1, true) = _
    unfold hmL
    rw [List.map_map]; rfl
  have hlen : ((scopesOf rs).map fun r => T.str r.nm).length < p.fu := by
    rw [C.fu, List.length_map]
    have : (scopesOf rs).length ≤ rs.length := List.length_filter_le ..
    omega
  unfold nestOf
  cases e : (scopesOf rs).find? (fun r => decide (4 < climb (homeOf (scopesOf rs)) 5 r.nm)) with
  | some r =>
    rw [e] at key
    refine x_rt (x_frr (τ1 := [some ⟨rowsT rs, false⟩, some ⟨.dic (hmL rs), false⟩, none, none, none]) rfl hseq hlen ?_)
    rw [show frT (turnF (tk p (k + 1)) (false || true) (.nm 2) _) _ _ s = _ from key]
    rfl
  | none =>
    rw [e] at key
    obtain ⟨τ', q, _⟩ := key
    refine x_cons (τ1 := τ') (s1 := s) (x_frr (τ1 := [some ⟨rowsT rs, false⟩, some ⟨.dic (hmL rs), false⟩, none, none, none]) rfl hseq hlen ?_) (x_rt (x_ret rfl (v_con rfl)))
    rw [show frT (turnF (tk p (k + 1)) (false || true) (.nm 2) _) _ _ s = _ from q]
    rfl
end
end MP

set_option Elab.async false
set_option linter.all false
set_option maxRecDepth 100000
namespace MP
open PySem L2
section
variable {p : Prog} {k : Nat} {lk : Bool} {s : Om}
theorem f_firstA {α : Type} {turn : T → Tl → Om → TO} {I : Tl → Prop} {b : α → Bool} {f v : α → T} : ∀ {rs : List α} {τ : Tl}, (∀ r ∈ rs, ∀ τ, I τ → if b r = true then turn (f r) τ s = .rt (v r) s else ∃ τ', turn (f r) τ s = .nx τ' s ∧ I τ') → I τ → match rs.find? b with
    | some r => frT turn (rs.map f) τ s = .rt (v r) s
    | none => ∃ τ', frT turn (rs.map f) τ s = .nx τ' s ∧ I τ'
  | [], τ, _, i => ⟨τ, rfl, i⟩
  | r :: rs, τ, h, i => by
    have h1 := h r (List.mem_cons_self ..) τ i
    rw [List.find?_cons, List.map_cons]
    cases e : b r with
    | true =>
      rw [if_pos e] at h1
      exact f_rt h1
    | false =>
      rw [if_neg (by rw [e]; decide)] at h1
      obtain ⟨τ', q, i'⟩ := h1
      show (match rs.find? b with
        | some r' => frT turn (f r :: rs.map f) τ s = .rt (v r') s
        | none => ∃ τ', frT turn (f r :: rs.map f) τ s = .nx τ' s ∧ I τ')
      rw [f_cons q]
      exact f_firstA (fun y hy => h y (List.mem_cons_of_mem _ hy)) i'
def bcnt (rs : List Rw) (x : Str) : Nat := (rs.filter fun r => decide (r.k = sBegin) && decide (r.home = x)).length
def placesOf (rs : List Rw) : List Str := s0 :: (scopesOf rs).map (·.nm)
def beginOf (rs : List Rw) : Option Str := (placesOf rs).find? fun x => !decide (bcnt rs x = 1)
theorem wrong_begin_ok (C : CxN p) {rs : List Rw} (hn : (rs.map (·.nm)).Nodup) (hl : rs.length < 1000) : (tk p (k + 2)).cl ("", "wrong_begin") [rowsT rs] lk s = .ok (optT (beginOf rs)) s := by
  refine call_fn (d := d_wrong_begin) (o := .rt (optT (beginOf rs)) s) C.f_wrong_begin (by decide) (by decide) rfl ?_
  refine x_cons (x_asg (τ1 := [some ⟨rowsT rs, false⟩, none, none, none, none]) (τ2 := [some ⟨rowsT rs, false⟩, some ⟨.dic (hmL rs), false⟩, none, none, none]) (s1 := s) rfl rfl (v_call (w_cons rfl (v_var rfl rfl rfl) w_nil) (scope_homes_ok C hn hl)) rfl) ?_
  let I : Tl → Prop := fun τ => ∃ a2 : Option Sv, τ = [some ⟨rowsT rs, false⟩, some ⟨.dic (hmL rs), false⟩, a2, none, none]
  have key := f_firstA (s := s) (rs := placesOf rs) (I := I) (b := fun x => !decide (bcnt rs x = 1)) (f := T.str) (v := T.str) (turn := turnF (tk p (k + 1)) lk (.nm 2) [.ite (.cmp .ne (.blt .len [(.cp false (.con .non) (.var 4) (.nm 4) (.seq (.var 0)) [(.and (.cmp .eq (.idx (.var 4) (.con (.int 0))) (.con (.str "begin"))) (.cmp .eq (.idx (.var 4) (.con (.int 4))) (.var 2)))] [3, 4])]) (.con (.int 1))) [.ret (.var 2)] []]) (τ := [some ⟨rowsT rs, false⟩, some ⟨.dic (hmL rs), false⟩, none, none, none]) (fun x hx τ i => by
    obtain ⟨a2, rfl⟩ := i
    have q : cpL (turnL (tk p (k + 1)) (lk || false) (.var 4) (.nm 4) [(.and (.cmp .eq (.idx (.var 4) (.con (.int 0))) (.con (.str "begin"))) (.cmp .eq (.idx (.var 4) (.con (.int 4))) (.var 2)))] [3, 4] [some ⟨rowsT rs, false⟩, some ⟨.dic (hmL rs), false⟩, some ⟨.str x, false⟩, none, none]) (rs.map Rw.t) s = .ok (rs.filterMap fun r => if (decide (r.k = sBegin) && decide (r.home = x)) = true then some r.t else none) s := by
      refine cpL_rows fun r hr => ?_
      refine turnL_if (τ1 := [some ⟨rowsT rs, false⟩, some ⟨.dic (hmL rs), false⟩, some ⟨.str x, false⟩, none, some ⟨r.t, false⟩]) rfl ?_ (fun _ => v_var rfl rfl rfl)
      exact v_and (v_cmp (v_idx (v_var rfl rfl rfl) (v_con rfl) rfl) (v_con rfl) (eq_str _ _)) fun _ => v_cmp (v_idx (v_var rfl rfl rfl) (v_con rfl) rfl) (v_var rfl rfl rfl) (eq_str _ _)
    rw [fm_if] at q
    have ec : tev (tk p (k + 1)) lk true (.cp false (.con .non) (.var 4) (.nm 4) (.seq (.var 0)) [(.and (.cmp .eq (.idx (.var 4) (.con (.int 0))) (.con (.str "begin"))) (.cmp .eq (.idx (.var 4) (.con (.int 4))) (.var 2)))] [3, 4]) [some ⟨rowsT rs, false⟩, some ⟨.dic (hmL rs), false⟩, some ⟨.str x, false⟩, none, none] s = _ :=
      v_cp (rows_seq (i := 0) rfl) (by show (rs.map Rw.t).length < p.fu; rw [C.fu, List.length_map]; omega) q
    have el : tev (tk p (k + 1)) lk true (.blt .len [(.cp false (.con .non) (.var 4) (.nm 4) (.seq (.var 0)) [(.and (.cmp .eq (.idx (.var 4) (.con (.int 0))) (.con (.str "begin"))) (.cmp .eq (.idx (.var 4) (.con (.int 4))) (.var 2)))] [3, 4])]) [some ⟨rowsT rs, false⟩, some ⟨.dic (hmL rs), false⟩, some ⟨.str x, false⟩, none, none] s = .ok (.int (bcnt rs x)) s :=
      v_blt (w_cons rfl ec w_nil) (by
        show some (T.int (((rs.filter fun r => decide (r.k = sBegin) && decide (r.home = x)).map Rw.t).length)) = _
        rw [List.length_map]; rfl)
    have c := v_cmp (TP := tk p (k + 1)) (lk := lk) (bo := true) (o := .ne) el (v_con (w := .int 1) rfl) (ne_int _ _)
    have ed : decide ((bcnt rs x : Int) = 1) = decide (bcnt rs x = 1) := decide_eq_decide.mpr (by omega)
    rw [ed] at c
    have t1 := fun o h => (tF (TP := tk p (k + 1)) (lk := lk) (t := .nm 2) (b := [.ite (.cmp .ne (.blt .len [(.cp false (.con .non) (.var 4) (.nm 4) (.seq (.var 0)) [(.and (.cmp .eq (.idx (.var 4) (.con (.int 0))) (.con (.str "begin"))) (.cmp .eq (.idx (.var 4) (.con (.int 4))) (.var 2)))] [3, 4])]) (.con (.int 1))) [.ret (.var 2)] []]) (x := .str x) (τ := [some ⟨rowsT rs, false⟩, some ⟨.dic (hmL rs), false⟩, a2, none, none]) (s := s) (τ1 := [some ⟨rowsT rs, false⟩, some ⟨.dic (hmL rs), false⟩, some ⟨.str x, false⟩, none, none]) rfl).trans (b := _) (c := o) h
    cases z : decide (bcnt rs x = 1) with
    | false =>
      rw [z] at c
      exact (if_pos rfl).mpr (t1 _ (x_rt (x_ifT (τ1 := [some ⟨rowsT rs, false⟩, some ⟨.dic (hmL rs), false⟩, some ⟨.str x, false⟩, none, none]) rfl c rfl (x_rt (x_ret (τ1 := [some ⟨rowsT rs, false⟩, some ⟨.dic (hmL rs), false⟩, some ⟨.str x, false⟩, none, none]) rfl (v_var rfl rfl rfl))))))
    | true =>
      rw [z] at c
      exact (if_neg (by decide)).mpr ⟨_, t1 _ (x_cons (x_ifF (τ1 := [some ⟨rowsT rs, false⟩, some ⟨.dic (hmL rs), false⟩, some ⟨.str x, false⟩, none, none]) rfl c rfl rfl) x_nil), _, rfl⟩) ⟨_, rfl⟩
  have hseq : tevI (tk p (k + 1)) lk false (.seq (.lst [(.con (.str "")), (.star (.var 1))])) [some ⟨rowsT rs, false⟩, some ⟨.dic (hmL rs), false⟩, none, none, none] s = .ok ((placesOf rs).map T.str, false) s := by
    have hk : starT (tk p (k + 1)) (.dic (hmL rs)) = some ((scopesOf rs).map fun r => T.str r.nm) := by
      show some ((hmL rs).map fun kv => tK kv.1) = _
      unfold hmL
      rw [List.map_map]; rfl
    refine vi_seq (v_lst (w_cons rfl (v_con rfl) (w_star (v_var rfl rfl rfl) hk w_nil)) ?_) ?_
    · have : (scopesOf rs).length ≤ rs.length := List.length_filter_le ..
      simp only [List.length_cons, List.length_append, List.length_map, List.length_nil]
      rw [lim_eq]; omega
    · show some (_ :: (_ ++ []), false) = _
      unfold placesOf
      rw [List.append_nil, List.map_cons, List.map_map]; rfl
  have hlen : ((placesOf rs).map T.str).length < p.fu := by
    rw [C.fu, List.length_map]
    unfold placesOf
    rw [List.length_cons, List.length_map]
    have : (scopesOf rs).length ≤ rs.length := List.length_filter_le ..
    omega
  have hb : beginOf rs = (placesOf rs).find? fun x => !decide (bcnt rs x = 1) := rfl
  rw [hb]
  cases e : (placesOf rs).find? (fun x => !decide (bcnt rs x = 1)) with
  | some r =>
    rw [e] at key
    refine x_rt (x_frr (τ1 := [some ⟨rowsT rs, false⟩, some ⟨.dic (hmL rs), false⟩, none, none, none]) rfl hseq hlen ?_)
    rw [show (lk || false) = lk from Bool.or_false lk]
    exact key
  | none =>
    rw [e] at key
    obtain ⟨τ', q, _⟩ := key
    refine x_cons (τ1 := τ') (s1 := s) (x_frr (τ1 := [some ⟨rowsT rs, false⟩, some ⟨.dic (hmL rs), false⟩, none, none, none]) rfl hseq hlen ?_) (x_rt (x_ret rfl (v_con rfl)))
    rw [show (lk || false) = lk from Bool.or_false lk]
    exact q
end
end MP

set_option Elab.async false
set_option linter.all false
set_option maxRecDepth 100000
namespace MP
open PySem L2
def turn2L (TP : Tg0) (lk : Bool) (vx : E) (tg : Tg) (ifs : List E) (it1 : E) (tg1 : Tg) (ifs1 : List E) (own own1 : List Nat) (τ : Tl) : T → Om → TR (List T) := fun x s => match stTT TP tg x (wipeT τ own) with
  | none => .no
  | some τ' => (tevC TP lk ifs τ' s).bind fun b s1 => if b = true then (tevI TP lk false it1 τ' s1).bind fun xs1 s2 => if xs1.2 = false ∧ xs1.1.length < TP.fu then
      cpL (turnL TP lk vx tg1 ifs1 own1 τ') xs1.1 s2
      else .no
    else .ok [] s1
section
variable {TP : Tg0} {lk bo : Bool} {τ τ1 τ2 : Tl} {s s1 s2 : Om}
theorem v_cp2 {kx vx it it1 : E} {tg tg1 : Tg} {ifs ifs1 : List E} {own own1 : List Nat} {xs : List T × Bool} {ys : List T} (hi : tevI TP lk true it τ s = .ok xs s1) (hl : xs.1.length < TP.fu) (hc : cpF (turn2L TP (lk || xs.2) vx tg ifs it1 tg1 ifs1 own own1 τ) xs.1 s1 = .ok ys s2) (hy : ys.length ≤ lim) : tev TP lk bo (.cp2 false kx vx tg it ifs tg1 it1 ifs1 own own1) τ s = .ok (.lst ys) s2 := by
  show ((tevI TP lk true it τ s).bind fun xs s1 => if xs.1.length < TP.fu then ((cpF (turn2L TP (lk || xs.2) vx tg ifs it1 tg1 ifs1 own own1 τ) xs.1 s1).bind fun ys s2 => if ys.length ≤ lim then TR.ok (T.lst ys) s2 else .no) else .no) = _
  rw [hi]
  show (if xs.1.length < TP.fu then ((cpF (turn2L TP (lk || xs.2) vx tg ifs it1 tg1 ifs1 own own1 τ) xs.1 s1).bind fun ys s2 => if ys.length ≤ lim then TR.ok (T.lst ys) s2 else .no) else .no) = _
  rw [if_pos hl, hc]
  exact if_pos hy
theorem turn2_ok {vx it1 : E} {tg tg1 : Tg} {own own1 : List Nat} {x : T} {xs ys : List T} (h1 : stTT TP tg x (wipeT τ own) = some τ1) (hi : tevI TP lk false it1 τ1 s = .ok (xs, false) s) (hl : xs.length < TP.fu) (hc : cpL (turnL TP lk vx tg1 [] own1 τ1) xs s = .ok ys s) : turn2L TP lk vx tg [] it1 tg1 [] own own1 τ x s = .ok ys s := by
  show (match stTT TP tg x (wipeT τ own) with
    | none => TR.no
    | some τ' => (tevI TP lk false it1 τ' s).bind fun xs1 s2 => if xs1.2 = false ∧ xs1.1.length < TP.fu then
      cpL (turnL TP lk vx tg1 [] own1 τ') xs1.1 s2
      else .no) = _
  rw [h1]
  show ((tevI TP lk false it1 τ1 s).bind fun xs1 s2 => if xs1.2 = false ∧ xs1.1.length < TP.fu then
      cpL (turnL TP lk vx tg1 [] own1 τ1) xs1.1 s2
      else .no) = _
  rw [hi]
  show (if false = false ∧ xs.length < TP.fu then
      cpL (turnL TP lk vx tg1 [] own1 τ1) xs s
      else .no) = _
  rw [if_pos ⟨rfl, hl⟩, hc]
theorem cpF_rows {turn : T → Om → TR (List T)} {g : Rw → List Str} : ∀ {rs : List Rw}, (∀ r ∈ rs, turn r.t s = .ok (stL (g r)) s) → cpF turn (rs.map Rw.t) s = .ok (stL (rs.flatMap g)) s
  | [], _ => rfl
  | r :: rs, hx => by
    rw [List.map_cons]
    unfold cpF
    rw [hx r (List.mem_cons_self ..)]
    dsimp only
    rw [cpF_rows fun y hy => hx y (List.mem_cons_of_mem _ hy)]
    dsimp only
    rw [List.flatMap_cons, stL, stL, stL, List.map_append]
theorem strsT_stL : ∀ xs : List Str, strsT (stL xs) = some xs
  | [] => rfl
  | x :: xs => by
    show (strsT (stL xs)).map (x :: ·) = _
    rw [strsT_stL xs]; rfl
theorem ddS_len : ∀ xs : List Str, (ddS xs).length ≤ xs.length
  | [] => Nat.le_refl _
  | x :: xs => by
    have := ddS_len xs
    unfold ddS
    split
    · rw [List.length_cons]; omega
    · rw [List.length_cons, List.length_cons]; omega
/-- how often x is in xs -/
def scnt (xs : List Str) (x : Str) : Nat := (xs.filter fun y => decide (y = x)).length
theorem cpL_strs {α : Type} {turn : T → Om → TR (Option α)} {g : Str → Option α} : ∀ {xs : List Str}, (∀ x ∈ xs, turn (.str x) s = .ok (g x) s) → cpL turn (stL xs) s = .ok (xs.filterMap g) s
  | [], _ => rfl
  | r :: rs, hx => by
    show (match turn (.str r) s with
      | .ok y s1 => (match cpL turn (stL rs) s1 with
        | .ok ys s2 => TR.ok (match y with
          | some y => y :: ys
          | none => ys) s2
        | _ => TR.no)
      | _ => TR.no) = _
    rw [hx r (List.mem_cons_self ..)]
    show (match cpL turn (stL rs) s with
        | .ok ys s2 => TR.ok (match g r with
          | some y => y :: ys
          | none => ys) s2
        | _ => TR.no) = _
    rw [cpL_strs fun y hy => hx y (List.mem_cons_of_mem _ hy)]
    show TR.ok (match g r with
          | some y => y :: rs.filterMap g
          | none => rs.filterMap g) s = _
    rw [List.filterMap_cons]
    cases g r <;> rfl
end
section
variable {p : Prog} {k : Nat} {lk : Bool} {s : Om}
theorem ids_ok (C : CxN p) {rs : List Rw} {g : Rw → List Str} {i : Nat} {τ : Tl} (hi : ∀ r : Rw, idxT (tk p k) r.t (.int i) = some (.tup (stL (g r)))) (h0 : τ[0]? = some (some ⟨rowsT rs, false⟩)) (hl : rs.length < 1000) (hg : ∀ r ∈ rs, (g r).length ≤ 1) {τf : Rw → Tl} (h5 : ∀ r : Rw, stTT (tk p k) (.nm 5) r.t (wipeT τ [4, 5, 1]) = some (τf r)) (hf : ∀ r, (τf r)[5]? = some (some ⟨r.t, false⟩)) (h1 : ∀ r x, ∃ τ2, stTT (tk p k) (.nm 1) (.str x) (wipeT (τf r) [1]) = some τ2 ∧ τ2[1]? = some (some ⟨.str x, false⟩)) : tev (tk p k) lk false (.cp2 false (.con .non) (.var 1) (.nm 5) (.seq (.var 0)) [] (.nm 1) (.seq (.idx (.var 5) (.con (.int i)))) [] [4, 5, 1] [1]) τ s = .ok (.lst (stL (rs.flatMap g))) s := by
  refine v_cp2 (rows_seq h0) (by show (rs.map Rw.t).length < p.fu; rw [C.fu, List.length_map]; omega) (cpF_rows fun r hr => ?_) ?_
  · refine turn2_ok (h5 r) (vi_seq (v_idx (v_var (hf r) rfl rfl) (v_con rfl) (hi r)) rfl) ?_ ?_
    · have := hg r hr
      show (stL (g r)).length < p.fu
      rw [C.fu, List.length_map]; omega
    · have := cpL_map (s := s) (g := id) (turn := turnL (tk p k) (lk || false) (.var 1) (.nm 1) [] [1] (τf r)) (xs := stL (g r)) (fun y hy => by
        obtain ⟨x, _, rfl⟩ := List.mem_map.mp hy
        obtain ⟨τ2, e1, e2⟩ := h1 r x
        exact turnL_ok e1 (v_var e2 rfl rfl))
      rw [List.map_id] at this
      exact this
  · rw [List.length_map]
    have : ∀ qs : List Rw, (∀ r ∈ qs, (g r).length ≤ 1) → (qs.flatMap g).length ≤ qs.length := fun qs => by
      induction qs with
      | nil => intro _; exact Nat.le_refl _
      | cons r qs ih =>
        intro hq
        rw [List.flatMap_cons, List.length_append, List.length_cons]
        have := hq r (List.mem_cons_self ..)
        have := ih fun y hy => hq y (List.mem_cons_of_mem _ hy)
        omega
    have := this rs hg
    rw [lim_eq]; omega
theorem wrong_edge_ok (C : CxN p) {rs : List Rw} (h : ∀ r ∈ rs, RwOk r) (hl : rs.length < 30) (hne : rs ≠ []) (hd : ∀ x ∈ rs.flatMap (·.ins), x ∉ rs.flatMap (·.outs)) : ∃ x, (x ∈ rs.flatMap (·.ins) ∨ x ∈ rs.flatMap (·.outs)) ∧ (tk p (k + 1)).cl ("", "wrong_edge") [rowsT rs] lk s = .ok (.str x) s := by
  have hi : ∀ r ∈ rs, r.ins.length ≤ 1 := fun r hr => by rcases (h r hr).kd with q | q <;> omega
  have ho : ∀ r ∈ rs, r.outs.length ≤ 1 := fun r hr => by rcases (h r hr).kd with q | q <;> omega
  have fl : ∀ g : Rw → List Str, ∀ qs : List Rw, (∀ r ∈ qs, (g r).length ≤ 1) → (qs.flatMap g).length ≤ qs.length := fun g qs => by
    induction qs with
    | nil => intro _; exact Nat.le_refl _
    | cons r qs ih =>
      intro hq
      rw [List.flatMap_cons, List.length_append, List.length_cons]
      have := hq r (List.mem_cons_self ..)
      have := ih fun y hy => hq y (List.mem_cons_of_mem _ hy)
      omega
  have li := fl (·.ins) rs hi
  have lo := fl (·.outs) rs ho
  have hne2 : rs.flatMap (·.ins) ++ rs.flatMap (·.outs) ≠ [] := fun z => by
    obtain ⟨r, rs', rfl⟩ := List.exists_cons_of_ne_nil hne
    have := (List.append_eq_nil_iff.mp z).2
    rw [List.flatMap_cons] at this
    have e := (List.append_eq_nil_iff.mp this).1
    have : r.outs.length = 1 := by rcases (h r (List.mem_cons_self ..)).kd with q | q <;> omega
    rw [e] at this
    cases this
  have hsd : sortS (ddS (rs.flatMap (·.ins) ++ rs.flatMap (·.outs))) ≠ [] := fun z => by
    obtain ⟨x, xs, e⟩ := List.exists_cons_of_ne_nil hne2
    have m : x ∈ ddS (rs.flatMap (·.ins) ++ rs.flatMap (·.outs)) := (mem_ddS _ _).mpr (by rw [e]; exact List.mem_cons_self ..)
    have := (sortS_perm (ddS (rs.flatMap (·.ins) ++ rs.flatMap (·.outs)))).mem_iff.mpr m
    rw [z] at this
    cases this
  obtain ⟨x, xs, ex⟩ := List.exists_cons_of_ne_nil hsd
  have hx : x ∈ rs.flatMap (·.ins) ++ rs.flatMap (·.outs) := (mem_ddS _ _).mp ((sortS_perm _).mem_iff.mp (by rw [ex]; exact List.mem_cons_self ..))
  refine ⟨x, List.mem_append.mp hx, ?_⟩
  generalize eI : rs.flatMap (·.ins) = A at *
  generalize eO : rs.flatMap (·.outs) = B at *
  refine call_fn (d := d_wrong_edge) (o := .rt (.str x) s) C.f_wrong_edge (by decide) (by decide) rfl ?_
  have e2 : tev (tk p k) lk false (.cp2 false (.con .non) (.var 1) (.nm 5) (.seq (.var 0)) [] (.nm 1) (.seq (.idx (.var 5) (.con (.int 2)))) [] [4, 5, 1] [1]) [some ⟨rowsT rs, false⟩, none, none, none, none, none, none, none] s = .ok (.lst (stL (rs.flatMap (·.ins)))) s :=
    ids_ok (i := 2) (g := (·.ins)) (τf := fun r => [some ⟨rowsT rs, false⟩, none, none, none, none, some ⟨r.t, false⟩, none, none]) C (fun r => rfl) rfl (by omega) hi (fun r => rfl) (fun r => rfl) (fun r x => ⟨_, rfl, rfl⟩)
  have e3 : tev (tk p k) lk false (.cp2 false (.con .non) (.var 1) (.nm 5) (.seq (.var 0)) [] (.nm 1) (.seq (.idx (.var 5) (.con (.int 3)))) [] [4, 5, 1] [1]) [some ⟨rowsT rs, false⟩, none, some ⟨.lst (stL A), false⟩, none, none, none, none, none] s = .ok (.lst (stL (rs.flatMap (·.outs)))) s :=
    ids_ok (i := 3) (g := (·.outs)) (τf := fun r => [some ⟨rowsT rs, false⟩, none, some ⟨.lst (stL A), false⟩, none, none, some ⟨r.t, false⟩, none, none]) C (fun r => rfl) rfl (by omega) ho (fun r => rfl) (fun r => rfl) (fun r x => ⟨_, rfl, rfl⟩)
  rw [eI] at e2
  rw [eO] at e3
  refine x_cons (x_asg (τ1 := [some ⟨rowsT rs, false⟩, none, none, none, none, none, none, none]) (τ2 := [some ⟨rowsT rs, false⟩, none, some ⟨.lst (stL A), false⟩, none, none, none, none, none]) (s1 := s) rfl rfl e2 rfl) ?_
  refine x_cons (x_asg (τ1 := [some ⟨rowsT rs, false⟩, none, some ⟨.lst (stL A), false⟩, none, none, none, none, none]) (τ2 := [some ⟨rowsT rs, false⟩, none, some ⟨.lst (stL A), false⟩, some ⟨.lst (stL B), false⟩, none, none, none, none]) (s1 := s) rfl rfl e3 rfl) ?_
  have hadd : binT .add (.lst (stL A)) (.lst (stL B)) = some (.lst (stL (A ++ B))) := by
    show (if (stL A).length + (stL B).length ≤ lim then some (T.lst (stL A ++ stL B)) else none) = _
    rw [if_pos (by rw [List.length_map, List.length_map, lim_eq]; omega), stL, stL, stL, List.map_append]
  have hset : setT (.lst (stL (A ++ B))) = some (.lst (stL (x :: xs))) := by
    show (match strsT (stL (A ++ B)) with
      | some ys => if ys.length < 1000 ∧ (ddS ys).length < 64 then some (T.lst ((sortS (ddS ys)).map .str)) else none
      | none => none) = _
    rw [strsT_stL]
    show (if (A ++ B).length < 1000 ∧ (ddS (A ++ B)).length < 64 then some (T.lst ((sortS (ddS (A ++ B))).map .str)) else none) = _
    have := ddS_len (A ++ B)
    rw [List.length_append] at this
    rw [if_pos ⟨by rw [List.length_append]; omega, by omega⟩, ex]
  have hseq : tevI (tk p k) lk false (.seq (.setOf (.bin .add (.var 2) (.var 3)))) [some ⟨rowsT rs, false⟩, none, some ⟨.lst (stL A), false⟩, some ⟨.lst (stL B), false⟩, none, none, none, none] s = .ok (stL (x :: xs), false) s :=
    vi_seq (v_setOf (v_bin (v_var rfl rfl rfl) (v_var rfl rfl rfl) hadd) hset) rfl
  have hlen : (stL (x :: xs)).length < p.fu := by
    have h1 : (sortS (ddS (A ++ B))).length = (ddS (A ++ B)).length := (sortS_perm _).length_eq
    have := ddS_len (A ++ B)
    rw [List.length_append] at this
    rw [C.fu, List.length_map, ← ex, h1]; omega
  refine x_rt (x_frr (τ1 := [some ⟨rowsT rs, false⟩, none, some ⟨.lst (stL A), false⟩, some ⟨.lst (stL B), false⟩, none, none, none, none]) rfl hseq hlen ?_)
  show frT (turnF (tk p k) (lk || false) _ _) (.str x :: stL xs) _ s = _
  refine f_rt ((tF (τ1 := [some ⟨rowsT rs, false⟩, some ⟨.str x, false⟩, some ⟨.lst (stL A), false⟩, some ⟨.lst (stL B), false⟩, none, none, none, none]) rfl).trans (x_rt ?_))
  have cnt : ∀ Z : List Str, Z.length < 1000 → turnL (tk p k) ((lk || false) || false) (.blt .len [(.cp false (.con .non) (.var 7) (.nm 7) (.seq (.var 6)) [(.cmp .eq (.var 7) (.var 1))] [4, 7])]) (.nm 6) [] [4, 6] [some ⟨rowsT rs, false⟩, some ⟨.str x, false⟩, some ⟨.lst (stL A), false⟩, some ⟨.lst (stL B), false⟩, none, none, none, none] (.lst (stL Z)) s = .ok (some (.int (scnt Z x))) s := fun Z hZ => by
    have q : cpL (turnL (tk p k) (((lk || false) || false) || false) (.var 7) (.nm 7) [(.cmp .eq (.var 7) (.var 1))] [4, 7] [some ⟨rowsT rs, false⟩, some ⟨.str x, false⟩, some ⟨.lst (stL A), false⟩, some ⟨.lst (stL B), false⟩, none, none, some ⟨.lst (stL Z), false⟩, none]) (stL Z) s = .ok (Z.filterMap fun y => if decide (y = x) = true then some (T.str y) else none) s := cpL_strs fun y hy =>
      turnL_if (τ1 := [some ⟨rowsT rs, false⟩, some ⟨.str x, false⟩, some ⟨.lst (stL A), false⟩, some ⟨.lst (stL B), false⟩, none, none, some ⟨.lst (stL Z), false⟩, some ⟨.str y, false⟩]) rfl (v_cmp (v_var rfl rfl rfl) (v_var rfl rfl rfl) (eq_str _ _)) (fun _ => v_var rfl rfl rfl)
    rw [fm_if] at q
    refine turnL_ok (τ1 := [some ⟨rowsT rs, false⟩, some ⟨.str x, false⟩, some ⟨.lst (stL A), false⟩, some ⟨.lst (stL B), false⟩, none, none, some ⟨.lst (stL Z), false⟩, none]) rfl (v_blt (w_cons rfl (v_cp (vi_seq (v_var rfl rfl rfl) rfl) (by show (stL Z).length < p.fu; rw [C.fu, List.length_map]; omega) q) w_nil) ?_)
    show some (T.int (((Z.filter fun y => decide (y = x)).map T.str).length)) = _
    rw [List.length_map]; rfl
  have q2 : cpL (turnL (tk p k) ((lk || false) || false) (.blt .len [(.cp false (.con .non) (.var 7) (.nm 7) (.seq (.var 6)) [(.cmp .eq (.var 7) (.var 1))] [4, 7])]) (.nm 6) [] [4, 6] [some ⟨rowsT rs, false⟩, some ⟨.str x, false⟩, some ⟨.lst (stL A), false⟩, some ⟨.lst (stL B), false⟩, none, none, none, none]) [.lst (stL A), .lst (stL B)] s = .ok [.int (scnt A x), .int (scnt B x)] s := by
    unfold cpL
    rw [cnt A (by omega)]
    dsimp only
    unfold cpL
    rw [cnt B (by omega)]
    rfl
  have c := v_cmp (TP := tk p k) (lk := lk || false) (bo := true) (o := .ne) (s := s) (v_cp (kx := .con .non) (it := .seq (.tup [(.var 2), (.var 3)])) (vi_seq (v_tup (w_cons rfl (v_var rfl rfl rfl) (w_cons rfl (v_var rfl rfl rfl) w_nil)) (show 2 ≤ lim by decide)) rfl) (by show 2 < p.fu; rw [C.fu]; decide) q2) (v_lst (as := [(.con (.int 1)), (.con (.int 1))]) (w_cons rfl (v_con (t := .int 1) rfl) (w_cons rfl (v_con (t := .int 1) rfl) w_nil)) (by decide)) (z := true) (by
    show (eqT (.lst [.int (scnt A x), .int (scnt B x)]) (.lst [.int 1, .int 1])).map (!·) = _
    rw [eq_int2]
    have z : ∀ Z : List Str, x ∉ Z → scnt Z x = 0 := fun Z hZ => by
      unfold scnt
      rw [List.length_eq_zero_iff, List.filter_eq_nil_iff]
      intro y hy e
      exact hZ (of_decide_eq_true e ▸ hy)
    rcases List.mem_append.mp hx with m | m
    · rw [z B (hd x m)]
      show some (!(decide _ && decide ((0 : Int) = 1))) = _
      rw [show decide ((0 : Int) = 1) = false from rfl, Bool.and_false]; rfl
    · rw [z A (fun m2 => hd x m2 m)]
      rfl)
  exact x_ifT (τ1 := [some ⟨rowsT rs, false⟩, some ⟨.str x, false⟩, some ⟨.lst (stL A), false⟩, some ⟨.lst (stL B), false⟩, none, none, none, none]) rfl c rfl (x_rt (x_ret (τ1 := [some ⟨rowsT rs, false⟩, some ⟨.str x, false⟩, some ⟨.lst (stL A), false⟩, some ⟨.lst (stL B), false⟩, none, none, none, none]) rfl (v_var rfl rfl rfl)))
end
end MP

set_option Elab.async false
set_option linter.all false
set_option maxRecDepth 100000
namespace MP
open PySem L2
theorem strOk_of {x : Str} (h : ∀ c ∈ x.cps.toList, c < 0x110000) : PyData.strOk x = true := by
  unfold PyData.strOk
  rw [Array.all_eq_true_iff_forall_mem]
  intro c hc
  exact decide_eq_true (h c (by simpa using hc))
theorem nm_strOk {x : Str} (h : NmOk x) : PyData.strOk x = true :=
  have hl : ∀ c ∈ LET.cps.toList, c < 0x110000 := by decide
  strOk_of fun c hc => hl c (h.2.2 c hc)
theorem s0_strOk : PyData.strOk (Str.ofString "") = true := strOk_of (by decide)
theorem RwOk.ok {r : Rw} (h : RwOk r) : r.ok := by
  refine ⟨?_, nm_strOk h.nm, fun x hx => nm_strOk (h.ins x hx), fun x hx => nm_strOk (h.outs x hx), ?_, ?_⟩
  · rcases h.k' with e | e <;> rw [e] <;> exact strOk_of (by decide)
  · rcases h.home with e | e
    · rw [e]; exact s0_strOk
    · exact nm_strOk e
  · rw [h.gd]; exact s0_strOk
section
variable {p : Prog} {k : Nat} {lk : Bool} {s : Om}
theorem refuse_non (C : CxN p) (w : Str) : (tk p (k + 1)).cl ("", "refuse") [.non, .str w] lk s = .ok .non s := by
  refine call_fn (d := d_refuse) (o := .nx [some ⟨.non, false⟩, some ⟨.str w, false⟩] s) C.f_refuse (by decide) (by decide) rfl ?_
  exact x_cons (x_ifF (τ1 := [some ⟨.non, false⟩, some ⟨.str w, false⟩]) rfl (v_cmp (z := false) (v_var rfl rfl rfl) (v_con rfl) rfl) rfl rfl) x_nil
abbrev invF (n w : Str) : List (Str × T) := [(Str.ofString "why", .str w), (Str.ofString "name", .str n)]
theorem refuse_str (C : CxN p) (n w : Str) : (tk p (k + 1)).cl ("", "refuse") [.str n, .str w] lk s = .ex "InvalidFlow" (invF n w) s := by
  refine call_fn (d := d_refuse) (o := .ex "InvalidFlow" (invF n w) [some ⟨.str n, false⟩, some ⟨.str w, false⟩] s) C.f_refuse (by decide) (by decide) rfl ?_
  refine x_ex (x_ifT (τ1 := [some ⟨.str n, false⟩, some ⟨.str w, false⟩]) rfl (v_cmp (z := true) (v_var rfl rfl rfl) (v_con rfl) rfl) rfl (x_ex ?_))
  exact x_rse (fs := ["name", "why"]) (ts := [.str n, .str w]) (τ1 := [some ⟨.str n, false⟩, some ⟨.str w, false⟩]) C.x_inv rfl (w_cons rfl (v_var rfl rfl rfl) (w_cons rfl (v_var rfl rfl rfl) w_nil)) rfl
/-- rows that the checks can be asked about -/
structure FlOk (rs : List Rw) : Prop where
  ok : ∀ r ∈ rs, RwOk r
  nd : (rs.map (·.nm)).Nodup
  cl : Closed rs
  ln : rs.length < 30
  ne : rs ≠ []
  dj : ∀ x ∈ rs.flatMap (·.ins), x ∉ rs.flatMap (·.outs)
/-- what is found wrong -/
def Wrong (rs : List Rw) (n w : Str) : Prop := match nestOf rs with
  | some x => n = x ∧ w = Str.ofString "nest"
  | none => match beginOf rs with
    | some x => n = x ∧ w = Str.ofString "begin"
    | none => NmOk n ∧ w = Str.ofString "edge"
theorem x_refuse (C : CxN p) {f : Str} {w : Str} {rs : List Rw} {o : Option Str} (hf : (tk p (k + 1)).cl (Str.ofString "", f) [rowsT rs] false s = .ok (optT o) s) : (∀ x, o = some x → tex (tk p (k + 1)) false (.exp (.call "refuse" [(.call f [(.var 0)]), (.con (.str w))])) [some ⟨rowsT rs, false⟩, none, none] s = .ex "InvalidFlow" (invF x w) [some ⟨rowsT rs, false⟩, none, none] s) ∧ (o = none → tex (tk p (k + 1)) false (.exp (.call "refuse" [(.call f [(.var 0)]), (.con (.str w))])) [some ⟨rowsT rs, false⟩, none, none] s = .nx [some ⟨rowsT rs, false⟩, none, none] s) := by
  refine ⟨fun x e => ?_, fun e => ?_⟩
  · subst e
    exact x_expX (τ1 := [some ⟨rowsT rs, false⟩, none, none]) rfl rfl (v_call (ts := [.str x, .str w]) (w_cons rfl (v_call (w_cons rfl (v_var rfl rfl rfl) w_nil) hf) (w_cons rfl (v_con rfl) w_nil)) (refuse_str C x w))
  · subst e
    exact x_exp (v := .non) (τ1 := [some ⟨rowsT rs, false⟩, none, none]) rfl rfl (v_call (ts := [.non, .str w]) (w_cons rfl (v_call (w_cons rfl (v_var rfl rfl rfl) w_nil) hf) (w_cons rfl (v_con rfl) w_nil)) (refuse_non C w))
theorem check_nodes_ok (C : CxN p) {rs : List Rw} (h : FlOk rs) : ∃ n w, Wrong rs n w ∧ (tk p (k + 4)).cl ("", "check_nodes") [rowsT rs] false s = .ex "InvalidFlow" (invF n w) s := by
  have hl : rs.length < 1000 := by have := h.ln; omega
  have a1 : tev (tk p (k + 3)) false true (.isa (.var 0) (.bi "list")) [some ⟨rowsT rs, false⟩, none, none] s = .ok (.bl true) s := v_isa (v_var rfl rfl rfl) rfl C.t_lst
  have a2 : tev (tk p (k + 3)) false true (.cmp .eq (.var 0) (.lst [])) [some ⟨rowsT rs, false⟩, none, none] s = .ok (.bl false) s := by
    refine v_cmp (v_var rfl rfl rfl) (v_lst (ts := []) w_nil (by decide)) ?_
    obtain ⟨r, rs', rfl⟩ := List.exists_cons_of_ne_nil h.ne
    exact eq_rows_nil (r := r) (rs := rs') fun x hx => (h.ok x hx).ok
  have a3 : tev (tk p (k + 3)) false true (.blt .all [(.cp false (.con .non) (.call "is_node" [(.var 2)]) (.nm 2) (.seq (.var 0)) [] [1, 2])]) [some ⟨rowsT rs, false⟩, none, none] s = .ok (.bl true) s := by
    refine v_blt (w_cons rfl (v_cp (rows_seq rfl) (by show (rs.map Rw.t).length < p.fu; rw [C.fu, List.length_map]; omega) (cpL_map (g := fun _ => T.bl true) fun y hy => ?_)) w_nil) (by rw [List.map_map]; exact all_true _)
    obtain ⟨r, hr, rfl⟩ := List.mem_map.mp hy
    exact turnL_ok (τ1 := [some ⟨rowsT rs, false⟩, none, some ⟨r.t, false⟩]) rfl (v_call (w_cons rfl (v_var rfl rfl rfl) w_nil) (is_node_ok C (h.ok r hr)))
  have st1 := x_ifF (a := [.rse "InvalidFlow" [(.con .non), (.con (.str "list"))]]) (b := []) (o := .nx [some ⟨rowsT rs, false⟩, none, none] s) (τ := [some ⟨rowsT rs, false⟩, none, none]) (τ1 := [some ⟨rowsT rs, false⟩, none, none]) rfl (v_or_f (v_not a1 rfl) rfl (v_or_f a2 rfl (v_not a3 rfl))) rfl rfl
  have r1 := x_refuse (k := k + 2) (s := s) (w := "kind") (o := none) C (wrong_kind_ok (k := k + 2) C h.ok hl)
  have r2 := x_refuse (k := k + 2) (s := s) (w := "name") (o := none) C (wrong_name_ok (k := k + 2) C h.nd hl)
  have r3 := x_refuse (k := k + 2) (s := s) (w := "home") (o := none) C (wrong_home_ok (k := k + 1) C h.ok h.nd h.cl hl)
  have r4 := x_refuse (k := k + 2) (s := s) (w := "nest") C (wrong_nest_ok (k := k + 1) C h.nd h.cl hl)
  have r5 := x_refuse (k := k + 2) (s := s) (w := "begin") C (wrong_begin_ok (k := k + 1) C h.nd hl)
  obtain ⟨x, hx, hxe⟩ := wrong_edge_ok (k := k + 2) (lk := false) (s := s) C h.ok h.ln h.ne h.dj
  have r6 := x_refuse (k := k + 2) (s := s) (w := "edge") (o := some x) C hxe
  have nx : NmOk x := by
    rcases hx with q | q
    · obtain ⟨r, hr, m⟩ := List.mem_flatMap.mp q
      exact (h.ok r hr).ins x m
    · obtain ⟨r, hr, m⟩ := List.mem_flatMap.mp q
      exact (h.ok r hr).outs x m
  have go : ∀ n w, texs (tk p (k + 3)) false d_check_nodes.body [some ⟨rowsT rs, false⟩, none, none] s = .ex "InvalidFlow" (invF n w) [some ⟨rowsT rs, false⟩, none, none] s → (tk p (k + 4)).cl ("", "check_nodes") [rowsT rs] false s = .ex "InvalidFlow" (invF n w) s := fun n w q => call_fn (d := d_check_nodes) (o := .ex "InvalidFlow" (invF n w) [some ⟨rowsT rs, false⟩, none, none] s) C.f_check_nodes (by decide) (by decide) rfl q
  cases e4 : nestOf rs with
  | some n =>
    refine ⟨n, "nest", by unfold Wrong; rw [e4]; exact ⟨rfl, rfl⟩, go _ _ ?_⟩
    exact x_cons st1 (x_cons (r1.2 rfl) (x_cons (r2.2 rfl) (x_cons (r3.2 rfl) (x_ex (r4.1 n e4)))))
  | none =>
    cases e5 : beginOf rs with
    | some n =>
      refine ⟨n, "begin", by unfold Wrong; rw [e4]; dsimp only; rw [e5]; exact ⟨rfl, rfl⟩, go _ _ ?_⟩
      exact x_cons st1 (x_cons (r1.2 rfl) (x_cons (r2.2 rfl) (x_cons (r3.2 rfl) (x_cons (r4.2 e4) (x_ex (r5.1 n e5))))))
    | none =>
      refine ⟨x, "edge", by unfold Wrong; rw [e4]; dsimp only; rw [e5]; exact ⟨nx, rfl⟩, go _ _ ?_⟩
      exact x_cons st1 (x_cons (r1.2 rfl) (x_cons (r2.2 rfl) (x_cons (r3.2 rfl) (x_cons (r4.2 e4) (x_cons (r5.2 e5) (x_ex (r6.1 x rfl)))))))
theorem v_makeX {TP : Tg0} {lk bo : Bool} {τ : Tl} {s s1 s2 : Om} {c : Str} {as : List E} {ts : List T} {k : Str} {fs : List (Str × T)} (ha : tevs TP lk false as τ s = .ok ts s1) (hr : TP.cl (c, Str.ofString "__init__") (.ob s1.length :: ts) lk (s1 ++ [.ins c []]) = .ex k fs s2) : tev TP lk bo (.make c as) τ s = .ex k fs s2 := by
  show ((tevs TP lk false as τ s).bind fun ts s1 => (TP.cl (c, Str.ofString "__init__") (.ob s1.length :: ts) lk (s1 ++ [.ins c []])).bind fun t s2 => match t with
    | .non => TR.ok (T.ob s1.length) s2
    | _ => .no) = _
  rw [ha]
  show ((TP.cl (c, Str.ofString "__init__") (.ob s1.length :: ts) lk (s1 ++ [.ins c []])).bind fun t s2 => match t with
    | .non => TR.ok (T.ob s1.length) s2
    | _ => .no) = _
  rw [hr]
/-- a flow of such rows is refused -/
theorem flow_ok (C : CxN p) {rs : List Rw} (h : FlOk rs) : ∃ n w, Wrong rs n w ∧ ∀ (m : Nat), (tk p (k + 5)).cl ("Flow", "__init__") [.ob m, rowsT rs] false s = .ex "InvalidFlow" (invF n w) s := by
  obtain ⟨n, w, hw, q⟩ := check_nodes_ok (k := k) (s := s) C h
  refine ⟨n, w, hw, fun m => ?_⟩
  refine call_fn (d := d_Flow___init__) (o := .ex "InvalidFlow" (invF n w) [some ⟨.ob m, false⟩, some ⟨rowsT rs, false⟩] s) C.f_Flow (by decide) (by decide) rfl ?_
  exact x_ex (x_expX (τ1 := [some ⟨.ob m, false⟩, some ⟨rowsT rs, false⟩]) rfl rfl (v_call (w_cons rfl (v_var rfl rfl rfl) w_nil) q))
end
end MP

set_option Elab.async false
set_option linter.all false
set_option maxRecDepth 100000
/-! MP: what a law says is due. -/
namespace MP
open PySem L2
structure CxL (p : Prog) : Prop extends CxN p where
  f_name : p.fn ("", "_law_name") = some d__law_name
  f_depth : p.fn ("", "_law_depth") = some d__law_depth
  f_due : p.fn ("", "_law_due") = some d__law_due
section
variable {p : Prog} {k : Nat} {lk : Bool} {s : Om}
theorem climb20 (C : CxL p) {rs : List Rw} (hc : Closed rs) : ∀ (n d f : Nat) (x : Str), d + n = 20 → n < f → Known (scopesOf rs) x → ∃ y, whT (fun τ s => (tev (tk p k) lk true (.and (.cmp .ne (.var 1) (.con (.str ""))) (.cmp .lt (.var 2) (.con (.int 20)))) τ s).bind fun x s1 => ofT (truT (tk p k) lk x) s1) (fun τ s => texs (tk p k) lk [.asg (.nm 1) (.idx (.var 0) (.var 1)), .asg (.nm 2) (.bin .add (.var 2) (.con (.int 1)))] τ s) f [some ⟨.dic (hmL rs), false⟩, some ⟨.str x, false⟩, some ⟨.int d, false⟩] s = .nx [some ⟨.dic (hmL rs), false⟩, some ⟨.str y, false⟩, some ⟨.int (d + climb (homeOf (scopesOf rs)) n x : Nat), false⟩] s
  | 0, d, f + 1, x, hd, hf, hx => by
    refine ⟨x, ?_⟩
    have c1 : tev (tk p k) lk true (.cmp .ne (.var 1) (.con (.str ""))) [some ⟨.dic (hmL rs), false⟩, some ⟨.str x, false⟩, some ⟨.int d, false⟩] s = .ok (.bl (!decide (x = s0))) s := v_cmp (v_var rfl rfl rfl) (v_con rfl) (ne_str _ _)
    have c2 : tev (tk p k) lk true (.cmp .lt (.var 2) (.con (.int 20))) [some ⟨.dic (hmL rs), false⟩, some ⟨.str x, false⟩, some ⟨.int d, false⟩] s = .ok (.bl (decide ((d : Int) < 20))) s := v_cmp (v_var rfl rfl rfl) (v_con rfl) rfl
    rw [decide_eq_false (by omega)] at c2
    have c := v_and c1 (fun _ => c2)
    rw [Bool.and_false] at c
    exact wh_f c rfl
  | n + 1, d, f + 1, x, hd, hf, hx => by
    have c1 : tev (tk p k) lk true (.cmp .ne (.var 1) (.con (.str ""))) [some ⟨.dic (hmL rs), false⟩, some ⟨.str x, false⟩, some ⟨.int d, false⟩] s = .ok (.bl (!decide (x = s0))) s := v_cmp (v_var rfl rfl rfl) (v_con rfl) (ne_str _ _)
    have c2 : tev (tk p k) lk true (.cmp .lt (.var 2) (.con (.int 20))) [some ⟨.dic (hmL rs), false⟩, some ⟨.str x, false⟩, some ⟨.int d, false⟩] s = .ok (.bl (decide ((d : Int) < 20))) s := v_cmp (v_var rfl rfl rfl) (v_con rfl) rfl
    rw [decide_eq_true (by omega)] at c2
    have c := v_and c1 (fun _ => c2)
    rw [Bool.and_true] at c
    by_cases z : x = s0
    · rw [decide_eq_true z] at c
      refine ⟨x, ?_⟩
      have : climb (homeOf (scopesOf rs)) (n + 1) x = 0 := by unfold climb; rw [if_pos z]
      rw [this]
      exact wh_f c rfl
    · rw [decide_eq_false z] at c
      obtain ⟨h, e⟩ := hx.resolve_left z
      have eh : homeOf (scopesOf rs) x = h := by unfold homeOf; rw [e]; rfl
      obtain ⟨y, q⟩ := climb20 C hc n (d + 1) f h (by omega) (by omega) (known_home hc e)
      refine ⟨y, (wh_t c rfl ?_).trans (q.trans ?_)⟩
      · refine x_cons (x_asg (v := .str h) (τ1 := [some ⟨.dic (hmL rs), false⟩, some ⟨.str x, false⟩, some ⟨.int d, false⟩]) (τ2 := [some ⟨.dic (hmL rs), false⟩, some ⟨.str h, false⟩, some ⟨.int d, false⟩]) rfl rfl (v_idx (v_var rfl rfl rfl) (v_var rfl rfl rfl) (idx_home e)) rfl) ?_
        exact x_cons (x_asg (v := .int ((d : Int) + 1)) (τ1 := [some ⟨.dic (hmL rs), false⟩, some ⟨.str h, false⟩, some ⟨.int d, false⟩]) (τ2 := [some ⟨.dic (hmL rs), false⟩, some ⟨.str h, false⟩, some ⟨.int ((d : Int) + 1), false⟩]) rfl rfl (v_bin (v_var rfl rfl rfl) (v_con rfl) rfl) rfl) rfl
      · have : climb (homeOf (scopesOf rs)) (n + 1) x = 1 + climb (homeOf (scopesOf rs)) n h := by
          rw [← eh]
          conv => lhs; unfold climb
          rw [if_neg z]
        rw [this, Nat.add_assoc]
theorem depth_ok (C : CxL p) {rs : List Rw} (hc : Closed rs) {x : Str} (hx : Known (scopesOf rs) x) : (tk p (k + 1)).cl ("", "_law_depth") [.dic (hmL rs), .str x] lk s = .ok (.int (climb (homeOf (scopesOf rs)) 20 x)) s := by
  refine call_fn (d := d__law_depth) (o := .rt (.int (climb (homeOf (scopesOf rs)) 20 x)) s) C.f_depth (by decide) (by decide) rfl ?_
  obtain ⟨y, q⟩ := climb20 (k := k) (lk := lk) (s := s) C hc 20 0 2000 x rfl (by omega) hx
  rw [Nat.zero_add] at q
  refine x_cons (x_asg (v := .int 0) (τ1 := [some ⟨.dic (hmL rs), false⟩, some ⟨.str x, false⟩, none]) (τ2 := [some ⟨.dic (hmL rs), false⟩, some ⟨.str x, false⟩, some ⟨.int 0, false⟩]) rfl rfl (v_con rfl) rfl) ?_
  refine x_cons (τ1 := [some ⟨.dic (hmL rs), false⟩, some ⟨.str y, false⟩, some ⟨.int (climb (homeOf (scopesOf rs)) 20 x : Nat), false⟩]) (s1 := s) (x_whl ?_) (x_rt (x_ret (τ1 := [some ⟨.dic (hmL rs), false⟩, some ⟨.str y, false⟩, some ⟨.int (climb (homeOf (scopesOf rs)) 20 x : Nat), false⟩]) rfl (v_var rfl rfl rfl)))
  rw [show (tk p k).fu = 2000 from C.fu]
  exact q
theorem nest_same (rs : List Rw) : rs.find? (fun r => decide (r.k = sScope) && decide (4 < climb (homeOf (scopesOf rs)) 20 r.nm)) = (scopesOf rs).find? fun r => decide (4 < climb (homeOf (scopesOf rs)) 5 r.nm) := by
  have h : (fun r : Rw => decide (4 < climb (homeOf (scopesOf rs)) 20 r.nm)) = fun r => decide (4 < climb (homeOf (scopesOf rs)) 5 r.nm) := by
    funext r
    exact decide_eq_decide.mpr (climb_ge _ 5 20 r.nm (by omega))
  have h2 : (fun r : Rw => decide (r.k = sScope) && decide (4 < climb (homeOf (scopesOf rs)) 20 r.nm)) = fun r => decide (r.k = sScope) && decide (4 < climb (homeOf (scopesOf rs)) 5 r.nm) := by
    funext r
    rw [congrFun h r]
  rw [h2]
  have e : ∀ B : Rw → Bool, rs.find? (fun r => decide (r.k = sScope) && B r) = (scopesOf rs).find? B := fun B => by
    show _ = (rs.filter fun r => decide (r.k = sScope)).find? B
    rw [List.find?_filter]
    congr 1
    funext r
    show (decide (r.k = sScope) && B r) = decide (decide (r.k = sScope) = true ∧ B r = true)
    cases decide (r.k = sScope) <;> cases B r <;> rfl
  exact e fun r => decide (4 < climb (homeOf (scopesOf rs)) 5 r.nm)
def dueT (rs : List Rw) : T := match nestOf rs with
  | some x => .tup [.str x, .str "nest"]
  | none => match beginOf rs with
    | some x => .tup [.str x, .str "begin"]
    | none => .non
theorem due_ok (C : CxL p) {rs : List Rw} (hn : (rs.map (·.nm)).Nodup) (hc : Closed rs) (hl : rs.length < 1000) : (tk p (k + 2)).cl ("", "_law_due") [rowsT rs] lk s = .ok (dueT rs) s := by
  refine call_fn (d := d__law_due) (o := .rt (dueT rs) s) C.f_due (by decide) (by decide) rfl ?_
  have hfu : (rs.map Rw.t).length < p.fu := by rw [C.fu, List.length_map]; omega
  refine x_cons (x_asg (v := .dic []) (τ1 := [some ⟨rowsT rs, false⟩, none, none, none, none]) (τ2 := [some ⟨rowsT rs, false⟩, some ⟨.dic [], true⟩, none, none, none]) (s1 := s) rfl rfl rfl rfl) ?_
  -- the dict
  let I : List T → Tl → Prop := fun xs τ => ∃ (d e : List Rw) (o : Option Sv), (o = none ∨ ∃ t, o = some ⟨t, false⟩) ∧ rs = d ++ e ∧ xs = e.map Rw.t ∧ τ = [some ⟨rowsT rs, false⟩, some ⟨.dic (hmL d), true⟩, o, none, none]
  obtain ⟨τ', q, d, e, o, ho, h1, h2, h3⟩ := f_fold (s := s) (I := I) (turn := turnF (tk p (k + 1)) (lk || false) (.nm 2) [.ite (.cmp .eq (.idx (.var 2) (.con (.int 0))) (.con (.str "scope"))) [.asgS (.var 1) (.idx (.var 2) (.con (.int 1))) (.idx (.var 2) (.con (.int 4)))] []]) (fun x xs τ i => by
    obtain ⟨d, e, o, _, h1, h2, rfl⟩ := i
    cases e with
    | nil => cases h2
    | cons r e =>
      rw [List.map_cons, List.cons.injEq] at h2
      obtain ⟨rfl, rfl⟩ := h2
      have nk : ∀ q ∈ d, q.nm ≠ r.nm := fun q hq z => by
        rw [h1, List.map_append, List.nodup_append] at hn
        exact hn.2.2 q.nm (List.mem_map_of_mem hq) r.nm (by rw [List.map_cons]; exact List.mem_cons_self ..) z
      have c : tev (tk p (k + 1)) (lk || false) true (.cmp .eq (.idx (.var 2) (.con (.int 0))) (.con (.str "scope"))) [some ⟨rowsT rs, false⟩, some ⟨.dic (hmL d), true⟩, some ⟨r.t, false⟩, none, none] s = .ok (.bl (decide (r.k = sScope))) s := v_cmp (v_idx (v_var rfl rfl rfl) (v_con rfl) rfl) (v_con rfl) (eq_str _ _)
      have hd : d.length < 1000 := by
        have := congrArg List.length h1
        rw [List.length_append] at this
        omega
      refine ⟨[some ⟨rowsT rs, false⟩, some ⟨.dic (hmL (d ++ [r])), true⟩, some ⟨r.t, false⟩, none, none], ?_, d ++ [r], e, some ⟨r.t, false⟩, .inr ⟨_, rfl⟩, by rw [h1, List.append_assoc]; rfl, rfl, rfl⟩
      refine (tF (τ1 := [some ⟨rowsT rs, false⟩, some ⟨.dic (hmL d), true⟩, some ⟨r.t, false⟩, none, none]) rfl).trans ?_
      cases z : decide (r.k = sScope) with
      | true =>
        rw [z] at c
        have p0 : putT (hmL d) (.inr r.nm) (.str r.home) = hmL (d ++ [r]) := by
          unfold putT
          rw [if_neg]
          · unfold hmL scopesOf
            rw [List.filter_append, List.map_append, List.filter_cons, if_pos z]; rfl
          · rw [List.any_eq_true]
            rintro ⟨kv, hkv, he⟩
            obtain ⟨q, hq, rfl⟩ := List.mem_map.mp hkv
            exact nk q (List.mem_filter.mp hq).1 (key_inr.mp (of_decide_eq_true he))
        have := x_setD (TP := tk p (k + 1)) (lk := lk || false) (s := s) (τ := [some ⟨rowsT rs, false⟩, some ⟨.dic (hmL d), true⟩, some ⟨r.t, false⟩, none, none]) (τ1 := [some ⟨rowsT rs, false⟩, some ⟨.dic (hmL d), true⟩, some ⟨r.t, false⟩, none, none]) (j := 1) (i := .idx (.var 2) (.con (.int 1))) (e := .idx (.var 2) (.con (.int 4))) (k := .inr r.nm) rfl (v_idx (v_var rfl rfl rfl) (v_con rfl) rfl) rfl (v_idx (v_var rfl rfl rfl) (v_con rfl) rfl) rfl (by
          have h2 : (scopesOf d).length ≤ d.length := List.length_filter_le ..
          unfold hmL
          rw [List.length_map, lim_eq]; omega)
        rw [p0] at this
        exact x_cons (x_ifT (τ1 := [some ⟨rowsT rs, false⟩, some ⟨.dic (hmL d), true⟩, some ⟨r.t, false⟩, none, none]) rfl c rfl (x_cons this x_nil)) x_nil
      | false =>
        rw [z] at c
        have p0 : hmL (d ++ [r]) = hmL d := by
          unfold hmL scopesOf
          rw [List.filter_append, List.map_append, List.filter_cons, if_neg (by rw [z]; decide)]
          exact List.append_nil _
        rw [p0]
        exact x_cons (x_ifF (τ1 := [some ⟨rowsT rs, false⟩, some ⟨.dic (hmL d), true⟩, some ⟨r.t, false⟩, none, none]) rfl c rfl rfl) x_nil) (xs := rs.map Rw.t) (τ := [some ⟨rowsT rs, false⟩, some ⟨.dic [], true⟩, none, none, none]) ⟨[], rs, none, .inl rfl, rfl, rfl, rfl⟩
  have e0 : e = [] := List.map_eq_nil_iff.mp h2.symm
  subst e0
  rw [List.append_nil] at h1
  subst h1
  subst h3
  refine x_cons (x_frr (τ1 := [some ⟨rowsT rs, false⟩, some ⟨.dic [], true⟩, none, none, none]) rfl (rows_seq rfl) hfu q) ?_
  -- nests
  let I2 : Tl → Prop := fun τ => ∃ (b : Bool) (o : Option Sv), (o = none ∨ ∃ t, o = some ⟨t, false⟩) ∧ τ = [some ⟨rowsT rs, false⟩, some ⟨.dic (hmL rs), b⟩, o, none, none]
  have key := f_firstA (s := s) (rs := rs) (I := I2) (b := fun r => decide (r.k = sScope) && decide (4 < climb (homeOf (scopesOf rs)) 20 r.nm)) (f := Rw.t) (v := fun r => .tup [.str r.nm, .str "nest"]) (turn := turnF (tk p (k + 1)) (lk || false) (.nm 2) [.ite (.and (.cmp .eq (.idx (.var 2) (.con (.int 0))) (.con (.str "scope"))) (.cmp .gt (.call "_law_depth" [(.var 1), (.idx (.var 2) (.con (.int 1)))]) (.con (.int 4)))) [.ret (.tup [(.idx (.var 2) (.con (.int 1))), (.con (.str "nest"))])] []]) (τ := [some ⟨rowsT rs, false⟩, some ⟨.dic (hmL rs), true⟩, o, none, none]) (fun r hr τ i => by
    obtain ⟨b, o, _, rfl⟩ := i
    have c1 : tev (tk p (k + 1)) (lk || false) true (.cmp .eq (.idx (.var 2) (.con (.int 0))) (.con (.str "scope"))) [some ⟨rowsT rs, false⟩, some ⟨.dic (hmL rs), false⟩, some ⟨r.t, false⟩, none, none] s = .ok (.bl (decide (r.k = sScope))) s := v_cmp (v_idx (v_var rfl rfl rfl) (v_con rfl) rfl) (v_con rfl) (eq_str _ _)
    have c2 : decide (r.k = sScope) = true → tev (tk p (k + 1)) (lk || false) true (.cmp .gt (.call "_law_depth" [(.var 1), (.idx (.var 2) (.con (.int 1)))]) (.con (.int 4))) [some ⟨rowsT rs, false⟩, some ⟨.dic (hmL rs), false⟩, some ⟨r.t, false⟩, none, none] s = .ok (.bl (decide (4 < climb (homeOf (scopesOf rs)) 20 r.nm))) s := fun z => by
      have hk : Known (scopesOf rs) r.nm := self_known (List.mem_filter.mpr ⟨hr, z⟩)
      refine v_cmp (v_call (w_cons rfl (v_var rfl rfl rfl) (w_cons rfl (v_idx (v_var rfl rfl rfl) (v_con rfl) rfl) w_nil)) (depth_ok C hc hk)) (v_con rfl) ?_
      show some (decide ((4 : Int) < climb (homeOf (scopesOf rs)) 20 r.nm)) = _
      congr 1
      exact decide_eq_decide.mpr (by omega)
    have c := v_and c1 c2
    have tt := fun o' h => (tF (TP := tk p (k + 1)) (lk := lk || false) (t := .nm 2) (b := [.ite (.and (.cmp .eq (.idx (.var 2) (.con (.int 0))) (.con (.str "scope"))) (.cmp .gt (.call "_law_depth" [(.var 1), (.idx (.var 2) (.con (.int 1)))]) (.con (.int 4)))) [.ret (.tup [(.idx (.var 2) (.con (.int 1))), (.con (.str "nest"))])] []]) (x := r.t) (τ := [some ⟨rowsT rs, false⟩, some ⟨.dic (hmL rs), b⟩, o, none, none]) (s := s) (τ1 := [some ⟨rowsT rs, false⟩, some ⟨.dic (hmL rs), b⟩, some ⟨r.t, false⟩, none, none]) rfl).trans (b := _) (c := o') h
    cases z : (decide (r.k = sScope) && decide (4 < climb (homeOf (scopesOf rs)) 20 r.nm)) with
    | true =>
      rw [z] at c
      exact (if_pos rfl).mpr (tt _ (x_rt (x_ifT (τ1 := [some ⟨rowsT rs, false⟩, some ⟨.dic (hmL rs), false⟩, some ⟨r.t, false⟩, none, none]) rfl c rfl (x_rt (x_ret (τ1 := [some ⟨rowsT rs, false⟩, some ⟨.dic (hmL rs), false⟩, some ⟨r.t, false⟩, none, none]) rfl (v_tup (w_cons rfl (v_idx (v_var rfl rfl rfl) (v_con rfl) rfl) (w_cons rfl (v_con rfl) w_nil)) (show 2 ≤ lim by decide)))))))
    | false =>
      rw [z] at c
      exact (if_neg (by decide)).mpr ⟨_, tt _ (x_cons (x_ifF (τ1 := [some ⟨rowsT rs, false⟩, some ⟨.dic (hmL rs), false⟩, some ⟨r.t, false⟩, none, none]) rfl c rfl rfl) x_nil), _, _, .inr ⟨_, rfl⟩, rfl⟩) ⟨_, _, ho, rfl⟩
  rw [nest_same rs] at key
  unfold dueT nestOf
  cases e4 : (scopesOf rs).find? (fun r => decide (4 < climb (homeOf (scopesOf rs)) 5 r.nm)) with
  | some r =>
    rw [e4] at key
    exact x_rt (x_frr (τ1 := [some ⟨rowsT rs, false⟩, some ⟨.dic (hmL rs), true⟩, o, none, none]) rfl (rows_seq rfl) hfu key)
  | none =>
    rw [e4] at key
    obtain ⟨τ', q, b, o2, ho2, rfl⟩ := key
    refine x_cons (x_frr (τ1 := [some ⟨rowsT rs, false⟩, some ⟨.dic (hmL rs), true⟩, o, none, none]) rfl (rows_seq rfl) hfu q) ?_
    -- begins
    have hr2 : ∀ o3 : Option Sv, rel [some ⟨rowsT rs, false⟩, some ⟨.dic (hmL rs), b⟩, o2, o3, none] [2] = [some ⟨rowsT rs, false⟩, some ⟨.dic (hmL rs), b⟩, o2, o3, none] := fun o3 => by
      rcases ho2 with rfl | ⟨t, rfl⟩ <;> rfl
    let I3 : Tl → Prop := fun τ => ∃ o3 : Option Sv, τ = [some ⟨rowsT rs, false⟩, some ⟨.dic (hmL rs), b⟩, o2, o3, none]
    have key := f_firstA (s := s) (rs := placesOf rs) (I := I3) (b := fun x => !decide (bcnt rs x = 1)) (f := T.str) (v := fun x => .tup [.str x, .str "begin"]) (turn := turnF (tk p (k + 1)) (lk || false) (.nm 3) [.ite (.cmp .ne (.blt .len [(.cp false (.con .non) (.var 2) (.nm 2) (.seq (.var 0)) [(.and (.cmp .eq (.idx (.var 2) (.con (.int 0))) (.con (.str "begin"))) (.cmp .eq (.idx (.var 2) (.con (.int 4))) (.var 3)))] [4, 2])]) (.con (.int 1))) [.ret (.tup [(.var 3), (.con (.str "begin"))])] []]) (τ := [some ⟨rowsT rs, false⟩, some ⟨.dic (hmL rs), b⟩, o2, none, none]) (fun x hx τ i => by
      obtain ⟨o3, rfl⟩ := i
      have q : cpL (turnL (tk p (k + 1)) ((lk || false) || false) (.var 2) (.nm 2) [(.and (.cmp .eq (.idx (.var 2) (.con (.int 0))) (.con (.str "begin"))) (.cmp .eq (.idx (.var 2) (.con (.int 4))) (.var 3)))] [4, 2] [some ⟨rowsT rs, false⟩, some ⟨.dic (hmL rs), b⟩, o2, some ⟨.str x, false⟩, none]) (rs.map Rw.t) s = .ok (rs.filterMap fun r => if (decide (r.k = sBegin) && decide (r.home = x)) = true then some r.t else none) s := by
        refine cpL_rows fun r hr => ?_
        refine turnL_if (τ1 := [some ⟨rowsT rs, false⟩, some ⟨.dic (hmL rs), b⟩, some ⟨r.t, false⟩, some ⟨.str x, false⟩, none]) rfl ?_ (fun _ => v_var rfl rfl rfl)
        exact v_and (v_cmp (v_idx (v_var rfl rfl rfl) (v_con rfl) rfl) (v_con rfl) (eq_str _ _)) fun _ => v_cmp (v_idx (v_var rfl rfl rfl) (v_con rfl) rfl) (v_var rfl rfl rfl) (eq_str _ _)
      rw [fm_if] at q
      have ec : tev (tk p (k + 1)) (lk || false) true (.cp false (.con .non) (.var 2) (.nm 2) (.seq (.var 0)) [(.and (.cmp .eq (.idx (.var 2) (.con (.int 0))) (.con (.str "begin"))) (.cmp .eq (.idx (.var 2) (.con (.int 4))) (.var 3)))] [4, 2]) [some ⟨rowsT rs, false⟩, some ⟨.dic (hmL rs), b⟩, o2, some ⟨.str x, false⟩, none] s = _ :=
        v_cp (rows_seq (i := 0) rfl) hfu q
      have el : tev (tk p (k + 1)) (lk || false) true (.blt .len [(.cp false (.con .non) (.var 2) (.nm 2) (.seq (.var 0)) [(.and (.cmp .eq (.idx (.var 2) (.con (.int 0))) (.con (.str "begin"))) (.cmp .eq (.idx (.var 2) (.con (.int 4))) (.var 3)))] [4, 2])]) [some ⟨rowsT rs, false⟩, some ⟨.dic (hmL rs), b⟩, o2, some ⟨.str x, false⟩, none] s = .ok (.int (bcnt rs x)) s :=
        v_blt (w_cons rfl ec w_nil) (by
          show some (T.int (((rs.filter fun r => decide (r.k = sBegin) && decide (r.home = x)).map Rw.t).length)) = _
          rw [List.length_map]; rfl)
      have c := v_cmp (TP := tk p (k + 1)) (lk := lk || false) (bo := true) (o := .ne) el (v_con (w := .int 1) rfl) (ne_int _ _)
      have ed : decide ((bcnt rs x : Int) = 1) = decide (bcnt rs x = 1) := decide_eq_decide.mpr (by omega)
      rw [ed] at c
      have t1 := fun o h => (tF (TP := tk p (k + 1)) (lk := lk || false) (t := .nm 3) (b := [.ite (.cmp .ne (.blt .len [(.cp false (.con .non) (.var 2) (.nm 2) (.seq (.var 0)) [(.and (.cmp .eq (.idx (.var 2) (.con (.int 0))) (.con (.str "begin"))) (.cmp .eq (.idx (.var 2) (.con (.int 4))) (.var 3)))] [4, 2])]) (.con (.int 1))) [.ret (.tup [(.var 3), (.con (.str "begin"))])] []]) (x := .str x) (τ := [some ⟨rowsT rs, false⟩, some ⟨.dic (hmL rs), b⟩, o2, o3, none]) (s := s) (τ1 := [some ⟨rowsT rs, false⟩, some ⟨.dic (hmL rs), b⟩, o2, some ⟨.str x, false⟩, none]) rfl).trans (b := _) (c := o) h
      cases z : decide (bcnt rs x = 1) with
      | false =>
        rw [z] at c
        exact (if_pos rfl).mpr (t1 _ (x_rt (x_ifT (τ1 := [some ⟨rowsT rs, false⟩, some ⟨.dic (hmL rs), b⟩, o2, some ⟨.str x, false⟩, none]) (hr2 _) c rfl (x_rt (x_ret rfl (v_tup (w_cons rfl (v_var (o := false) rfl rfl rfl) (w_cons rfl (v_con rfl) w_nil)) (show 2 ≤ lim by decide)))))))
      | true =>
        rw [z] at c
        exact (if_neg (by decide)).mpr ⟨_, t1 _ (x_cons (x_ifF (τ1 := [some ⟨rowsT rs, false⟩, some ⟨.dic (hmL rs), b⟩, o2, some ⟨.str x, false⟩, none]) (hr2 _) c rfl rfl) x_nil), _, rfl⟩) ⟨_, rfl⟩
    have hcp : tev (tk p (k + 1)) lk true (.cp false (.con .non) (.idx (.var 2) (.con (.int 1))) (.nm 2) (.seq (.var 0)) [(.cmp .eq (.idx (.var 2) (.con (.int 0))) (.con (.str "scope")))] [4, 2]) [some ⟨rowsT rs, false⟩, some ⟨.dic (hmL rs), b⟩, o2, none, none] s = .ok (.lst ((scopesOf rs).map fun r => T.str r.nm)) s := by
      have q : cpL (turnL (tk p (k + 1)) (lk || false) (.idx (.var 2) (.con (.int 1))) (.nm 2) [(.cmp .eq (.idx (.var 2) (.con (.int 0))) (.con (.str "scope")))] [4, 2] [some ⟨rowsT rs, false⟩, some ⟨.dic (hmL rs), b⟩, o2, none, none]) (rs.map Rw.t) s = .ok (rs.filterMap fun r => if decide (r.k = sScope) = true then some (T.str r.nm) else none) s := cpL_rows fun r hr =>
        turnL_if (τ1 := [some ⟨rowsT rs, false⟩, some ⟨.dic (hmL rs), b⟩, some ⟨r.t, false⟩, none, none]) rfl (v_cmp (v_idx (v_var rfl rfl rfl) (v_con rfl) rfl) (v_con rfl) (eq_str _ _)) (fun _ => v_idx (v_var rfl rfl rfl) (v_con rfl) rfl)
      rw [fm_if] at q
      exact v_cp (rows_seq (i := 0) rfl) hfu q
    have hsl : (scopesOf rs).length ≤ rs.length := List.length_filter_le ..
    have hseq : tevI (tk p (k + 1)) lk false (.seq (.bin .add (.lst [(.con (.str ""))]) (.cp false (.con .non) (.idx (.var 2) (.con (.int 1))) (.nm 2) (.seq (.var 0)) [(.cmp .eq (.idx (.var 2) (.con (.int 0))) (.con (.str "scope")))] [4, 2]))) [some ⟨rowsT rs, false⟩, some ⟨.dic (hmL rs), b⟩, o2, none, none] s = .ok ((placesOf rs).map T.str, false) s := by
      refine vi_seq (v_bin (z := .lst ((placesOf rs).map T.str)) (v_lst (w_cons rfl (v_con (t := .str s0) rfl) w_nil) (show 1 ≤ lim by decide)) hcp ?_) rfl
      show (if 1 + ((scopesOf rs).map fun r => T.str r.nm).length ≤ lim then some (T.lst ([T.str s0] ++ (scopesOf rs).map fun r => T.str r.nm)) else none) = _
      rw [if_pos (by rw [List.length_map, lim_eq]; omega)]
      unfold placesOf
      rw [List.map_cons, List.map_map]; rfl
    have hlen : ((placesOf rs).map T.str).length < p.fu := by
      rw [C.fu, List.length_map]
      unfold placesOf
      rw [List.length_cons, List.length_map]
      omega
    dsimp only [Option.map_none]
    have hb : beginOf rs = (placesOf rs).find? fun x => !decide (bcnt rs x = 1) := rfl
    rw [hb]
    cases e5 : (placesOf rs).find? (fun x => !decide (bcnt rs x = 1)) with
    | some r =>
      rw [e5] at key
      exact x_rt (x_frr (τ1 := [some ⟨rowsT rs, false⟩, some ⟨.dic (hmL rs), b⟩, o2, none, none]) rfl hseq hlen key)
    | none =>
      rw [e5] at key
      obtain ⟨τ', q, _⟩ := key
      exact x_cons (τ1 := τ') (s1 := s) (x_frr (τ1 := [some ⟨rowsT rs, false⟩, some ⟨.dic (hmL rs), b⟩, o2, none, none]) rfl hseq hlen q) (x_rt (x_ret rfl (v_con rfl)))
end
end MP

set_option Elab.async false
set_option linter.all false
set_option maxRecDepth 100000
/-! MP: a law's draws and names. -/
namespace MP
open PySem L2
/-- n draws may still be made -/
def PS (n : Nat) (s : Om) : Prop := ∃ (cs : List Int) (a l c : Int), s = [.pool cs [a, l, c]] ∧ 0 ≤ a ∧ 0 ≤ c ∧ c + n ≤ 1000 ∧ cs ≠ []
theorem PS.weak {n m : Nat} {s : Om} (h : PS n s) (hm : m ≤ n) : PS m s := by
  obtain ⟨cs, a, l, c, e, h1, h2, h3, h4⟩ := h
  exact ⟨cs, a, l, c, e, h1, h2, by omega, h4⟩
section
variable {p : Prog} {k : Nat} {lk : Bool} {s : Om}
theorem pr_cl {f : Str × Str} {ts : List T} {r : TR T} (e : prP p f ts s = some r) : (tk p (k + 1)).cl f ts lk s = r := by
  show (match prP p f ts s with
    | some r => r
    | none => match p.fn f with
      | some d => runT (p.tg (p.tcl (prP p) k)) d ts lk s
      | none => .no) = _
  rw [e]
theorem drawV_ok (cs : List Int) (a l c m : Int) (hm : 0 < m) (ha : 0 ≤ a) : 0 ≤ (drawV cs a l c m).1 ∧ (drawV cs a l c m).1 < m ∧ 0 ≤ (drawV cs a l c m).2.1 := by
  have hz : m ≠ 0 := by omega
  unfold drawV
  split
  · exact ⟨Int.emod_nonneg _ hz, Int.emod_lt_of_pos _ hm, ha⟩
  · dsimp only
    split
    · exact ⟨Int.emod_nonneg _ hz, Int.emod_lt_of_pos _ hm, by show 0 ≤ a + 1; omega⟩
    · exact ⟨Int.emod_nonneg _ hz, Int.emod_lt_of_pos _ hm, by show 0 ≤ a + 1; omega⟩
theorem draw_T {n : Nat} {m : Int} (h : PS (n + 1) s) (hm : 0 < m) (hm2 : m.natAbs.log2 < 9000) : ∃ v s', (tk p (k + 1)).cl ("", "_law_draw") [.ob 0, .int m] lk s = .ok (.int v) s' ∧ 0 ≤ v ∧ v < m ∧ PS n s' := by
  obtain ⟨cs, a, l, c, rfl, h1, h2, h3, h4⟩ := h
  obtain ⟨d1, d2, d3⟩ := drawV_ok cs a l c m hm h1
  have d4 := drawV_cnt cs a l c m
  refine ⟨(drawV cs a l c m).1, [.pool cs [(drawV cs a l c m).2.1, (drawV cs a l c m).2.2.1, (drawV cs a l c m).2.2.2]], ?_, d1, d2, cs, _, _, _, rfl, d3, by omega, by omega, h4⟩
  have e : prP p (Str.ofString "", Str.ofString "_law_draw") [.ob 0, .int m] [.pool cs [a, l, c]] = some (.ok (.int (drawV cs a l c m).1) [.pool cs [(drawV cs a l c m).2.1, (drawV cs a l c m).2.2.1, (drawV cs a l c m).2.2.2]]) := by
    unfold prP
    rw [if_pos rfl]
    show some (if 0 < m ∧ m.natAbs.log2 < 9000 ∧ c < 1000000 ∧ 0 ≤ c ∧ 0 ≤ a ∧ cs ≠ [] then (match drawV cs a l c m with
        | (v, a, l, c') => TR.ok (T.int v) [.pool cs [a, l, c']]) else .no) = _
    rw [if_pos ⟨hm, hm2, by omega, h2, h1, h4⟩]
  exact pr_cl e
theorem pool_cl {ns : List Int} (hs : scriptT p = some ns) (h1 : ns.length < p.fu) (h2 : ns.length < 1000) : ∃ s', (tk p (k + 1)).cl ("", "_law_pool") [.st 0] lk [] = .ok (.ob 0) s' ∧ PS 1000 s' := by
  refine ⟨[.pool (poolC ns) [0, 0, 0]], ?_, poolC ns, 0, 0, 0, rfl, by omega, by omega, by omega, ?_⟩
  · have e : prP p (Str.ofString "", Str.ofString "_law_pool") [.st 0] [] = some (.ok (.ob 0) [.pool (poolC ns) [0, 0, 0]]) := by
      unfold prP
      rw [if_neg (by decide), if_pos rfl, hs]
      show some (if ns.length < p.fu ∧ ns.length < 1000 then TR.ok (T.ob 0) [.pool (poolC ns) [0, 0, 0]] else .no) = _
      rw [if_pos ⟨h1, h2⟩]
    exact pr_cl e
  · unfold poolC
    cases ns with
    | nil => exact fun z => by cases z
    | cons n ns => exact fun z => by cases z
abbrev sL26 : Str := "abcdefghijklmnopqrstuvwxyz"
abbrev sN14 : Str := "nmlkjihgfedcba"
def nmX (c d : Nat) (v2 : Nat) : Str := (⟨#[c]⟩ : Str) ++ PySem.Txt.mul ⟨#[d]⟩ (1 + (v2 : Int))
def nmChk (v1 i v2 : Nat) : Bool := match sL26.cps.toList[v1]?, sN14.cps.toList[i]? with
  | some c, some d =>
    let x := nmX c d v2
    let y := PySem.Txt.mul "z" ((i : Int) / 2)
    let w := x ++ y
    decide ((PySem.Txt.mul ⟨#[d]⟩ (1 + (v2 : Int))).length ≤ 8) && decide (x.length ≤ 8) && decide (y.length ≤ 8) && decide (1 ≤ w.length) && decide (w.length ≤ 8) && w.cps.toList.all (fun c => decide (c ∈ LET.cps.toList)) && decide (w.cps.toList[1]? = some (110 - i))
  | _, _ => false
theorem nmAll : ((List.range 26).all fun v1 => (List.range 8).all fun i => (List.range 2).all fun v2 => nmChk v1 i v2) = true := by kernel_rfl
/-- a scope's name -/
def NmAt (i : Nat) (x : Str) : Prop := NmOk x ∧ x.cps.toList[1]? = some (110 - i)
theorem atI_nat {α : Type} {xs : List α} {i : Nat} {x : α} (e : xs[i]? = some x) : atI xs (i : Int) = some x := by
  have hi := (List.getElem?_eq_some_iff.mp e).1
  unfold atI ixN
  rw [if_pos (by omega), if_pos (by omega)]
  show xs[(i : Int).toNat]? = _
  rw [Int.toNat_natCast]; exact e
theorem name_T (C : CxL p) {n i : Nat} (hi : i < 8) (h : PS (n + 2) s) : ∃ x s', (tk p (k + 2)).cl ("", "_law_name") [.ob 0, .int i] lk s = .ok (.str x) s' ∧ PS n s' ∧ x.length ≤ 8 ∧ (PySem.Txt.mul "z" ((i : Int) / 2)).length ≤ 8 ∧ NmAt i (x ++ PySem.Txt.mul "z" ((i : Int) / 2)) := by
  obtain ⟨v1, s1, e1, a1, b1, h1⟩ := draw_T (p := p) (k := k) (lk := lk) (m := 26) h (by omega) (by decide)
  obtain ⟨v2, s2, e2, a2, b2, h2⟩ := draw_T (p := p) (k := k) (lk := lk) (m := 2) h1 (by omega) (by decide)
  have ck : nmChk v1.toNat i v2.toNat = true := by
    have := nmAll
    rw [List.all_eq_true] at this
    have := this v1.toNat (List.mem_range.mpr (by omega))
    rw [List.all_eq_true] at this
    have := this i (List.mem_range.mpr hi)
    rw [List.all_eq_true] at this
    exact this v2.toNat (List.mem_range.mpr (by omega))
  unfold nmChk at ck
  split at ck
  · rename_i c d ec ed
    simp only [Bool.and_eq_true, decide_eq_true_eq, List.all_eq_true] at ck
    obtain ⟨⟨⟨⟨⟨⟨q0, q1⟩, q2⟩, q3⟩, q4⟩, q5⟩, q6⟩ := ck
    have hv1 : (v1.toNat : Int) = v1 := by omega
    have hv2 : (v2.toNat : Int) = v2 := by omega
    refine ⟨nmX c d v2.toNat, s2, ?_, h2, q1, q2, ⟨q3, q4, q5⟩, q6⟩
    refine call_fn (d := d__law_name) (o := .rt (.str (nmX c d v2.toNat)) s2) C.f_name (by decide) (by decide) rfl ?_
    have ia : idxT (tk p (k + 1)) (.str sL26) (.int v1) = some (.str ⟨#[c]⟩) := by
      show (if sL26.length ≤ lim then (atI sL26.cps.toList v1).map fun c => T.str ⟨#[c]⟩ else none) = _
      rw [if_pos (by decide), ← hv1, atI_nat ec]; rfl
    have ib : idxT (tk p (k + 1)) (.str sN14) (.int i) = some (.str ⟨#[d]⟩) := by
      show (if sN14.length ≤ lim then (atI sN14.cps.toList (i : Int)).map fun c => T.str ⟨#[c]⟩ else none) = _
      rw [if_pos (by decide), atI_nat ed]; rfl
    have im : binT .mul (.str ⟨#[d]⟩) (.int (1 + v2)) = some (.str (PySem.Txt.mul ⟨#[d]⟩ (1 + (v2.toNat : Int)))) := by
      show (if 0 ≤ 1 + v2 ∧ 1 + v2 ≤ 1000 ∧ (⟨#[d]⟩ : Str).length ≤ 1000 then some (T.str (PySem.Txt.mul ⟨#[d]⟩ (1 + v2))) else none) = _
      rw [if_pos ⟨by omega, by omega, by show 1 ≤ 1000; omega⟩, hv2]
    have ip : binT .add (.str ⟨#[c]⟩) (.str (PySem.Txt.mul ⟨#[d]⟩ (1 + (v2.toNat : Int)))) = some (.str (nmX c d v2.toNat)) := by
      show (if (⟨#[c]⟩ : Str).length + (PySem.Txt.mul ⟨#[d]⟩ (1 + (v2.toNat : Int))).length ≤ lim then some (T.str (_ ++ _)) else none) = _
      have : (⟨#[c]⟩ : Str).length = 1 := rfl
      rw [if_pos (by rw [this, lim_eq]; omega)]; rfl
    refine x_rt (x_ret (τ1 := [some ⟨.ob 0, false⟩, some ⟨.int i, false⟩]) rfl (v_bin (v_idx (v_con (t := .str sL26) rfl) (v_call (w_cons rfl (v_var rfl rfl rfl) (w_cons rfl (v_con rfl) w_nil)) e1) ia) (v_bin (v_idx (v_con (t := .str sN14) rfl) (v_var rfl rfl rfl) ib) (v_bin (v_con (t := .int 1) rfl) (v_call (w_cons rfl (v_var rfl rfl rfl) (w_cons rfl (v_con rfl) w_nil)) e2) rfl) im) ip))
  · cases ck
/-- the names, one after another -/
theorem names_loop (C : CxL p) {τ : Tl} {τf : Nat → Tl} (h5 : ∀ i : Nat, stTT (tk p (k + 2)) (.nm 4) (.int i) (wipeT τ [18, 4]) = some (τf i)) (hp : ∀ i, (τf i)[1]? = some (some ⟨.ob 0, false⟩)) (h4 : ∀ i, (τf i)[4]? = some (some ⟨.int i, false⟩)) {m : Nat} : ∀ (n i : Nat) (s : Om), i + n ≤ 8 → PS (2 * n + m) s → ∃ xs s', cpL (turnL (tk p (k + 2)) lk (.bin .add (.call "_law_name" [(.var 1), (.var 4)]) (.bin .mul (.con (.str "z")) (.bin .fdv (.var 4) (.con (.int 2))))) (.nm 4) [] [18, 4] τ) (rngT 0 i n) s = .ok (stL xs) s' ∧ PS m s' ∧ xs.length = n ∧ ∀ j x, xs[j]? = some x → NmAt (i + j) x
  | 0, i, s, _, h => ⟨[], s, rfl, h.weak (by omega), rfl, fun j x e => by simp at e⟩
  | n + 1, i, s, hl, h => by
    obtain ⟨x, s1, e1, h1, l1, l2, hx⟩ := name_T (k := k) (lk := lk) C (n := 2 * n + m) (i := i) (by omega) (h.weak (by omega))
    obtain ⟨xs, s2, e2, h2, hlen, hxs⟩ := names_loop C h5 hp h4 (m := m) n (i + 1) s1 (by omega) h1
    refine ⟨(x ++ PySem.Txt.mul "z" ((i : Int) / 2)) :: xs, s2, ?_, h2, by rw [List.length_cons, hlen], fun j y ey => ?_⟩
    · have im : binT .mul (.str "z") (.int ((i : Int) / 2)) = some (.str (PySem.Txt.mul "z" ((i : Int) / 2))) := by
        show (if 0 ≤ (i : Int) / 2 ∧ (i : Int) / 2 ≤ 1000 ∧ (Str.ofString "z").length ≤ 1000 then some (T.str (PySem.Txt.mul "z" ((i : Int) / 2))) else none) = _
        rw [if_pos ⟨by omega, by omega, by decide⟩]
      have ip : binT .add (.str x) (.str (PySem.Txt.mul "z" ((i : Int) / 2))) = some (.str (x ++ PySem.Txt.mul "z" ((i : Int) / 2))) := by
        show (if x.length + (PySem.Txt.mul "z" ((i : Int) / 2)).length ≤ lim then some (T.str (_ ++ _)) else none) = _
        rw [if_pos (by rw [lim_eq]; omega)]
      have i2 : binT .fdv (.int i) (.int 2) = some (.int ((i : Int) / 2)) := rfl
      have t := turnL_ok (h5 i) (v_bin (bo := false) (v_call (w_cons rfl (v_var (hp i) rfl rfl) (w_cons rfl (v_var (h4 i) rfl rfl) w_nil)) e1) (v_bin (v_con (w := .str "z") (t := .str "z") rfl) (v_bin (v_var (h4 i) rfl rfl) (v_con (w := .int 2) (t := .int 2) rfl) i2) im) ip)
      have hr : rngT 0 i (n + 1) = T.int i :: rngT 0 (i + 1) n := by
        show T.int (0 + (i : Int)) :: rngT 0 (i + 1) n = _
        rw [Int.zero_add]
      rw [hr]
      unfold cpL
      rw [t]
      dsimp only
      rw [e2]
      rfl
    · cases j with
      | zero =>
        cases ey
        exact hx
      | succ j =>
        have := hxs j y ey
        rw [show i + (j + 1) = i + 1 + j by omega]
        exact this
end
end MP

set_option Elab.async false
set_option linter.all false
set_option maxRecDepth 100000
/-! MP: a law's scopes. -/
namespace MP
open PySem L2
section
variable {TP : Tg0} {lk bo : Bool} {τ τ1 τ2 : Tl} {s s1 s2 s3 : Om}
theorem f_foldS {turn : T → Tl → Om → TO} {I : List T → Tl → Om → Prop} (h : ∀ x xs τ s, I (x :: xs) τ s → ∃ τ' s', turn x τ s = .nx τ' s' ∧ I xs τ' s') : ∀ {xs : List T} {τ : Tl} {s : Om}, I xs τ s → ∃ τ' s', frT turn xs τ s = .nx τ' s' ∧ I [] τ' s'
  | [], τ, s, i => ⟨τ, s, rfl, i⟩
  | x :: xs, τ, s, i => by
    obtain ⟨τ', s', q, i'⟩ := h x xs τ s i
    obtain ⟨τ2, s2, q2, i2⟩ := f_foldS h i'
    refine ⟨τ2, s2, ?_, i2⟩
    show bodyT (turn x τ s) (frT turn xs) = _
    rw [q]; exact q2
theorem x_bm {j : Nat} {m : BM} {as : List E} {xs ys ts : List T} {y : T} (hr : rel τ (kBs false as) = τ1) (hj : τ1[j]? = some (some ⟨.lst xs, true⟩)) (ha : tevs TP lk false as τ1 s = .ok ts s1) (hb : bmT m xs ts = some (y, ys)) : tex TP lk (.exp (.bm (.var j) m as)) τ s = .nx (τ1.set j (some ⟨.lst ys, true⟩)) s1 := by
  rw [← (kBs_ok as).1] at hr
  show (match (rel τ (keepss as))[j]? with
    | some (some ⟨.lst xs, true⟩) => (tevs TP lk false as (rel τ (keepss as)) s).go (rel τ (keepss as)) fun ts s1 => (match bmT m xs ts with
      | some (y, ys) => TO.nx ((rel τ (keepss as)).set j (some ⟨.lst ys, true⟩)) s1
      | none => .no)
    | _ => .no) = _
  rw [hr, hj]
  show (tevs TP lk false as τ1 s).go τ1 (fun ts s1 => (match bmT m xs ts with
      | some (y, ys) => TO.nx (τ1.set j (some ⟨.lst ys, true⟩)) s1
      | none => .no)) = _
  rw [ha]
  show (match bmT m xs ts with
      | some (y, ys) => TO.nx (τ1.set j (some ⟨.lst ys, true⟩)) s1
      | none => .no) = _
  rw [hb]
theorem v_slc {o : E} {lo hi : Option E} {x z : T} {l u : Option Int} (ha : tev TP lk true o τ s = .ok x s1) (hl : tevo TP lk lo τ s1 = .ok l s2) (hu : tevo TP lk hi τ s2 = .ok u s3) (h : slcT x l u = some z) : tev TP lk bo (.slc o lo hi) τ s = .ok z s3 := by
  show ((tev TP lk true o τ s).bind fun x s1 => (tevo TP lk lo τ s1).bind fun l s2 => (tevo TP lk hi τ s2).bind fun u s3 => ofT (slcT x l u) s3) = _
  rw [ha]
  show ((tevo TP lk lo τ s1).bind fun l s2 => (tevo TP lk hi τ s2).bind fun u s3 => ofT (slcT x l u) s3) = _
  rw [hl]
  show ((tevo TP lk hi τ s2).bind fun u s3 => ofT (slcT x l u) s3) = _
  rw [hu]
  show ofT (slcT x l u) s3 = _
  rw [h]; rfl
theorem vo_some {e : E} {i : Int} (he : tev TP lk true e τ s = .ok (.int i) s1) : tevo TP lk (some e) τ s = .ok (some i) s1 := by
  show ((tev TP lk true e τ s).bind fun x s1 => ofT (intT x) s1) = _
  rw [he]; rfl
theorem slc_strs (ns : List Str) (lo hi : Option Int) : ∃ ys, slcT (.lst (stL ns)) lo hi = some (.lst (stL ys)) ∧ (∀ y ∈ ys, y ∈ ns) ∧ ys.length ≤ ns.length := by
  refine ⟨(ns.drop (HT.sIx ns.length 0 lo)).take (HT.sIx ns.length ns.length hi - HT.sIx ns.length 0 lo), ?_, fun y hy => List.mem_of_mem_drop (List.mem_of_mem_take hy), ?_⟩
  · show some (T.lst (cutT (stL ns) lo hi)) = _
    unfold cutT
    rw [List.length_map, stL, stL, List.map_take, List.map_drop]
  · rw [List.length_take, List.length_drop]; omega
theorem add_nil (ys : List Str) (h : ys.length ≤ 100) : binT .add (.lst [.str s0]) (.lst (stL ys)) = some (.lst (stL (s0 :: ys))) := by
  show (if 1 + (stL ys).length ≤ lim then some (T.lst ([.str s0] ++ stL ys)) else none) = _
  rw [if_pos (by rw [List.length_map, lim_eq]; omega)]; rfl
end
abbrev sA8 : Str := "abcdefgh"
abbrev inS (i : Nat) : Str := Str.ofString "in" ++ ⟨#[97 + i]⟩
abbrev outS (i : Nat) : Str := Str.ofString "out" ++ ⟨#[97 + i]⟩
def scopeRw (i : Nat) (x h : Str) : Rw := ⟨sScope, x, [inS i], [outS i], h, s0⟩
theorem a8_get : ∀ i : Nat, i < 8 → sA8.cps.toList[i]? = some (97 + i)
  | 0, _ => rfl | 1, _ => rfl | 2, _ => rfl | 3, _ => rfl | 4, _ => rfl | 5, _ => rfl | 6, _ => rfl | 7, _ => rfl
  | i + 8, h => by omega
def ScRows (names d : List Str) (rows : List Rw) : Prop := rows.length = d.length ∧ ∀ i r, rows[i]? = some r → ∃ x h, d[i]? = some x ∧ r = scopeRw i x h ∧ (h = s0 ∨ h ∈ names)
theorem zipN_cons (i : Nat) (x : Str) (xs : List Str) : zipN i (stL (x :: xs)) = .tup [.int i, .str x] :: zipN (i + 1) (stL xs) := rfl
abbrev body1 : List S := [.asg (.nm 8) (.ite (.var 3) (.bin .add (.lst [(.con (.str ""))]) (.var 5)) (.bin .add (.lst [(.con (.str ""))]) (.slc (.slc (.var 5) none (some (.var 4))) (some (.neg (.con (.int 2)))) none))), .asg (.nm 9) (.idx (.var 8) (.call "_law_draw" [(.var 1), (.blt .len [(.var 8)])])), .exp (.bm (.var 6) .append [(.tup [(.con (.str "scope")), (.var 7), (.tup [(.bin .add (.con (.str "in")) (.idx (.con (.str "abcdefgh")) (.var 4)))]), (.tup [(.bin .add (.con (.str "out")) (.idx (.con (.str "abcdefgh")) (.var 4)))]), (.var 9), (.con (.str ""))])])]
section
variable {p : Prog} {k : Nat} {s : Om}
/-- a choice among texts -/
theorem pick {n : Nat} {ys : List Str} (hl : ys.length ≤ 8) (h : PS (n + 1) s) {τ : Tl} {lk : Bool} (h8 : τ[8]? = some (some ⟨.lst (stL (s0 :: ys)), false⟩)) (h1 : τ[1]? = some (some ⟨.ob 0, false⟩)) : ∃ x s', tev (tk p (k + 1)) lk false (.idx (.var 8) (.call "_law_draw" [(.var 1), (.blt .len [(.var 8)])])) τ s = .ok (.str x) s' ∧ PS n s' ∧ (x = s0 ∨ x ∈ ys) := by
  have hm : ((ys.length + 1 : Nat) : Int).natAbs.log2 < 9000 := Nat.lt_trans (log2_lt (k := 4) (by rw [Int.natAbs_natCast]; show ys.length + 1 < 16; omega) (by omega)) (by omega)
  obtain ⟨v, s', e, a, b, hs⟩ := draw_T (p := p) (k := k) (lk := lk) (m := ((ys.length + 1 : Nat) : Int)) h (by omega) hm
  have el : tev (tk p (k + 1)) lk false (.blt .len [(.var 8)]) τ s = .ok (.int ((ys.length + 1 : Nat) : Int)) s := v_blt (w_cons rfl (v_var h8 rfl rfl) w_nil) (by
    show some (T.int (stL (s0 :: ys)).length) = _
    rw [List.length_map, List.length_cons])
  obtain ⟨x, hx⟩ : ∃ x, (s0 :: ys)[v.toNat]? = some x := ⟨_, List.getElem?_eq_getElem (by rw [List.length_cons]; omega)⟩
  refine ⟨x, s', v_idx (v_var h8 rfl rfl) (v_call (w_cons rfl (v_var h1 rfl rfl) (w_cons rfl el w_nil)) e) ?_, hs, List.mem_cons.mp (List.mem_of_getElem? hx)⟩
  show atI (stL (s0 :: ys)) v = _
  have hv : (v.toNat : Int) = v := by omega
  rw [← hv]
  refine atI_nat ?_
  rw [stL, List.getElem?_map, hx]; rfl
theorem scopes_loop {names : List Str} (hn : names.length ≤ 8) {cyc : Bool} {m : Nat} {kk : T} (hs : PS (names.length + m) s) : ∃ τ' s', frT (turnF (tk p (k + 1)) false (.tup [(.nm 4), (.nm 7)]) body1) (zipN 0 (stL names)) [some ⟨.st 0, false⟩, some ⟨.ob 0, false⟩, some ⟨kk, false⟩, some ⟨.bl cyc, false⟩, none, some ⟨.lst (stL names), false⟩, some ⟨rowsT [], true⟩, none, none, none, none, none, none, none, none, none, none, none, none] s = .nx τ' s' ∧ PS m s' ∧ ∃ (rows : List Rw) (a4 a7 a8 a9 : Option Sv), ScRows names names rows ∧ τ' = [some ⟨.st 0, false⟩, some ⟨.ob 0, false⟩, some ⟨kk, false⟩, some ⟨.bl cyc, false⟩, a4, some ⟨.lst (stL names), false⟩, some ⟨rowsT rows, true⟩, a7, a8, a9, none, none, none, none, none, none, none, none, none] := by
  let I : List T → Tl → Om → Prop := fun xs τ s => ∃ (d e : List Str) (rows : List Rw) (a4 a7 a8 a9 : Option Sv), names = d ++ e ∧ xs = zipN d.length (stL e) ∧ PS (e.length + m) s ∧ ScRows names d rows ∧ τ = [some ⟨.st 0, false⟩, some ⟨.ob 0, false⟩, some ⟨kk, false⟩, some ⟨.bl cyc, false⟩, a4, some ⟨.lst (stL names), false⟩, some ⟨rowsT rows, true⟩, a7, a8, a9, none, none, none, none, none, none, none, none, none]
  obtain ⟨τ', s', q, d, e, rows, a4, a7, a8, a9, h1, h2, h3, h4, h5⟩ := f_foldS (I := I) (turn := turnF (tk p (k + 1)) false (.tup [(.nm 4), (.nm 7)]) body1) (fun x xs τ s i => by
    obtain ⟨d, e, rows, a4, a7, a8, a9, h1, h2, h3, h4, rfl⟩ := i
    cases e with
    | nil => cases h2
    | cons y e =>
      rw [zipN_cons, List.cons.injEq] at h2
      obtain ⟨rfl, rfl⟩ := h2
      have hd : d.length < 8 := by
        have := congrArg List.length h1
        rw [List.length_append, List.length_cons] at this
        omega
      let σ : Option Sv → Option Sv → Option Sv → Tl := fun a6 b8 b9 => [some ⟨.st 0, false⟩, some ⟨.ob 0, false⟩, some ⟨kk, false⟩, some ⟨.bl cyc, false⟩, some ⟨.int d.length, false⟩, some ⟨.lst (stL names), false⟩, a6, some ⟨.str y, false⟩, b8, b9, none, none, none, none, none, none, none, none, none]
      -- the places
      obtain ⟨ys, e8, m8, l8⟩ : ∃ ys, tev (tk p (k + 1)) false false (.ite (.var 3) (.bin .add (.lst [(.con (.str ""))]) (.var 5)) (.bin .add (.lst [(.con (.str ""))]) (.slc (.slc (.var 5) none (some (.var 4))) (some (.neg (.con (.int 2)))) none))) (σ (some ⟨rowsT rows, true⟩) a8 a9) s = .ok (.lst (stL (s0 :: ys))) s ∧ (∀ y ∈ ys, y ∈ names) ∧ ys.length ≤ names.length := by
        cases cyc with
        | true =>
          refine ⟨names, v_ite (t := true) (x := .bl true) (v_var rfl rfl rfl) rfl ((if_pos rfl).trans (v_bin (v_lst (w_cons rfl (v_con (t := .str s0) rfl) w_nil) (show 1 ≤ lim by decide)) (v_var rfl rfl rfl) (add_nil names (by omega)))), fun y hy => hy, Nat.le_refl _⟩
        | false =>
          obtain ⟨y1, f1, g1, k1⟩ := slc_strs names none (some d.length)
          obtain ⟨y2, f2, g2, k2⟩ := slc_strs y1 (some (-2)) none
          refine ⟨y2, v_ite (t := false) (x := .bl false) (v_var rfl rfl rfl) rfl ((if_neg (by decide)).trans (v_bin (v_lst (w_cons rfl (v_con (t := .str s0) rfl) w_nil) (show 1 ≤ lim by decide)) (v_slc (v_slc (v_var rfl rfl rfl) rfl (vo_some (v_var rfl rfl rfl)) f1) (vo_some (v_neg (i := 2) (v_con rfl))) rfl f2) (add_nil y2 (by omega)))), fun y hy => g1 y (g2 y hy), by omega⟩
      obtain ⟨h, s1, e9, p9, m9⟩ := pick (p := p) (k := k) (n := e.length + m) (lk := false) (τ := σ (some ⟨rowsT rows, true⟩) (some ⟨.lst (stL (s0 :: ys)), false⟩) a9) (ys := ys) (by omega) (by rw [List.length_cons] at h3; exact h3.weak (by omega)) rfl rfl
      have ia : idxT (tk p (k + 1)) (.str sA8) (.int d.length) = some (.str ⟨#[97 + d.length]⟩) := by
        show (if sA8.length ≤ lim then (atI sA8.cps.toList (d.length : Int)).map fun c => T.str ⟨#[c]⟩ else none) = _
        rw [if_pos (by decide), atI_nat (a8_get _ hd)]; rfl
      have il : (⟨#[97 + d.length]⟩ : Str).length = 1 := rfl
      have i1 : binT .add (.str (Str.ofString "in")) (.str ⟨#[97 + d.length]⟩) = some (.str (inS d.length)) := by
        show (if (Str.ofString "in").length + (⟨#[97 + d.length]⟩ : Str).length ≤ lim then some (T.str (_ ++ _)) else none) = _
        rw [if_pos (by rw [il]; decide)]
      have i2 : binT .add (.str (Str.ofString "out")) (.str ⟨#[97 + d.length]⟩) = some (.str (outS d.length)) := by
        show (if (Str.ofString "out").length + (⟨#[97 + d.length]⟩ : Str).length ≤ lim then some (T.str (_ ++ _)) else none) = _
        rw [if_pos (by rw [il]; decide)]
      have st3 := x_bm (TP := tk p (k + 1)) (lk := false) (s := s1) (j := 6) (m := .append) (y := .non) (xs := rows.map Rw.t) (ys := (rows ++ [scopeRw d.length y h]).map Rw.t) (τ := σ (some ⟨rowsT rows, true⟩) (some ⟨.lst (stL (s0 :: ys)), false⟩) (some ⟨.str h, false⟩)) (τ1 := σ (some ⟨rowsT rows, true⟩) (some ⟨.lst (stL (s0 :: ys)), false⟩) (some ⟨.str h, false⟩)) (as := [(.tup [(.con (.str "scope")), (.var 7), (.tup [(.bin .add (.con (.str "in")) (.idx (.con (.str "abcdefgh")) (.var 4)))]), (.tup [(.bin .add (.con (.str "out")) (.idx (.con (.str "abcdefgh")) (.var 4)))]), (.var 9), (.con (.str ""))])]) (ts := [(scopeRw d.length y h).t]) rfl rfl (w_cons rfl (v_tup (w_cons rfl (v_con rfl) (w_cons rfl (v_var rfl rfl rfl) (w_cons rfl (v_tup (w_cons rfl (v_bin (v_con rfl) (v_idx (v_con rfl) (v_var rfl rfl rfl) ia) i1) w_nil) (show 1 ≤ lim by decide)) (w_cons rfl (v_tup (w_cons rfl (v_bin (v_con rfl) (v_idx (v_con rfl) (v_var rfl rfl rfl) ia) i2) w_nil) (show 1 ≤ lim by decide)) (w_cons rfl (v_var rfl rfl rfl) (w_cons rfl (v_con rfl) w_nil)))))) (show 6 ≤ lim by decide)) w_nil) (by
        have hr : rows.length = d.length := h4.1
        show (if (rows.map Rw.t).length < lim then some (T.non, rows.map Rw.t ++ [(scopeRw d.length y h).t]) else none) = _
        rw [if_pos (by rw [List.length_map, lim_eq]; omega), List.map_append]; rfl)
      refine ⟨σ (some ⟨rowsT (rows ++ [scopeRw d.length y h]), true⟩) (some ⟨.lst (stL (s0 :: ys)), false⟩) (some ⟨.str h, false⟩), s1, ?_, d ++ [y], e, rows ++ [scopeRw d.length y h], _, _, _, _, by rw [h1, List.append_assoc]; rfl, by rw [List.length_append]; rfl, p9, ⟨by rw [List.length_append, List.length_append, h4.1]; rfl, fun i r hi => ?_⟩, rfl⟩
      · refine (tF (τ1 := σ (some ⟨rowsT rows, true⟩) a8 a9) rfl).trans ?_
        refine x_cons (x_asg (τ1 := σ (some ⟨rowsT rows, true⟩) a8 a9) (τ2 := σ (some ⟨rowsT rows, true⟩) (some ⟨.lst (stL (s0 :: ys)), false⟩) a9) rfl rfl e8 rfl) ?_
        refine x_cons (x_asg (τ1 := σ (some ⟨rowsT rows, true⟩) (some ⟨.lst (stL (s0 :: ys)), false⟩) a9) (τ2 := σ (some ⟨rowsT rows, true⟩) (some ⟨.lst (stL (s0 :: ys)), false⟩) (some ⟨.str h, false⟩)) rfl rfl e9 rfl) ?_
        exact x_cons st3 x_nil
      · rw [List.getElem?_append] at hi
        split at hi
        · obtain ⟨x, h', e1, e2, e3⟩ := h4.2 i r hi
          exact ⟨x, h', by rw [List.getElem?_append_left (List.getElem?_eq_some_iff.mp e1).1]; exact e1, e2, e3⟩
        · rename_i hlt
          have ei : i - rows.length = 0 := by
            have := (List.getElem?_eq_some_iff.mp hi).1
            simp at this
            omega
          rw [ei] at hi
          cases hi
          have ei : i = d.length := by rw [← h4.1]; omega
          subst ei
          exact ⟨y, h, by simp, rfl, m9.imp id fun z => m8 _ z⟩) (xs := zipN 0 (stL names)) (τ := [some ⟨.st 0, false⟩, some ⟨.ob 0, false⟩, some ⟨kk, false⟩, some ⟨.bl cyc, false⟩, none, some ⟨.lst (stL names), false⟩, some ⟨rowsT [], true⟩, none, none, none, none, none, none, none, none, none, none, none, none]) (s := s) ⟨[], names, [], none, none, none, none, rfl, rfl, hs, ⟨rfl, fun i r z => by simp at z⟩, rfl⟩
  have e0 : e = [] := by
    cases e with
    | nil => rfl
    | cons y e => rw [zipN_cons] at h2; cases h2
  subst e0
  rw [List.append_nil] at h1
  subst h1
  exact ⟨τ', s', q, h3.weak (by simp), rows, a4, a7, a8, a9, h4, h5⟩
end
end MP

set_option Elab.async false
set_option linter.all false
set_option maxRecDepth 100000
/-! MP: a law's begins. -/
namespace MP
open PySem L2
abbrev z6 : Str := PySem.Txt.mul "z" 6
abbrev bnm (a j : Nat) : Str := (z6 ++ ⟨#[97 + a]⟩) ++ ⟨#[120 + j]⟩
def beginRw (a j : Nat) (h : Str) : Rw := ⟨sBegin, bnm a j, [], [bnm a j], h, s0⟩
abbrev sA10 : Str := "abcdefghij"
abbrev sXY : Str := "xy"
theorem a10_get : ∀ i : Nat, i < 9 → sA10.cps.toList[i]? = some (97 + i)
  | 0, _ => rfl | 1, _ => rfl | 2, _ => rfl | 3, _ => rfl | 4, _ => rfl | 5, _ => rfl | 6, _ => rfl | 7, _ => rfl | 8, _ => rfl
  | i + 9, h => by omega
theorem xy_get : ∀ i : Nat, i < 2 → sXY.cps.toList[i]? = some (120 + i)
  | 0, _ => rfl | 1, _ => rfl
  | i + 2, h => by omega
theorem z6_eq : z6.cps.toList = [122, 122, 122, 122, 122, 122] := by kernel_rfl
theorem app_list (a b : Str) : (a ++ b).cps.toList = a.cps.toList ++ b.cps.toList := by
  show (a.cps ++ b.cps).toList = _
  exact Array.toList_append
theorem bnm_list (a j : Nat) : (bnm a j).cps.toList = [122, 122, 122, 122, 122, 122, 97 + a, 120 + j] := by
  rw [app_list, app_list, z6_eq]; rfl
theorem bnm_inj {a j a' j' : Nat} (h : bnm a j = bnm a' j') : a = a' ∧ j = j' := by
  have := congrArg (fun x : Str => x.cps.toList) h
  simp only [bnm_list, List.cons.injEq, and_true, true_and] at this
  omega
theorem len_list (x : Str) : x.length = x.cps.toList.length := by simp [Str.length]
theorem bnm_ok {a j : Nat} (ha : a ≤ 8) (hj : j < 2) : NmOk (bnm a j) := by
  refine ⟨by rw [len_list, bnm_list]; show 1 ≤ 8; omega, by rw [len_list, bnm_list]; show 8 ≤ 8; omega, fun c hc => ?_⟩
  rw [bnm_list] at hc
  have hl : ∀ n : Nat, n < 26 → 97 + n ∈ LET.cps.toList := by decide
  simp only [List.mem_cons, List.not_mem_nil, or_false] at hc
  have h122 := hl 25 (by omega)
  rcases hc with rfl | rfl | rfl | rfl | rfl | rfl | rfl | rfl
  · exact h122
  · exact h122
  · exact h122
  · exact h122
  · exact h122
  · exact h122
  · exact hl a (by omega)
  · have := hl (23 + j) (by omega)
    rw [show 97 + (23 + j) = 120 + j by omega] at this
    exact this
structure BR (names : List Str) (A J : Nat) (rows : List Rw) : Prop where
  sh : ∀ r ∈ rows, (∃ i x h, names[i]? = some x ∧ r = scopeRw i x h ∧ (h = s0 ∨ h ∈ names)) ∨ (∃ a j h, (a < A ∨ a = A ∧ j < J) ∧ a ≤ 8 ∧ j < 2 ∧ r = beginRw a j h ∧ (h = s0 ∨ h ∈ names))
  nd : (rows.map (·.nm)).Nodup
  sc : ∀ i x, names[i]? = some x → ∃ h, scopeRw i x h ∈ rows
  ln : rows.length ≤ names.length + 2 * A + J
theorem ins_perm {α : Type} (rows : List α) (v : Nat) (y : α) : (rows.take v ++ [y] ++ rows.drop v).Perm (y :: rows) := by
  rw [List.append_assoc]
  refine List.perm_middle.trans (List.Perm.cons y ?_)
  show (rows.take v ++ rows.drop v).Perm rows
  rw [List.take_append_drop]
theorem BR.ins {names : List Str} {A J v : Nat} {rows : List Rw} {h : Str} (b : BR names A J rows) (hN : ∀ i x, names[i]? = some x → NmAt i x) (hl : names.length ≤ 8) (hA : A ≤ 8) (hJ : J < 2) (hh : h = s0 ∨ h ∈ names) : BR names A (J + 1) (rows.take v ++ [beginRw A J h] ++ rows.drop v) := by
  have pm := ins_perm rows v (beginRw A J h)
  refine ⟨fun r hr => ?_, ?_, fun i x e => ?_, ?_⟩
  · rcases List.mem_cons.mp (pm.mem_iff.mp hr) with rfl | hr
    · exact .inr ⟨A, J, h, .inr ⟨rfl, by omega⟩, hA, hJ, rfl, hh⟩
    · rcases b.sh r hr with q | ⟨a, j, h', q1, q⟩
      · exact .inl q
      · exact .inr ⟨a, j, h', by omega, q⟩
  · refine ((pm.map (·.nm)).nodup_iff).mpr ?_
    rw [List.map_cons, List.nodup_cons]
    refine ⟨fun z => ?_, b.nd⟩
    obtain ⟨r, hr, e⟩ := List.mem_map.mp z
    rcases b.sh r hr with ⟨i, x, h', e1, rfl, _⟩ | ⟨a, j, h', q1, _, _, rfl, _⟩
    · have e2 := (hN i x e1).2
      have e : x = bnm A J := e
      rw [e, bnm_list] at e2
      have : (122 : Nat) = 110 - i := by simpa using e2
      omega
    · have e : bnm a j = bnm A J := e
      obtain ⟨rfl, rfl⟩ := bnm_inj e
      omega
  · obtain ⟨h', q⟩ := b.sc i x e
    exact ⟨h', pm.mem_iff.mpr (List.mem_cons_of_mem _ q)⟩
  · have := pm.length_eq
    rw [List.length_cons] at this
    have := b.ln
    omega
theorem BR.up {names : List Str} {A J : Nat} {rows : List Rw} (b : BR names A J rows) (hJ : J ≤ 2) : BR names (A + 1) 0 rows :=
  ⟨fun r hr => (b.sh r hr).imp id fun ⟨a, j, h, q1, q⟩ => ⟨a, j, h, by omega, q⟩, b.nd, b.sc, by have := b.ln; omega⟩
abbrev sl (kk : T) (cyc : Bool) (names : List Str) (rows : List Rw) (a4 a7 a8 a9 a10 a11 a12 a13 : Option Sv) : Tl := [some ⟨.st 0, false⟩, some ⟨.ob 0, false⟩, some ⟨kk, false⟩, some ⟨.bl cyc, false⟩, a4, some ⟨.lst (stL names), false⟩, some ⟨rowsT rows, true⟩, a7, a8, a9, a10, a11, a12, a13, none, none, none, none, none]
abbrev bodyB3 : List S := [.asg (.nm 13) (.bin .add (.bin .add (.bin .mul (.con (.str "z")) (.con (.int 6))) (.idx (.con (.str "abcdefghij")) (.var 4))) (.idx (.con (.str "xy")) (.var 12))), .exp (.bm (.var 6) .insert [(.call "_law_draw" [(.var 1), (.bin .add (.blt .len [(.var 6)]) (.con (.int 1)))]), (.tup [(.con (.str "begin")), (.var 13), (.tup []), (.tup [(.var 13)]), (.var 9), (.con (.str ""))])])]
abbrev bodyB2 : List S := [.asg (.nm 11) (.ite (.cmp .eq (.var 10) (.con (.int 1))) (.idx (.lst [(.con (.int 1)), (.con (.int 1)), (.con (.int 1)), (.con (.int 0)), (.con (.int 1)), (.con (.int 1)), (.con (.int 2)), (.con (.int 1))]) (.call "_law_draw" [(.var 1), (.con (.int 8))])) (.con (.int 1))), .frr (.nm 12) (.rng (.var 11)) bodyB3]
section
variable {p : Prog} {k : Nat} {s : Om}
theorem inner_loop {names : List Str} (hN : ∀ i x, names[i]? = some x → NmAt i x) (hl : names.length ≤ 8) {cyc : Bool} {m A c : Nat} {kk : T} {h : Str} (hh : h = s0 ∨ h ∈ names) (hA : A ≤ 8) (hc : c ≤ 2) {rows : List Rw} (b : BR names A 0 rows) {a7 a8 a10 a11 a12 a13 : Option Sv} (hs : PS (c + m) s) : ∃ τ' s', frT (turnF (tk p (k + 1)) false (.nm 12) bodyB3) (rngT 0 0 c) (sl kk cyc names rows (some ⟨.int A, false⟩) a7 a8 (some ⟨.str h, false⟩) a10 a11 a12 a13) s = .nx τ' s' ∧ PS m s' ∧ ∃ (rows' : List Rw) (b12 b13 : Option Sv), BR names (A + 1) 0 rows' ∧ τ' = sl kk cyc names rows' (some ⟨.int A, false⟩) a7 a8 (some ⟨.str h, false⟩) a10 a11 b12 b13 := by
  let I : List T → Tl → Om → Prop := fun xs τ s => ∃ (j n : Nat) (rows : List Rw) (b12 b13 : Option Sv), xs = rngT 0 j n ∧ j + n ≤ 2 ∧ PS (n + m) s ∧ BR names A j rows ∧ τ = sl kk cyc names rows (some ⟨.int A, false⟩) a7 a8 (some ⟨.str h, false⟩) a10 a11 b12 b13
  obtain ⟨τ', s', q, j, n, rows', b12, b13, h1, h2, h3, h4, h5⟩ := f_foldS (I := I) (turn := turnF (tk p (k + 1)) false (.nm 12) bodyB3) (fun x xs τ s i => by
    obtain ⟨j, n, rows, b12, b13, h1, h2, h3, h4, rfl⟩ := i
    cases n with
    | zero => cases h1
    | succ n =>
      have hr : rngT 0 j (n + 1) = T.int j :: rngT 0 (j + 1) n := by
        show T.int (0 + (j : Int)) :: rngT 0 (j + 1) n = _
        rw [Int.zero_add]
      rw [hr, List.cons.injEq] at h1
      obtain ⟨rfl, rfl⟩ := h1
      have ia : idxT (tk p (k + 1)) (.str sA10) (.int A) = some (.str ⟨#[97 + A]⟩) := by
        show (if sA10.length ≤ lim then (atI sA10.cps.toList (A : Int)).map fun c => T.str ⟨#[c]⟩ else none) = _
        rw [if_pos (by decide), atI_nat (a10_get _ (by omega))]; rfl
      have ib : idxT (tk p (k + 1)) (.str sXY) (.int j) = some (.str ⟨#[120 + j]⟩) := by
        show (if sXY.length ≤ lim then (atI sXY.cps.toList (j : Int)).map fun c => T.str ⟨#[c]⟩ else none) = _
        rw [if_pos (by decide), atI_nat (xy_get _ (by omega))]; rfl
      have im : binT .mul (.str (Str.ofString "z")) (.int 6) = some (.str z6) := rfl
      have l6 : z6.length = 6 := by rw [len_list, z6_eq]; rfl
      have l7 : (z6 ++ (⟨#[97 + A]⟩ : Str)).length = 7 := by rw [len_list, app_list, z6_eq]; rfl
      have i1 : binT .add (.str z6) (.str ⟨#[97 + A]⟩) = some (.str (z6 ++ ⟨#[97 + A]⟩)) := by
        show (if z6.length + 1 ≤ lim then some (T.str (_ ++ _)) else none) = _
        rw [if_pos (by rw [l6]; decide)]
      have i2 : binT .add (.str (z6 ++ ⟨#[97 + A]⟩)) (.str ⟨#[120 + j]⟩) = some (.str (bnm A j)) := by
        show (if (z6 ++ (⟨#[97 + A]⟩ : Str)).length + 1 ≤ lim then some (T.str (_ ++ _)) else none) = _
        rw [if_pos (by rw [l7]; decide)]
      have hrl : rows.length ≤ 8 + 16 + 2 := by have := h4.ln; omega
      have hm : ((rows.length + 1 : Nat) : Int).natAbs.log2 < 9000 := Nat.lt_trans (log2_lt (k := 5) (by rw [Int.natAbs_natCast]; show rows.length + 1 < 32; omega) (by omega)) (by omega)
      obtain ⟨v, s1, e, va, vb, hs1⟩ := draw_T (p := p) (k := k) (lk := false) (n := n + m) (m := ((rows.length + 1 : Nat) : Int)) (h3.weak (by omega)) (by omega) hm
      let σ : Tl := sl kk cyc names rows (some ⟨.int A, false⟩) a7 a8 (some ⟨.str h, false⟩) a10 a11 (some ⟨.int j, false⟩) (some ⟨.str (bnm A j), false⟩)
      have elen : tev (tk p (k + 1)) false false (.bin .add (.blt .len [(.var 6)]) (.con (.int 1))) σ s = .ok (.int ((rows.length + 1 : Nat) : Int)) s := v_bin (v_blt (z := .int rows.length) (w_cons rfl (v_var rfl rfl rfl) w_nil) (by
        show some (T.int (rows.map Rw.t).length) = _
        rw [List.length_map])) (v_con rfl) rfl
      have st2 := x_bm (TP := tk p (k + 1)) (lk := false) (s := s) (j := 6) (m := .insert) (y := .non) (xs := rows.map Rw.t) (ys := (rows.take v.toNat ++ [beginRw A j h] ++ rows.drop v.toNat).map Rw.t) (τ := σ) (τ1 := σ) (as := [(.call "_law_draw" [(.var 1), (.bin .add (.blt .len [(.var 6)]) (.con (.int 1)))]), (.tup [(.con (.str "begin")), (.var 13), (.tup []), (.tup [(.var 13)]), (.var 9), (.con (.str ""))])]) (ts := [.int v, (beginRw A j h).t]) rfl rfl (w_cons rfl (v_call (w_cons rfl (v_var rfl rfl rfl) (w_cons rfl elen w_nil)) e) (w_cons rfl (v_tup (w_cons rfl (v_con rfl) (w_cons rfl (v_var rfl rfl rfl) (w_cons rfl (v_tup w_nil (show 0 ≤ lim by decide)) (w_cons rfl (v_tup (w_cons rfl (v_var rfl rfl rfl) w_nil) (show 1 ≤ lim by decide)) (w_cons rfl (v_var rfl rfl rfl) (w_cons rfl (v_con rfl) w_nil)))))) (show 6 ≤ lim by decide)) w_nil)) (by
        show (if 0 ≤ v ∧ v ≤ 1000000 ∧ (rows.map Rw.t).length < lim then some (T.non, (rows.map Rw.t).take v.toNat ++ [(beginRw A j h).t] ++ (rows.map Rw.t).drop v.toNat) else none) = _
        rw [if_pos ⟨va, by omega, by rw [List.length_map, lim_eq]; omega⟩, List.map_append, List.map_append, List.map_take, List.map_drop]; rfl)
      refine ⟨sl kk cyc names (rows.take v.toNat ++ [beginRw A j h] ++ rows.drop v.toNat) (some ⟨.int A, false⟩) a7 a8 (some ⟨.str h, false⟩) a10 a11 (some ⟨.int j, false⟩) (some ⟨.str (bnm A j), false⟩), s1, ?_, j + 1, n, rows.take v.toNat ++ [beginRw A j h] ++ rows.drop v.toNat, some ⟨.int j, false⟩, some ⟨.str (bnm A j), false⟩, rfl, by omega, hs1, h4.ins hN hl hA (by omega) hh, rfl⟩
      refine (tF (τ1 := sl kk cyc names rows (some ⟨.int A, false⟩) a7 a8 (some ⟨.str h, false⟩) a10 a11 (some ⟨.int j, false⟩) b13) rfl).trans ?_
      refine x_cons (x_asg (τ1 := sl kk cyc names rows (some ⟨.int A, false⟩) a7 a8 (some ⟨.str h, false⟩) a10 a11 (some ⟨.int j, false⟩) b13) (τ2 := σ) rfl rfl (v_bin (v_bin (v_bin (v_con rfl) (v_con rfl) im) (v_idx (v_con rfl) (v_var rfl rfl rfl) ia) i1) (v_idx (v_con rfl) (v_var rfl rfl rfl) ib) i2) rfl) ?_
      exact x_cons st2 x_nil) (xs := rngT 0 0 c) (τ := sl kk cyc names rows (some ⟨.int A, false⟩) a7 a8 (some ⟨.str h, false⟩) a10 a11 a12 a13) (s := s) ⟨0, c, rows, a12, a13, rfl, by omega, hs, b, rfl⟩
  have n0 : n = 0 := by
    cases n with
    | zero => rfl
    | succ n => cases h1
  subst n0
  exact ⟨τ', s', q, h3.weak (by omega), rows', b12, b13, h4.up (by omega), h5⟩
theorem cnt8 : ∀ v : Nat, v < 8 → ∃ c : Nat, c ≤ 2 ∧ ([T.int 1, .int 1, .int 1, .int 0, .int 1, .int 1, .int 2, .int 1] : List T)[v]? = some (.int c)
  | 0, _ => ⟨1, by omega, rfl⟩ | 1, _ => ⟨1, by omega, rfl⟩ | 2, _ => ⟨1, by omega, rfl⟩ | 3, _ => ⟨0, by omega, rfl⟩ | 4, _ => ⟨1, by omega, rfl⟩ | 5, _ => ⟨1, by omega, rfl⟩ | 6, _ => ⟨2, by omega, rfl⟩ | 7, _ => ⟨1, by omega, rfl⟩
  | i + 8, h => by omega
theorem begins_loop (C : CxL p) {names : List Str} (hN : ∀ i x, names[i]? = some x → NmAt i x) (hl : names.length ≤ 8) {cyc : Bool} {m : Nat} {kk : T} {v10 : Int} {rows : List Rw} (b : BR names 0 0 rows) {a4 a7 a8 a9 : Option Sv} (hs : PS (27 + m) s) : ∃ τ' s', frT (turnF (tk p (k + 1)) false (.tup [(.nm 4), (.nm 9)]) bodyB2) (zipN 0 (stL (s0 :: names))) (sl kk cyc names rows a4 a7 a8 a9 (some ⟨.int v10, false⟩) none none none) s = .nx τ' s' ∧ PS m s' ∧ ∃ (rows' : List Rw) (b4 b9 b11 b12 b13 : Option Sv), BR names 9 0 rows' ∧ τ' = sl kk cyc names rows' b4 a7 a8 b9 (some ⟨.int v10, false⟩) b11 b12 b13 := by
  let I : List T → Tl → Om → Prop := fun xs τ s => ∃ (d e : List Str) (rows : List Rw) (b4 b9 b11 b12 b13 : Option Sv), s0 :: names = d ++ e ∧ xs = zipN d.length (stL e) ∧ PS (3 * e.length + m) s ∧ BR names d.length 0 rows ∧ τ = sl kk cyc names rows b4 a7 a8 b9 (some ⟨.int v10, false⟩) b11 b12 b13
  obtain ⟨τ', s', q, d, e, rows', b4, b9, b11, b12, b13, h1, h2, h3, h4, h5⟩ := f_foldS (I := I) (turn := turnF (tk p (k + 1)) false (.tup [(.nm 4), (.nm 9)]) bodyB2) (fun x xs τ s i => by
    obtain ⟨d, e, rows, b4, b9, b11, b12, b13, h1, h2, h3, h4, rfl⟩ := i
    cases e with
    | nil => cases h2
    | cons y e =>
      rw [zipN_cons, List.cons.injEq] at h2
      obtain ⟨rfl, rfl⟩ := h2
      have hd : d.length ≤ 8 := by
        have := congrArg List.length h1
        rw [List.length_append, List.length_cons, List.length_cons] at this
        omega
      have hy : y = s0 ∨ y ∈ names := List.mem_cons.mp (by rw [h1]; exact List.mem_append_right _ (List.mem_cons_self ..))
      let σ : Tl := sl kk cyc names rows (some ⟨.int d.length, false⟩) a7 a8 (some ⟨.str y, false⟩) (some ⟨.int v10, false⟩) b11 b12 b13
      obtain ⟨c, s1, e11, hc, p1⟩ : ∃ (c : Nat) (s1 : Om), tev (tk p (k + 1)) false false (.ite (.cmp .eq (.var 10) (.con (.int 1))) (.idx (.lst [(.con (.int 1)), (.con (.int 1)), (.con (.int 1)), (.con (.int 0)), (.con (.int 1)), (.con (.int 1)), (.con (.int 2)), (.con (.int 1))]) (.call "_law_draw" [(.var 1), (.con (.int 8))])) (.con (.int 1))) σ s = .ok (.int c) s1 ∧ c ≤ 2 ∧ PS (2 + (3 * e.length + m)) s1 := by
        have cc : tev (tk p (k + 1)) false true (.cmp .eq (.var 10) (.con (.int 1))) σ s = .ok (.bl (decide (v10 = 1))) s := v_cmp (v_var rfl rfl rfl) (v_con rfl) (eq_int _ _)
        rw [List.length_cons] at h3
        by_cases z : v10 = 1
        · rw [decide_eq_true z] at cc
          obtain ⟨v, s1, e, va, vb, hs1⟩ := draw_T (p := p) (k := k) (lk := false) (n := 2 + (3 * e.length + m)) (m := 8) (h3.weak (by omega)) (by omega) (by decide)
          obtain ⟨c, hc, ec⟩ := cnt8 v.toNat (by omega)
          have ix : idxT (tk p (k + 1)) (.lst [T.int 1, .int 1, .int 1, .int 0, .int 1, .int 1, .int 2, .int 1]) (.int v) = some (.int c) := by
            show atI [T.int 1, .int 1, .int 1, .int 0, .int 1, .int 1, .int 2, .int 1] v = _
            have hv : (v.toNat : Int) = v := by omega
            rw [← hv]
            exact atI_nat ec
          refine ⟨c, s1, v_ite (t := true) cc rfl ((if_pos rfl).trans (v_idx (x := .lst [T.int 1, .int 1, .int 1, .int 0, .int 1, .int 1, .int 2, .int 1]) (s1 := s) rfl (v_call (w_cons rfl (v_var rfl rfl rfl) (w_cons rfl (v_con rfl) w_nil)) e) ix)), hc, hs1⟩
        · rw [decide_eq_false z] at cc
          exact ⟨1, s, v_ite (t := false) cc rfl ((if_neg (by decide)).trans (v_con rfl)), by omega, h3.weak (by omega)⟩
      obtain ⟨τ', s2, q, p2, rows', c12, c13, hB, rfl⟩ := inner_loop (p := p) (k := k) (s := s1) hN hl (cyc := cyc) (m := 3 * e.length + m) (A := d.length) (c := c) (kk := kk) (h := y) hy hd hc h4 (a7 := a7) (a8 := a8) (a10 := some ⟨.int v10, false⟩) (a11 := some ⟨.int c, false⟩) (a12 := b12) (a13 := b13) (p1.weak (by omega))
      refine ⟨sl kk cyc names rows' (some ⟨.int d.length, false⟩) a7 a8 (some ⟨.str y, false⟩) (some ⟨.int v10, false⟩) (some ⟨.int c, false⟩) c12 c13, s2, ?_, d ++ [y], e, rows', some ⟨.int d.length, false⟩, some ⟨.str y, false⟩, some ⟨.int c, false⟩, c12, c13, by rw [h1, List.append_assoc]; rfl, by rw [List.length_append]; rfl, p2, by rw [List.length_append]; exact hB, rfl⟩
      refine (tF (τ1 := σ) rfl).trans ?_
      refine x_cons (x_asg (τ1 := σ) (τ2 := sl kk cyc names rows (some ⟨.int d.length, false⟩) a7 a8 (some ⟨.str y, false⟩) (some ⟨.int v10, false⟩) (some ⟨.int c, false⟩) b12 b13) rfl rfl e11 rfl) ?_
      refine x_cons (x_frr (τ1 := sl kk cyc names rows (some ⟨.int d.length, false⟩) a7 a8 (some ⟨.str y, false⟩) (some ⟨.int v10, false⟩) (some ⟨.int c, false⟩) b12 b13) (xs := (rngT 0 0 c, false)) rfl (vi_rng (v_var rfl rfl rfl) ?_) ?_ q) x_nil
      · show (if -1000000 ≤ (c : Int) ∧ (c : Int) ≤ 1000000 then some (rngT 0 0 (c : Int).toNat, false) else none) = _
        rw [if_pos (by omega), Int.toNat_natCast]
      · show (rngT 0 0 c).length < p.fu
        rw [C.fu]
        have : (rngT 0 0 c).length = c := by
          have := hc
          match c, this with
          | 0, _ => rfl
          | 1, _ => rfl
          | 2, _ => rfl
        omega) (xs := zipN 0 (stL (s0 :: names))) (τ := sl kk cyc names rows a4 a7 a8 a9 (some ⟨.int v10, false⟩) none none none) (s := s) ⟨[], s0 :: names, rows, _, _, _, _, _, rfl, rfl, hs.weak (by rw [List.length_cons]; omega), b, rfl⟩
  have e0 : e = [] := by
    cases e with
    | nil => rfl
    | cons y e => rw [zipN_cons] at h2; cases h2
  subst e0
  rw [List.append_nil] at h1
  have hd : d.length ≤ 9 := by
    rw [← h1, List.length_cons]; omega
  refine ⟨τ', s', q, h3.weak (by simp), rows', b4, b9, b11, b12, b13, ⟨fun r hr => (h4.sh r hr).imp id fun ⟨a, j, h, q1, q⟩ => ⟨a, j, h, by omega, q⟩, h4.nd, h4.sc, by have := h4.ln; omega⟩, h5⟩
end
end MP

set_option Elab.async false
set_option linter.all false
set_option maxRecDepth 100000
/-! MP: a law's answer. -/
namespace MP
open PySem L2
theorem names_nodup {names : List Str} (hN : ∀ i x, names[i]? = some x → NmAt i x) (hl : names.length ≤ 8) : names.Nodup := by
  rw [List.Nodup, List.pairwise_iff_getElem]
  intro i j hi hj hij e
  have h1 := (hN i _ (List.getElem?_eq_getElem hi)).2
  have h2 := (hN j _ (List.getElem?_eq_getElem hj)).2
  rw [e, h2] at h1
  have := Option.some.inj h1
  omega
theorem sc_names {names : List Str} {rows : List Rw} (h : ScRows names names rows) : rows.map (·.nm) = names := by
  apply List.ext_getElem?
  intro i
  rw [List.getElem?_map]
  cases e : rows[i]? with
  | none =>
    have := List.getElem?_eq_none_iff.mp e
    rw [h.1] at this
    rw [List.getElem?_eq_none_iff.mpr this]; rfl
  | some r =>
    obtain ⟨x, h', e1, rfl, _⟩ := h.2 i r e
    rw [e1]; rfl
theorem BR.start {names : List Str} {rows : List Rw} (hN : ∀ i x, names[i]? = some x → NmAt i x) (hl : names.length ≤ 8) (h : ScRows names names rows) : BR names 0 0 rows := by
  refine ⟨fun r hr => ?_, by rw [sc_names h]; exact names_nodup hN hl, fun i x e => ?_, by rw [h.1]; omega⟩
  · obtain ⟨i, hi⟩ := List.getElem?_of_mem hr
    obtain ⟨x, h', q⟩ := h.2 i r hi
    exact .inl ⟨i, x, h', q⟩
  · have hi : i < rows.length := by rw [h.1]; exact (List.getElem?_eq_some_iff.mp e).1
    obtain ⟨x', h', e1, e2, _⟩ := h.2 i _ (List.getElem?_eq_getElem hi)
    rw [e] at e1
    cases e1
    exact ⟨h', by rw [← e2]; exact List.getElem_mem hi⟩
theorem BR.rev {names : List Str} {A J : Nat} {rows : List Rw} (b : BR names A J rows) : BR names A J rows.reverse :=
  ⟨fun r hr => b.sh r (List.mem_reverse.mp hr), by rw [List.map_reverse]; exact ((List.reverse_perm _).nodup_iff).mpr b.nd, fun i x e => let ⟨h, q⟩ := b.sc i x e; ⟨h, List.mem_reverse.mpr q⟩, by rw [List.length_reverse]; exact b.ln⟩
theorem in_list (i : Nat) : (inS i).cps.toList = [105, 110, 97 + i] := by
  rw [app_list]; rfl
theorem out_list (i : Nat) : (outS i).cps.toList = [111, 117, 116, 97 + i] := by
  rw [app_list]; rfl
theorem let_mem (n : Nat) (h : n < 26) : 97 + n ∈ LET.cps.toList := by
  have hl : ∀ n : Nat, n < 26 → 97 + n ∈ LET.cps.toList := by decide
  exact hl n h
theorem inS_ok {i : Nat} (hi : i < 8) : NmOk (inS i) := by
  refine ⟨by rw [len_list, in_list]; show 1 ≤ 3; omega, by rw [len_list, in_list]; show 3 ≤ 8; omega, fun c hc => ?_⟩
  rw [in_list] at hc
  simp only [List.mem_cons, List.not_mem_nil, or_false] at hc
  rcases hc with rfl | rfl | rfl
  · exact let_mem 8 (by omega)
  · exact let_mem 13 (by omega)
  · exact let_mem i (by omega)
theorem outS_ok {i : Nat} (hi : i < 8) : NmOk (outS i) := by
  refine ⟨by rw [len_list, out_list]; show 1 ≤ 4; omega, by rw [len_list, out_list]; show 4 ≤ 8; omega, fun c hc => ?_⟩
  rw [out_list] at hc
  simp only [List.mem_cons, List.not_mem_nil, or_false] at hc
  rcases hc with rfl | rfl | rfl | rfl
  · exact let_mem 14 (by omega)
  · exact let_mem 20 (by omega)
  · exact let_mem 19 (by omega)
  · exact let_mem i (by omega)
theorem fl_ok {names : List Str} {rs : List Rw} (hN : ∀ i x, names[i]? = some x → NmAt i x) (hl : names.length ≤ 8) (hne : names ≠ []) (b : BR names 9 0 rs) : FlOk rs := by
  have hi8 : ∀ i x, names[i]? = some x → i < 8 := fun i x e => by
    have := (List.getElem?_eq_some_iff.mp e).1
    omega
  have hm : ∀ x ∈ names, NmOk x := fun x hx => by
    obtain ⟨i, hi⟩ := List.getElem?_of_mem hx
    exact (hN i x hi).1
  have hk : ∀ x ∈ names, Known (scopesOf rs) x := fun x hx => by
    obtain ⟨i, hi⟩ := List.getElem?_of_mem hx
    obtain ⟨h, q⟩ := b.sc i x hi
    exact self_known (r := scopeRw i x h) (List.mem_filter.mpr ⟨q, decide_eq_true rfl⟩)
  refine ⟨fun r hr => ?_, b.nd, fun r hr => ?_, by have := b.ln; omega, fun z => ?_, fun x hx hx2 => ?_⟩
  · rcases b.sh r hr with ⟨i, x, h, e, rfl, hh⟩ | ⟨a, j, h, q, ha, hj, rfl, hh⟩
    · exact ⟨.inl ⟨rfl, rfl, rfl⟩, (hN i x e).1, fun y hy => by rw [List.mem_singleton.mp hy]; exact inS_ok (hi8 i x e), fun y hy => by rw [List.mem_singleton.mp hy]; exact outS_ok (hi8 i x e), hh.imp id (hm h), rfl⟩
    · exact ⟨.inr ⟨rfl, rfl, rfl⟩, bnm_ok ha hj, fun y hy => absurd hy List.not_mem_nil, fun y hy => by rw [List.mem_singleton.mp hy]; exact bnm_ok ha hj, hh.imp id (hm h), rfl⟩
  · rcases b.sh r hr with ⟨i, x, h, e, rfl, hh⟩ | ⟨a, j, h, q, ha, hj, rfl, hh⟩
    · exact hh.elim .inl (hk h)
    · exact hh.elim .inl (hk h)
  · obtain ⟨x, xs, e⟩ := List.exists_cons_of_ne_nil hne
    obtain ⟨h, q⟩ := b.sc 0 x (by rw [e]; rfl)
    rw [z] at q
    cases q
  · obtain ⟨r, hr, m⟩ := List.mem_flatMap.mp hx
    obtain ⟨r2, hr2, m2⟩ := List.mem_flatMap.mp hx2
    rcases b.sh r hr with ⟨i, y, h, e, rfl, hh⟩ | ⟨a, j, h, q, ha, hj, rfl, hh⟩
    · have ex : x = inS i := List.mem_singleton.mp m
      subst ex
      rcases b.sh r2 hr2 with ⟨i2, y2, h2, e2, rfl, _⟩ | ⟨a, j, h2, q, ha, hj, rfl, _⟩
      · have ex : inS i = outS i2 := List.mem_singleton.mp m2
        have := congrArg (fun x : Str => x.cps.toList) ex
        simp only [in_list, out_list] at this
        cases this
      · have ex : inS i = bnm a j := List.mem_singleton.mp m2
        have := congrArg (fun x : Str => x.cps.toList) ex
        simp only [in_list, bnm_list] at this
        cases this
    · exact absurd m List.not_mem_nil
section
variable {TP : Tg0} {lk bo : Bool} {τ τ1 τ2 : Tl} {s s1 s2 : Om}
theorem x_tri {b u : List S} {c c' : Str} {i : Nat} {fs : List (Str × T)} (hb : texs TP lk b τ s = .ex c' fs τ1 s1) (hc : TP.isC c' c = some true) (hu : texs TP lk u (τ1.set i (some ⟨.exn c' fs, false⟩)) s1 = .nx τ2 s2) : tex TP lk (.tri b c i u) τ s = .nx ((clrT τ2).set i none) s2 := by
  show (match texs TP lk b τ s with
    | .ex c' fs τ' s' => (match TP.isC c' c with
      | some true => (match texs TP lk u (τ'.set i (some ⟨.exn c' fs, false⟩)) s' with
        | .nx τ'' s'' => TO.nx ((clrT τ'').set i none) s''
        | .rt t s'' => .rt t s''
        | _ => .no)
      | some false => .ex c' fs τ' s'
      | none => .no)
    | r => r) = _
  rw [hb]
  show (match TP.isC c' c with
      | some true => (match texs TP lk u (τ1.set i (some ⟨.exn c' fs, false⟩)) s1 with
        | .nx τ'' s'' => TO.nx ((clrT τ'').set i none) s''
        | .rt t s'' => .rt t s''
        | _ => .no)
      | some false => .ex c' fs τ1 s1
      | none => .no) = _
  rw [hc]
  show (match texs TP lk u (τ1.set i (some ⟨.exn c' fs, false⟩)) s1 with
        | .nx τ'' s'' => TO.nx ((clrT τ'').set i none) s''
        | .rt t s'' => .rt t s''
        | _ => .no) = _
  rw [hu]
theorem v_xf {i : Nat} {f c : Str} {fs : List (Str × T)} {o : Bool} {gs : List Str} {t : T} (e : τ[i]? = some (some ⟨.exn c fs, o⟩)) (he : TP.exf c = some gs) (hg : gs.contains f = true) (hl : fs.lookup f = some t) : tev TP lk bo (.xf i f) τ s = .ok t s := by
  show (match τ[i]? with
    | some (some ⟨.exn c fs, _⟩) => if exfT TP c f = true then ofT (fs.lookup f) s else TR.no
    | _ => .no) = _
  rw [e]
  show (if exfT TP c f = true then ofT (fs.lookup f) s else TR.no) = _
  have : exfT TP c f = true := by
    unfold exfT
    rw [he]; exact hg
  rw [if_pos this, hl]; rfl
end
section
variable {p : Prog} {k : Nat} {s : Om}
theorem nest_mem {rs : List Rw} {x : Str} (e : nestOf rs = some x) : ∃ r ∈ rs, r.nm = x := by
  unfold nestOf at e
  obtain ⟨r, e1, rfl⟩ := Option.map_eq_some_iff.mp e
  exact ⟨r, (List.mem_filter.mp (List.mem_of_find?_eq_some e1)).1, rfl⟩
theorem begin_mem {rs : List Rw} {x : Str} (e : beginOf rs = some x) : x = s0 ∨ ∃ r ∈ rs, r.nm = x := by
  unfold beginOf at e
  have := List.mem_of_find?_eq_some e
  unfold placesOf at this
  rcases List.mem_cons.mp this with q | q
  · exact .inl q
  · obtain ⟨r, hr, e⟩ := List.mem_map.mp q
    exact .inr ⟨r, (List.mem_filter.mp hr).1, e⟩
theorem zip_len : ∀ (i : Nat) (ts : List T), (zipN i ts).length = ts.length
  | _, [] => rfl
  | i, t :: ts => by
    show (_ :: zipN (i + 1) ts).length = _
    rw [List.length_cons, List.length_cons, zip_len (i + 1) ts]
/-- what is raised is what is due -/
theorem last_ok {rs : List Rw} (h : FlOk rs) {n w : Str} (hw : Wrong rs n w) {τ : Tl} {TP : Tg0} (e15 : τ[15]? = some (some ⟨.tup [.str n, .str w], false⟩)) (e17 : τ[17]? = some (some ⟨dueT rs, false⟩)) : tev TP false false (.ite (.cmp .isn (.var 17) (.con .non)) (.cmp .eq (.var 15) (.var 17)) (.cmp .eq (.idx (.var 15) (.con (.int 1))) (.con (.str "edge")))) τ s = .ok (.bl true) s := by
  unfold Wrong at hw
  have pair : ∀ x y : Str, dueT rs = .tup [.str x, .str y] → n = x → w = y → PyData.strOk x = true → PyData.strOk y = true → tev TP false false (.ite (.cmp .isn (.var 17) (.con .non)) (.cmp .eq (.var 15) (.var 17)) (.cmp .eq (.idx (.var 15) (.con (.int 1))) (.con (.str "edge")))) τ s = .ok (.bl true) s := fun x y hd hn hw hx hy => by
    rw [hd] at e17
    subst hn hw
    refine v_ite (t := true) (v_cmp (z := true) (v_var e17 rfl rfl) (v_con rfl) rfl) rfl ((if_pos rfl).trans (v_cmp (v_var e15 rfl rfl) (v_var e17 rfl rfl) ?_))
    refine (eq_str2 hx hy hx hy).trans ?_
    rw [decide_eq_true rfl, decide_eq_true rfl]; rfl
  cases e4 : nestOf rs with
  | some x =>
    rw [e4] at hw
    obtain ⟨r, hr, er⟩ := nest_mem e4
    exact pair x "nest" (by unfold dueT; rw [e4]) hw.1 hw.2 (by rw [← er]; exact nm_strOk (h.ok r hr).nm) (strOk_of (by decide))
  | none =>
    rw [e4] at hw
    dsimp only at hw
    cases e5 : beginOf rs with
    | some x =>
      rw [e5] at hw
      refine pair x "begin" (by unfold dueT; rw [e4]; dsimp only; rw [e5]) hw.1 hw.2 ?_ (strOk_of (by decide))
      rcases begin_mem e5 with q | ⟨r, hr, er⟩
      · rw [q]; exact s0_strOk
      · rw [← er]; exact nm_strOk (h.ok r hr).nm
    | none =>
      rw [e5] at hw
      have hd : dueT rs = .non := by unfold dueT; rw [e4]; dsimp only; rw [e5]
      rw [hd] at e17
      refine v_ite (t := false) (v_cmp (z := false) (v_var e17 rfl rfl) (v_con rfl) rfl) rfl ((if_neg (by decide)).trans (v_cmp (v_idx (z := .str w) (v_var e15 rfl rfl) (v_con rfl) rfl) (v_con rfl) ?_))
      refine (eq_str _ _).trans ?_
      rw [decide_eq_true hw.2]
theorem law_T (C : CxL p) (fl : p.fn ("", "law") = some d_law) {ns : List Int} (hs : scriptT p = some ns) (hns : ns.length < 1000) : ∃ s', (tk p 12).cl ("", "law") [.st 0] false [] = .ok (.bl true) s' := by
  obtain ⟨s1, e1, p1⟩ := pool_cl (p := p) (k := 10) (lk := false) hs (by rw [C.fu]; omega) hns
  obtain ⟨v2, s2, e2, a2, b2, p2⟩ := draw_T (p := p) (k := 10) (lk := false) (n := 999) (m := 7) p1 (by omega) (by decide)
  obtain ⟨v3, s3, e3, a3, b3, p3⟩ := draw_T (p := p) (k := 10) (lk := false) (n := 998) (m := 2) p2 (by omega) (by decide)
  let τ0 : Tl := [some ⟨.st 0, false⟩, none, none, none, none, none, none, none, none, none, none, none, none, none, none, none, none, none, none]
  let τ1 : Tl := [some ⟨.st 0, false⟩, some ⟨.ob 0, false⟩, none, none, none, none, none, none, none, none, none, none, none, none, none, none, none, none, none]
  let τ2 : Tl := [some ⟨.st 0, false⟩, some ⟨.ob 0, false⟩, some ⟨.int (2 + v2), false⟩, none, none, none, none, none, none, none, none, none, none, none, none, none, none, none, none]
  let τ3 : Tl := [some ⟨.st 0, false⟩, some ⟨.ob 0, false⟩, some ⟨.int (2 + v2), false⟩, some ⟨.bl (decide (v3 = 1)), false⟩, none, none, none, none, none, none, none, none, none, none, none, none, none, none, none]
  obtain ⟨names, s4, e4, p4, hlen, hN0⟩ := names_loop (p := p) (k := 9) (lk := false) (τ := τ3) (τf := fun i => [some ⟨.st 0, false⟩, some ⟨.ob 0, false⟩, some ⟨.int (2 + v2), false⟩, some ⟨.bl (decide (v3 = 1)), false⟩, some ⟨.int i, false⟩, none, none, none, none, none, none, none, none, none, none, none, none, none, none]) C (fun i => rfl) (fun i => rfl) (fun i => rfl) (m := 900) (2 + v2).toNat 0 s3 (by omega) (p3.weak (by omega))
  have hN : ∀ i x, names[i]? = some x → NmAt i x := fun i x e => by
    have := hN0 i x e
    rw [Nat.zero_add] at this
    exact this
  have hl : names.length ≤ 8 := by omega
  have hne : names ≠ [] := fun z => by rw [z] at hlen; simp at hlen; omega
  let τ5 : Tl := [some ⟨.st 0, false⟩, some ⟨.ob 0, false⟩, some ⟨.int (2 + v2), false⟩, some ⟨.bl (decide (v3 = 1)), false⟩, none, some ⟨.lst (stL names), true⟩, none, none, none, none, none, none, none, none, none, none, none, none, none]
  let τ6 : Tl := [some ⟨.st 0, false⟩, some ⟨.ob 0, false⟩, some ⟨.int (2 + v2), false⟩, some ⟨.bl (decide (v3 = 1)), false⟩, none, some ⟨.lst (stL names), true⟩, some ⟨.lst [], true⟩, none, none, none, none, none, none, none, none, none, none, none, none]
  obtain ⟨τ', s5, q5, p5, rows, a4, a7, a8, a9, hsc, rfl⟩ := scopes_loop (p := p) (k := 10) (s := s4) (names := names) hl (cyc := decide (v3 = 1)) (m := 800) (kk := .int (2 + v2)) (p4.weak (by omega))
  obtain ⟨v10, s6, e10, a10, b10, p6⟩ := draw_T (p := p) (k := 10) (lk := false) (n := 700) (m := 3) (p5.weak (by omega)) (by omega) (by decide)
  obtain ⟨τ', s7, q7, p7, rows1, b4, b9, b11, b12, b13, hB1, rfl⟩ := begins_loop (p := p) (k := 10) (s := s6) C hN hl (cyc := decide (v3 = 1)) (m := 600) (kk := .int (2 + v2)) (v10 := v10) (BR.start hN hl hsc) (a4 := a4) (a7 := a7) (a8 := a8) (a9 := a9) (p6.weak (by omega))
  -- perhaps turned round
  obtain ⟨vr, s8, e8, ar, br, p8⟩ := draw_T (p := p) (k := 10) (lk := false) (n := 500) (m := 2) (p7.weak (by omega)) (by omega) (by decide)
  let σ7 : List Rw → Tl := fun rs => sl (.int (2 + v2)) (decide (v3 = 1)) names rs b4 a7 a8 b9 (some ⟨.int v10, false⟩) b11 b12 b13
  obtain ⟨rs, hB, st9⟩ : ∃ rs, BR names 9 0 rs ∧ tex (tk p 11) false (.ite (.cmp .eq (.call "_law_draw" [(.var 1), (.con (.int 2))]) (.con (.int 1))) [.asg (.nm 6) (.rev (.var 6))] []) (σ7 rows1) s7 = .nx (σ7 rs) s8 := by
    have c : tev (tk p 11) false true (.cmp .eq (.call "_law_draw" [(.var 1), (.con (.int 2))]) (.con (.int 1))) (σ7 rows1) s7 = .ok (.bl (decide (vr = 1))) s8 := v_cmp (v_call (w_cons rfl (v_var rfl rfl rfl) (w_cons rfl (v_con rfl) w_nil)) e8) (v_con rfl) (eq_int _ _)
    by_cases z : vr = 1
    · rw [decide_eq_true z] at c
      refine ⟨rows1.reverse, hB1.rev, x_ifT (τ1 := σ7 rows1) rfl c rfl (x_cons (x_asg (v := .lst (rows1.map Rw.t).reverse) (τ1 := σ7 rows1) (τ2 := σ7 rows1.reverse) rfl rfl (v_rev (v_var rfl rfl rfl)) ?_) x_nil)⟩
      show _ = sl (.int (2 + v2)) (decide (v3 = 1)) names rows1.reverse b4 a7 a8 b9 (some ⟨.int v10, false⟩) b11 b12 b13
      unfold sl rowsT
      rw [List.map_reverse]; rfl
    · rw [decide_eq_false z] at c
      exact ⟨rows1, hB1, x_ifF (τ1 := σ7 rows1) rfl c rfl rfl⟩
  have hF := fl_ok hN hl hne hB
  have hln : rs.length < 1000 := by have := hF.ln; omega
  obtain ⟨n, w, hw, hcl⟩ := flow_ok (p := p) (k := 6) (s := s8 ++ [.ins "Flow" []]) C.toCxN hF
  let σ : Bool → Bool → Option Sv → Option Sv → Tl := fun o6 o14 t15 t17 => [some ⟨.st 0, false⟩, some ⟨.ob 0, false⟩, some ⟨.int (2 + v2), false⟩, some ⟨.bl (decide (v3 = 1)), false⟩, b4, some ⟨.lst (stL names), false⟩, some ⟨rowsT rs, o6⟩, a7, a8, b9, some ⟨.int v10, false⟩, b11, b12, b13, some ⟨rowsT rs, o14⟩, t15, none, t17, none]
  let σc : Bool → Bool → Option Sv → Option Sv → Tl := fun o6 o14 t15 t17 => [some ⟨.st 0, false⟩, some ⟨.ob 0, false⟩, some ⟨.int (2 + v2), false⟩, some ⟨.bl (decide (v3 = 1)), false⟩, clr1T b4, some ⟨.lst (stL names), false⟩, some ⟨rowsT rs, o6⟩, clr1T a7, clr1T a8, clr1T b9, some ⟨.int v10, false⟩, clr1T b11, clr1T b12, clr1T b13, some ⟨rowsT rs, o14⟩, t15, none, t17, none]
  have st10 : tex (tk p 11) false (.asg (.nm 14) (.blt .list [(.var 6)])) (σ7 rs) s8 = .nx (σ true true none none) s8 := x_asg (v := rowsT rs) (τ1 := σ7 rs) rfl rfl (v_blt (w_cons rfl (v_var rfl rfl rfl) w_nil) rfl) rfl
  have st11 : tex (tk p 11) false (.asg (.nm 15) (.con .non)) (σ true true none none) s8 = .nx (σ true true (some ⟨.non, false⟩) none) s8 := x_asg (v := .non) (τ1 := σ true true none none) rfl rfl (v_con rfl) rfl
  have hbody : texs (tk p 11) false [.exp (.make "Flow" [(.var 14)])] (σ true true (some ⟨.non, false⟩) none) s8 = .ex "InvalidFlow" (invF n w) (σ true false (some ⟨.non, false⟩) none) (s8 ++ [.ins "Flow" []]) :=
    x_ex (x_expX (τ1 := σ true false (some ⟨.non, false⟩) none) rfl rfl (v_makeX (ts := [rowsT rs]) (w_cons rfl (v_var rfl rfl rfl) w_nil) (hcl _)))
  have hh : texs (tk p 11) false [.asg (.nm 15) (.tup [(.xf 16 "name"), (.xf 16 "why")])] ((σ true false (some ⟨.non, false⟩) none).set 16 (some ⟨.exn "InvalidFlow" (invF n w), false⟩)) (s8 ++ [.ins "Flow" []]) = .nx ((σ true false (some ⟨.tup [.str n, .str w], false⟩) none).set 16 (some ⟨.exn "InvalidFlow" (invF n w), false⟩)) (s8 ++ [.ins "Flow" []]) :=
    x_cons (x_asg (v := .tup [.str n, .str w]) (τ1 := (σ true false (some ⟨.non, false⟩) none).set 16 (some ⟨.exn "InvalidFlow" (invF n w), false⟩)) rfl rfl (v_tup (w_cons rfl (v_xf (t := .str n) rfl C.x_inv (by decide) rfl) (w_cons rfl (v_xf (t := .str w) rfl C.x_inv (by decide) rfl) w_nil)) (show 2 ≤ lim by decide)) rfl) x_nil
  have st12 : tex (tk p 11) false (.tri [.exp (.make "Flow" [(.var 14)])] "InvalidFlow" 16 [.asg (.nm 15) (.tup [(.xf 16 "name"), (.xf 16 "why")])]) (σ true true (some ⟨.non, false⟩) none) s8 = .nx (σc true false (some ⟨.tup [.str n, .str w], false⟩) none) (s8 ++ [.ins "Flow" []]) :=
    (x_tri hbody C.c_inv hh).trans rfl
  have st13 : tex (tk p 11) false (.asg (.nm 17) (.call "_law_due" [(.var 6)])) (σc true false (some ⟨.tup [.str n, .str w], false⟩) none) (s8 ++ [.ins "Flow" []]) = .nx (σc false false (some ⟨.tup [.str n, .str w], false⟩) (some ⟨dueT rs, false⟩)) (s8 ++ [.ins "Flow" []]) :=
    x_asg (v := dueT rs) (τ1 := σc false false (some ⟨.tup [.str n, .str w], false⟩) none) rfl rfl (v_call (w_cons rfl (v_var rfl rfl rfl) w_nil) (due_ok (k := 9) C hF.nd hF.cl hln)) rfl
  have st14 : tex (tk p 11) false (.ite (.or (.cmp .iss (.var 15) (.con .non)) (.cmp .ne (.var 14) (.var 6))) [.ret (.con (.bl false))] []) (σc false false (some ⟨.tup [.str n, .str w], false⟩) (some ⟨dueT rs, false⟩)) (s8 ++ [.ins "Flow" []]) = .nx (σc false false (some ⟨.tup [.str n, .str w], false⟩) (some ⟨dueT rs, false⟩)) (s8 ++ [.ins "Flow" []]) := by
    refine x_ifF (τ1 := σc false false (some ⟨.tup [.str n, .str w], false⟩) (some ⟨dueT rs, false⟩)) rfl (v_or_f (x := .bl false) (v_cmp (v_var rfl rfl rfl) (v_con rfl) rfl) rfl (v_cmp (z := false) (v_var rfl rfl rfl) (v_var rfl rfl rfl) ?_)) rfl rfl
    show (eqT (rowsT rs) (rowsT rs)).map (!·) = _
    rw [eq_rows_self fun x hx => (hF.ok x hx).ok]; rfl
  refine ⟨s8 ++ [.ins "Flow" []], ?_⟩
  refine call_fn (p := p) (k := 11) (f := "law") (c := "") (ts := [.st 0]) (lk := false) (s := []) (d := d_law) (o := .rt (.bl true) (s8 ++ [.ins "Flow" []])) fl (by decide) (by decide) rfl ?_
  refine x_cons (x_asg (τ1 := τ0) (τ2 := τ1) rfl rfl (v_call (w_cons rfl (v_var rfl rfl rfl) w_nil) e1) rfl) ?_
  refine x_cons (x_asg (τ1 := τ1) (τ2 := τ2) rfl rfl (v_bin (v_con rfl) (v_call (w_cons rfl (v_var rfl rfl rfl) (w_cons rfl (v_con rfl) w_nil)) e2) rfl) rfl) ?_
  refine x_cons (x_asg (τ1 := τ2) (τ2 := τ3) rfl rfl (v_cmp (v_call (w_cons rfl (v_var rfl rfl rfl) (w_cons rfl (v_con rfl) w_nil)) e3) (v_con rfl) (eq_int _ _)) rfl) ?_
  refine x_cons (x_asg (τ1 := τ3) (τ2 := τ5) rfl rfl (v_cp (xs := (rngT 0 0 (2 + v2).toNat, false)) (vi_rng (v_var rfl rfl rfl) ?_) ?_ e4) rfl) ?_
  · show (if -1000000 ≤ 2 + v2 ∧ 2 + v2 ≤ 1000000 then some (rngT 0 0 (2 + v2).toNat, false) else none) = _
    rw [if_pos (by omega)]
  · show (rngT 0 0 (2 + v2).toNat).length < p.fu
    rw [C.fu]
    have : ∀ n i, (rngT 0 i n).length = n := fun n => by
      induction n with
      | zero => intro i; rfl
      | succ n ih => intro i; show (_ :: rngT 0 (i + 1) n).length = _; rw [List.length_cons, ih]
    rw [this]; omega
  refine x_cons (x_asg (v := .lst []) (τ1 := τ5) (τ2 := τ6) rfl rfl (v_lst w_nil (show 0 ≤ lim by decide)) rfl) ?_
  refine x_cons (x_frr (τ1 := [some ⟨.st 0, false⟩, some ⟨.ob 0, false⟩, some ⟨.int (2 + v2), false⟩, some ⟨.bl (decide (v3 = 1)), false⟩, none, some ⟨.lst (stL names), false⟩, some ⟨rowsT [], true⟩, none, none, none, none, none, none, none, none, none, none, none, none]) (xs := (zipN 0 (stL names), false)) rfl (vi_enum (v_var rfl rfl rfl) rfl) ?_ q5) ?_
  · show (zipN 0 (stL names)).length < p.fu
    rw [C.fu, zip_len, List.length_map]; omega
  refine x_cons (x_asg (τ1 := sl (.int (2 + v2)) (decide (v3 = 1)) names rows a4 a7 a8 a9 none none none none) (τ2 := sl (.int (2 + v2)) (decide (v3 = 1)) names rows a4 a7 a8 a9 (some ⟨.int v10, false⟩) none none none) rfl rfl (v_call (w_cons rfl (v_var rfl rfl rfl) (w_cons rfl (v_con rfl) w_nil)) e10) rfl) ?_
  refine x_cons (x_frr (τ1 := sl (.int (2 + v2)) (decide (v3 = 1)) names rows a4 a7 a8 a9 (some ⟨.int v10, false⟩) none none none) (xs := (zipN 0 (stL (s0 :: names)), false)) rfl (vi_enum (v_bin (v_lst (w_cons rfl (v_con (t := .str s0) rfl) w_nil) (show 1 ≤ lim by decide)) (v_var rfl rfl rfl) (add_nil names (by omega))) rfl) ?_ q7) ?_
  · show (zipN 0 (stL (s0 :: names))).length < p.fu
    rw [C.fu, zip_len, List.length_map, List.length_cons]; omega
  refine x_cons st9 (x_cons st10 (x_cons st11 (x_cons st12 (x_cons st13 (x_cons st14 (x_rt (x_ret (τ1 := relAll (σc false false (some ⟨.tup [.str n, .str w], false⟩) (some ⟨dueT rs, false⟩))) rfl (last_ok hF hw rfl rfl))))))))
end
end MP

set_option Elab.async false
set_option linter.all false
set_option maxRecDepth 100000
set_option maxHeartbeats 0
namespace E05
open PySem L2 MP H05
abbrev lkf (c f : Str) : Option Df := (fnTab env).lookup (c, f)
theorem fns_eq : (lkf "" "scope_homes", lkf "" "is_name", lkf "" "are_names", lkf "" "is_place", lkf "" "is_kind", lkf "" "is_node", lkf "" "wrong_kind", lkf "" "wrong_name", lkf "" "wrong_home", lkf "" "wrong_nest", lkf "" "wrong_begin", lkf "" "wrong_edge", lkf "" "refuse", lkf "" "check_nodes", lkf "Flow" "__init__", lkf "" "_law_name", lkf "" "_law_depth", lkf "" "_law_due", lkf "" "law", lkf "" "_law_draw", lkf "" "_law_pool") = ((some d_scope_homes, some d_is_name, some d_are_names, some d_is_place, some d_is_kind, some d_is_node, some d_wrong_kind, some d_wrong_name, some d_wrong_home, some d_wrong_nest, some d_wrong_begin, some d_wrong_edge, some d_refuse, some d_check_nodes, some d_Flow___init__, some d__law_name, some d__law_depth, some d__law_due, some d_law, some d_draw, some d_pool) : Option Df × Option Df × Option Df × Option Df × Option Df × Option Df × Option Df × Option Df × Option Df × Option Df × Option Df × Option Df × Option Df × Option Df × Option Df × Option Df × Option Df × Option Df × Option Df × Option Df × Option Df) := by kernel_rfl
end E05

set_option Elab.async false
set_option linter.all false
set_option maxRecDepth 100000
/-! MP: from the evaluator's answer to a law that stands. -/
namespace MP
open PySem PySem.Spec PyProof.Rows L2
/-- the end of a law whose errors are thrown in a world -/
theorem walk_mp {lw : PySem.W.OpenLaw} {m j : Nat} {q : Program} {ls : List Str} {XP : (Str → Option Value) → Heap → Prop} {YP : World → Heap → Prop} {dr : DefRec} {x : Str}
    (hm : lw.most = some m) (hz : m ≤ sizeLine) (hdf : dr.params.defaults = []) (hr : Room j callerA)
    (give : ∀ (w : World) (mg : Str → Option Value) (f : Addr) (h : Heap), YP w h → h.Ns mainGlobals mg → mg dr.name = some (.ref f) →
      ∃ (K : PySem.W.Frag) (fd : FuncData) (sp : Sp), K.In h ∧ (∀ (s : Shared) (u : Value), BindsTo s fd ⟨[u], []⟩ [(x, u)]) ∧
        (∀ (H : Hp) (a : Addr) (ns : List Int), ns.length ≤ m → Only H → SqL K H a (ns.map V.int) → sp [.ref a] H (fun v _ => v = .bl true) fun _ _ _ => False) ∧
        ∀ base : Heap, K.In base → base.Ns mainGlobals mg → FnOk lw.prog w K mg base (L2.CX lw.prog w) j f fd [x] sp) :
    PySem.W.WalkO q ls XP YP lw.row.toRowW dr [] (fun f vs => PySem.call f vs) := by
  refine Att.attach_call hm hdf fun w sa sb mg mb f o pm cd doc a us ns G Y ho hd hcd hmg hobj hints hlen hg => ?_
  obtain ⟨K, fd, sp, KX, hb, hsp, hF⟩ := give w mg f _ Y G.T.g hmg
  refine law_call KX G.T.g G.T.b G.T.builtins G.T.nolimit hg hobj hints (Nat.le_trans hlen hz) hr hF hb (fun H hO hS => hsp H a ns hlen hO hS) fun H e s' z => ?_
  obtain ⟨_, _, _, _, _, _, _, _, _, _, _, _, q⟩ := z
  exact q
theorem binds_at {K : PySem.W.Frag} {x qual : Str} {params : Arguments} {body : List Stmt} {scope : Scope} {kws : List (Str × L2.V)} {f : Addr} {fd : FuncData} {ps : List Str} (F : FunD K x qual params body scope [] kws f fd) (h : plainPs params = some ps) (nd : ps.Nodup) (s : Shared) (us : List Value) (hl : us.length = ps.length) : BindsTo s fd ⟨us, []⟩ (ps.zip us) := by
  obtain ⟨as, rfl, rfl⟩ := plainPs_some h
  exact F.bindsA (fun kV doc pm an cdv ct us hl => bind_plain nd hl) s us hl
/-- the law's def in the heap: what the evaluator says holds there -/
theorem fin_of {env : List (Str × Bd)} {o : Op} {prog : Program} {K : PySem.W.Frag} {w : World} {h : Heap} {mg : Str → Option Value} {fu d mx : Nat} {st : Stmt} {f : Addr} (X : K.In h) (G : h.Ns mainGlobals mg) (c : He.SaysT (faOf env o) (defsOf env) (tabs env 0 (stat0 env []).2) w K) (hmore : moreB env o K = true) (he : envB env = true) (hmg : mg ("law" : Str) = some (.ref f)) (hq : (("law" : Str), Bd.fn st) ∈ env) {x : Str} (hp : plainPs (defArgs st) = some [x]) {df : Df} (hfn : (fnTab env).lookup (("" : Str), ("law" : Str)) = some df) (hdf : dfOf (ctOf env) st = some df)
    (hrun : ∀ ns : List Int, ns.length ≤ mx → ∃ h', (progK env o (ns.map W.int) fu).cl (d + 1) ("", "law") [.st 0] ⟨0, .nil⟩ = .ok (.bl true) h') :
    ∃ (fd : FuncData) (sp : Sp), (∀ (s : Shared) (u : Value), BindsTo s fd ⟨[u], []⟩ [(x, u)]) ∧
        (∀ (H : Hp) (a : Addr) (ns : List Int), ns.length ≤ mx → Only H → SqL K H a (ns.map V.int) → sp [.ref a] H (fun v _ => v = .bl true) fun _ _ _ => False) ∧
        ∀ base : Heap, K.In base → base.Ns mainGlobals mg → FnOk prog w K mg base (L2.CX prog w) (2 * d + 4) f fd [x] sp := by
  have hpl : plainD st = true := by unfold plainD; rw [hp]; rfl
  have hd : defD "law" st ∈ defsOf env := List.mem_flatMap.mpr ⟨_, hq, by simp only [hpl, if_true]; exact List.mem_singleton_self _⟩
  obtain ⟨fd, F⟩ := def_mem c hd
  have g := He.glo_ok X G (fa_env (q := ("law", Bd.fn st)) c hq (f := .glo "law") (by unfold clsFa; simp only [hpl, if_true]; exact List.mem_singleton_self _))
  have e := hmg.symm.trans g
  cases e
  have bd := binds_at F hp (List.nodup_cons.mpr ⟨List.not_mem_nil, List.nodup_nil⟩)
  refine ⟨fd, fun vs H Q E => ∃ i : Addr × List Int, spF ((progK env o (i.2.map W.int) fu).pg ((progK env o (i.2.map W.int) fu).cl (d + 1))) (lnK env K (progK env o (i.2.map W.int) fu).so i.1) K w ("", "law") vs H Q E, fun s v => bd s [v] rfl, fun H a ns hl hO hS => ?_, fun base _ _ => fn_ex fun i => ?_⟩
  · obtain ⟨h', er⟩ := hrun ns hl
    refine ⟨(a, ns), fun _ => none, [], [.st 0], ⟨0, .nil⟩, ⟨rfl, List.nodup_nil, fun n hn => absurd hn (Nat.not_lt_zero n), fun i ob ei => ?_⟩, ?_, ?_⟩
    · by_cases hi : i = 0
      · subst hi
        have ei : some (O.rol (ns.map W.int)) = some ob := ei
        cases ei
        exact srl_script hO hS
      · exact st_of (fu := fu) (script := ns.map W.int) c hmore hi ei H
    · exact .cons rfl .nil
    · have p : ∀ (r : Rs W) E Q, r = .ok (.bl true) h' → (∀ H', Q (V.bl true) H') → pv (lnK env K (progK env o (ns.map W.int) fu).so a) K w [] r E Q := fun r E Q e q => by
        subst e
        exact fun ρ' H' b _ _ hb => by
          have hb : b = V.bl true := hb
          rw [hb]
          exact q H'
      exact p _ _ _ er fun _ => rfl
  · exact (pf_of X G c hmore he).call (fnS_of F hp (env_fn he hq rfl) (.inr ⟨df, hfn, hdf⟩)) d
end MP

set_option Elab.async false
set_option linter.all false
set_option maxRecDepth 100000
set_option maxHeartbeats 0
namespace E05
open PySem L2 MP H05
abbrev gl (x : Str) : Option W := (stat0 env []).1.lookup x
abbrev so (i : Nat) : Option O := ((stat0 env []).2[i]?).map (·.2)
def kinds : List (Key × W) := [(.inr "begin", .st 3), (.inr "end", .st 4), (.inr "task", .st 5), (.inr "deed", .st 6), (.inr "wait", .st 7), (.inr "choice", .st 8), (.inr "some", .st 9), (.inr "fork", .st 10), (.inr "merge", .st 11), (.inr "join", .st 12), (.inr "meet", .st 13), (.inr "scope", .st 14), (.inr "stop", .st 15), (.inr "alarm", .st 16), (.inr "cancel", .st 17)]
theorem sts_eq : (gl "LETTERS", gl "KINDS", gl "GUARDS_names", gl "DEPTH", so 18, so 3, so 14, so 19, exfC env "InvalidFlow", isCOf env "InvalidFlow" "InvalidFlow") = ((some (.str LET), some (.st 18), some (.st 19), some (.int 4), some (.dic kinds), some (.tup [.int 0, .int 0, .int 1, .int 1]), some (.tup [.int 1, .int 1, .int 1, .int 1]), some (.tup [.str "stop", .str "alarm"]), some [Str.ofString "name", Str.ofString "why"], some true) : Option W × Option W × Option W × Option W × Option O × Option O × Option O × Option O × Option (List Str) × Option Bool) := by kernel_rfl
abbrev p05 (ns : List Int) : Prog := progK env op (ns.map W.int) 2000
theorem cx (ns : List Int) : CxL (p05 ns) := by
  have h := fns_eq
  have g := sts_eq
  simp only [Prod.mk.injEq] at h g
  obtain ⟨f1, f2, f3, f4, f5, f6, f7, f8, f9, f10, f11, f12, f13, f14, f15, f16, f17, f18, _⟩ := h
  obtain ⟨g1, g2, g3, g4, g5, g6, g7, g8, g9, g10⟩ := g
  refine { f_scope_homes := f1, f_is_name := f2, f_are_names := f3, f_is_place := f4, f_is_kind := f5, f_is_node := f6, f_wrong_kind := f7, f_wrong_name := f8, f_wrong_home := f9, f_wrong_nest := f10, f_wrong_begin := f11, f_wrong_edge := f12, f_refuse := f13, f_check_nodes := f14, f_Flow := f15, f_name := f16, f_depth := f17, f_due := f18, g_let := g1, g_kin := g2, o_kin := ⟨kinds, g5, by kernel_rfl, by kernel_rfl⟩, o_beg := g6, o_scp := g7, g_grd := g3, o_grd := g8, g_dep := g4, t_str := by kernel_rfl, t_tup := by kernel_rfl, t_lst := by kernel_rfl, x_inv := ?_, c_inv := ?_, fu := rfl }
  · show (if op.ers.contains "InvalidFlow" = true then exfC env "InvalidFlow" else none) = _
    rw [if_pos (by kernel_rfl)]; exact g9
  · show (if op.ics.contains ("InvalidFlow", "InvalidFlow") = true then isCOf env "InvalidFlow" "InvalidFlow" else none) = _
    rw [if_pos (by kernel_rfl)]; exact g10
theorem intsW_map : ∀ ns : List Int, intsW (ns.map W.int) = some ns
  | [] => rfl
  | n :: ns => by
    show (intsW (ns.map W.int)).map (n :: ·) = _
    rw [intsW_map ns]; rfl
theorem runs (ns : List Int) (h : ns.length ≤ 63) : ∃ h', (p05 ns).cl (11 + 1) ("", "law") [.st 0] ⟨0, .nil⟩ = .ok (.bl true) h' := by
  have q := fns_eq
  simp only [Prod.mk.injEq] at q
  obtain ⟨_, _, _, _, _, _, _, _, _, _, _, _, _, _, _, _, _, _, f19, f20, f21⟩ := q
  obtain ⟨s', e⟩ := law_T (cx ns) f19 (ns := ns) (intsW_map ns) (by omega)
  exact law_run (p := p05 ns) (show 2000 ≤ lim by decide) (pr_ok (show 2000 ≤ lim by decide) f20 f21) e
def stLaw : Stmt := Rr.prog.main.body.getD 60 (.Pass ⟨0, 0, 0, 0⟩)
theorem law_at : env.lookup ("law" : Str) = some (Bd.fn stLaw) := by kernel_rfl
theorem law_ps : plainPs (defArgs stLaw) = some [("_law_script" : Str)] := by kernel_rfl
theorem law_df : dfOf (ctOf env) stLaw = some d_law := by kernel_rfl
theorem law_fn : (fnTab env).lookup (("" : Str), ("law" : Str)) = some d_law := by
  have q := fns_eq
  simp only [Prod.mk.injEq] at q
  exact q.2.2.2.2.2.2.2.2.2.2.2.2.2.2.2.2.2.2.1
end E05
open PySem PySem.W PySem.Calls PyProof.Rows
theorem PySem.Challenge.cw_lastarrivals_k05_nests_and_begins_holds : PySem.Challenge.rw_lastarrivals_k05_nests_and_begins.Holds := by
  w_on; o_law
  refine HandSHeadRun.head_any (r := OpenLaw.row PySem.Challenge.rw_lastarrivals_k05_nests_and_begins) (q := H05.qv) (H := H05.hk) (ob := H05.ob) (M := 4100) (loose := H05.names) (d := HandSHeadRun.topDef (OpenLaw.row PySem.Challenge.rw_lastarrivals_k05_nests_and_begins).prog 60) (kwd := []) H05.ob_eq
    (by kernel_rfl) (fun s => by kernel_rfl) H05.run (by kernel_rfl) (by kernel_rfl) (by kernel_rfl) (by rfl) (by first | assumption | decide +kernel) (by decide +kernel) ⟨rfl, rfl, rfl, rfl, rfl, by decide +kernel⟩ ?hw ?hc
  case hw => w_witness2
  case hc =>
    refine MP.walk_mp (lw := PySem.Challenge.rw_lastarrivals_k05_nests_and_begins) (m := 63) (j := 26) (x := "_law_script") rfl (by decide) (by kernel_rfl) ⟨rfl, by decide, by decide⟩ ?F
    intro w mg fa h Y G hmg0
    obtain ⟨K, KX, hmore, c⟩ := Y
    have hmg : mg ("law" : PySem.Str) = some (.ref fa) := by
      have e : (HandSHeadRun.topDef (OpenLaw.row PySem.Challenge.rw_lastarrivals_k05_nests_and_begins).prog 60).name = ("law" : PySem.Str) := by kernel_rfl
      rw [← e]
      exact hmg0
    obtain ⟨fd, sp, hb, hsp, hF⟩ := MP.fin_of (prog := (PySem.Challenge.rw_lastarrivals_k05_nests_and_begins).prog) (fu := 2000) (d := 11) (mx := 63) KX G c hmore H05.envOk hmg (MP.lk_mem E05.law_at) E05.law_ps E05.law_fn E05.law_df E05.runs
    exact ⟨K, fd, sp, KX, hb, hsp, hF⟩

